import PyProof.Rows.All
import Wide.All
import OpenK.AllK
import Wide.FinOn
import HandS.Base
import HandS.Call
import HandS.List
import HandS.Comp
import HandS.Ends
import HandS.Dict
import HandS.Iter
import HandS.Text
import HandS.Words
import HandS.WordsList
import HandS.Lambda
import HandS.Defaults
import HandS.Wide
import HandS.HeadHook1
import HandS.TupAny
import HandS.IsInst
import HandS.NoneIn
import HandS.WordsExc
import HandS.Zip
import HandS.Hot
import HandS.HotCalls
import HandS.Zip0
import KE.GoesEnumKw
import KE.GoesMore
import HandS.HeadHook2
import PyProof.NoPylong
import PyProof.P3Eq
import HandS.Exc
import HandS.ExcOwn
import HandS.ExcIs
import HandS.CallSlots
import HandS.ExcCtx
import HandS.TryMany
import KE.KTryMore
import KE.GoesEnum
import HandS.MakeKwOnly
import KE.KStateDown
import HandS.More
import HandS.Head0
import HandS.Head1
import HandS.Head2
import HandS.HeadEnd
import HandS.HeadHook4
import HandS.EndTab
import HandS.NestedK
import HandS.TupMul
import HandS.Deep
import KE.KDictZip
import KE.KUnpackStar
import HandS.Flow
import HandS.Style
import HandS.Conv
import PySem.Challenge.RW_lullworks_k32_whole_alike_for_ever_or_pa
set_option Elab.async false
set_option linter.all false
set_option maxRecDepth 100000
set_option maxHeartbeats 4000000
set_option autoImplicit false
namespace Lw
open PySem L2

abbrev Tb := List (Addr × Str)

def isTbl : HO → Bool
  | .tbl _ => true
  | _ => false
def Kp (H H' : Hp) : Prop := ∀ b o, H b = some o → isTbl o = false → H' b = some o
theorem Kp.refl (H : Hp) : Kp H H := fun _ _ h _ => h
theorem Kp.trans {H H1 H2 : Hp} (a : Kp H H1) (b : Kp H1 H2) : Kp H H2 := fun c o h n => b c o (a c o h n) n
def Fresh (H : Hp) (p : Addr) : Prop := ∀ o, H p = some o → isTbl o = true
theorem Fresh.of {H : Hp} {p : Addr} (h : H p = none) : Fresh H p := fun o e => by rw [h] at e; cases e
theorem Fresh.back {H H' : Hp} {p : Addr} (h : Fresh H' p) (e : Kp H H') : Fresh H p := fun o q => by
  cases t : isTbl o with
  | true => rfl
  | false => exact (h o (e p o q t)).symm.trans t |>.symm
theorem Kp.sql {K : PySem.W.Frag} {H H' : Hp} {a : Addr} {xs : List V} (e : Kp H H') (h : SqL K H a xs) : SqL K H' a xs := by
  rcases h with (h | ⟨o, h⟩) | h
  · exact .inl (.inl (e _ _ h rfl))
  · exact .inl (.inr ⟨o, e _ _ h rfl⟩)
  · exact .inr h
theorem Kp.sqt {K : PySem.W.Frag} {H H' : Hp} {a : Addr} {xs : List V} (e : Kp H H') (h : SqT K H a xs) : SqT K H' a xs := by
  rcases h with (h | ⟨o, h⟩) | h
  · exact .inl (.inl (e _ _ h rfl))
  · exact .inl (.inr ⟨o, e _ _ h rfl⟩)
  · exact .inr h
def kD : Key → PyData
  | .inl i => .int i
  | .inr x => .str x
def dctD (es : List (Key × PyData)) : List (PyData × PyData) := es.map fun p => (kD p.1, p.2)
mutual
inductive Dt (K : PySem.W.Frag) (H : Hp) : V → PyData → Prop
  | non : Dt K H .non .none
  | bl (b : Bool) : Dt K H (.bl b) (.bool b)
  | int (i : Int) : Dt K H (.int i) (.int i)
  | str (x : Str) : Dt K H (.str x) (.str x)
  | lst {a : Addr} {xs : List V} {ds : List PyData} : H a = some (.lst xs) → DtAll K H xs ds → Dt K H (.ref a) (.list ds)
  | tup {a : Addr} {xs : List V} {ds : List PyData} : SqT K H a xs → DtAll K H xs ds → Dt K H (.ref a) (.tuple ds)
  | dct {a : Addr} {kvs : List (Key × V)} {es : List (Key × PyData)} : H a = some (.dK kvs) → kvs.map (·.1) = es.map (·.1) → DtAll K H (kvs.map (·.2)) (es.map (·.2)) → Dt K H (.ref a) (.dict (dctD es))
inductive DtAll (K : PySem.W.Frag) (H : Hp) : List V → List PyData → Prop
  | nil : DtAll K H [] []
  | cons {v : V} {vs : List V} {d : PyData} {ds : List PyData} : Dt K H v d → DtAll K H vs ds → DtAll K H (v :: vs) (d :: ds)
end
section
variable {K : PySem.W.Frag} {H : Hp}
mutual
theorem dt_dp : ∀ (d : PyData) (v : V), d.canLay0 = true → Dt K H v d → Dp K H v d
  | .none, v, _, h => by cases h; exact .non
  | .bool b, v, _, h => by cases h; exact .bl b
  | .int i, v, _, h => by cases h; exact .int i
  | .str x, v, _, h => by cases h; exact .str x
  | .list ds, v, c, h => by
    cases h with
    | lst hs ha => exact .lst (SqL.of hs) (dt_dpAll ds _ c ha)
  | .tuple ds, v, c, h => by
    cases h with
    | tup hs ha => exact .tup hs (dt_dpAll ds _ c ha)
  | .dict kvs, v, c, h => by cases c
theorem dt_dpAll : ∀ (ds : List PyData) (vs : List V), PyData.canLayAll0 ds = true → DtAll K H vs ds → DpAll K H vs ds
  | [], vs, _, h => by cases h; exact .nil
  | d :: ds, vs, c, h => by
    have c : (d.canLay0 && PyData.canLayAll0 ds) = true := c
    rw [Bool.and_eq_true] at c
    cases h with
    | cons h1 h2 => exact .cons (dt_dp d _ c.1 h1) (dt_dpAll ds _ c.2 h2)
end
end
section
variable {K : PySem.W.Frag} {H H' : Hp}
theorem dp_kp (e : Kp H H') (d : PyData) (v : V) (h : Dt K H v d) : Dt K H' v d :=
  Dt.rec (motive_1 := fun v d _ => Dt K H' v d) (motive_2 := fun vs ds _ => DtAll K H' vs ds) .non .bl .int .str (fun hs _ ih => .lst (e _ _ hs rfl) ih) (fun hs _ ih => .tup (e.sqt hs) ih) (fun hs hk _ ih => .dct (e _ _ hs rfl) hk ih) .nil (fun _ _ i1 i2 => .cons i1 i2) h
theorem dpAll_kp (e : Kp H H') (ds : List PyData) (vs : List V) (h : DtAll K H vs ds) : DtAll K H' vs ds :=
  DtAll.rec (motive_1 := fun v d _ => Dt K H' v d) (motive_2 := fun vs ds _ => DtAll K H' vs ds) .non .bl .int .str (fun hs _ ih => .lst (e _ _ hs rfl) ih) (fun hs _ ih => .tup (e.sqt hs) ih) (fun hs hk _ ih => .dct (e _ _ hs rfl) hk ih) .nil (fun _ _ i1 i2 => .cons i1 i2) h
end
theorem Dt.kp {K : PySem.W.Frag} {H H' : Hp} {v : V} {d : PyData} (h : Dt K H v d) (e : Kp H H') : Dt K H' v d := dp_kp e d v h
theorem DtAll.kp {K : PySem.W.Frag} {H H' : Hp} {vs : List V} {ds : List PyData} (h : DtAll K H vs ds) (e : Kp H H') : DtAll K H' vs ds := dpAll_kp e ds vs h
section
variable {K : PySem.W.Frag} {H : Hp}
theorem DtAll.len : ∀ {vs : List V} {ds : List PyData}, DtAll K H vs ds → vs.length = ds.length := by
  intro vs
  induction vs with
  | nil => intro ds h; cases h; rfl
  | cons v vs ih => intro ds h; cases h with | cons h1 h2 => rw [List.length_cons, List.length_cons, ih h2]
theorem DtAll.get : ∀ {vs : List V} {ds : List PyData} {i : Nat} {d : PyData}, DtAll K H vs ds → ds[i]? = some d → ∃ v, vs[i]? = some v ∧ Dt K H v d := by
  intro vs
  induction vs with
  | nil => intro ds i d h e; cases h; simp at e
  | cons v vs ih =>
    intro ds i d h e
    cases h with
    | cons h1 h2 =>
      cases i with
      | zero => exact ⟨v, rfl, by cases e; exact h1⟩
      | succ i => exact ih h2 e
theorem DtAll.app : ∀ {vs ws : List V} {ds es : List PyData}, DtAll K H vs ds → DtAll K H ws es → DtAll K H (vs ++ ws) (ds ++ es) := by
  intro vs
  induction vs with
  | nil => intro ws ds es h1 h2; cases h1; exact h2
  | cons v vs ih => intro ws ds es h1 h2; cases h1 with | cons a b => exact .cons a (ih b h2)
theorem DtAll.take : ∀ {vs : List V} {ds : List PyData} (n : Nat), DtAll K H vs ds → DtAll K H (vs.take n) (ds.take n) := by
  intro vs
  induction vs with
  | nil => intro ds n h; cases h; simp; exact .nil
  | cons v vs ih =>
    intro ds n h
    cases h with
    | cons a b =>
      cases n with
      | zero => exact .nil
      | succ n => exact .cons a (ih n b)
theorem DtAll.drop : ∀ {vs : List V} {ds : List PyData} (n : Nat), DtAll K H vs ds → DtAll K H (vs.drop n) (ds.drop n) := by
  intro vs
  induction vs with
  | nil => intro ds n h; cases h; simp; exact .nil
  | cons v vs ih =>
    intro ds n h
    cases h with
    | cons a b =>
      cases n with
      | zero => exact .cons a b
      | succ n => exact ih n b
theorem DtAll.set : ∀ {vs : List V} {ds : List PyData} {v : V} {d : PyData} (n : Nat), DtAll K H vs ds → Dt K H v d → DtAll K H (vs.set n v) (ds.set n d) := by
  intro vs
  induction vs with
  | nil => intro ds v d n h1 h2; cases h1; simp; exact .nil
  | cons v vs ih =>
    intro ds w d n h h2
    cases h with
    | cons a b =>
      cases n with
      | zero => exact .cons h2 b
      | succ n => exact .cons a (ih n b h2)
theorem DtAll.cut {vs : List V} {ds : List PyData} (h : DtAll K H vs ds) (lo hi : Option Int) : DtAll K H (cutV vs lo hi) ((ds.drop (HT.sIx ds.length 0 lo)).take (HT.sIx ds.length ds.length hi - HT.sIx ds.length 0 lo)) := by
  unfold cutV
  rw [h.len]
  exact (h.drop _).take _
theorem DtAll.ints : ∀ {ns : List Int}, DtAll K H (ns.map V.int) (ns.map PyData.int) := by
  intro ns
  induction ns with
  | nil => exact .nil
  | cons n ns ih => exact .cons (.int n) ih
theorem DtAll.bls_inv : ∀ {ns : List Bool} {vs : List V}, DtAll K H vs (ns.map PyData.bool) → vs = ns.map V.bl := by
  intro ns
  induction ns with
  | nil => intro vs h; cases h; rfl
  | cons n ns ih => intro vs h; cases h with | cons a b => cases a; rw [ih b]; rfl
end

structure Ext (T : Tb) (H H' : Hp) : Prop where
  kp : Kp H H'
  tb : LamX.Tabs T H → LamX.Tabs T H'
theorem Ext.refl (T : Tb) (H : Hp) : Ext T H H := ⟨.refl H, id⟩
theorem Ext.trans {T : Tb} {H H1 H2 : Hp} (a : Ext T H H1) (b : Ext T H1 H2) : Ext T H H2 := ⟨a.kp.trans b.kp, fun h => b.tb (a.tb h)⟩
theorem Ext.full {T : Tb} {H H' : Hp} (e : ∀ b o, H b = some o → H' b = some o) : Ext T H H' := ⟨fun b o h _ => e b o h, fun t => t.ext e⟩
theorem Ext.new {T : Tb} {H : Hp} {p : Addr} {o : HO} (h : H p = none) : Ext T H (upd H p o) := Ext.full fun b u e => by
  rw [upd_ne (ne_of_none e h)]
  exact e
def mutO : HO → Bool
  | .lst _ => true
  | .dK _ => true
  | .ins _ _ _ => true
  | _ => false
theorem mutO.nt {o : HO} (h : mutO o = true) : isTbl o = false := by cases o <;> first | rfl | cases h
theorem tabs_mut {T : Tb} {H : Hp} {p : Addr} {o o' : HO} (h : H p = some o) (hm : mutO o = true) (t : LamX.Tabs T H) : LamX.Tabs T (upd H p o') := by
  intro q hq
  obtain ⟨ps, h1, h2, h3⟩ := t q hq
  refine ⟨ps, ?_, h2, fun pos cv hc => ?_⟩
  · rw [upd_ne (fun z => by rw [z, h] at h1; cases h1; cases hm)]
    exact h1
  · obtain ⟨c, e, hc'⟩ := h3 pos cv hc
    refine ⟨c, e, ?_⟩
    rw [upd_ne (fun z => by rw [z, h] at hc'; cases hc'; cases hm)]
    exact hc'
theorem tabs_lst {T : Tb} {H : Hp} {p : Addr} {xs ys : List V} (h : H p = some (.lst xs)) (t : LamX.Tabs T H) : LamX.Tabs T (upd H p (.lst ys)) := tabs_mut h rfl t

def hide (H : Hp) (S : List Addr) : Hp := fun a => if a ∈ S then none else match H a with
  | some o => if isTbl o then none else some o
  | none => none
theorem hide_some {H : Hp} {S : List Addr} {a : Addr} {o : HO} : hide H S a = some o ↔ a ∉ S ∧ H a = some o ∧ isTbl o = false := by
  unfold hide
  by_cases h : a ∈ S
  · simp [h]
  · cases e : H a with
    | none => simp [h]
    | some u =>
      cases t : isTbl u with
      | true =>
        simp only [h, if_false]
        constructor
        · intro z; simp [t] at z
        · intro z
          obtain ⟨_, z1, z2⟩ := z
          cases z1
          rw [t] at z2; cases z2
      | false =>
        simp only [h, if_false]
        constructor
        · intro z
          simp [t] at z
          subst z
          exact ⟨fun z => z, rfl, t⟩
        · intro z
          obtain ⟨_, z1, z2⟩ := z
          cases z1
          simp [t]
theorem hide_kp (H : Hp) (S : List Addr) : Kp (hide H S) H := fun b o h _ => (hide_some.mp h).2.1
theorem Kp.hide {H H' : Hp} (e : Kp H H') (S : List Addr) : Kp (hide H S) (hide H' S) := fun b o h n => by
  obtain ⟨h1, h2, h3⟩ := hide_some.mp h
  exact hide_some.mpr ⟨h1, e b o h2 h3, h3⟩
theorem hide_sub {H : Hp} {S S' : List Addr} (h : ∀ a, a ∈ S' → a ∈ S) : Kp (hide H S) (hide H S') := fun b o e n => by
  obtain ⟨h1, h2, h3⟩ := hide_some.mp e
  exact hide_some.mpr ⟨fun z => h1 (h b z), h2, h3⟩
theorem hide_mem {H : Hp} {S : List Addr} {p : Addr} (h : p ∈ S) : hide H S p = none := by
  unfold hide; simp [h]
theorem hide_upd {H : Hp} {S : List Addr} {p : Addr} {o : HO} (h : p ∈ S) : hide (upd H p o) S = hide H S := by
  funext a
  unfold hide
  by_cases e : a ∈ S
  · simp [e]
  · have ne : a ≠ p := fun z => e (z ▸ h)
    simp only [e, if_false]
    rw [upd_ne ne]
theorem hide_none {H : Hp} {S : List Addr} {p : Addr} (h : Fresh H p) : hide H S p = none := by
  cases e : hide H S p with
  | none => rfl
  | some o =>
    obtain ⟨_, h2, h3⟩ := hide_some.mp e
    rw [h o h2] at h3; cases h3
theorem hide_new {H : Hp} {S : List Addr} {p : Addr} {o : HO} (h : Fresh H p) : hide (upd H p o) (p :: S) = hide H S := by
  funext a
  by_cases e : a = p
  · subst e
    rw [hide_none h]
    exact hide_mem (List.mem_cons_self ..)
  · unfold hide
    rw [upd_ne e]
    simp [e]
def Lsts (H : Hp) (S : List Addr) : Prop := ∀ q ∈ S, ∃ o, H q = some o ∧ mutO o = true
theorem Lsts.kp {H H' : Hp} {S : List Addr} (l : Lsts H S) (e : Kp H H') : Lsts H' S := fun q hq => let ⟨o, h, m⟩ := l q hq; ⟨o, e q _ h (mutO.nt m), m⟩
theorem Lsts.not {H : Hp} {S : List Addr} {p : Addr} (l : Lsts H S) (h : Fresh H p) : p ∉ S := fun hp => by
  obtain ⟨o, e, m⟩ := l p hp
  exact Bool.false_ne_true ((mutO.nt m).symm.trans (h _ e))
theorem hide_at {H : Hp} {S : List Addr} {p : Addr} {o : HO} (l : Lsts H S) (h : Fresh H p) (n : isTbl o = false) : hide (upd H p o) S p = some o :=
  hide_some.mpr ⟨l.not h, upd_same, n⟩

inductive Ob where
  | lst (ds : List PyData)
  | dct (es : List (Key × PyData))
inductive ObD (K : PySem.W.Frag) (H : Hp) : HO → Ob → Prop
  | lst {xs : List V} {ds : List PyData} : DtAll K H xs ds → ObD K H (.lst xs) (.lst ds)
  | dct {kvs : List (Key × V)} {es : List (Key × PyData)} : kvs.map (·.1) = es.map (·.1) → DtAll K H (kvs.map (·.2)) (es.map (·.2)) → ObD K H (.dK kvs) (.dct es)
theorem ObD.kp {K : PySem.W.Frag} {H H' : Hp} {u : HO} {o : Ob} (h : ObD K H u o) (e : Kp H H') : ObD K H' u o := by
  cases h with
  | lst h => exact .lst (h.kp e)
  | dct h1 h2 => exact .dct h1 (h2.kp e)
def obV : Ob → PyData
  | .lst ds => .list ds
  | .dct es => .dict (dctD es)
theorem ObD.dt {K : PySem.W.Frag} {H : Hp} {u : HO} {o : Ob} {p : Addr} (h1 : H p = some u) (h : ObD K H u o) : Dt K H (.ref p) (obV o) := by
  cases h with
  | lst h => exact .lst h1 h
  | dct h2 h3 => exact .dct h1 h2 h3
theorem ObD.mut {K : PySem.W.Frag} {H : Hp} {u : HO} {o : Ob} (h : ObD K H u o) : mutO u = true := by cases h <;> rfl
theorem ObD.nt {K : PySem.W.Frag} {H : Hp} {u : HO} {o : Ob} (h : ObD K H u o) : isTbl u = false := mutO.nt h.mut
def LsT (T : Tb) (H : Hp) (S : List Addr) : Prop := Lsts H S ∧ LamX.Tabs T H
theorem LsT.not {T : Tb} {H : Hp} {S : List Addr} {p : Addr} (l : LsT T H S) (h : Fresh H p) : p ∉ S := l.1.not h
inductive Fd where
  | dat (d : PyData)
  | own (o : Ob)
def clNm : Nat → Str
  | 0 => "Board"
  | 1 => "Span"
  | 2 => "Works"
  | _ => "Desk"
def clFs : Nat → List Str
  | 0 => ["scale", "wide", "lines", "basis"]
  | 1 => ["leads"]
  | 2 => ["now", "past", "later", "working"]
  | _ => ["own"]
structure Oj where
  tg : Nat
  ad : Option Addr
  fs : List Fd
inductive Slot where
  | no
  | dat (d : PyData)
  | own (o : Ob)
  | scr (ds : List PyData)
  | raw (v : V)
  | rob (o : Oj)
  | obj (o : Oj)
def Slot.ol : Slot → Bool
  | .rob _ => true
  | .obj _ => true
  | _ => false
inductive FdR (K : PySem.W.Frag) (H0 B : Hp) : List V → List Fd → Prop
  | nil : FdR K H0 B [] []
  | dat {v : V} {d : PyData} {vs : List V} {fs : List Fd} : Dt K B v d → FdR K H0 B vs fs → FdR K H0 B (v :: vs) (.dat d :: fs)
  | own {q : Addr} {u : HO} {o : Ob} {vs : List V} {fs : List Fd} : H0 q = some u → ObD K B u o → FdR K H0 B vs fs → FdR K H0 B (.ref q :: vs) (.own o :: fs)
inductive FdO (K : PySem.W.Frag) (H0 H : Hp) (S : List Addr) : List V → List Fd → Prop
  | nil : FdO K H0 H S [] []
  | dat {v : V} {d : PyData} {vs : List V} {fs : List Fd} : Dt K (hide H S) v d → FdO K H0 H S vs fs → FdO K H0 H S (v :: vs) (.dat d :: fs)
  | own {q : Addr} {u : HO} {o : Ob} {vs : List V} {fs : List Fd} : q ∈ S → Fresh H0 q → H q = some u → ObD K (hide H S) u o → FdO K H0 H S vs fs → FdO K H0 H S (.ref q :: vs) (.own o :: fs)
def ownRefs : List V → List Fd → List Addr
  | .ref q :: vs, .own _ :: fs => q :: ownRefs vs fs
  | _ :: vs, _ :: fs => ownRefs vs fs
  | _, _ => []
theorem FdO.step {K : PySem.W.Frag} {H0 H H' : Hp} {S S' : List Addr} {vs : List V} {fs : List Fd} (h : FdO K H0 H S vs fs) (hk : Kp (hide H S) (hide H' S'))
    (hq : ∀ q ∈ ownRefs vs fs, (q ∈ S → q ∈ S') ∧ ∀ u, H q = some u → H' q = some u) : FdO K H0 H' S' vs fs := by
  induction h with
  | nil => exact .nil
  | dat d _ ih =>
    refine .dat (d.kp hk) (ih fun q m => hq q ?_)
    cases ‹V› <;> exact m
  | own a b c d _ ih => exact .own ((hq _ (List.mem_cons_self ..)).1 a) b ((hq _ (List.mem_cons_self ..)).2 _ c) (d.kp hk) (ih fun q m => hq q (List.mem_cons_of_mem _ m))
def Keeps (σ : St) (ρ : List Slot) (σ' : St) (ρ' : List Slot) : Prop := ∀ (i : Nat) (s : Slot), s.ol = true → ρ'[i]? = some s → ρ[i]? = some s ∧ σ'[i]? = σ[i]?
theorem Keeps.refl (σ : St) (ρ : List Slot) : Keeps σ ρ σ ρ := fun _ _ _ h => ⟨h, rfl⟩
theorem Keeps.set {σ : St} {ρ : List Slot} {i : Nat} {v : Option V} {s : Slot} (h : s.ol = false) : Keeps σ ρ (σ.set i v) (ρ.set i s) := fun j t ht e => by
  by_cases z : i = j
  · subst z
    have hl : i < ρ.length := by
      have := (List.getElem?_eq_some_iff.mp e).1
      rwa [List.length_set] at this
    rw [List.getElem?_set_self hl] at e
    cases e
    rw [h] at ht; cases ht
  · rw [List.getElem?_set_ne z] at e
    exact ⟨e, List.getElem?_set_ne z⟩
theorem Keeps.setR {σ : St} {ρ : List Slot} {i : Nat} {s : Slot} (h : s.ol = false) : Keeps σ ρ σ (ρ.set i s) := fun j t ht e => by
  by_cases z : i = j
  · subst z
    have hl : i < ρ.length := by
      have := (List.getElem?_eq_some_iff.mp e).1
      rwa [List.length_set] at this
    rw [List.getElem?_set_self hl] at e
    cases e
    rw [h] at ht; cases ht
  · rw [List.getElem?_set_ne z] at e
    exact ⟨e, rfl⟩
def Robs (K : PySem.W.Frag) (H0 : Hp) (C : List Addr) (σ : St) (ρ : List Slot) : Prop := ∀ (i : Nat) (o : Oj), ρ[i]? = some (.rob o) → ∃ p dx fvs, σ[i]? = some (some (.ref p)) ∧ H0 p = some (.ins (He.ga K (clNm o.tg)) dx ((clFs o.tg).zip fvs)) ∧ FdR K H0 (hide H0 C) fvs o.fs
theorem Robs.step {K : PySem.W.Frag} {H0 : Hp} {C : List Addr} {σ σ' : St} {ρ ρ' : List Slot} (r : Robs K H0 C σ ρ) (k : Keeps σ ρ σ' ρ') : Robs K H0 C σ' ρ' := fun i o h => by
  obtain ⟨h1, h2⟩ := k i _ rfl h
  obtain ⟨p, dx, fvs, a, b, c⟩ := r i o h1
  exact ⟨p, dx, fvs, h2.trans a, b, c⟩
def ObAt (K : PySem.W.Frag) (H0 H : Hp) (S : List Addr) (p : Addr) (o : Oj) : Prop := ∃ dx fvs, H p = some (.ins (He.ga K (clNm o.tg)) dx ((clFs o.tg).zip fvs)) ∧ p ∈ S ∧ Fresh H0 p ∧ FdO K H0 H S fvs o.fs ∧ (p :: ownRefs fvs o.fs).Nodup ∧ o.fs.length ≤ (clFs o.tg).length
theorem FdO.len {K : PySem.W.Frag} {H0 H : Hp} {S : List Addr} {vs : List V} {fs : List Fd} (h : FdO K H0 H S vs fs) : vs.length = fs.length := by
  induction h with
  | nil => rfl
  | dat _ _ ih => exact congrArg (· + 1) ih
  | own _ _ _ _ _ ih => exact congrArg (· + 1) ih
theorem zip_inj {α : Type} : ∀ {ns : List Str} {vs ws : List α}, vs.length ≤ ns.length → ws.length ≤ ns.length → ns.zip vs = ns.zip ws → vs = ws
  | [], [], [], _, _, _ => rfl
  | [], _ :: _, _, h, _, _ => by simp at h
  | [], _, _ :: _, _, h, _ => by simp at h
  | _ :: _, [], [], _, _, _ => rfl
  | _ :: _, [], _ :: _, _, _, h => by simp at h
  | _ :: _, _ :: _, [], _, _, h => by simp at h
  | _ :: ns, v :: vs, w :: ws, h1, h2, h => by
    simp only [List.zip_cons_cons, List.cons.injEq, Prod.mk.injEq, true_and] at h
    rw [h.1, zip_inj (Nat.le_of_succ_le_succ h1) (Nat.le_of_succ_le_succ h2) h.2]
def Foot (H : Hp) (σ : St) (ρ : List Slot) (i : Nat) (q : Addr) : Prop := ∃ (o : Oj) (p C dx : Addr) (fvs : List V), ρ[i]? = some (.obj o) ∧ σ[i]? = some (some (.ref p)) ∧ H p = some (.ins C dx ((clFs o.tg).zip fvs)) ∧ fvs.length = o.fs.length ∧ o.fs.length ≤ (clFs o.tg).length ∧ q ∈ p :: ownRefs fvs o.fs
structure Obs (K : PySem.W.Frag) (H0 H : Hp) (S : List Addr) (σ : St) (ρ : List Slot) : Prop where
  ob : ∀ (i : Nat) (o : Oj), ρ[i]? = some (.obj o) → ∃ p, σ[i]? = some (some (.ref p)) ∧ (∀ a, o.ad = some a → p = a) ∧ ObAt K H0 H S p o
  dj : ∀ (i j : Nat) (q : Addr), Foot H σ ρ i q → Foot H σ ρ j q → i = j
  dl : ∀ (i j : Nat) (q : Addr) (o : Ob), Foot H σ ρ i q → ρ[j]? = some (.own o) → σ[j]? = some (some (.ref q)) → False
theorem FdO.refs {K : PySem.W.Frag} {H0 H : Hp} {S : List Addr} {vs : List V} {fs : List Fd} (h : FdO K H0 H S vs fs) : ∀ q ∈ ownRefs vs fs, q ∈ S ∧ Fresh H0 q ∧ ∃ u o, H q = some u ∧ ObD K (hide H S) u o := by
  induction h with
  | nil => intro q m; cases m
  | dat d _ ih => intro q m; exact ih q (by cases ‹V› <;> exact m)
  | own a b c d _ ih =>
    intro q m
    rcases List.mem_cons.mp m with z | z
    · subst z; exact ⟨a, b, _, _, c, d⟩
    · exact ih q z
theorem Obs.at_ {K : PySem.W.Frag} {H0 H : Hp} {S : List Addr} {σ : St} {ρ : List Slot} (g : Obs K H0 H S σ ρ) {i : Nat} {q : Addr} (f : Foot H σ ρ i q) : ∃ o p dx fvs, ρ[i]? = some (.obj o) ∧ σ[i]? = some (some (.ref p)) ∧ H p = some (.ins (He.ga K (clNm o.tg)) dx ((clFs o.tg).zip fvs)) ∧ p ∈ S ∧ Fresh H0 p ∧ FdO K H0 H S fvs o.fs ∧ q ∈ p :: ownRefs fvs o.fs := by
  obtain ⟨o, p, C, dx, fvs, h1, h2, h3, h5, h6, h4⟩ := f
  obtain ⟨p', a, _, dx', fvs', b, c, d, e, n, l⟩ := g.ob i o h1
  rw [h2] at a; cases a
  rw [h3] at b
  injection b with b
  injection b with b1 b2 b3
  have e3 := zip_inj (by rw [h5]; exact l) (by rw [e.len]; exact l) b3
  subst e3 b1 b2
  exact ⟨o, p, dx, fvs, h1, h2, h3, c, d, e, h4⟩
theorem Obs.foot {K : PySem.W.Frag} {H0 H : Hp} {S : List Addr} {σ : St} {ρ : List Slot} (g : Obs K H0 H S σ ρ) {i : Nat} {q : Addr} (f : Foot H σ ρ i q) : q ∈ S ∧ Fresh H0 q ∧ ∃ u, H q = some u ∧ mutO u = true := by
  obtain ⟨o, p, dx, fvs, h1, h2, h3, c, d, e, h4⟩ := g.at_ f
  rcases List.mem_cons.mp h4 with z | z
  · subst z; exact ⟨c, d, _, h3, rfl⟩
  · obtain ⟨x, y, u, w, v1, v2⟩ := e.refs q z
    exact ⟨x, y, u, v1, v2.mut⟩
theorem Obs.fnt {K : PySem.W.Frag} {H0 H : Hp} {S : List Addr} {σ : St} {ρ : List Slot} (g : Obs K H0 H S σ ρ) {i : Nat} {q : Addr} {u : HO} (f : Foot H σ ρ i q) (h : H q = some u) : isTbl u = false := by
  obtain ⟨_, _, u', h', m⟩ := g.foot f
  rw [h] at h'; cases h'; exact mutO.nt m
theorem Obs.step {K : PySem.W.Frag} {H0 H H' : Hp} {S S' : List Addr} {σ σ' : St} {ρ ρ' : List Slot} (g : Obs K H0 H S σ ρ) (k : Keeps σ ρ σ' ρ') (hk : Kp (hide H S) (hide H' S'))
    (hH : ∀ i q u, Foot H σ ρ i q → H q = some u → H' q = some u) (hS : ∀ i q, Foot H σ ρ i q → q ∈ S → q ∈ S')
    (hl : ∀ (i j : Nat) (q : Addr) (o : Ob), ρ'[j]? = some (.own o) → σ'[j]? = some (some (.ref q)) → Foot H σ ρ i q → False) : Obs K H0 H' S' σ' ρ' := by
  have back : ∀ i q, Foot H' σ' ρ' i q → Foot H σ ρ i q := fun i q f => by
    obtain ⟨o, p, C, dx, fvs, h1, h2, h3, h5, h6, h4⟩ := f
    obtain ⟨k1, k2⟩ := k i _ rfl h1
    obtain ⟨p', a, _, dx', fvs', b, c, d, e, n, l⟩ := g.ob i o k1
    rw [← k2, h2] at a; cases a
    have := hH i p _ ⟨o, p, _, dx', fvs', k1, k2.symm.trans h2, b, e.len, l, List.mem_cons_self ..⟩ b
    rw [h3] at this
    injection this with this
    injection this with b1 b2 b3
    have e3 := zip_inj (by rw [h5]; exact l) (by rw [e.len]; exact l) b3
    subst e3 b1 b2
    exact ⟨o, p, _, dx, fvs, k1, k2.symm.trans h2, b, h5, h6, h4⟩
  refine ⟨fun i o h => ?_, fun i j q a b => g.dj i j q (back i q a) (back j q b), fun i j q o a b c => hl i j q o b c (back i q a)⟩
  obtain ⟨k1, k2⟩ := k i _ rfl h
  obtain ⟨p, a, ad, dx, fvs, b, c, d, e, n, l⟩ := g.ob i o k1
  have ft : ∀ q, q ∈ p :: ownRefs fvs o.fs → Foot H σ ρ i q := fun q m => ⟨o, p, _, dx, fvs, k1, a, b, e.len, l, m⟩
  exact ⟨p, k2.trans a, ad, dx, fvs, hH i p _ (ft p (List.mem_cons_self ..)) b, hS i p (ft p (List.mem_cons_self ..)) c, d,
    e.step hk (fun q m => ⟨hS i q (ft q (List.mem_cons_of_mem _ m)), fun u hu => hH i q u (ft q (List.mem_cons_of_mem _ m)) hu⟩), n, l⟩
theorem Obs.none {K : PySem.W.Frag} {H0 H : Hp} {S : List Addr} {σ : St} {ρ : List Slot} (h : ∀ (i : Nat) (o : Oj), ρ[i]? ≠ some (.obj o)) : Obs K H0 H S σ ρ :=
  ⟨fun i o e => (h i o e).elim, fun i j q ⟨o, _, _, _, _, a, _⟩ => (h i o a).elim, fun i j q o ⟨o', _, _, _, _, a, _⟩ => (h i o' a).elim⟩
structure Gd (K : PySem.W.Frag) (T : Tb) (H0 B : Hp) (C : List Addr) (H : Hp) (S : List Addr) (σ : St) (ρ : List Slot) : Prop where
  ext : Ext T H0 H
  vis : Kp B H
  bno : ∀ b o, B b = some o → isTbl o = false
  hid : ∀ p ∈ S, B p = none
  lst : Lsts H S
  sub : ∀ c ∈ C, c ∈ S
  cl : LsT T H0 C
  len : σ.length = ρ.length
  dat : ∀ (i : Nat) (d : PyData), ρ[i]? = some (.dat d) → ∃ v, σ[i]? = some (some v) ∧ Dt K (hide H S) v d
  scr : ∀ (i : Nat) (ds : List PyData), ρ[i]? = some (.scr ds) → ∃ a xs, σ[i]? = some (some (.ref a)) ∧ SqL K (hide H S) a xs ∧ DtAll K (hide H S) xs ds
  own : ∀ (i : Nat) (o : Ob), ρ[i]? = some (.own o) → ∃ p u, σ[i]? = some (some (.ref p)) ∧ p ∈ S ∧ Fresh H0 p ∧ H p = some u ∧ ObD K (hide H S) u o
  raw : ∀ (i : Nat) (v : V), ρ[i]? = some (.raw v) → σ[i]? = some (some v)
  sep : ∀ (i j : Nat) (ds es : Ob) (p : Addr), ρ[i]? = some (.own ds) → ρ[j]? = some (.own es) → σ[i]? = some (some (.ref p)) → σ[j]? = some (some (.ref p)) → i = j
  rob : Robs K H0 C σ ρ
  hc : ∀ q ∈ S, q ∈ C ∨ Fresh H0 q
  obs : Obs K H0 H S σ ρ
def Good (K : PySem.W.Frag) (T : Tb) (H0 B : Hp) (C : List Addr) (ρ : List Slot) (σ : St) (H : Hp) : Prop := ∃ S, Gd K T H0 B C H S σ ρ
section
variable {K : PySem.W.Frag} {T : Tb} {H0 B : Hp} {C : List Addr} {H H' : Hp} {S : List Addr} {σ : St} {ρ : List Slot}
theorem Gd.ex (g : Gd K T H0 B C H S σ ρ) (e : Ext T H H') : Gd K T H0 B C H' S σ ρ where
  ext := g.ext.trans e
  vis := g.vis.trans e.kp
  bno := g.bno
  hid := g.hid
  lst := g.lst.kp e.kp
  sub := g.sub
  cl := g.cl
  len := g.len
  dat := fun i d h => let ⟨v, h1, h2⟩ := g.dat i d h; ⟨v, h1, h2.kp (e.kp.hide S)⟩
  scr := fun i ds h => let ⟨a, xs, h1, h2, h3⟩ := g.scr i ds h; ⟨a, xs, h1, (e.kp.hide S).sql h2, h3.kp (e.kp.hide S)⟩
  own := fun i ds h => let ⟨p, xs, h1, h2, h3, h4, h5⟩ := g.own i ds h; ⟨p, xs, h1, h2, h3, e.kp p _ h4 h5.nt, h5.kp (e.kp.hide S)⟩
  raw := g.raw
  sep := g.sep
  rob := g.rob
  hc := g.hc
  obs := g.obs.step (.refl σ ρ) (e.kp.hide S) (fun i q u f h => e.kp q u h (mutO.nt (by
    obtain ⟨_, _, u', h', m⟩ := g.obs.foot f
    rw [h] at h'; cases h'; exact m))) (fun _ _ _ h => h) (fun i j q o a b f => g.obs.dl i j q o f a b)
theorem Gd.lsT (g : Gd K T H0 B C H S σ ρ) (e : Ext T H H') : LsT T H' S := ⟨g.lst.kp e.kp, e.tb (g.ext.tb g.cl.2)⟩
theorem Gd.old (g : Gd K T H0 B C H S σ ρ) : Kp (hide H0 C) (hide H S) := fun b o h n => by
  obtain ⟨h1, h2, h3⟩ := hide_some.mp h
  refine hide_some.mpr ⟨fun z => ?_, g.ext.kp b o h2 h3, h3⟩
  rcases g.hc b z with w | w
  · exact h1 w
  · rw [w o h2] at h3; cases h3
theorem Gd.see (g : Gd K T H0 B C H S σ ρ) : Kp B (hide H S) := fun b o h n => hide_some.mpr ⟨fun z => (by rw [g.hid b z] at h; cases h), g.vis b o h n, n⟩
theorem Gd.set (g : Gd K T H0 B C H S σ ρ) {i : Nat} {v : V} {d : PyData} (h : Dt K (hide H S) v d) : Gd K T H0 B C H S (σ.set i (some v)) (ρ.set i (.dat d)) where
  ext := g.ext
  vis := g.vis
  bno := g.bno
  hid := g.hid
  lst := g.lst
  sub := g.sub
  cl := g.cl
  len := by rw [List.length_set, List.length_set]; exact g.len
  dat := fun j d' e => by
    by_cases z : i = j
    · subst z
      have hl : i < ρ.length := by
        have := (List.getElem?_eq_some_iff.mp e).1
        rwa [List.length_set] at this
      rw [List.getElem?_set_self hl] at e
      cases e
      exact ⟨v, List.getElem?_set_self (g.len ▸ hl), h⟩
    · rw [List.getElem?_set_ne z] at e ⊢
      exact g.dat j d' e
  scr := fun j ds e => by
    by_cases z : i = j
    · subst z
      have hl : i < ρ.length := by
        have := (List.getElem?_eq_some_iff.mp e).1
        rwa [List.length_set] at this
      rw [List.getElem?_set_self hl] at e
      cases e
    · rw [List.getElem?_set_ne z] at e ⊢
      exact g.scr j ds e
  own := fun j ds e => by
    by_cases z : i = j
    · subst z
      have hl : i < ρ.length := by
        have := (List.getElem?_eq_some_iff.mp e).1
        rwa [List.length_set] at this
      rw [List.getElem?_set_self hl] at e
      cases e
    · rw [List.getElem?_set_ne z] at e ⊢
      exact g.own j ds e
  raw := fun j ds e => by
    by_cases z : i = j
    · subst z
      have hl : i < ρ.length := by
        have := (List.getElem?_eq_some_iff.mp e).1
        rwa [List.length_set] at this
      rw [List.getElem?_set_self hl] at e
      cases e
    · rw [List.getElem?_set_ne z] at e ⊢
      exact g.raw j ds e
  sep := fun a b ds es p ha hb sa sb => by
    have za : i ≠ a := fun z => by
      subst z
      have hl : i < ρ.length := by
        have := (List.getElem?_eq_some_iff.mp ha).1
        rwa [List.length_set] at this
      rw [List.getElem?_set_self hl] at ha
      cases ha
    have zb : i ≠ b := fun z => by
      subst z
      have hl : i < ρ.length := by
        have := (List.getElem?_eq_some_iff.mp hb).1
        rwa [List.length_set] at this
      rw [List.getElem?_set_self hl] at hb
      cases hb
    rw [List.getElem?_set_ne za] at ha sa
    rw [List.getElem?_set_ne zb] at hb sb
    exact g.sep a b ds es p ha hb sa sb
  rob := g.rob.step (.set rfl)
  hc := g.hc
  obs := g.obs.step (.set rfl) (.refl _) (fun _ _ _ _ h => h) (fun _ _ _ h => h) (fun a b q o ha hb f => by
    have zb : i ≠ b := fun z => by
      subst z
      have hl : i < ρ.length := by
        have := (List.getElem?_eq_some_iff.mp ha).1
        rwa [List.length_set] at this
      rw [List.getElem?_set_self hl] at ha
      cases ha
    rw [List.getElem?_set_ne zb] at ha hb
    exact g.obs.dl a b q o f ha hb)
inductive Le : List Slot → List Slot → Prop
  | nil : Le [] []
  | no {s : Slot} {a b : List Slot} : Le a b → Le (.no :: a) (s :: b)
  | eq {s : Slot} {a b : List Slot} : Le a b → Le (s :: a) (s :: b)
theorem Le.len {a b : List Slot} (h : Le a b) : a.length = b.length := by
  induction h with
  | nil => rfl
  | no _ ih => exact congrArg (· + 1) ih
  | eq _ ih => exact congrArg (· + 1) ih
theorem Le.refl : ∀ a : List Slot, Le a a
  | [] => .nil
  | _ :: a => .eq (Le.refl a)
theorem Le.get {a b : List Slot} (h : Le a b) : ∀ {i : Nat} {s : Slot}, a[i]? = some s → s ≠ .no → b[i]? = some s := by
  induction h with
  | nil => intro i s e n; simp at e
  | no _ ih =>
    intro i s e n
    cases i with
    | zero => cases e; exact absurd rfl n
    | succ i => exact ih e n
  | eq _ ih =>
    intro i s e n
    cases i with
    | zero => exact e
    | succ i => exact ih e n
theorem Gd.weak {ρ' : List Slot} (g : Gd K T H0 B C H S σ ρ) (l : Le ρ' ρ) : Gd K T H0 B C H S σ ρ' where
  ext := g.ext
  vis := g.vis
  bno := g.bno
  hid := g.hid
  lst := g.lst
  sub := g.sub
  cl := g.cl
  len := g.len.trans l.len.symm
  dat := fun i d e => g.dat i d (l.get e (fun z => by cases z))
  scr := fun i d e => g.scr i d (l.get e (fun z => by cases z))
  own := fun i d e => g.own i d (l.get e (fun z => by cases z))
  raw := fun i d e => g.raw i d (l.get e (fun z => by cases z))
  sep := fun i j ds es p hi hj => g.sep i j ds es p (l.get hi (fun z => by cases z)) (l.get hj (fun z => by cases z))
  rob := g.rob.step (fun i s hs h => ⟨l.get h (fun z => by subst z; cases hs), rfl⟩)
  hc := g.hc
  obs := g.obs.step (fun i s hs h => ⟨l.get h (fun z => by subst z; cases hs), rfl⟩) (.refl _) (fun _ _ _ _ h => h) (fun _ _ _ h => h) (fun i j q o a b f => g.obs.dl i j q o f (l.get a (fun z => by cases z)) b)
theorem Good.weak {ρ' : List Slot} (g : Good K T H0 B C ρ σ H) (l : Le ρ' ρ) : Good K T H0 B C ρ' σ H := let ⟨S, g⟩ := g; ⟨S, g.weak l⟩
def Slot.view : Slot → Slot
  | .no => .no
  | .dat d => .dat d
  | .own (.lst ds) => .dat (.list ds)
  | .own (.dct es) => .dat (.dict (dctD es))
  | .scr ds => .scr ds
  | .raw v => .raw v
  | .rob _ => .no
  | .obj _ => .no
theorem Slot.view_ol (s : Slot) : s.view.ol = false := by
  cases s with
  | own o => cases o <;> rfl
  | _ => rfl
theorem Gd.view (g : Gd K T H0 B C H S σ ρ) : Gd K T H0 (hide H0 (List.range 0)) [] H [] σ (ρ.map Slot.view) where
  ext := g.ext
  vis := (hide_kp _ _).trans g.ext.kp
  bno := fun b o h => (hide_some.mp h).2.2
  hid := fun p hp => by cases hp
  lst := fun q hq => by cases hq
  sub := fun c hc => by cases hc
  cl := ⟨fun c hc => (by cases hc), g.cl.2⟩
  len := by rw [List.length_map]; exact g.len
  dat := fun i d e => by
    rw [List.getElem?_map] at e
    cases h : ρ[i]? with
    | none => rw [h] at e; cases e
    | some s =>
      rw [h] at e
      cases s with
      | no => cases e
      | dat d' =>
        cases e
        obtain ⟨v, h1, h2⟩ := g.dat i _ h
        exact ⟨v, h1, h2.kp (hide_sub fun a ha => by cases ha)⟩
      | own ob =>
        cases ob with
        | dct es =>
          cases e
          obtain ⟨p, xs, h1, h2, h3, h4, h5⟩ := g.own i _ h
          cases h5 with
          | dct h5 h6 => exact ⟨_, h1, (.dct (hide_some.mpr ⟨fun z => (by cases z), h4, rfl⟩) h5 (h6.kp (hide_sub fun a ha => by cases ha)))⟩
        | lst ds =>
          cases e
          obtain ⟨p, xs, h1, h2, h3, h4, h5⟩ := g.own i _ h
          cases h5 with
          | lst h5 => exact ⟨_, h1, (.lst (hide_some.mpr ⟨fun z => (by cases z), h4, rfl⟩) (h5.kp (hide_sub fun a ha => by cases ha)))⟩
      | scr ds => cases e
      | raw v => cases e
      | rob v => cases e
      | obj v => cases e
  scr := fun i ds e => by
    rw [List.getElem?_map] at e
    cases h : ρ[i]? with
    | none => rw [h] at e; cases e
    | some s =>
      rw [h] at e
      cases s with
      | no => cases e
      | dat d' => cases e
      | own ob => cases ob <;> cases e
      | scr ds =>
        cases e
        obtain ⟨a, xs, h1, h2, h3⟩ := g.scr i _ h
        exact ⟨a, xs, h1, (hide_sub fun a ha => by cases ha).sql h2, h3.kp (hide_sub fun a ha => by cases ha)⟩
      | raw v => cases e
      | rob v => cases e
      | obj v => cases e
  raw := fun i v e => by
    rw [List.getElem?_map] at e
    cases h : ρ[i]? with
    | none => rw [h] at e; cases e
    | some s =>
      rw [h] at e
      cases s with
      | raw w => cases e; exact g.raw i _ h
      | no => cases e
      | dat d => cases e
      | own d => cases d <;> cases e
      | scr d => cases e
      | rob v => cases e
      | obj v => cases e
  own := fun i ds e => by
    rw [List.getElem?_map] at e
    cases h : ρ[i]? with
    | none => rw [h] at e; cases e
    | some s =>
      rw [h] at e
      cases s with
      | own d => cases d <;> cases e
      | no => cases e
      | dat d => cases e
      | scr d => cases e
      | raw d => cases e
      | rob v => cases e
      | obj v => cases e
  sep := fun i j ds es p e => by
    rw [List.getElem?_map] at e
    cases h : ρ[i]? with
    | none => rw [h] at e; cases e
    | some s =>
      rw [h] at e
      cases s with
      | own d => cases d <;> cases e
      | no => cases e
      | dat d => cases e
      | scr d => cases e
      | raw d => cases e
      | rob v => cases e
      | obj v => cases e
  rob := fun i o e => by
    rw [List.getElem?_map] at e
    cases h : ρ[i]? with
    | none => rw [h] at e; cases e
    | some s =>
      rw [h] at e
      have := s.view_ol
      rw [Option.some.inj e] at this
      cases this
  hc := fun q hq => by cases hq
  obs := .none fun i o e => by
    rw [List.getElem?_map] at e
    cases h : ρ[i]? with
    | none => rw [h] at e; cases e
    | some s =>
      rw [h] at e
      have := s.view_ol
      rw [Option.some.inj e] at this
      cases this
end
end Lw

set_option Elab.async false
set_option linter.all false
set_option maxRecDepth 100000
set_option maxHeartbeats 4000000
set_option autoImplicit false
namespace Lw
open PySem L2
section
variable (K : PySem.W.Frag) (T : Tb)
def Ev (te : TE) (ρ : List Slot) (d : PyData) : Prop := ∀ (H0 B : Hp) (C : List Addr) (H : Hp) (S : List Addr) (σ : St), Gd K T H0 B C H S σ ρ →
  ∀ Q : VK, (∀ v H2, Ext T H H2 → Dt K (hide H2 S) v d → Q v H2) → te σ H Q
def EvF (te : TE) (ρ : List Slot) (ds : List PyData) : Prop := ∀ (H0 B : Hp) (C : List Addr) (H : Hp) (S : List Addr) (σ : St), Gd K T H0 B C H S σ ρ →
  ∀ Q : VK, (∀ p xs H2, Ext T H H2 → Fresh H p → H2 p = some (.lst xs) → DtAll K (hide H2 (p :: S)) xs ds → Q (.ref p) H2) → te σ H Q
def EvT (tt : TT) (ρ : List Slot) (b : Bool) : Prop := ∀ (H0 B : Hp) (C : List Addr) (H : Hp) (S : List Addr) (σ : St), Gd K T H0 B C H S σ ρ →
  ∀ Q : Bool → Hp → Prop, (∀ H2, Ext T H H2 → Q b H2) → tt σ H Q
def EvA (ta : TA) (ρ : List Slot) (ds : List PyData) : Prop := ∀ (H0 B : Hp) (C : List Addr) (H : Hp) (S : List Addr) (σ : St), Gd K T H0 B C H S σ ρ →
  ∀ Q : List V → Hp → Prop, (∀ vs H2, Ext T H H2 → DtAll K (hide H2 S) vs ds → Q vs H2) → ta σ H Q
def EvP (to : TO) (ρ : List Slot) (o : Option Int) : Prop := ∀ (H0 B : Hp) (C : List Addr) (H : Hp) (S : List Addr) (σ : St), Gd K T H0 B C H S σ ρ →
  ∀ Q : Option Int → Hp → Prop, (∀ H2, Ext T H H2 → Q o H2) → to σ H Q
def RV (r : R2) (x y z : PyData) : Prop := ∀ (H : Hp) (S : List Addr) (v u : V), Lsts H S → Dt K (hide H S) v x → Dt K (hide H S) u y →
  ∀ Q : VK, (∀ w H2, Ext T H H2 → Dt K (hide H2 S) w z → Q w H2) → r v u H Q
def RVF (r : R2) (x y : PyData) (zs : List PyData) : Prop := ∀ (H : Hp) (S : List Addr) (v u : V), Lsts H S → Dt K (hide H S) v x → Dt K (hide H S) u y →
  ∀ Q : VK, (∀ p xs H2, Ext T H H2 → Fresh H p → H2 p = some (.lst xs) → DtAll K (hide H2 (p :: S)) xs zs → Q (.ref p) H2) → r v u H Q
def RU (r : V → Hp → VK → Prop) (x z : PyData) : Prop := ∀ (H : Hp) (S : List Addr) (v : V), Lsts H S → Dt K (hide H S) v x →
  ∀ Q : VK, (∀ w H2, Ext T H H2 → Dt K (hide H2 S) w z → Q w H2) → r v H Q
def RC (r : List V → Hp → VK → Prop) (xs : List PyData) (z : PyData) : Prop := ∀ (H : Hp) (S : List Addr) (vs : List V), Lsts H S → DtAll K (hide H S) vs xs →
  ∀ Q : VK, (∀ w H2, Ext T H H2 → Dt K (hide H2 S) w z → Q w H2) → r vs H Q
def RCF (r : List V → Hp → VK → Prop) (xs : List PyData) (zs : List PyData) : Prop := ∀ (H : Hp) (S : List Addr) (vs : List V), Lsts H S → DtAll K (hide H S) vs xs →
  ∀ Q : VK, (∀ p ys H2, Ext T H H2 → Fresh H p → H2 p = some (.lst ys) → DtAll K (hide H2 (p :: S)) ys zs → Q (.ref p) H2) → r vs H Q
def RS (r : V → Option Int → Option Int → Hp → VK → Prop) (x : PyData) (lo hi : Option Int) (z : PyData) : Prop := ∀ (H : Hp) (S : List Addr) (v : V), Lsts H S → Dt K (hide H S) v x →
  ∀ Q : VK, (∀ w H2, Ext T H H2 → Dt K (hide H2 S) w z → Q w H2) → r v lo hi H Q
def RSF (r : V → Option Int → Option Int → Hp → VK → Prop) (x : PyData) (lo hi : Option Int) (zs : List PyData) : Prop := ∀ (H : Hp) (S : List Addr) (v : V), Lsts H S → Dt K (hide H S) v x →
  ∀ Q : VK, (∀ p ys H2, Ext T H H2 → Fresh H p → H2 p = some (.lst ys) → DtAll K (hide H2 (p :: S)) ys zs → Q (.ref p) H2) → r v lo hi H Q
end
section
variable {K : PySem.W.Frag} {T : Tb} {ρ : List Slot} {te ta tb tc : TE} {t u : TT} {x y z d : PyData} {r : R2}
theorem EvF.ev {ds : List PyData} (h : EvF K T te ρ ds) : Ev K T te ρ (.list ds) := fun H0 B C H S σ g Q hQ =>
  h H0 B C H S σ g Q fun p xs H2 e hp h2 ha => hQ _ H2 e (.lst (hide_some.mpr ⟨g.lst.not hp, h2, rfl⟩) (ha.kp (hide_sub fun a m => List.mem_cons_of_mem _ m)))
theorem RVF.rv {zs : List PyData} (h : RVF K T r x y zs) : RV K T r x y (.list zs) := fun H S v w l dv dw Q hQ =>
  h H S v w l dv dw Q fun p xs H2 e hp h2 ha => hQ _ H2 e (.lst (hide_some.mpr ⟨l.not hp, h2, rfl⟩) (ha.kp (hide_sub fun a m => List.mem_cons_of_mem _ m)))
theorem RCF.rc {r : List V → Hp → VK → Prop} {xs zs : List PyData} (h : RCF K T r xs zs) : RC K T r xs (.list zs) := fun H S v l dv Q hQ =>
  h H S v l dv Q fun p xs H2 e hp h2 ha => hQ _ H2 e (.lst (hide_some.mpr ⟨l.not hp, h2, rfl⟩) (ha.kp (hide_sub fun a m => List.mem_cons_of_mem _ m)))
theorem RSF.rs {r : V → Option Int → Option Int → Hp → VK → Prop} {lo hi : Option Int} {zs : List PyData} (h : RSF K T r x lo hi zs) : RS K T r x lo hi (.list zs) := fun H S v l dv Q hQ =>
  h H S v l dv Q fun p xs H2 e hp h2 ha => hQ _ H2 e (.lst (hide_some.mpr ⟨l.not hp, h2, rfl⟩) (ha.kp (hide_sub fun a m => List.mem_cons_of_mem _ m)))
theorem ev_var {i : Nat} (h : ρ[i]? = some (.dat d)) : Ev K T (tVar i) ρ d := fun H0 B C H S σ g Q hQ => by
  obtain ⟨v, h1, h2⟩ := g.dat i d h
  exact ⟨v, h1, hQ v H (.refl T H) h2⟩
theorem ev_int {i : Int} : Ev K T (tC (.int i)) ρ (.int i) := fun H0 B C H S σ g Q hQ => hQ _ H (.refl T H) (.int i)
theorem ev_bl {i : Bool} : Ev K T (tC (.bl i)) ρ (.bool i) := fun H0 B C H S σ g Q hQ => hQ _ H (.refl T H) (.bl i)
theorem ev_str {i : Str} : Ev K T (tC (.str i)) ρ (.str i) := fun H0 B C H S σ g Q hQ => hQ _ H (.refl T H) (.str i)
theorem ev_non : Ev K T (tC .non) ρ .none := fun H0 B C H S σ g Q hQ => hQ _ H (.refl T H) .non
theorem ev_op (ha : Ev K T ta ρ x) (hb : Ev K T tb ρ y) (hr : RV K T r x y z) : Ev K T (tOp r ta tb) ρ z := fun H0 B C H S σ g Q hQ =>
  ha H0 B C H S σ g _ fun v H1 e1 d1 => hb H0 B C H1 S σ (g.ex e1) _ fun w H2 e2 d2 =>
    hr H2 S v w ((g.lst.kp e1.kp).kp e2.kp) (d1.kp (e2.kp.hide S)) d2 Q fun a H3 e3 d3 => hQ a H3 (e1.trans (e2.trans e3)) d3
theorem ef_op {zs : List PyData} (ha : Ev K T ta ρ x) (hb : Ev K T tb ρ y) (hr : RVF K T r x y zs) : EvF K T (tOp r ta tb) ρ zs := fun H0 B C H S σ g Q hQ =>
  ha H0 B C H S σ g _ fun v H1 e1 d1 => hb H0 B C H1 S σ (g.ex e1) _ fun w H2 e2 d2 =>
    hr H2 S v w ((g.lst.kp e1.kp).kp e2.kp) (d1.kp (e2.kp.hide S)) d2 Q fun p xs H3 e3 hp h3 d3 => hQ p xs H3 (e1.trans (e2.trans e3)) ((hp.back e2.kp).back e1.kp) h3 d3
theorem ev_un {r : V → Hp → VK → Prop} (ha : Ev K T ta ρ x) (hr : RU K T r x z) : Ev K T (tUn r ta) ρ z := fun H0 B C H S σ g Q hQ =>
  ha H0 B C H S σ g _ fun v H1 e1 d1 => hr H1 S v (g.lst.kp e1.kp) d1 Q fun a H3 e3 d3 => hQ a H3 (e1.trans e3) d3
theorem et_test {b : Bool} (h : Ev K T te ρ (.bool b)) : EvT K T (tTest te) ρ b := fun H0 B C H S σ g Q hQ =>
  h H0 B C H S σ g _ fun v H1 e1 d1 => by cases d1; exact ⟨b, rfl, hQ H1 e1⟩
theorem et_B {b : Bool} (h : Ev K T te ρ (.bool b)) : EvT K T (tB te) ρ b := fun H0 B C H S σ g Q hQ =>
  h H0 B C H S σ g _ fun v H1 e1 d1 => by cases d1; exact ⟨b, rfl, hQ H1 e1⟩
theorem et_and {a b : Bool} (h1 : EvT K T t ρ a) (h2 : a = true → EvT K T u ρ b) : EvT K T (tAnd t u) ρ (a && b) := fun H0 B C H S σ g Q hQ =>
  h1 H0 B C H S σ g _ fun H1 e1 => by
    cases a with
    | true => exact iteT (h2 rfl H0 B C H1 S σ (g.ex e1) _ fun H2 e2 => hQ H2 (e1.trans e2))
    | false => exact iteF (hQ H1 e1)
theorem et_or {a b : Bool} (h1 : EvT K T t ρ a) (h2 : a = false → EvT K T u ρ b) : EvT K T (tOr t u) ρ (a || b) := fun H0 B C H S σ g Q hQ =>
  h1 H0 B C H S σ g _ fun H1 e1 => by
    cases a with
    | true => exact iteT (hQ H1 e1)
    | false => exact iteF (h2 rfl H0 B C H1 S σ (g.ex e1) _ fun H2 e2 => hQ H2 (e1.trans e2))
theorem et_not {a : Bool} (h1 : EvT K T t ρ a) : EvT K T (tNot t) ρ (!a) := fun H0 B C H S σ g Q hQ => h1 H0 B C H S σ g _ fun H1 e1 => hQ H1 e1
theorem et_yes : EvT K T tYes ρ true := fun H0 B C H S σ g Q hQ => hQ H (.refl T H)
theorem ev_andV {a b : Bool} (h1 : Ev K T ta ρ (.bool a)) (h2 : a = true → Ev K T tb ρ (.bool b)) : Ev K T (tAndV ta tb) ρ (.bool (a && b)) := fun H0 B C H S σ g Q hQ =>
  h1 H0 B C H S σ g _ fun v H1 e1 d1 => by
    cases d1
    refine ⟨a, rfl, ?_⟩
    cases a with
    | true => exact iteT (h2 rfl H0 B C H1 S σ (g.ex e1) _ fun w H2 e2 d2 => hQ w H2 (e1.trans e2) d2)
    | false => exact iteF (hQ _ H1 e1 (.bl false))
theorem ev_orV {a b : Bool} (h1 : Ev K T ta ρ (.bool a)) (h2 : a = false → Ev K T tb ρ (.bool b)) : Ev K T (tOrV ta tb) ρ (.bool (a || b)) := fun H0 B C H S σ g Q hQ =>
  h1 H0 B C H S σ g _ fun v H1 e1 d1 => by
    cases d1
    refine ⟨a, rfl, ?_⟩
    cases a with
    | true => exact iteT (hQ _ H1 e1 (.bl true))
    | false => exact iteF (h2 rfl H0 B C H1 S σ (g.ex e1) _ fun w H2 e2 d2 => hQ w H2 (e1.trans e2) d2)
theorem ev_notV {a : Bool} (h1 : Ev K T ta ρ (.bool a)) : Ev K T (tNotV ta) ρ (.bool (!a)) := fun H0 B C H S σ g Q hQ =>
  h1 H0 B C H S σ g _ fun v H1 e1 d1 => by cases d1; exact ⟨a, rfl, hQ _ H1 e1 (.bl _)⟩
theorem ev_if {b : Bool} {d1 d2 : PyData} (h : EvT K T t ρ b) (h1 : b = true → Ev K T ta ρ d1) (h2 : b = false → Ev K T tb ρ d2) : Ev K T (tIf t ta tb) ρ (if b then d1 else d2) := fun H0 B C H S σ g Q hQ =>
  h H0 B C H S σ g _ fun H1 e1 => by
    cases b with
    | true => exact iteT (h1 rfl H0 B C H1 S σ (g.ex e1) _ fun w H2 e2 q2 => hQ w H2 (e1.trans e2) q2)
    | false => exact iteF (h2 rfl H0 B C H1 S σ (g.ex e1) _ fun w H2 e2 q2 => hQ w H2 (e1.trans e2) q2)
theorem ev_ifT {d1 : PyData} (h : EvT K T t ρ true) (h1 : Ev K T ta ρ d1) : Ev K T (tIf t ta tb) ρ d1 := fun H0 B C H S σ g Q hQ =>
  h H0 B C H S σ g _ fun H1 e1 => iteT (h1 H0 B C H1 S σ (g.ex e1) _ fun w H2 e2 q2 => hQ w H2 (e1.trans e2) q2)
theorem ev_ifF {d1 : PyData} (h : EvT K T t ρ false) (h1 : Ev K T tb ρ d1) : Ev K T (tIf t ta tb) ρ d1 := fun H0 B C H S σ g Q hQ =>
  h H0 B C H S σ g _ fun H1 e1 => iteF (h1 H0 B C H1 S σ (g.ex e1) _ fun w H2 e2 q2 => hQ w H2 (e1.trans e2) q2)
theorem ea_nil : EvA K T tNil ρ [] := fun H0 B C H S σ g Q hQ => hQ _ H (.refl T H) .nil
theorem ea_cons {tr : TA} {ds : List PyData} (h : Ev K T ta ρ x) (hr : EvA K T tr ρ ds) : EvA K T (tCons ta tr) ρ (x :: ds) := fun H0 B C H S σ g Q hQ =>
  h H0 B C H S σ g _ fun v H1 e1 d1 => hr H0 B C H1 S σ (g.ex e1) _ fun vs H2 e2 d2 => hQ _ H2 (e1.trans e2) (.cons (d1.kp (e2.kp.hide S)) d2)
theorem ev_tup {ta : TA} {ds : List PyData} (h : EvA K T ta ρ ds) (hl : ds.length ≤ 1000000) : Ev K T (tTup ta) ρ (.tuple ds) := fun H0 B C H S σ g Q hQ =>
  h H0 B C H S σ g _ fun vs H1 e1 d1 => ⟨Nat.le_trans (d1.len ▸ hl) (by decide), fun p hp => hQ _ _ (e1.trans (.new hp))
    (.tup (SqT.of (hide_at (g.lst.kp e1.kp) (.of hp) rfl)) (d1.kp ((Ext.new (T := T) hp).kp.hide S)))⟩
theorem ef_lst {ta : TA} {ds : List PyData} (h : EvA K T ta ρ ds) (hl : ds.length ≤ 1000000) : EvF K T (tLst ta) ρ ds := fun H0 B C H S σ g Q hQ =>
  h H0 B C H S σ g _ fun vs H1 e1 d1 => ⟨Nat.le_trans (d1.len ▸ hl) (by decide), fun p hp => hQ p vs _ (e1.trans (.new hp)) ((Fresh.of hp).back e1.kp) upd_same (by
    rw [hide_new (.of hp)]
    exact d1)⟩
theorem ev_lst {ta : TA} {ds : List PyData} (h : EvA K T ta ρ ds) (hl : ds.length ≤ 1000000) : Ev K T (tLst ta) ρ (.list ds) := (ef_lst h hl).ev
theorem ep_none : EvP K T tNoPart ρ none := fun H0 B C H S σ g Q hQ => hQ H (.refl T H)
theorem ep_some {i : Int} (h : Ev K T te ρ (.int i)) : EvP K T (tPart te) ρ (some i) := fun H0 B C H S σ g Q hQ =>
  h H0 B C H S σ g _ fun v H1 e1 d1 => by cases d1; exact ⟨i, rfl, hQ H1 e1⟩
theorem ev_sl {r : V → Option Int → Option Int → Hp → VK → Prop} {tl th : TO} {lo hi : Option Int} (h : Ev K T te ρ x) (h1 : EvP K T tl ρ lo) (h2 : EvP K T th ρ hi) (hr : RS K T r x lo hi z) : Ev K T (tSl r te tl th) ρ z := fun H0 B C H S σ g Q hQ =>
  h H0 B C H S σ g _ fun v H1 e1 d1 => h1 H0 B C H1 S σ (g.ex e1) _ fun H2 e2 => h2 H0 B C H2 S σ ((g.ex e1).ex e2) _ fun H3 e3 =>
    hr H3 S v (((g.lst.kp e1.kp).kp e2.kp).kp e3.kp) ((d1.kp (e2.kp.hide S)).kp (e3.kp.hide S)) Q fun a H4 e4 d4 => hQ a H4 (e1.trans (e2.trans (e3.trans e4))) d4
theorem ef_sl {r : V → Option Int → Option Int → Hp → VK → Prop} {tl th : TO} {lo hi : Option Int} {zs : List PyData} (h : Ev K T te ρ x) (h1 : EvP K T tl ρ lo) (h2 : EvP K T th ρ hi) (hr : RSF K T r x lo hi zs) : EvF K T (tSl r te tl th) ρ zs := fun H0 B C H S σ g Q hQ =>
  h H0 B C H S σ g _ fun v H1 e1 d1 => h1 H0 B C H1 S σ (g.ex e1) _ fun H2 e2 => h2 H0 B C H2 S σ ((g.ex e1).ex e2) _ fun H3 e3 =>
    hr H3 S v (((g.lst.kp e1.kp).kp e2.kp).kp e3.kp) ((d1.kp (e2.kp.hide S)).kp (e3.kp.hide S)) Q fun p xs H4 e4 hp h4 d4 => hQ p xs H4 (e1.trans (e2.trans (e3.trans e4))) (((hp.back e3.kp).back e2.kp).back e1.kp) h4 d4
theorem ev_cb {r : List V → Hp → VK → Prop} {ta : TA} {ds : List PyData} (h : EvA K T ta ρ ds) (hr : RC K T r ds z) : Ev K T (tCB r ta) ρ z := fun H0 B C H S σ g Q hQ =>
  h H0 B C H S σ g _ fun vs H1 e1 d1 => hr H1 S vs (g.lst.kp e1.kp) d1 Q fun a H2 e2 d2 => hQ a H2 (e1.trans e2) d2
theorem ef_cb {r : List V → Hp → VK → Prop} {ta : TA} {ds zs : List PyData} (h : EvA K T ta ρ ds) (hr : RCF K T r ds zs) : EvF K T (tCB r ta) ρ zs := fun H0 B C H S σ g Q hQ =>
  h H0 B C H S σ g _ fun vs H1 e1 d1 => hr H1 S vs (g.lst.kp e1.kp) d1 Q fun p xs H2 e2 hp h2 d2 => hQ p xs H2 (e1.trans e2) (hp.back e1.kp) h2 d2
def spR (K : PySem.W.Frag) (T : Tb) (R : List PyData → PyData → Prop) : Sp := fun vs H Q _ => ∃ ds r S, LsT T H S ∧ DtAll K (hide H S) vs ds ∧ R ds r ∧
  ∀ v H', Ext T H H' → Dt K (hide H' S) v r → Q v H'
theorem ev_call {R : List PyData → PyData → Prop} {ta : TA} {ds : List PyData} {E : XK} (h : EvA K T ta ρ ds) (hR : R ds z) : Ev K T (tCall (spR K T R) [] E ta) ρ z := fun H0 B C H S σ g Q hQ =>
  h H0 B C H S σ g _ fun vs H1 e1 d1 => ⟨ds, z, S, g.lsT e1, by rw [List.append_nil]; exact d1, hR, fun v H2 e2 d2 => hQ v H2 (e1.trans e2) d2⟩
def scalD : PyData → Bool
  | .list _ => false
  | .tuple _ => false
  | .dict _ => false
  | _ => true
theorem scal_any {H H' : Hp} {v : V} (hs : scalD d = true) (h : Dt K H v d) : Dt K H' v d := by
  cases h with
  | non => exact .non
  | bl b => exact .bl b
  | int i => exact .int i
  | str x => exact .str x
  | lst _ _ => cases hs
  | tup _ _ => cases hs
  | dct _ _ _ => cases hs
theorem ev_view (h : Ev K T te (ρ.map Slot.view) d) (hs : scalD d = true) : Ev K T te ρ d := fun H0 B C H S σ g Q hQ =>
  h H0 _ [] H [] σ g.view Q fun v H2 e2 d2 => hQ v H2 e2 (scal_any hs d2)
theorem et_view {b : Bool} (h : EvT K T t (ρ.map Slot.view) b) : EvT K T t ρ b := fun H0 B C H S σ g Q hQ => h H0 _ [] H [] σ g.view Q hQ
end

def rAddA (K : PySem.W.Frag) : R2 := fun x y H Q => rI0 (fun i j => .int (i + j)) x y H Q ∨ (∃ i j, x = .str i ∧ y = .str j ∧ i.length + j.length ≤ sizeLine ∧ Q (.str (i ++ j)) H) ∨ rCat x y H Q ∨ rCatA K x y H Q
theorem op_addA {X : Cx} : OpR X (binaryOp .Add) (rAddA X.K) := .or op_add (.or op_add_str (.or op_cat op_catA))
def rMulA : R2 := fun x y H Q => rI IntMulOk (fun i j => .int (i * j)) x y H Q ∨ rRep x y H Q
theorem op_mulX {X : Cx} : OpR X (binaryOp .Mult) (rI IntMulOk fun i j => .int (i * j)) := opI fun _ _ _ _ _ _ _ hc q => PyProof.Rows.mul_int q hc
theorem op_mulA {X : Cx} : OpR X (binaryOp .Mult) rMulA := .or op_mulX op_rep
def CFd (i j : Int) : Prop := j ≠ 0 ∧ Builtin.divisionGoesByPylong i j = false
theorem op_fdX {X : Cx} : OpR X (binaryOp .FloorDiv) (rI CFd fun i j => .int (i.fdiv j)) := opI fun _ _ _ _ _ _ _ hc q => PyProof.Rows.floordiv_int hc.1 q (.inl hc.2)
abbrev rSubA : R2 := rI0 fun i j => .int (i - j)
abbrev rFdA : R2 := rI CFd fun i j => .int (i.fdiv j)
abbrev rModA : R2 := rI (fun _ j => j ≠ 0) fun i j => .int (i.fmod j)
abbrev rPowA : R2 := rI CPow fun i j => .int (i ^ j.toNat)
abbrev rLtA : R2 := rI0 fun i j => .bl (decide (i < j))
abbrev rLeA : R2 := rI0 fun i j => .bl (decide (i ≤ j))
abbrev rGtA : R2 := rI0 fun i j => .bl (decide (j < i))
abbrev rGeA : R2 := rI0 fun i j => .bl (decide (j ≤ i))
abbrev rIsNA : R2 := fun x y H Q => y = .non ∧ Q (.bl (decide (x = .non))) H
abbrev rNotNA : R2 := fun x y H Q => y = .non ∧ Q (.bl (!decide (x = .non))) H
section
variable {K : PySem.W.Frag} {T : Tb} {x y z d : PyData} {i j : Int}
theorem rv_add : RV K T (rAddA K) (.int i) (.int j) (.int (i + j)) := fun H S v u l dv du Q hQ => by
  cases dv; cases du
  exact .inl ⟨i, j, rfl, rfl, hQ _ H (.refl T H) (.int _)⟩
theorem rv_addS {a b : Str} (hl : a.length + b.length ≤ 1000000) : RV K T (rAddA K) (.str a) (.str b) (.str (a ++ b)) := fun H S v u l dv du Q hQ => by
  cases dv; cases du
  exact .inr (.inl ⟨a, b, rfl, rfl, Nat.le_trans hl (by decide), hQ _ H (.refl T H) (.str _)⟩)
theorem hide_get {H : Hp} {S : List Addr} {a : Addr} {o : HO} (h : hide H S a = some o) : H a = some o := (hide_some.mp h).2.1
theorem rf_addL {xs ys : List PyData} (hl : xs.length + ys.length ≤ 1000000) : RVF K T (rAddA K) (.list xs) (.list ys) (xs ++ ys) := fun H S v u l dv du Q hQ => by
  cases dv with
  | lst h1 a1 =>
    cases du with
    | lst h2 a2 =>
      refine .inr (.inr (.inl ⟨_, _, _, _, rfl, rfl, hide_get h1, hide_get h2, by rw [a1.len, a2.len]; exact Nat.le_trans hl (by decide), fun p hp => ?_⟩))
      refine hQ p _ _ (.new hp) (.of hp) upd_same ?_
      rw [hide_new (.of hp)]
      exact a1.app a2
theorem sqt_hide {H : Hp} {S : List Addr} {a : Addr} {xs : List V} (h : SqT K (hide H S) a xs) : SqT K H a xs := (hide_kp H S).sqt h
theorem rv_addT {xs ys : List PyData} (hl : xs.length + ys.length ≤ 1000000) : RV K T (rAddA K) (.tuple xs) (.tuple ys) (.tuple (xs ++ ys)) := fun H S v u l dv du Q hQ => by
  cases dv with
  | tup h1 a1 =>
    cases du with
    | tup h2 a2 =>
      refine .inr (.inr (.inr ⟨_, _, _, _, rfl, rfl, sqt_hide h1, sqt_hide h2, by rw [a1.len, a2.len]; exact Nat.le_trans hl (by decide), fun e => ?_, fun e e2 => ?_, fun e e2 p hp => ?_⟩))
      · subst e
        cases a1
        exact hQ _ H (.refl T H) (.tup h2 a2)
      · subst e2
        cases a2
        rw [List.append_nil] at hQ
        exact hQ _ H (.refl T H) (.tup h1 a1)
      · exact hQ _ _ (.new hp) (.tup (SqT.of (hide_at l (.of hp) rfl)) ((a1.app a2).kp ((Ext.new (T := T) hp).kp.hide S)))
theorem rv_sub : RV K T rSubA (.int i) (.int j) (.int (i - j)) := fun H S v u l dv du Q hQ => by
  cases dv; cases du
  exact ⟨i, j, rfl, rfl, hQ _ H (.refl T H) (.int _)⟩
theorem rv_mul (h : IntMulOk i j) : RV K T rMulA (.int i) (.int j) (.int (i * j)) := fun H S v u l dv du Q hQ => by
  cases dv; cases du
  exact .inl ⟨i, j, rfl, rfl, h, hQ _ H (.refl T H) (.int _)⟩
theorem DtAll.rep {H : Hp} {vs : List V} {ds : List PyData} (h : DtAll K H vs ds) : ∀ n : Nat, DtAll K H (List.replicate n vs).flatten (List.replicate n ds).flatten
  | 0 => .nil
  | n + 1 => by
    rw [List.replicate_succ, List.replicate_succ, List.flatten_cons, List.flatten_cons]
    exact h.app (h.rep n)
theorem rf_rep {xs : List PyData} (h1 : -(2 ^ 63) ≤ j) (h2 : j < 2 ^ 63) (hl : xs.length * j.toNat ≤ 1000000) : RVF K T rMulA (.list xs) (.int j) (List.replicate j.toNat xs).flatten := fun H S v u l dv du Q hQ => by
  cases du
  cases dv with
  | lst h3 a1 =>
    refine .inr ⟨_, j, _, rfl, rfl, hide_get h3, h1, h2, by rw [a1.len]; exact Nat.le_trans hl (by decide), fun p hp => ?_⟩
    refine hQ p _ _ (.new hp) (.of hp) upd_same ?_
    rw [hide_new (.of hp)]
    exact a1.rep _
theorem rv_fd (h : CFd i j) : RV K T rFdA (.int i) (.int j) (.int (i.fdiv j)) := fun H S v u l dv du Q hQ => by
  cases dv; cases du
  exact ⟨i, j, rfl, rfl, h, hQ _ H (.refl T H) (.int _)⟩
theorem rv_mod (h : j ≠ 0) : RV K T rModA (.int i) (.int j) (.int (i.fmod j)) := fun H S v u l dv du Q hQ => by
  cases dv; cases du
  exact ⟨i, j, rfl, rfl, h, hQ _ H (.refl T H) (.int _)⟩
theorem rv_pow (h : CPow i j) : RV K T rPowA (.int i) (.int j) (.int (i ^ j.toNat)) := fun H S v u l dv du Q hQ => by
  cases dv; cases du
  exact ⟨i, j, rfl, rfl, h, hQ _ H (.refl T H) (.int _)⟩
theorem rv_lt : RV K T rLtA (.int i) (.int j) (.bool (decide (i < j))) := fun H S v u l dv du Q hQ => by
  cases dv; cases du
  exact ⟨i, j, rfl, rfl, hQ _ H (.refl T H) (.bl _)⟩
theorem rv_le : RV K T rLeA (.int i) (.int j) (.bool (decide (i ≤ j))) := fun H S v u l dv du Q hQ => by
  cases dv; cases du
  exact ⟨i, j, rfl, rfl, hQ _ H (.refl T H) (.bl _)⟩
theorem rv_gt : RV K T rGtA (.int i) (.int j) (.bool (decide (j < i))) := fun H S v u l dv du Q hQ => by
  cases dv; cases du
  exact ⟨i, j, rfl, rfl, hQ _ H (.refl T H) (.bl _)⟩
theorem rv_ge : RV K T rGeA (.int i) (.int j) (.bool (decide (j ≤ i))) := fun H S v u l dv du Q hQ => by
  cases dv; cases du
  exact ⟨i, j, rfl, rfl, hQ _ H (.refl T H) (.bl _)⟩
theorem rv_eq (hx : SeqAt.shaped x = true) (hy : SeqAt.shaped y = true) : RV K T (rEqD K) x y (.bool (PyData.eqv x y)) := fun H S v u l dv du Q hQ =>
  ⟨x, y, dt_dp _ _ (SeqAt.canLay_of_shaped hx) (dv.kp (hide_kp H S)), dt_dp _ _ (SeqAt.canLay_of_shaped hy) (du.kp (hide_kp H S)), hx, hy, hQ _ H (.refl T H) (.bl _)⟩
theorem rv_ne (hx : SeqAt.shaped x = true) (hy : SeqAt.shaped y = true) : RV K T (rNeD K) x y (.bool (!PyData.eqv x y)) := fun H S v u l dv du Q hQ =>
  ⟨x, y, dt_dp _ _ (SeqAt.canLay_of_shaped hx) (dv.kp (hide_kp H S)), dt_dp _ _ (SeqAt.canLay_of_shaped hy) (du.kp (hide_kp H S)), hx, hy, hQ _ H (.refl T H) (.bl _)⟩
def isNone : PyData → Bool
  | .none => true
  | _ => false
theorem dt_non {H : Hp} {v : V} (h : Dt K H v x) : decide (v = .non) = isNone x := by
  cases h <;> rfl
theorem rv_isN : RV K T rIsNA x .none (.bool (isNone x)) := fun H S v u l dv du Q hQ => by
  cases du
  refine ⟨rfl, ?_⟩
  rw [dt_non dv]
  exact hQ _ H (.refl T H) (.bl _)
theorem rv_notN : RV K T rNotNA x .none (.bool (!isNone x)) := fun H S v u l dv du Q hQ => by
  cases du
  refine ⟨rfl, ?_⟩
  rw [dt_non dv]
  exact hQ _ H (.refl T H) (.bl _)
theorem DtAll.at {H : Hp} {vs : List V} {ds : List PyData} (h : DtAll K H vs ds) (e : atI ds i = some d) : ∃ v, atI vs i = some v ∧ Dt K H v d := by
  unfold atI at e ⊢
  rw [h.len]
  cases q : ixN ds.length i with
  | none => rw [q] at e; cases e
  | some k =>
    rw [q] at e
    exact h.get e
theorem rv_ixT {ds : List PyData} (e : atI ds i = some d) : RV K T (rIx K) (.tuple ds) (.int i) d := fun H S v u l dv du Q hQ => by
  cases du
  cases dv with
  | tup h1 a1 =>
    obtain ⟨w, hw, dw⟩ := a1.at e
    exact .inr (.inl ⟨_, _, i, w, rfl, rfl, sqt_hide h1, hw, hQ w H (.refl T H) dw⟩)
theorem rv_ixL {ds : List PyData} (e : atI ds i = some d) : RV K T (rIx K) (.list ds) (.int i) d := fun H S v u l dv du Q hQ => by
  cases du
  cases dv with
  | lst h1 a1 =>
    obtain ⟨w, hw, dw⟩ := a1.at e
    exact .inl ⟨_, _, i, w, rfl, rfl, SqL.of (hide_get h1), hw, hQ w H (.refl T H) dw⟩
theorem rv_ixS {a : Str} {c : Nat} (hl : a.length ≤ 1000000) (e : atI a.cps.toList i = some c) : RV K T (rIx K) (.str a) (.int i) (.str ⟨#[c]⟩) := fun H S v u l dv du Q hQ => by
  cases du; cases dv
  exact .inr (.inr ⟨a, i, c, rfl, rfl, Nat.le_trans hl (by decide), e, hQ _ H (.refl T H) (.str _)⟩)
theorem ev_ixO {ρ : List Slot} {tb : TE} {k : Nat} {ds : List PyData} (h : ρ[k]? = some (.own (.lst ds))) (hb : Ev K T tb ρ (.int i)) (e : atI ds i = some d) : Ev K T (tOp (rIx K) (tVar k) tb) ρ d := fun H0 B C H S σ g Q hQ => by
  obtain ⟨p, u, h1, h2, h3, h4, h5⟩ := g.own k _ h
  cases h5 with | lst h5 =>
  refine ⟨.ref p, h1, ?_⟩
  refine hb H0 B C H S σ g _ fun v H1 e1 d1 => ?_
  cases d1
  obtain ⟨w, hw, dw⟩ := (h5.kp (e1.kp.hide S)).at e
  exact .inl ⟨p, _, i, w, rfl, rfl, SqL.of (e1.kp p _ h4 rfl), hw, hQ w H1 e1 dw⟩
def cutD (ds : List PyData) (lo hi : Option Int) : List PyData := (ds.drop (HT.sIx ds.length 0 lo)).take (HT.sIx ds.length ds.length hi - HT.sIx ds.length 0 lo)
def rSlX (K : PySem.W.Frag) : V → Option Int → Option Int → Hp → VK → Prop := fun x lo hi H Q => rSlL K x lo hi H Q ∨ rSlA K x lo hi H Q
theorem sl_any {X : Cx} : SlR X (rSlX X.K) := SlR.or sl_list sl_tupA
theorem rf_slL {ds : List PyData} {lo hi : Option Int} : RSF K T (rSlX K) (.list ds) lo hi (cutD ds lo hi) := fun H S v l dv Q hQ => by
  cases dv with
  | lst h1 a1 =>
    refine .inl ⟨_, _, rfl, SqL.of (hide_get h1), fun p hp => ?_⟩
    refine hQ p _ _ (.new hp) (.of hp) upd_same ?_
    rw [hide_new (.of hp)]
    exact a1.cut lo hi
theorem rs_slT {ds : List PyData} {lo hi : Option Int} : RS K T (rSlX K) (.tuple ds) lo hi (.tuple (cutD ds lo hi)) := fun H S v l dv Q hQ => by
  cases dv with
  | tup h1 a1 =>
    refine .inr ⟨_, _, rfl, sqt_hide h1, fun e => ?_, fun e p hp => ?_⟩
    · refine hQ _ H (.refl T H) (.tup h1 ?_)
      have q := a1.cut lo hi
      unfold cutV at q
      rw [e.1, e.2] at q
      rw [List.drop_zero, Nat.sub_zero, List.take_length] at q
      exact q
    · exact hQ _ _ (.new hp) (.tup (SqT.of (hide_at l (.of hp) rfl)) ((a1.cut lo hi).kp ((Ext.new (T := T) hp).kp.hide S)))
abbrev rLenA (K : PySem.W.Frag) : List V → Hp → VK → Prop := fun xs H Q => ∃ x n, xs = [x] ∧ LenV K x H n ∧ Q (.int n) H
theorem rc_lenL {ds : List PyData} : RC K T (rLenA K) [.list ds] (.int ds.length) := fun H S vs l dv Q hQ => by
  cases dv with
  | cons d1 d2 =>
    cases d2
    cases d1 with
    | lst h1 a1 => exact ⟨_, ds.length, rfl, .inl ⟨_, SqL.of (hide_get h1), a1.len.symm⟩, hQ _ H (.refl T H) (.int _)⟩
theorem rc_lenT {ds : List PyData} : RC K T (rLenA K) [.tuple ds] (.int ds.length) := fun H S vs l dv Q hQ => by
  cases dv with
  | cons d1 d2 =>
    cases d2
    cases d1 with
    | tup h1 a1 => exact ⟨_, ds.length, rfl, .inr ⟨_, sqt_hide h1, a1.len.symm⟩, hQ _ H (.refl T H) (.int _)⟩
theorem rc_lenS {a : Str} (hl : a.length ≤ 1000000) : RC K T (rLenA K) [.str a] (.int a.length) := fun H S vs l dv Q hQ => by
  cases dv with
  | cons d1 d2 =>
    cases d2
    cases d1
    exact ⟨_, a.length, rfl, ⟨Nat.le_trans hl (by decide), rfl⟩, hQ _ H (.refl T H) (.int _)⟩
abbrev rAbsA : List V → Hp → VK → Prop := fun xs H Q => ∃ i, xs = [.int i] ∧ Q (.int (if i < 0 then -i else i)) H
theorem rc_abs : RC K T rAbsA [.int i] (.int (if i < 0 then -i else i)) := fun H S vs l dv Q hQ => by
  cases dv with
  | cons d1 d2 => cases d2; cases d1; exact ⟨i, rfl, hQ _ H (.refl T H) (.int _)⟩
abbrev rIntA : List V → Hp → VK → Prop := fun xs H Q => (∃ i, xs = [.int i] ∧ Q (.int i) H) ∨ ∃ k, xs = [.bl k] ∧ Q (.int (if k then 1 else 0)) H
theorem rc_intB {k : Bool} : RC K T rIntA [.bool k] (.int (if k then 1 else 0)) := fun H S vs l dv Q hQ => by
  cases dv with
  | cons d1 d2 => cases d2; cases d1; exact .inr ⟨k, rfl, hQ _ H (.refl T H) (.int _)⟩
theorem rc_intI : RC K T rIntA [.int i] (.int i) := fun H S vs l dv Q hQ => by
  cases dv with
  | cons d1 d2 => cases d2; cases d1; exact .inl ⟨i, rfl, hQ _ H (.refl T H) (.int _)⟩
abbrev rListA (K : PySem.W.Frag) : List V → Hp → VK → Prop := fun xs H Q => ∃ p ys, xs = [.ref p] ∧ (SqL K H p ys ∨ SqT K H p ys) ∧ ∀ l, H l = none → Q (.ref l) (upd H l (.lst ys))
theorem rf_listL {ds : List PyData} : RCF K T (rListA K) [.list ds] ds := fun H S vs l dv Q hQ => by
  cases dv with
  | cons d1 d2 =>
    cases d2
    cases d1 with
    | lst h1 a1 =>
      refine ⟨_, _, rfl, .inl (SqL.of (hide_get h1)), fun p hp => hQ p _ _ (.new hp) (.of hp) upd_same ?_⟩
      rw [hide_new (.of hp)]
      exact a1
theorem rf_listT {ds : List PyData} : RCF K T (rListA K) [.tuple ds] ds := fun H S vs l dv Q hQ => by
  cases dv with
  | cons d1 d2 =>
    cases d2
    cases d1 with
    | tup h1 a1 =>
      refine ⟨_, _, rfl, .inr (sqt_hide h1), fun p hp => hQ p _ _ (.new hp) (.of hp) upd_same ?_⟩
      rw [hide_new (.of hp)]
      exact a1
abbrev rTupleA (K : PySem.W.Frag) : List V → Hp → VK → Prop := fun xs H Q => ∃ p ys, xs = [.ref p] ∧ ((SqL K H p ys ∧ ∀ l, H l = none → Q (.ref l) (upd H l (.tup ys))) ∨ (SqT K H p ys ∧ Q (.ref p) H))
theorem rc_tupleL {ds : List PyData} : RC K T (rTupleA K) [.list ds] (.tuple ds) := fun H S vs l dv Q hQ => by
  cases dv with
  | cons d1 d2 =>
    cases d2
    cases d1 with
    | lst h1 a1 => exact ⟨_, _, rfl, .inl ⟨SqL.of (hide_get h1), fun p hp => hQ _ _ (.new hp) (.tup (SqT.of (hide_at l (.of hp) rfl)) (a1.kp ((Ext.new (T := T) hp).kp.hide S)))⟩⟩
theorem rc_tupleT {ds : List PyData} : RC K T (rTupleA K) [.tuple ds] (.tuple ds) := fun H S vs l dv Q hQ => by
  cases dv with
  | cons d1 d2 =>
    cases d2
    cases d1 with
    | tup h1 a1 => exact ⟨_, _, rfl, .inr ⟨sqt_hide h1, hQ _ H (.refl T H) (.tup h1 a1)⟩⟩
theorem rc_all {bs : List Bool} : RC K T (rAll K) [.list (bs.map PyData.bool)] (.bool (bs.all id)) := fun H S vs l dv Q hQ => by
  cases dv with
  | cons d1 d2 =>
    cases d2
    cases d1 with
    | lst h1 a1 =>
      have e := a1.bls_inv
      subst e
      exact ⟨_, bs, rfl, SqL.of (hide_get h1), hQ _ H (.refl T H) (.bl _)⟩
theorem rc_any {bs : List Bool} : RC K T (rAny K) [.list (bs.map PyData.bool)] (.bool (bs.any id)) := fun H S vs l dv Q hQ => by
  cases dv with
  | cons d1 d2 =>
    cases d2
    cases d1 with
    | lst h1 a1 =>
      have e := a1.bls_inv
      subst e
      exact ⟨_, bs, rfl, SqL.of (hide_get h1), hQ _ H (.refl T H) (.bl _)⟩
end
end Lw

set_option Elab.async false
set_option linter.all false
set_option maxRecDepth 100000
set_option maxHeartbeats 4000000
set_option autoImplicit false
namespace Lw
open PySem L2
section
variable {K : PySem.W.Frag} {T : Tb} {H0 B : Hp} {C : List Addr} {H H' : Hp} {S : List Addr} {σ : St} {ρ : List Slot}
theorem set_get {α : Type} {l : List α} {i : Nat} {a b : α} (h : (l.set i a)[i]? = some b) : a = b := by
  have hl : i < l.length := by
    have := (List.getElem?_eq_some_iff.mp h).1
    rwa [List.length_set] at this
  rw [List.getElem?_set_self hl] at h
  exact Option.some.inj h
theorem Gd.lt (g : Gd K T H0 B C H S σ ρ) {i : Nat} {s : Slot} (h : ρ[i]? = some s) : i < σ.length := by
  rw [g.len]
  exact (List.getElem?_eq_some_iff.mp h).1
theorem seen_new {H2 : Hp} {p : Addr} (e : Kp H H2) (hp : Fresh H p) : Kp (hide H S) (hide H2 (p :: S)) := fun b o h n => by
  obtain ⟨h1, h2, h3⟩ := hide_some.mp h
  refine hide_some.mpr ⟨fun z => ?_, e b o h2 h3, h3⟩
  rcases List.mem_cons.mp z with z | z
  · subst z
    rw [hp o h2] at h3
    cases h3
  · exact h1 z
theorem Gd.bnone (g : Gd K T H0 B C H S σ ρ) {p : Addr} (hp : Fresh H p) : B p = none := by
  cases e : B p with
  | none => rfl
  | some o =>
    have q := (hp.back g.vis) o e
    rw [g.bno p o e] at q
    cases q
theorem Gd.mineO (g : Gd K T H0 B C H S σ ρ) {i : Nat} {p : Addr} {u : HO} {ds : Ob} (e : Ext T H H') (hp : Fresh H p) (h1 : H' p = some u) (h2 : ObD K (hide H' (p :: S)) u ds) :
    Gd K T H0 B C H' (p :: S) (σ.set i (some (.ref p))) (ρ.set i (.own ds)) where
  ext := g.ext.trans e
  vis := g.vis.trans e.kp
  bno := g.bno
  hid := fun q hq => by
    rcases List.mem_cons.mp hq with z | z
    · subst z; exact g.bnone hp
    · exact g.hid q z
  lst := fun q hq => by
    rcases List.mem_cons.mp hq with z | z
    · subst z; exact ⟨u, h1, h2.mut⟩
    · exact g.lst.kp e.kp q z
  sub := fun c hc => List.mem_cons_of_mem _ (g.sub c hc)
  cl := g.cl
  len := by rw [List.length_set, List.length_set]; exact g.len
  dat := fun j d q => by
    by_cases z : i = j
    · subst z; cases set_get q
    · rw [List.getElem?_set_ne z] at q ⊢
      obtain ⟨v, a, b⟩ := g.dat j d q
      exact ⟨v, a, b.kp (seen_new e.kp hp)⟩
  scr := fun j es q => by
    by_cases z : i = j
    · subst z; cases set_get q
    · rw [List.getElem?_set_ne z] at q ⊢
      obtain ⟨a, ys, h1, h2, h3⟩ := g.scr j es q
      exact ⟨a, ys, h1, (seen_new e.kp hp).sql h2, h3.kp (seen_new e.kp hp)⟩
  raw := fun j v q => by
    by_cases z : i = j
    · subst z; cases set_get q
    · rw [List.getElem?_set_ne z] at q ⊢
      exact g.raw j v q
  own := fun j es q => by
    by_cases z : i = j
    · subst z
      have hl : i < σ.length := by
        rw [g.len]
        have := (List.getElem?_eq_some_iff.mp q).1
        rwa [List.length_set] at this
      cases set_get q
      exact ⟨p, u, List.getElem?_set_self hl, List.mem_cons_self .., hp.back g.ext.kp, h1, h2⟩
    · rw [List.getElem?_set_ne z] at q ⊢
      obtain ⟨q', ys, a, b, c, d, f⟩ := g.own j es q
      exact ⟨q', ys, a, List.mem_cons_of_mem _ b, c, e.kp q' _ d f.nt, f.kp (seen_new e.kp hp)⟩
  sep := fun a b ds' es q ha hb sa sb => by
    have key : ∀ (j : Nat) (es : Ob), i ≠ j → (ρ.set i (.own ds))[j]? = some (.own es) → (σ.set i (some (.ref p)))[j]? = some (some (.ref p)) → False := fun j es z qa qs => by
      rw [List.getElem?_set_ne z] at qa qs
      obtain ⟨q', ys, a, b, c, d, f⟩ := g.own j es qa
      rw [qs] at a
      cases a
      exact Bool.false_ne_true (f.nt.symm.trans (hp _ d))
    by_cases za : i = a
    · by_cases zb : i = b
      · exact za.symm.trans zb
      · subst za
        have := set_get sa
        cases this
        exact (key b es zb hb sb).elim
    · by_cases zb : i = b
      · subst zb
        have := set_get sb
        cases this
        exact (key a ds' za ha sa).elim
      · rw [List.getElem?_set_ne za] at ha sa
        rw [List.getElem?_set_ne zb] at hb sb
        exact g.sep a b ds' es q ha hb sa sb
  rob := g.rob.step (.set rfl)
  hc := fun q hq => by
    rcases List.mem_cons.mp hq with z | z
    · subst z; exact .inr (hp.back g.ext.kp)
    · exact g.hc q z
  obs := g.obs.step (.set rfl) (seen_new e.kp hp) (fun a q u f h => e.kp q u h (g.obs.fnt f h)) (fun a q f m => List.mem_cons_of_mem _ m) (fun a j q o ha hb f => by
    by_cases z : i = j
    · subst z
      cases set_get hb
      obtain ⟨m, _⟩ := g.obs.foot f
      exact g.lst.not hp m
    · rw [List.getElem?_set_ne z] at ha hb
      exact g.obs.dl a j q o f ha hb)
theorem Gd.mine (g : Gd K T H0 B C H S σ ρ) {i : Nat} {p : Addr} {xs : List V} {ds : List PyData} (e : Ext T H H') (hp : Fresh H p) (h1 : H' p = some (.lst xs)) (h2 : DtAll K (hide H' (p :: S)) xs ds) :
    Gd K T H0 B C H' (p :: S) (σ.set i (some (.ref p))) (ρ.set i (.own (.lst ds))) := g.mineO e hp h1 (.lst h2)
theorem Gd.writeO (g : Gd K T H0 B C H S σ ρ) {i : Nat} {p : Addr} {u u' : HO} {ds es : Ob} (h : ρ[i]? = some (.own ds)) (hs : σ[i]? = some (some (.ref p))) (hp : H p = some u) (hd : ObD K (hide H S) u' es) :
    Gd K T H0 B C (upd H p u') S σ (ρ.set i (.own es)) := by
  obtain ⟨p', xs', a1, a2, a3, a4, a5⟩ := g.own i ds h
  rw [hs] at a1
  cases a1
  rw [hp] at a4
  cases a4
  have eh : hide (upd H p u') S = hide H S := hide_upd a2
  have keep : ∀ b o, H b = some o → b ≠ p → (upd H p u') b = some o := fun b o e z => by rw [upd_ne z]; exact e
  exact {
    ext := ⟨fun b o e n => keep b o (g.ext.kp b o e n) (fun z => by subst z; rw [a3 o e] at n; cases n), fun t => tabs_mut hp a5.mut (g.ext.tb t)⟩
    vis := fun b o e n => keep b o (g.vis b o e n) (fun z => by subst z; rw [g.hid _ a2] at e; cases e)
    bno := g.bno
    hid := g.hid
    lst := fun q hq => by
      by_cases z : q = p
      · subst z; exact ⟨u', upd_same, hd.mut⟩
      · obtain ⟨zs, e, m⟩ := g.lst q hq
        exact ⟨zs, keep q _ e z, m⟩
    sub := g.sub
    cl := g.cl
    len := by rw [List.length_set]; exact g.len
    dat := fun j d q => by
      rw [eh]
      by_cases z : i = j
      · subst z; cases set_get q
      · rw [List.getElem?_set_ne z] at q
        exact g.dat j d q
    scr := fun j d q => by
      rw [eh]
      by_cases z : i = j
      · subst z; cases set_get q
      · rw [List.getElem?_set_ne z] at q
        exact g.scr j d q
    raw := fun j v q => by
      by_cases z : i = j
      · subst z; cases set_get q
      · rw [List.getElem?_set_ne z] at q
        exact g.raw j v q
    own := fun j fs q => by
      rw [eh]
      by_cases z : i = j
      · subst z
        cases set_get q
        exact ⟨p, u', hs, a2, a3, upd_same, hd⟩
      · rw [List.getElem?_set_ne z] at q
        obtain ⟨q', zs, b1, b2, b3, b4, b5⟩ := g.own j fs q
        refine ⟨q', zs, b1, b2, b3, keep q' _ b4 (fun w => ?_), b5⟩
        subst w
        exact z (g.sep i j ds fs _ h q hs b1)
    sep := fun a b fs gs q ha hb sa sb => by
      have back : ∀ (j : Nat) (fs : Ob), (ρ.set i (.own es))[j]? = some (.own fs) → ∃ fs', ρ[j]? = some (.own fs') := fun j fs q => by
        by_cases z : i = j
        · subst z; exact ⟨ds, h⟩
        · rw [List.getElem?_set_ne z] at q
          exact ⟨fs, q⟩
      obtain ⟨f1, q1⟩ := back a fs ha
      obtain ⟨f2, q2⟩ := back b gs hb
      exact g.sep a b f1 f2 q q1 q2 sa sb
    rob := g.rob.step (.setR rfl)
    hc := g.hc
    obs := g.obs.step (.setR rfl) (by rw [eh]; exact .refl _) (fun a q v f e => keep q v e (fun z => by subst z; exact g.obs.dl a i _ ds f h hs)) (fun _ _ _ m => m) (fun a j q o ha hb f => by
      by_cases z : i = j
      · subst z
        exact g.obs.dl a i q ds f h hb
      · rw [List.getElem?_set_ne z] at ha
        exact g.obs.dl a j q o f ha hb) }
theorem Gd.write (g : Gd K T H0 B C H S σ ρ) {i : Nat} {p : Addr} {xs ys : List V} {ds es : List PyData} (h : ρ[i]? = some (.own (.lst ds))) (hs : σ[i]? = some (some (.ref p))) (hp : H p = some (.lst xs)) (hd : DtAll K (hide H S) ys es) :
    Gd K T H0 B C (upd H p (.lst ys)) S σ (ρ.set i (.own (.lst es))) := g.writeO h hs hp (.lst hd)
theorem Gd.freezeO (g : Gd K T H0 B C H S σ ρ) {i : Nat} {ob : Ob} (h : ρ[i]? = some (.own ob)) : ∃ S', Gd K T H0 B C H S' σ (ρ.set i (.dat (obV ob))) := by
  obtain ⟨p, u, a1, a2, a3, a4, a5⟩ := g.own i _ h
  have hm : ∀ q, q ∈ S.filter (fun q => decide (q ≠ p)) ↔ q ∈ S ∧ q ≠ p := fun q => by
    rw [List.mem_filter]
    constructor
    · rintro ⟨x, y⟩; exact ⟨x, of_decide_eq_true y⟩
    · rintro ⟨x, y⟩; exact ⟨x, decide_eq_true y⟩
  have hk : Kp (hide H S) (hide H (S.filter fun q => decide (q ≠ p))) := hide_sub fun q hq => ((hm q).mp hq).1
  refine ⟨S.filter fun q => decide (q ≠ p), ?_⟩
  exact {
    ext := g.ext
    vis := g.vis
    bno := g.bno
    hid := fun q hq => g.hid q ((hm q).mp hq).1
    lst := fun q hq => g.lst q ((hm q).mp hq).1
    sub := fun c hc => (hm c).mpr ⟨g.sub c hc, fun z => by
      subst z
      obtain ⟨ys, e, m⟩ := g.cl.1 _ hc
      exact Bool.false_ne_true ((mutO.nt m).symm.trans (a3 _ e))⟩
    cl := g.cl
    len := by rw [List.length_set]; exact g.len
    dat := fun j d q => by
      by_cases z : i = j
      · subst z
        cases set_get q
        exact ⟨.ref p, a1, ObD.dt (hide_some.mpr ⟨fun w => ((hm p).mp w).2 rfl, a4, a5.nt⟩) (a5.kp hk)⟩
      · rw [List.getElem?_set_ne z] at q
        obtain ⟨v, b1, b2⟩ := g.dat j d q
        exact ⟨v, b1, b2.kp hk⟩
    scr := fun j d q => by
      by_cases z : i = j
      · subst z; cases set_get q
      · rw [List.getElem?_set_ne z] at q
        obtain ⟨a, ys, h1, h2, h3⟩ := g.scr j d q
        exact ⟨a, ys, h1, hk.sql h2, h3.kp hk⟩
    raw := fun j v q => by
      by_cases z : i = j
      · subst z; cases set_get q
      · rw [List.getElem?_set_ne z] at q
        exact g.raw j v q
    own := fun j fs q => by
      by_cases z : i = j
      · subst z; cases set_get q
      · rw [List.getElem?_set_ne z] at q
        obtain ⟨q', zs, b1, b2, b3, b4, b5⟩ := g.own j fs q
        refine ⟨q', zs, b1, (hm q').mpr ⟨b2, fun w => ?_⟩, b3, b4, b5.kp hk⟩
        subst w
        exact z (g.sep i j _ fs _ h q a1 b1)
    sep := fun a b fs gs q ha hb sa sb => by
      have za : i ≠ a := fun z => by subst z; cases set_get ha
      have zb : i ≠ b := fun z => by subst z; cases set_get hb
      rw [List.getElem?_set_ne za] at ha
      rw [List.getElem?_set_ne zb] at hb
      exact g.sep a b fs gs q ha hb sa sb
    rob := g.rob.step (.setR rfl)
    hc := fun q hq => g.hc q ((hm q).mp hq).1
    obs := g.obs.step (.setR rfl) hk (fun _ _ _ _ e => e) (fun a q f m => (hm q).mpr ⟨m, fun z => by subst z; exact g.obs.dl a i _ _ f h a1⟩) (fun a j q o ha hb f => by
      have zb : i ≠ j := fun z => by subst z; cases set_get ha
      rw [List.getElem?_set_ne zb] at ha
      exact g.obs.dl a j q o f ha hb) }
theorem Gd.freeze (g : Gd K T H0 B C H S σ ρ) {i : Nat} {ds : List PyData} (h : ρ[i]? = some (.own (.lst ds))) : ∃ S', Gd K T H0 B C H S' σ (ρ.set i (.dat (.list ds))) := g.freezeO h
theorem Gd.rebase (g : Gd K T H0 B C H S σ ρ) : Gd K T H0 (hide H S) C H S σ ρ where
  ext := g.ext
  vis := hide_kp H S
  bno := fun b o h => (hide_some.mp h).2.2
  hid := fun p hp => hide_mem hp
  lst := g.lst
  sub := g.sub
  cl := g.cl
  len := g.len
  dat := g.dat
  scr := g.scr
  raw := g.raw
  own := g.own
  sep := g.sep
  rob := g.rob
  hc := g.hc
  obs := g.obs
theorem Gd.unbase {B' : Hp} (g : Gd K T H0 B' C H S σ ρ) (e : Kp B B') (hb : ∀ b o, B b = some o → isTbl o = false) : Gd K T H0 B C H S σ ρ where
  ext := g.ext
  vis := e.trans g.vis
  bno := hb
  hid := fun p hp => by
    cases q : B p with
    | none => rfl
    | some o =>
      have w := e p o q (hb p o q)
      rw [g.hid p hp] at w
      cases w
  lst := g.lst
  sub := g.sub
  cl := g.cl
  len := g.len
  dat := g.dat
  scr := g.scr
  raw := g.raw
  own := g.own
  sep := g.sep
  rob := g.rob
  hc := g.hc
  obs := g.obs
end

def Tri (K : PySem.W.Frag) (T : Tb) (H0 B : Hp) (C : List Addr) (ρ : List Slot) (ts : TS) (D : Ends) : Prop := ∀ σ H, Good K T H0 B C ρ σ H → ts D σ H
def Rt (K : PySem.W.Frag) (T : Tb) (H0 : Hp) (C : List Addr) (rt : VK) (d : PyData) : Prop := ∀ v H', Ext T H0 H' → Dt K (hide H' C) v d → rt v H'
section
variable {K : PySem.W.Frag} {T : Tb} {H0 B : Hp} {C : List Addr} {ρ : List Slot} {te ta tb : TE} {t : TT} {tu tw tz ts : TS} {D : Ends} {d : PyData} {i : Nat}
theorem s_seq (h : Tri K T H0 B C ρ tu { D with nx := tz D }) : Tri K T H0 B C ρ (tSeq tu tz) D := h
theorem s_to (h : Tri K T H0 B C ρ tz D) : Tri K T H0 B C ρ tNext { D with nx := tz D } := h
theorem s_asg (h : Ev K T te ρ d) (k : Tri K T H0 B C (ρ.set i (.dat d)) tNext D) : Tri K T H0 B C ρ (tAsg te (gName i)) D := fun σ H ⟨S, g⟩ =>
  h H0 B C H S σ g _ fun v H2 e dv => k _ _ ⟨S, (g.ex e).set dv⟩
theorem q_asg (h : Ev K T te ρ d) (k : Tri K T H0 B C (ρ.set i (.dat d)) tz D) : Tri K T H0 B C ρ (tSeq (tAsg te (gName i)) tz) D := s_seq (s_asg h (s_to k))
theorem s_own {ds : List PyData} (h : EvF K T te ρ ds) (k : Tri K T H0 B C (ρ.set i (.own (.lst ds))) tNext D) : Tri K T H0 B C ρ (tAsg te (gName i)) D := fun σ H ⟨S, g⟩ =>
  h H0 B C H S σ g _ fun p xs H2 e hp h1 h2 => k _ _ ⟨p :: S, g.mine e hp h1 h2⟩
theorem q_own {ds : List PyData} (h : EvF K T te ρ ds) (k : Tri K T H0 B C (ρ.set i (.own (.lst ds))) tz D) : Tri K T H0 B C ρ (tSeq (tAsg te (gName i)) tz) D := s_seq (s_own h (s_to k))
theorem s_ret (h : Ev K T te ρ d) (k : Rt K T H0 C D.rt d) : Tri K T H0 B C ρ (tRet te) D := fun σ H ⟨S, g⟩ =>
  h H0 B C H S σ g _ fun v H2 e dv => k v H2 (g.ext.trans e) (dv.kp (hide_sub g.sub))
theorem s_if {b : Bool} (h : EvT K T t ρ b) (h1 : b = true → Tri K T H0 B C ρ tu D) (h2 : b = false → Tri K T H0 B C ρ tw D) : Tri K T H0 B C ρ (tIfS t tu tw) D := fun σ H ⟨S, g⟩ =>
  h H0 B C H S σ g _ fun H2 e => by
    cases b with
    | true => exact iteT (h1 rfl σ H2 ⟨S, g.ex e⟩)
    | false => exact iteF (h2 rfl σ H2 ⟨S, g.ex e⟩)
theorem q_when {b : Bool} (h : EvT K T t ρ b) (h1 : b = true → Tri K T H0 B C ρ tu { D with nx := tz D }) (h2 : b = false → Tri K T H0 B C ρ tz D) : Tri K T H0 B C ρ (tSeq (tIfS t tu tNext) tz) D := s_seq (s_if h h1 fun e => s_to (h2 e))
theorem s_ifT (h : EvT K T t ρ true) (h1 : Tri K T H0 B C ρ tu D) : Tri K T H0 B C ρ (tIfS t tu tw) D := s_if h (fun _ => h1) (fun z => by cases z)
theorem s_ifF (h : EvT K T t ρ false) (h1 : Tri K T H0 B C ρ tw D) : Tri K T H0 B C ρ (tIfS t tu tw) D := s_if h (fun z => by cases z) (fun _ => h1)
theorem s_drop (h : Ev K T te ρ d) (k : Tri K T H0 B C ρ tNext D) : Tri K T H0 B C ρ (tDrop te) D := fun σ H ⟨S, g⟩ => h H0 B C H S σ g _ fun v H2 e dv => k _ _ ⟨S, g.ex e⟩
theorem s_weak {ρ' : List Slot} (l : Le ρ' ρ) (k : Tri K T H0 B C ρ' ts D) : Tri K T H0 B C ρ ts D := fun σ H g => k σ H (g.weak l)
theorem s_freeze {ds : List PyData} (h : ρ[i]? = some (.own (.lst ds))) (k : Tri K T H0 B C (ρ.set i (.dat (.list ds))) ts D) : Tri K T H0 B C ρ ts D := fun σ H ⟨S, g⟩ => k σ H (g.freeze h)
theorem s_app {ds : List PyData} (h : ρ[i]? = some (.own (.lst ds))) (he : Ev K T te ρ d) (hl : ds.length < 1000000) (k : Tri K T H0 B C (ρ.set i (.own (.lst (ds ++ [d])))) tNext D) :
    Tri K T H0 B C ρ (tDrop (tBM K "list" rAppend (tVar i) (tCons te tNil))) D := fun σ H ⟨S, g⟩ => by
  obtain ⟨p, u, a1, a2, a3, a4, a5⟩ := g.own i _ h
  cases a5 with | @lst xs _ a5 =>
  refine ⟨.ref p, a1, .inl ⟨rfl, xs, SqL.of a4⟩, ?_⟩
  refine he H0 B C H S σ g _ fun v H2 e dv => ?_
  have g2 := g.ex e
  have h2 : H2 p = some (.lst xs) := e.kp p _ a4 rfl
  refine ⟨p, xs, v, rfl, rfl, h2, by rw [a5.len]; exact Nat.lt_trans hl (by decide), ?_⟩
  exact k _ _ ⟨S, g2.write h a1 h2 ((a5.kp (e.kp.hide S)).app (.cons dv .nil))⟩
theorem q_app {ds : List PyData} (h : ρ[i]? = some (.own (.lst ds))) (he : Ev K T te ρ d) (hl : ds.length < 1000000) (k : Tri K T H0 B C (ρ.set i (.own (.lst (ds ++ [d])))) tz D) :
    Tri K T H0 B C ρ (tSeq (tDrop (tBM K "list" rAppend (tVar i) (tCons te tNil))) tz) D := s_seq (s_app h he hl (s_to k))
theorem s_par {j : Nat} {tr : TA} {d1 d2 : PyData} (h : EvA K T tr ρ [d1, d2]) (k : Tri K T H0 B C ((ρ.set i (.dat d1)).set j (.dat d2)) tNext D) : Tri K T H0 B C ρ (tPar i j tr) D := fun σ H ⟨S, g⟩ =>
  h H0 B C H S σ g _ fun vs H2 e dv => by
    cases dv with
    | cons b1 b2 =>
      cases b2 with
      | cons b2 b3 =>
        cases b3
        exact ⟨_, _, rfl, k _ _ ⟨S, ((g.ex e).set b1).set b2⟩⟩
theorem q_par {j : Nat} {tr : TA} {d1 d2 : PyData} (h : EvA K T tr ρ [d1, d2]) (k : Tri K T H0 B C ((ρ.set i (.dat d1)).set j (.dat d2)) tz D) : Tri K T H0 B C ρ (tSeq (tPar i j tr) tz) D := s_seq (s_par h (s_to k))
theorem s_while (I : Nat → List Slot → Prop) (m0 : Nat) (h0 : I m0 ρ)
    (hs : ∀ m ρ', I m ρ' → ∃ b, EvT K T t ρ' b ∧ (b = true → Tri K T H0 B C ρ' tu { D with nx := fun σ H => ∃ m' ρ2, m' < m ∧ I m' ρ2 ∧ Good K T H0 B C ρ2 σ H, ct := fun σ H => ∃ m' ρ2, m' < m ∧ I m' ρ2 ∧ Good K T H0 B C ρ2 σ H, bk := D.nx }) ∧ (b = false → Tri K T H0 B C ρ' tNext D)) :
    Tri K T H0 B C ρ (tWhile t tu) D := fun σ H g => by
  refine ⟨fun m σ H => ∃ ρ', I m ρ' ∧ Good K T H0 B C ρ' σ H, ⟨m0, ρ, h0, g⟩, ?_⟩
  rintro m σ H ⟨ρ', hI, S, g⟩
  obtain ⟨b, hb, h1, h2⟩ := hs m ρ' hI
  refine hb H0 B C H S σ g _ fun H2 e => ?_
  cases b with
  | true => exact iteT ⟨_, fun σ' H' ⟨m', ρ2, lt, i2, g2⟩ => ⟨m', lt, ρ2, i2, g2⟩, h1 rfl σ H2 ⟨S, g.ex e⟩⟩
  | false => exact iteF (h2 rfl σ H2 ⟨S, g.ex e⟩)
theorem q_while (I : Nat → List Slot → Prop) (m0 : Nat) (h0 : I m0 ρ)
    (hs : ∀ m ρ', I m ρ' → ∃ b, EvT K T t ρ' b ∧ (b = true → Tri K T H0 B C ρ' tu { D with nx := fun σ H => ∃ m' ρ2, m' < m ∧ I m' ρ2 ∧ Good K T H0 B C ρ2 σ H, ct := fun σ H => ∃ m' ρ2, m' < m ∧ I m' ρ2 ∧ Good K T H0 B C ρ2 σ H, bk := tz D }) ∧ (b = false → Tri K T H0 B C ρ' tz D)) :
    Tri K T H0 B C ρ (tSeq (tWhile t tu) tz) D := s_seq (s_while (D := { D with nx := tz D }) I m0 h0 hs)
end

section
variable (K : PySem.W.Frag) (T : Tb)
def Feeds (J : It) (B : Hp) (items : List PyData) : Prop := ∀ (i : Nat) (H : Hp) (S : List Addr), Kp B (hide H S) → Lsts H S →
  (∀ d, items[i]? = some d → J.go i H ∧ ∀ x H2, J.yld i H x H2 → Ext T H H2 ∧ Dt K (hide H2 S) x d) ∧ (items.length ≤ i → J.stop i H)
def IterD (wi : TI) (ρ : List Slot) (items : List PyData) : Prop := ∀ (H0 B : Hp) (C : List Addr) (H : Hp) (S : List Addr) (σ : St), Gd K T H0 B C H S σ ρ →
  ∀ R : It → Hp → Prop, (∀ J H2, Ext T H H2 → Feeds K T J (hide H2 S) items → R J H2) → wi σ H R
def TgD (g : TG) (d : PyData) (js : List Nat) (f : List Slot → List Slot) : Prop := ∀ (H0 B : Hp) (C : List Addr) (H : Hp) (S : List Addr) (σ : St) (ρ : List Slot) (v : V), Gd K T H0 B C H S σ ρ → Dt K (hide H S) v d →
  ∀ Q : St → Hp → Prop, (∀ σ', Gd K T H0 B C H S σ' (f ρ) → (∀ vs : List Nat, (∀ j ∈ js, j ∈ vs) → wipe σ' vs = wipe σ vs) → Q σ' H) → g v σ H Q
def TgDs (g : TGs) (ds : List PyData) (js : List Nat) (f : List Slot → List Slot) : Prop := ∀ (H0 B : Hp) (C : List Addr) (H : Hp) (S : List Addr) (σ : St) (ρ : List Slot) (vs : List V), Gd K T H0 B C H S σ ρ → DtAll K (hide H S) vs ds →
  ∀ Q : St → Hp → Prop, (∀ σ', Gd K T H0 B C H S σ' (f ρ) → (∀ vs : List Nat, (∀ j ∈ js, j ∈ vs) → wipe σ' vs = wipe σ vs) → Q σ' H) → g vs σ H Q
end
theorem wipe_set {σ : St} {j : Nat} {o : Option V} : ∀ {vs : List Nat}, j ∈ vs → wipe (σ.set j o) vs = wipe σ vs
  | v :: vs, h => by
    show (wipe (σ.set j o) vs).set v none = (wipe σ vs).set v none
    by_cases m : j ∈ vs
    · rw [wipe_set m]
    · have e : j = v := by
        rcases List.mem_cons.mp h with z | z
        · exact z
        · exact (m z).elim
      subst e
      have key : ∀ ws : List Nat, j ∉ ws → wipe (σ.set j o) ws = (wipe σ ws).set j o := fun ws => by
        induction ws with
        | nil => intro _; rfl
        | cons w ws ih =>
          intro hn
          show (wipe (σ.set j o) ws).set w none = ((wipe σ ws).set w none).set j o
          rw [ih (fun z => hn (List.mem_cons_of_mem _ z))]
          exact List.set_comm _ _ (fun z => hn (z ▸ List.mem_cons_self ..))
      rw [key vs m, List.set_set]
section
variable {K : PySem.W.Frag} {T : Tb} {ρ : List Slot} {te ta tb : TE} {d : PyData} {i : Nat}
theorem tg_name : TgD K T (gName i) d [i] (fun ρ => ρ.set i (.dat d)) := fun H0 B C H S σ ρ v g dv Q hQ =>
  hQ _ (g.set dv) fun vs hv => wipe_set (hv i (List.mem_cons_self ..))
theorem tgs_nil : TgDs K T gNil [] [] (fun ρ => ρ) := fun H0 B C H S σ ρ vs g dv Q hQ => by
  cases dv
  exact ⟨rfl, hQ σ g fun vs hv => rfl⟩
theorem tgs_cons {t : TG} {u : TGs} {ds : List PyData} {js ks : List Nat} {f h : List Slot → List Slot} (h1 : TgD K T t d js f) (h2 : TgDs K T u ds ks h) : TgDs K T (gCons t u) (d :: ds) (js ++ ks) (fun ρ => h (f ρ)) := fun H0 B C H S σ ρ vs g dv Q hQ => by
  cases dv with
  | cons b1 b2 =>
    refine ⟨_, _, rfl, h1 H0 B C H S σ ρ _ g b1 _ fun σ' g' w' => ?_⟩
    refine h2 H0 B C H S σ' _ _ g' b2 _ fun σ2 g2 w2 => hQ σ2 g2 fun vs hv => ?_
    rw [w2 vs fun j hj => hv j (List.mem_append_right _ hj), w' vs fun j hj => hv j (List.mem_append_left _ hj)]
theorem tg_tup {u : TGs} {ds : List PyData} {js : List Nat} {f : List Slot → List Slot} {n : Nat} (h : TgDs K T u ds js f) (hn : ds.length = n) : TgD K T (gTup K n u) (.tuple ds) js f := fun H0 B C H S σ ρ v g dv Q hQ => by
  cases dv with
  | tup h1 a1 => exact ⟨_, _, rfl, sqt_hide h1, a1.len.trans hn, h H0 B C H S σ ρ _ g a1 Q hQ⟩
def iSeq (K : PySem.W.Frag) (tl : TE) : TI := fun σ H R => tl σ H fun x H1 => ∃ a, x = .ref a ∧ ((∃ xs, SqL K H1 a xs ∧ R (Itl K a) H1) ∨ ∃ xs, SqT K H1 a xs ∧ R (Itt K a) H1)
theorem pi_seq {X : Cx} {tg l : Expr} {tl : TE} (hl : PE X l tl) : PI X tg l (iSeq X.K tl) := by
  refine ⟨fun pins s σ H R I h => ?_⟩
  refine thn (hl.run pins s σ H _ I h) fun v s1 ⟨x, H1, I1, r1, q1⟩ => ?_
  obtain ⟨a, e, q⟩ := q1
  subst e
  cases r1
  rcases q with ⟨xs, hq, q⟩ | ⟨xs, hq, q⟩
  · obtain ⟨its, rv, p, hz⟩ := I1.list hq
    refine wpAny_pyIter_list p.isList ?_
    refine ⟨s1.heap.objs.size, [s1.heap.objs.size], _, _, H1, rfl, I1.kept (t' := s1.toks) fun b o e => Heap.get?_push_of_some _ e, turn_list a _, ⟨_, Heap.get?_push_size _ rfl, rfl, rfl⟩, fun b hb => ?_, q⟩
    have e : b = s1.heap.objs.size := by simpa using hb
    subst e
    exact I1.fpOk (Nat.le_refl _) (I1.hok.fresh (Nat.le_refl _))
  · obtain ⟨its, rv, p, hz⟩ := I1.tuple hq
    refine wpAny_pyIter_tuple (show s1.heap.IsTuple a its.toArray from p) ?_
    refine ⟨s1.heap.objs.size, [s1.heap.objs.size], _, _, H1, rfl, I1.kept (t' := s1.toks) fun b o e => Heap.get?_push_of_some _ e, turn_tuple a _, ⟨_, Heap.get?_push_size _ rfl, rfl, rfl⟩, fun b hb => ?_, q⟩
    have e : b = s1.heap.objs.size := by simpa using hb
    subst e
    exact I1.fpOk (Nat.le_refl _) (I1.hok.fresh (Nat.le_refl _))
theorem it_list {ds : List PyData} (h : Ev K T te ρ (.list ds)) : IterD K T (iSeq K te) ρ ds := fun H0 B C H S σ g R hR => by
  refine h H0 B C H S σ g _ fun v H2 e dv => ?_
  cases dv with
  | lst h1 a1 =>
    refine ⟨_, rfl, .inl ⟨_, SqL.of (hide_get h1), hR _ _ e fun i H' S' k l => ?_⟩⟩
    have hq : SqL K H' _ _ := SqL.of (hide_get (k _ _ h1 rfl))
    refine ⟨fun d hd => ?_, fun hl => ⟨_, hq, by rw [a1.len]; exact hl⟩⟩
    obtain ⟨w, hw, dw⟩ := a1.get hd
    refine ⟨⟨_, w, hq, hw⟩, fun x H3 hy => ?_⟩
    obtain ⟨e3, hy⟩ := hy
    subst e3
    have := hy _ hq
    rw [hw] at this
    cases this
    exact ⟨.refl T _, dw.kp k⟩
theorem it_tup {ds : List PyData} (h : Ev K T te ρ (.tuple ds)) : IterD K T (iSeq K te) ρ ds := fun H0 B C H S σ g R hR => by
  refine h H0 B C H S σ g _ fun v H2 e dv => ?_
  cases dv with
  | tup h1 a1 =>
    refine ⟨_, rfl, .inr ⟨_, sqt_hide h1, hR _ _ e fun i H' S' k l => ?_⟩⟩
    have hq : SqT K H' _ _ := sqt_hide (k.sqt h1)
    refine ⟨fun d hd => ?_, fun hl => ⟨_, hq, by rw [a1.len]; exact hl⟩⟩
    obtain ⟨w, hw, dw⟩ := a1.get hd
    refine ⟨⟨_, w, hq, hw⟩, fun x H3 hy => ?_⟩
    obtain ⟨e3, hy⟩ := hy
    subst e3
    have := hy _ hq
    rw [hw] at this
    cases this
    exact ⟨.refl T _, dw.kp k⟩
def rgD (lo : Int) (n : Nat) : List PyData := (List.range n).map fun (k : Nat) => PyData.int (lo + k)
theorem rgD_len (lo : Int) (n : Nat) : (rgD lo n).length = n := by unfold rgD; simp
theorem rgD_get {lo : Int} {n i : Nat} {d : PyData} (h : (rgD lo n)[i]? = some d) : i < n ∧ d = .int (lo + i) := by
  unfold rgD at h
  rw [List.getElem?_map] at h
  cases e : (List.range n)[i]? with
  | none => rw [e] at h; cases h
  | some k =>
    rw [e] at h
    obtain ⟨h1, h2⟩ := List.getElem?_eq_some_iff.mp e
    rw [List.getElem_range] at h2
    subst h2
    rw [List.length_range] at h1
    exact ⟨h1, (Option.some.inj h).symm⟩
theorem feeds_range {lo : Int} {n : Nat} {B : Hp} : Feeds K T (Itr lo n) B (rgD lo n) := fun i H S k l => by
  refine ⟨fun d hd => ?_, fun hl => by rw [rgD_len] at hl; exact hl⟩
  obtain ⟨h1, h2⟩ := rgD_get hd
  refine ⟨h1, fun x H2 hy => ?_⟩
  obtain ⟨e, hx⟩ := hy
  subst e; subst hx; subst h2
  exact ⟨.refl T _, .int _⟩
theorem it_range1 {ta : TA} {j : Int} (h : EvA K T ta ρ [.int j]) (h1 : -(2 ^ 62) ≤ j) (h2 : j < 2 ^ 62) : IterD K T (iRng1 ta) ρ (rgD 0 j.toNat) := fun H0 B C H S σ g R hR =>
  h H0 B C H S σ g _ fun vs H2 e dv => by
    cases dv with
    | cons b1 b2 => cases b2; cases b1; exact ⟨j, rfl, h1, h2, hR _ _ e feeds_range⟩
end

section
variable {K : PySem.W.Frag} {T : Tb} {H0 B : Hp} {C : List Addr} {ρ : List Slot} {tb tz : TS} {D : Ends} {wi : TI} {g : TG} {items : List PyData}
def Nxt (K : PySem.W.Frag) (T : Tb) (H0 B : Hp) (C : List Addr) (I : List Slot → Prop) : St → Hp → Prop := fun σ H => ∃ ρ', I ρ' ∧ Good K T H0 B C ρ' σ H
theorem s_nxt {I : List Slot → Prop} {D : Ends} {ρ' : List Slot} (h : I ρ') (l : Le ρ' ρ) (hD : D.nx = Nxt K T H0 B C I) : Tri K T H0 B C ρ tNext D := fun σ H gd => by
  show D.nx σ H
  rw [hD]
  exact ⟨ρ', h, gd.weak l⟩
theorem s_cont {I : List Slot → Prop} {D : Ends} {ρ' : List Slot} (h : I ρ') (l : Le ρ' ρ) (hD : D.ct = Nxt K T H0 B C I) : Tri K T H0 B C ρ tCont D := fun σ H gd => by
  show D.ct σ H
  rw [hD]
  exact ⟨ρ', h, gd.weak l⟩
theorem s_forG (hi : IterD K T wi ρ items) (I : Nat → List Slot → Prop) (h0 : I 0 ρ)
    (hs : ∀ (B' : Hp) (i : Nat) (d : PyData) (ρi : List Slot), Kp B B' → items[i]? = some d → I i ρi → ∃ js f, TgD K T g d js f ∧ Tri K T H0 B' C (f ρi) tb { D with nx := Nxt K T H0 B' C (I (i + 1)), ct := Nxt K T H0 B' C (I (i + 1)), bk := D.nx })
    (hd : ∀ ρn, I items.length ρn → Tri K T H0 B C ρn tNext D) : Tri K T H0 B C ρ (tFor wi g tb) D := fun σ H ⟨S, gd⟩ => by
  refine hi H0 B C H S σ gd _ fun J H2 e fd => ?_
  have g2 := (gd.ex e)
  have hB : Kp B (hide H2 S) := g2.see
  refine ⟨fun i m σ H => m = items.length - i ∧ i ≤ items.length ∧ Nxt K T H0 (hide H2 S) C (I i) σ H, ⟨items.length, by simp, Nat.zero_le _, ρ, h0, S, g2.rebase⟩, ?_⟩
  rintro i m σ H ⟨rfl, hil, ρi, hI, S', g'⟩
  obtain ⟨f1, f2⟩ := fd i H S' g'.see g'.lst
  by_cases hlt : i < items.length
  · obtain ⟨go, yl⟩ := f1 items[i] (List.getElem?_eq_getElem hlt)
    refine .inr ⟨go, Nxt K T H0 (hide H2 S) C (I (i + 1)), fun σ' H' n => ⟨items.length - (i + 1), by omega, rfl, hlt, n⟩, fun x H' hy => ?_⟩
    obtain ⟨ex, dx⟩ := yl x H' hy
    obtain ⟨js, f, tg, tr⟩ := hs (hide H2 S) i _ ρi hB (List.getElem?_eq_getElem hlt) hI
    exact tg H0 _ C H' S' σ ρi x (g'.ex ex) dx _ fun σ' gf _ => tr σ' H' ⟨S', gf⟩
  · have e1 : i = items.length := by omega
    subst e1
    exact .inl ⟨f2 (Nat.le_refl _), hd ρi hI σ H ⟨S', g'.unbase hB gd.bno⟩⟩
theorem q_forG (hi : IterD K T wi ρ items) (I : Nat → List Slot → Prop) (h0 : I 0 ρ)
    (hs : ∀ (B' : Hp) (i : Nat) (d : PyData) (ρi : List Slot), Kp B B' → items[i]? = some d → I i ρi → ∃ js f, TgD K T g d js f ∧ Tri K T H0 B' C (f ρi) tb { D with nx := Nxt K T H0 B' C (I (i + 1)), ct := Nxt K T H0 B' C (I (i + 1)), bk := tz D })
    (hd : ∀ ρn, I items.length ρn → Tri K T H0 B C ρn tz D) : Tri K T H0 B C ρ (tSeq (tFor wi g tb) tz) D := s_seq (s_forG (D := { D with nx := tz D }) hi I h0 hs hd)
theorem Le.set {a b : List Slot} (h : Le a b) : ∀ (j : Nat) (s : Slot), Le (a.set j s) (b.set j s) := by
  induction h with
  | nil => intro j s; exact .nil
  | no h ih =>
    intro j s
    cases j with
    | zero => exact .eq h
    | succ j => exact .no (ih j s)
  | eq h ih =>
    intro j s
    cases j with
    | zero => exact .eq h
    | succ j => exact .eq (ih j s)
end

def wipeS (ρ : List Slot) : List Nat → List Slot
  | [] => ρ
  | v :: vs => (wipeS ρ vs).set v .no
section
variable {K : PySem.W.Frag} {T : Tb} {H0 B : Hp} {C : List Addr} {H H' : Hp} {S : List Addr} {σ : St} {ρ : List Slot}
theorem Gd.no (g : Gd K T H0 B C H S σ ρ) (i : Nat) : Gd K T H0 B C H S (σ.set i none) (ρ.set i .no) where
  ext := g.ext
  vis := g.vis
  bno := g.bno
  hid := g.hid
  lst := g.lst
  sub := g.sub
  cl := g.cl
  len := by rw [List.length_set, List.length_set]; exact g.len
  dat := fun j d e => by
    by_cases z : i = j
    · subst z; cases set_get e
    · rw [List.getElem?_set_ne z] at e ⊢
      exact g.dat j d e
  scr := fun j d e => by
    by_cases z : i = j
    · subst z; cases set_get e
    · rw [List.getElem?_set_ne z] at e ⊢
      exact g.scr j d e
  raw := fun j d e => by
    by_cases z : i = j
    · subst z; cases set_get e
    · rw [List.getElem?_set_ne z] at e ⊢
      exact g.raw j d e
  own := fun j d e => by
    by_cases z : i = j
    · subst z; cases set_get e
    · rw [List.getElem?_set_ne z] at e ⊢
      exact g.own j d e
  sep := fun a b ds es p ha hb sa sb => by
    have za : i ≠ a := fun z => by subst z; cases set_get ha
    have zb : i ≠ b := fun z => by subst z; cases set_get hb
    rw [List.getElem?_set_ne za] at ha sa
    rw [List.getElem?_set_ne zb] at hb sb
    exact g.sep a b ds es p ha hb sa sb
  rob := g.rob.step (.set rfl)
  hc := g.hc
  obs := g.obs.step (.set rfl) (.refl _) (fun _ _ _ _ h => h) (fun _ _ _ h => h) (fun a j q o ha hb f => by
    have zb : i ≠ j := fun z => by subst z; cases set_get ha
    rw [List.getElem?_set_ne zb] at ha hb
    exact g.obs.dl a j q o f ha hb)
theorem Gd.wiped (g : Gd K T H0 B C H S σ ρ) : ∀ vs : List Nat, Gd K T H0 B C H S (wipe σ vs) (wipeS ρ vs)
  | [] => g
  | v :: vs => (g.wiped vs).no v
structure NotMine (H : Hp) (σ : St) (ρ : List Slot) (p : Addr) : Prop where
  ow : ∀ (i : Nat) (ds : Ob), ρ[i]? = some (.own ds) → σ[i]? ≠ some (some (.ref p))
  ft : ∀ i, ¬ Foot H σ ρ i p
theorem NotMine.kp (g : Gd K T H0 B C H S σ ρ) {p : Addr} (n : NotMine H σ ρ p) (e : Kp H H') : NotMine H' σ ρ p := ⟨n.ow, fun i f => by
  obtain ⟨o, a, c, dx, fvs, h1, h2, h3, h5, h6, h4⟩ := f
  obtain ⟨a', b1, _, dx', fvs', b2, _, _, b3, _, l⟩ := g.obs.ob i o h1
  rw [h2] at b1; cases b1
  have := e _ _ b2 rfl
  rw [h3] at this
  injection this with this
  injection this with z1 z2 z3
  have e3 := zip_inj (by rw [h5]; exact l) (by rw [b3.len]; exact l) z3
  subst e3 z1 z2
  exact n.ft i ⟨o, a, _, dx, fvs, h1, h2, b2, h5, h6, h4⟩⟩
theorem NotMine.upd {p q : Addr} {u : HO} (n : NotMine H σ ρ p) (hu : ∀ C dx fvs, u ≠ .ins C dx fvs) : NotMine (upd H q u) σ ρ p := ⟨n.ow, fun i f => by
  obtain ⟨o, a, c, dx, fvs, h1, h2, h3, h5, h6, h4⟩ := f
  by_cases z : a = q
  · subst z
    rw [upd_same] at h3
    exact hu _ _ _ (Option.some.inj h3)
  · rw [upd_ne z] at h3
    exact n.ft i ⟨o, a, _, dx, fvs, h1, h2, h3, h5, h6, h4⟩⟩
theorem Gd.notMine (g : Gd K T H0 B C H S σ ρ) {p : Addr} (hp : Fresh H p) : NotMine H σ ρ p := by
  refine ⟨fun i ds h z => ?_, fun i f => ?_⟩
  · obtain ⟨q, ys, a, b, c, d, f⟩ := g.own i ds h
    rw [z] at a
    cases a
    exact Bool.false_ne_true (f.nt.symm.trans (hp _ d))
  · obtain ⟨_, _, u, hu, m⟩ := g.obs.foot f
    exact Bool.false_ne_true ((mutO.nt m).symm.trans (hp _ hu))
theorem Gd.lay (g : Gd K T H0 B C H S σ ρ) {p : Addr} {xs : List V} (hp : H p = none) : Gd K T H0 B C (upd H p (.lst xs)) (p :: S) σ ρ ∧ NotMine (upd H p (.lst xs)) σ ρ p := by
  have e : Ext T H (upd H p (.lst xs)) := .new hp
  have fr : Fresh H p := .of hp
  have eh := hide_new (H := H) (S := S) (o := .lst xs) fr
  refine ⟨{ ext := g.ext.trans e, vis := g.vis.trans e.kp, bno := g.bno, hid := fun q hq => ?_, lst := fun q hq => ?_, sub := fun c hc => List.mem_cons_of_mem _ (g.sub c hc), cl := g.cl, len := g.len, dat := fun i d h => ?_, scr := fun i d h => ?_, raw := g.raw, own := fun i d h => ?_, sep := g.sep, rob := g.rob, hc := fun q hq => ?_, obs := g.obs.step (.refl σ ρ) (by rw [eh]; exact .refl _) (fun i q u f h => e.kp q u h (g.obs.fnt f h)) (fun _ _ _ m => List.mem_cons_of_mem _ m) (fun i j q o a b f => g.obs.dl i j q o f a b) }, ?_⟩
  · rcases List.mem_cons.mp hq with z | z
    · subst z; exact g.bnone fr
    · exact g.hid q z
  · rcases List.mem_cons.mp hq with z | z
    · subst z; exact ⟨_, upd_same, rfl⟩
    · exact g.lst.kp e.kp q z
  · rw [eh]; exact g.dat i d h
  · rw [eh]; exact g.scr i d h
  · rw [eh]
    obtain ⟨q, ys, a, b, c, d, f⟩ := g.own i d h
    exact ⟨q, ys, a, List.mem_cons_of_mem _ b, c, e.kp q _ d f.nt, f⟩
  · rcases List.mem_cons.mp hq with z | z
    · subst z; exact .inr (fr.back g.ext.kp)
    · exact g.hc q z
  · exact (g.notMine fr).kp g e.kp
theorem Gd.poke (g : Gd K T H0 B C H S σ ρ) {p : Addr} {xs ys : List V} (hm : p ∈ S) (h0 : Fresh H0 p) (hn : NotMine H σ ρ p) (hp : H p = some (.lst xs)) : Gd K T H0 B C (upd H p (.lst ys)) S σ ρ := by
  have eh : hide (upd H p (.lst ys)) S = hide H S := hide_upd hm
  have keep : ∀ b o, H b = some o → b ≠ p → (upd H p (.lst ys)) b = some o := fun b o e z => by rw [upd_ne z]; exact e
  exact {
    ext := ⟨fun b o e n => keep b o (g.ext.kp b o e n) (fun z => by subst z; rw [h0 o e] at n; cases n), fun t => tabs_lst hp (g.ext.tb t)⟩
    vis := fun b o e n => keep b o (g.vis b o e n) (fun z => by subst z; rw [g.hid _ hm] at e; cases e)
    bno := g.bno
    hid := g.hid
    lst := fun q hq => by
      by_cases z : q = p
      · subst z; exact ⟨_, upd_same, rfl⟩
      · obtain ⟨zs, e, m⟩ := g.lst q hq
        exact ⟨zs, keep q _ e z, m⟩
    sub := g.sub
    cl := g.cl
    len := g.len
    dat := fun j d q => by rw [eh]; exact g.dat j d q
    scr := fun j d q => by rw [eh]; exact g.scr j d q
    raw := g.raw
    own := fun j fs q => by
      rw [eh]
      obtain ⟨q', zs, b1, b2, b3, b4, b5⟩ := g.own j fs q
      refine ⟨q', zs, b1, b2, b3, keep q' _ b4 (fun w => ?_), b5⟩
      subst w
      exact hn.ow j fs q b1
    sep := g.sep
    rob := g.rob
    hc := g.hc
    obs := g.obs.step (.refl σ ρ) (by rw [eh]; exact .refl _) (fun i q u f e => keep q u e (fun z => by subst z; exact hn.ft i f)) (fun _ _ _ m => m) (fun i j q o a b f => g.obs.dl i j q o f a b) }
theorem NotMine.set {p : Addr} (h : NotMine H σ ρ p) {v : Nat} {x : Option V} {s : Slot} (h1 : s.ol = false) (h2 : ∀ o, s ≠ .own o) : NotMine H (σ.set v x) (ρ.set v s) p := ⟨fun i ds e z => by
    by_cases w : v = i
    · subst w
      exact h2 _ (set_get e)
    · rw [List.getElem?_set_ne w] at e z
      exact h.ow i ds e z, fun i f => by
    obtain ⟨o, a, c, dx, fvs, g1, g2, g3, g5, g6, g4⟩ := f
    by_cases w : v = i
    · subst w
      have := set_get g1
      subst this
      cases h1
    · rw [List.getElem?_set_ne w] at g1 g2
      exact h.ft i ⟨o, a, c, dx, fvs, g1, g2, g3, g5, g6, g4⟩⟩
theorem notMine_wipe {p : Addr} (h : NotMine H σ ρ p) : ∀ vs : List Nat, NotMine H (wipe σ vs) (wipeS ρ vs) p
  | [] => h
  | v :: vs => (notMine_wipe h vs).set rfl (fun o z => by cases z)
variable {wi : TI} {g : TG} {tt : TT} {te : TE} {vs : List Nat} {items : List PyData}
theorem ef_lc (F : PyData → Option PyData) (hi : IterD K T wi ρ items) (hz : items.length ≤ 1000000)
    (hs : ∀ (i : Nat) (d : PyData), items[i]? = some d → ∃ js f b, TgD K T g d js f ∧ (∀ j ∈ js, j ∈ vs) ∧ EvT K T tt (f (wipeS ρ vs)) b ∧ (b = true → ∃ y, F d = some y ∧ Ev K T te (f (wipeS ρ vs)) y) ∧ (b = false → F d = none)) :
    EvF K T (tLc wi g tt te vs) ρ (items.filterMap F) := fun H0 B C H S σ gd Q hQ => by
  refine hi H0 B C H S σ gd _ fun J H1 e1 fd => ?_
  intro D hD
  have g1 := gd.ex e1
  obtain ⟨gl, nm⟩ := g1.lay (xs := []) hD
  have gw := gl.wiped vs
  have nw := notMine_wipe nm vs
  have frD : Fresh H D := (Fresh.of hD).back e1.kp
  have fr0 : Fresh H0 D := frD.back gd.ext.kp
  have sees : Kp (hide H1 S) (hide (upd H1 D (.lst [])) (D :: S)) := by rw [hide_new (.of hD)]; exact .refl _
  refine ⟨fun i m Hc => m = items.length - i ∧ i ≤ items.length ∧ ∃ acc, Gd K T H0 B C Hc (D :: S) (wipe σ vs) (wipeS ρ vs) ∧ Ext T H Hc ∧ Kp (hide H1 S) (hide Hc (D :: S)) ∧ Hc D = some (.lst acc) ∧ DtAll K (hide Hc (D :: S)) acc ((items.take i).filterMap F), ⟨items.length, by simp, Nat.zero_le _, [], gw, e1.trans (.new hD), sees, upd_same, .nil⟩, ?_⟩
  rintro i m Hc ⟨rfl, hil, acc, gc, ec, sc, hc, dc⟩
  obtain ⟨f1, f2⟩ := fd i Hc (D :: S) sc gc.lst
  by_cases hlt : i < items.length
  · obtain ⟨go, yl⟩ := f1 items[i] (List.getElem?_eq_getElem hlt)
    have htk : items.take (i + 1) = items.take i ++ [items[i]] := (List.take_append_getElem hlt).symm
    refine .inr ⟨go, fun Hn => ∃ acc, Gd K T H0 B C Hn (D :: S) (wipe σ vs) (wipeS ρ vs) ∧ Ext T H Hn ∧ Kp (hide H1 S) (hide Hn (D :: S)) ∧ Hn D = some (.lst acc) ∧ DtAll K (hide Hn (D :: S)) acc ((items.take (i + 1)).filterMap F), fun Hn hn => ⟨items.length - (i + 1), by omega, rfl, hlt, hn⟩, fun x H' hy => ?_⟩
    obtain ⟨ex, dx⟩ := yl x H' hy
    obtain ⟨js, f, b, tg, hj, ht, h1, h2⟩ := hs i _ (List.getElem?_eq_getElem hlt)
    refine tg H0 B C H' (D :: S) (wipe σ vs) (wipeS ρ vs) x (gc.ex ex) dx _ fun σ2 g2 w2 => ⟨?_, ?_⟩
    · have ww : wipe (wipe σ vs) vs = wipe σ vs := by
        have key : ∀ ws : List Nat, (∀ v ∈ ws, v ∈ vs) → wipe (wipe σ ws) vs = wipe σ vs := fun ws => by
          induction ws with
          | nil => intro _; rfl
          | cons v ws ih =>
            intro hv
            show wipe ((wipe σ ws).set v none) vs = wipe σ vs
            rw [wipe_set (hv v (List.mem_cons_self ..)), ih fun u hu => hv u (List.mem_cons_of_mem _ hu)]
        exact key vs fun v hv => hv
      rw [w2 vs hj, ww]
    · refine ht H0 B C H' (D :: S) σ2 g2 _ fun H3 e3 => ?_
      have g3 := g2.ex e3
      have ec3 : Ext T Hc H3 := ex.trans e3
      cases b with
      | true =>
        obtain ⟨y, hF, hy'⟩ := h1 rfl
        refine iteT (hy' H0 B C H3 (D :: S) σ2 g3 _ fun v H4 e4 dv => ?_)
        have ec4 := ec3.trans e4
        have hD4 : H4 D = some (.lst acc) := ec4.kp D _ hc rfl
        have gc4 := (gc.ex ec4)
        have dc4 := dc.kp (ec4.kp.hide (D :: S))
        refine ⟨acc, hD4, ?_, acc ++ [v], ?_, ?_, ?_, upd_same, ?_⟩
        · have q := dc.len
          have q2 : ((items.take i).filterMap F).length ≤ (items.take i).length := List.length_filterMap_le ..
          have q3 : (items.take i).length ≤ items.length := by rw [List.length_take]; omega
          have q4 : (1000000 : Nat) < sizeLine := by decide
          omega
        · exact gc4.poke (List.mem_cons_self ..) fr0 (notMine_wipe ((gd.notMine frD).kp gd (ec.trans ec4).kp) vs) hD4
        · have q := ec.trans ec4
          exact ⟨fun b o hb n => by
            have hb' := q.kp b o hb n
            rw [upd_ne (fun z => by subst z; rw [frD o hb] at n; cases n)]
            exact hb', fun t => tabs_lst hD4 (q.tb t)⟩
        · rw [hide_upd (List.mem_cons_self ..)]
          exact sc.trans (ec4.kp.hide _)
        · rw [hide_upd (List.mem_cons_self ..), htk, List.filterMap_append]
          have : List.filterMap F [items[i]] = [y] := by simp [hF]
          rw [this]
          exact dc4.app (.cons dv .nil)
      | false =>
        refine iteF ⟨acc, gc.ex ec3, ec.trans ec3, sc.trans (ec3.kp.hide _), ec3.kp D _ hc rfl, ?_⟩
        rw [htk, List.filterMap_append]
        have : List.filterMap F [items[i]] = [] := by simp [h2 rfl]
        rw [this, List.append_nil]
        exact dc.kp (ec3.kp.hide _)
  · have e0 : i = items.length := by omega
    subst e0
    rw [List.take_length] at dc
    exact .inl ⟨f2 (Nat.le_refl _), hQ D acc Hc ec frD hc dc⟩
end

abbrev FnP (K : PySem.W.Frag) (x : Str) (st : Stmt) (dvs : List V) (f : Addr) (fd : FuncData) : Prop := FunD K x x (defArgs st) (defBody st) (defScope st) dvs [] f fd
section
variable {P : Program} {w : World} {K : PySem.W.Frag} {T : Tb} {mg : Str → Option Value} {base : Heap}
def slots (n : Nat) (ds : List PyData) : List Slot := ds.map Slot.dat ++ List.replicate (n - ds.length) .no
theorem gd_start {H : Hp} {S : List Addr} {vs : List V} {ds : List PyData} {N : List Str} (l : LsT T H S) (h : DtAll K (hide H S) vs ds) : Gd K T H (hide H S) S H S (start N vs) (slots N.length ds) where
  ext := .refl T H
  vis := hide_kp H S
  bno := fun b o h => (hide_some.mp h).2.2
  hid := fun p hp => hide_mem hp
  lst := l.1
  sub := fun c hc => hc
  cl := l
  len := by unfold L2.start slots; simp [h.len]
  dat := fun i d e => by
    unfold slots at e
    unfold L2.start
    by_cases hi : i < ds.length
    · rw [List.getElem?_append_left (by rw [List.length_map]; exact hi), List.getElem?_map] at e
      cases q : ds[i]? with
      | none => rw [q] at e; cases e
      | some d' =>
        rw [q] at e
        cases e
        obtain ⟨v, hv, dv⟩ := h.get q
        refine ⟨v, ?_, dv⟩
        rw [List.getElem?_append_left (by rw [List.length_map, h.len]; exact hi), List.getElem?_map, hv]
        rfl
    · rw [List.getElem?_append_right (by rw [List.length_map]; omega)] at e
      have := List.mem_of_getElem? e
      have := (List.mem_replicate.mp this).2
      cases this
  scr := fun i d e => by
    unfold slots at e
    have := List.mem_of_getElem? e
    rcases List.mem_append.mp this with z | z
    · obtain ⟨_, _, z⟩ := List.mem_map.mp z; cases z
    · have := (List.mem_replicate.mp z).2; cases this
  own := fun i d e => by
    unfold slots at e
    have := List.mem_of_getElem? e
    rcases List.mem_append.mp this with z | z
    · obtain ⟨_, _, z⟩ := List.mem_map.mp z; cases z
    · have := (List.mem_replicate.mp z).2; cases this
  raw := fun i d e => by
    unfold slots at e
    have := List.mem_of_getElem? e
    rcases List.mem_append.mp this with z | z
    · obtain ⟨_, _, z⟩ := List.mem_map.mp z; cases z
    · have := (List.mem_replicate.mp z).2; cases this
  sep := fun i j d es p e => by
    unfold slots at e
    have := List.mem_of_getElem? e
    rcases List.mem_append.mp this with z | z
    · obtain ⟨_, _, z⟩ := List.mem_map.mp z; cases z
    · have := (List.mem_replicate.mp z).2; cases this
  rob := fun i d e => by
    unfold slots at e
    have := List.mem_of_getElem? e
    rcases List.mem_append.mp this with z | z
    · obtain ⟨_, _, z⟩ := List.mem_map.mp z; cases z
    · have := (List.mem_replicate.mp z).2; cases this
  hc := fun q hq => .inl hq
  obs := .none fun i d e => by
    unfold slots at e
    have := List.mem_of_getElem? e
    rcases List.mem_append.mp this with z | z
    · obtain ⟨_, _, z⟩ := List.mem_map.mp z; cases z
    · have := (List.mem_replicate.mp z).2; cases this
end
end Lw

set_option Elab.async false
set_option linter.all false
set_option maxRecDepth 100000
set_option maxHeartbeats 4000000
set_option autoImplicit false
namespace Lw
open PySem L2
structure Cal (P : Program) (w : World) (K : PySem.W.Frag) (mg : Str → Option Value) (base : Heap) (k : Nat) (x : Str) (ps : List Str) (dvs : List V) (sp : Sp) : Prop where
  ex : ∃ (f : Addr) (fd : FuncData) (ds : List Value), FnOk P w K mg base CX0 k f fd ps sp ∧ mg x = some (.ref f) ∧ PySem.W.keepIn K (.ref f) = true ∧ Binds K fd ps ds ∧ Vals dvs ds
section
variable {X : Cx} {k j : Nat} {x : Str} {ps : List Str} {dvs : List V} {sp : Sp} {p pos : Pos} {e : Expr} {es : List Expr} {t : TA}
theorem pe_callC (c : Cal X.prog X.w X.K X.mg X.base k x ps dvs sp) (hr : Room j X.A) (hg : Gl X x) (ha : PA X (e :: es) t) (hk : k ≤ j := by decide) (hdb : (x == ("__debug__" : Str)) = false := by decide)
    (he : starEach (e :: es) X.env = (false, eval e X.env) :: starEach es X.env := by rfl) (hpl : (backTo pos (starEach es X.env)).any (·.1) = false := by rfl) : PE X (.Call (.Name x p) (e :: es) [] pos) (tCall sp dvs E0 t) := by
  obtain ⟨f, fd, ds, G, m, kp, b, v⟩ := c.ex
  exact pe_call G (hr.mono hk) hg m kp b v pass0 ha hdb he hpl
end
structure Blt (mg : Str → Option Value) : Prop where
  len : mg "len" = none
  range : mg "range" = none
  abs : mg "abs" = none
  int : mg "int" = none
  list : mg "list" = none
  tuple : mg "tuple" = none
  all : mg "all" = none
  any : mg "any" = none
  str : mg "str" = none
  sum : mg "sum" = none
  max : mg "max" = none
  min : mg "min" = none
  zip : mg "zip" = none
  enumerate : mg "enumerate" = none
  isinstance : mg "isinstance" = none
  sorted : mg "sorted" = none
  reversed : mg "reversed" = none
  bool : mg "bool" = none
  ValueError : mg "ValueError" = none
  ZeroDivisionError : mg "ZeroDivisionError" = none
  dict : mg "dict" = none
section
variable {K : PySem.W.Frag} {T : Tb} {H0 B : Hp} {C : List Addr} {ρ : List Slot} {te : TE} {tz : TS} {D : Ends}
theorem s_asgT {g : TG} {d : PyData} {js : List Nat} {f : List Slot → List Slot} (h : Ev K T te ρ d) (hg : TgD K T g d js f) (k : Tri K T H0 B C (f ρ) tNext D) : Tri K T H0 B C ρ (tAsg te g) D := fun σ H ⟨S, gd⟩ =>
  h H0 B C H S σ gd _ fun v H2 e dv => hg H0 B C H2 S σ ρ v (gd.ex e) dv _ fun σ' g' _ => k σ' H2 ⟨S, g'⟩
end
def Bt (n : Nat) (i : Int) : Prop := i.natAbs < 2 ^ n
theorem Bt.mono {n m : Nat} {i : Int} (h : Bt n i) (l : n ≤ m) : Bt m i := Nat.lt_of_lt_of_le h (Nat.pow_le_pow_right (by decide) l)
theorem Bt.mul {n m : Nat} {i j : Int} (h : Bt n i) (h' : Bt m j) : Bt (n + m) (i * j) := by
  unfold Bt at *
  rw [Int.natAbs_mul, Nat.pow_add]
  exact Nat.mul_lt_mul'' h h'
theorem Bt.add {n : Nat} {i j : Int} (h : Bt n i) (h' : Bt n j) : Bt (n + 1) (i + j) := by
  unfold Bt at *
  rw [Nat.pow_succ]
  omega
theorem Bt.sub {n : Nat} {i j : Int} (h : Bt n i) (h' : Bt n j) : Bt (n + 1) (i - j) := by
  unfold Bt at *
  rw [Nat.pow_succ]
  omega
theorem Bt.neg {n : Nat} {i : Int} (h : Bt n i) : Bt n (-i) := by
  unfold Bt at *
  omega
theorem Bt.le {n : Nat} {i j : Int} (h : Bt n i) (l : j.natAbs ≤ i.natAbs) : Bt n j := Nat.lt_of_le_of_lt l h
theorem Bt.bits {n : Nat} {i : Int} (h : Bt n i) : Builtin.Int.intBits i ≤ n := by
  unfold Builtin.Int.intBits
  split
  · exact Nat.zero_le _
  · rename_i hz
    have z : i.natAbs ≠ 0 := by
      intro e
      apply hz
      have : i = 0 := Int.natAbs_eq_zero.mp e
      rw [this]; rfl
    have : i.natAbs.log2 < n := (Nat.log2_lt z).mpr h
    omega
theorem mulOk {n m : Nat} {i j : Int} (h : Bt n i) (h' : Bt m j) (l : n + m ≤ 100000000) : IntMulOk i j := by
  unfold IntMulOk
  intro z
  have b1 := h.bits
  have b2 := h'.bits
  rw [Bool.and_eq_true] at z
  have z2 := z.2
  unfold Builtin.Int.intTooBig at z2
  have z3 := of_decide_eq_true z2
  have : bitsLine = 134217728 := by decide
  rw [this] at z3
  omega
theorem mulOkL {i j : Int} (h : i.natAbs < 18446744073709551616) : IntMulOk i j := .of_left (intBits_le_64 (by omega) (by omega))
theorem mulOkR {i j : Int} (h : j.natAbs < 18446744073709551616) : IntMulOk i j := .of_right (intBits_le_64 (by omega) (by omega))
theorem cpowOk {i j : Int} (h : 0 ≤ j ∧ j ≤ 1000000 ∧ i.natAbs < 18446744073709551616) : CPow i j := h
theorem fdOkS {i j : Int} (h0 : j ≠ 0) (h : j.natAbs < 1073741824) : CFd i j := ⟨h0, PyProof.noPylong_small h⟩
end Lw

set_option Elab.async false
set_option linter.all false
set_option maxRecDepth 100000
set_option maxHeartbeats 4000000
set_option autoImplicit false
namespace Lw
open PySem L2
def encR (q : Rat) : PyData := .tuple [.int q.num, .int (q.den : Int)]
def Sz (n : Nat) (q : Rat) : Prop := q.num.natAbs < 2 ^ n ∧ q.den < 2 ^ n
theorem Sz.mono {n m : Nat} {q : Rat} (h : Sz n q) (l : n ≤ m) : Sz m q := ⟨Nat.lt_of_lt_of_le h.1 (Nat.pow_le_pow_right (by decide) l), Nat.lt_of_lt_of_le h.2 (Nat.pow_le_pow_right (by decide) l)⟩
theorem Sz.num {n : Nat} {q : Rat} (h : Sz n q) : Bt n q.num := h.1
theorem Sz.den {n : Nat} {q : Rat} (h : Sz n q) : Bt n (q.den : Int) := by
  show ((q.den : Int)).natAbs < 2 ^ n
  rw [Int.natAbs_natCast]
  exact h.2
theorem eqv_encR (a b : Rat) : PyData.eqv (encR a) (encR b) = decide (a = b) := by
  unfold encR
  simp only [PyData.eqv, PyData.eqvAll, Bool.and_true]
  by_cases h : a = b
  · subst h; simp
  · rw [decide_eq_false h]
    by_cases h1 : a.num = b.num
    · have h2 : ¬ (a.den : Int) = (b.den : Int) := fun z => h (Rat.ext h1 (Int.ofNat.inj z))
      simp [h1, h2]
    · simp [h1]
theorem rv_ixP0 {K : PySem.W.Frag} {T : Tb} {q : Rat} : RV K T (rIx K) (encR q) (.int 0) (.int q.num) := rv_ixT (ds := [.int q.num, .int (q.den : Int)]) rfl
theorem rv_ixP1 {K : PySem.W.Frag} {T : Tb} {q : Rat} : RV K T (rIx K) (encR q) (.int 1) (.int (q.den : Int)) := rv_ixT (ds := [.int q.num, .int (q.den : Int)]) rfl
theorem eqv_int (i j : Int) : PyData.eqv (.int i) (.int j) = decide (i = j) := by
  show (i == j) = decide (i = j)
  by_cases h : i = j <;> simp [h]
theorem shaped_int (i : Int) : SeqAt.shaped (.int i) = true := rfl
theorem shaped_encR (a : Rat) : SeqAt.shaped (encR a) = true := by
  unfold encR SeqAt.shaped
  simp [PyData.canLay0, PyData.canLayAll0, PyData.depth, PyData.depthAll]
theorem gcd_step {a b : Int} (ha : 0 ≤ a) (hb : 0 < b) : Int.gcd b (a.fmod b) = Int.gcd a b := by
  rw [Int.fmod_eq_emod_of_nonneg a (by omega)]
  obtain ⟨m, rfl⟩ := Int.eq_ofNat_of_zero_le ha
  obtain ⟨n, rfl⟩ := Int.eq_ofNat_of_zero_le (Int.le_of_lt hb)
  rw [← Int.natCast_emod]
  show Nat.gcd n (m % n) = Nat.gcd m n
  rw [Nat.gcd_comm m n, Nat.gcd_rec n m, Nat.gcd_comm]
theorem part_num {u l : Int} (hl : l ≠ 0) : (if l < 0 then -u else u).fdiv ((Int.gcd u l : Nat) : Int) = (Rat.divInt u l).num := by
  have hg : (0 : Int) ≤ ((Int.gcd u l : Nat) : Int) := Int.natCast_nonneg _
  rw [Int.fdiv_eq_ediv_of_nonneg _ hg, Rat.num_divInt, Int.gcd_comm u l]
  congr 1
  by_cases h : l < 0
  · rw [if_pos h, Int.sign_eq_neg_one_of_neg h]; omega
  · rw [if_neg h, Int.sign_eq_one_of_pos (by omega)]; omega
theorem part_den {u l : Int} (hl : l ≠ 0) : (if l < 0 then -l else l).fdiv ((Int.gcd u l : Nat) : Int) = ((Rat.divInt u l).den : Int) := by
  have hg : (0 : Int) ≤ ((Int.gcd u l : Nat) : Int) := Int.natCast_nonneg _
  rw [Int.fdiv_eq_ediv_of_nonneg _ hg, Rat.den_divInt, if_neg hl, Int.gcd_comm u l, Int.natCast_ediv]
  congr 1
  by_cases h : l < 0
  · rw [if_pos h]; omega
  · rw [if_neg h]; omega
theorem gcd_ne {u l : Int} (hl : l ≠ 0) : ((Int.gcd u l : Nat) : Int) ≠ 0 := by
  have := Int.gcd_pos_of_ne_zero_right u hl
  omega
theorem sz_divInt {n : Nat} {u l : Int} (hl : l ≠ 0) (hu : Bt n u) (hb : Bt n l) : Sz n (Rat.divInt u l) := by
  have g0 := Int.gcd_pos_of_ne_zero_right u hl
  refine ⟨?_, ?_⟩
  · rw [← part_num hl, Int.fdiv_eq_ediv_of_nonneg _ (Int.natCast_nonneg _)]
    have h2 : (if l < 0 then -u else u).natAbs = u.natAbs := by split <;> omega
    have h3 : ((if l < 0 then -u else u) / ((Int.gcd u l : Nat) : Int)).natAbs ≤ (if l < 0 then -u else u).natAbs := Int.natAbs_ediv_le_natAbs _ _
    exact Nat.lt_of_le_of_lt (h2 ▸ h3) hu
  · rw [Rat.den_divInt, if_neg hl]
    exact Nat.lt_of_le_of_lt (Nat.div_le_self _ _) hb
theorem add_divInt (a b : Rat) : a + b = Rat.divInt (a.num * b.den + b.num * a.den) (a.den * b.den) := by
  rw [Rat.add_def', ← Rat.divInt_ofNat]; simp
theorem sub_divInt (a b : Rat) : a - b = Rat.divInt (a.num * b.den - b.num * a.den) (a.den * b.den) := by
  rw [Rat.sub_def', ← Rat.divInt_ofNat]; simp
theorem mul_divInt (a b : Rat) : a * b = Rat.divInt (a.num * b.num) (a.den * b.den) := by
  rw [Rat.mul_def', ← Rat.divInt_ofNat]; simp
theorem div_divInt (a b : Rat) : a / b = Rat.divInt (a.num * b.den) (a.den * b.num) := by
  rw [Rat.div_def, Rat.inv_def]
  conv => lhs; rw [← Rat.num_divInt_den a]
  rw [Rat.divInt_mul_divInt]
theorem den_ne (a : Rat) : (a.den : Int) ≠ 0 := by have := a.den_nz; omega
theorem den_pos (a : Rat) : (0 : Int) < (a.den : Int) := by have := a.den_nz; omega
theorem dens_ne (a b : Rat) : (a.den : Int) * (b.den : Int) ≠ 0 := Int.mul_ne_zero (den_ne a) (den_ne b)
theorem sz_add {n m : Nat} {a b : Rat} (ha : Sz n a) (hb : Sz m b) : Sz (n + m + 1) (a + b) := by
  rw [add_divInt]
  refine sz_divInt (dens_ne a b) ?_ ?_
  · exact (ha.num.mul hb.den).add (((hb.num.mul ha.den).mono (by omega)))
  · exact (ha.den.mul hb.den).mono (by omega)
theorem sz_mul {n m : Nat} {a b : Rat} (ha : Sz n a) (hb : Sz m b) : Sz (n + m) (a * b) := by
  rw [mul_divInt]
  exact sz_divInt (dens_ne a b) (ha.num.mul hb.num) (ha.den.mul hb.den)
theorem num_ne {b : Rat} (h : b ≠ 0) : b.num ≠ 0 := fun z => h (Rat.num_eq_zero.mp z)
end Lw

set_option Elab.async false
set_option linter.all false
set_option maxRecDepth 100000
set_option maxHeartbeats 4000000
set_option autoImplicit false
namespace Lw
open PySem L2
inductive Ar (K : PySem.W.Frag) (H : Hp) : List V → List Slot → Prop
  | nil : Ar K H [] []
  | dat {v : V} {d : PyData} {vs : List V} {ss : List Slot} : Dt K H v d → Ar K H vs ss → Ar K H (v :: vs) (.dat d :: ss)
  | scr {a : Addr} {xs : List V} {ds : List PyData} {vs : List V} {ss : List Slot} : SqL K H a xs → DtAll K H xs ds → Ar K H vs ss → Ar K H (.ref a :: vs) (.scr ds :: ss)
  | raw {v : V} {vs : List V} {ss : List Slot} : Ar K H vs ss → Ar K H (v :: vs) (.raw v :: ss)
section
variable {K : PySem.W.Frag} {T : Tb} {H : Hp}
theorem Ar.len : ∀ {vs : List V} {ss : List Slot}, Ar K H vs ss → vs.length = ss.length := by
  intro vs ss h
  induction h with
  | nil => rfl
  | dat _ _ ih => rw [List.length_cons, List.length_cons, ih]
  | scr _ _ _ ih => rw [List.length_cons, List.length_cons, ih]
  | raw _ ih => rw [List.length_cons, List.length_cons, ih]
theorem Ar.getD {vs : List V} {ss : List Slot} (h : Ar K H vs ss) : ∀ {i : Nat} {d : PyData}, ss[i]? = some (.dat d) → ∃ v, vs[i]? = some v ∧ Dt K H v d := by
  induction h with
  | nil => intro i d e; simp at e
  | dat hd _ ih =>
    intro i d e
    cases i with
    | zero => cases e; exact ⟨_, rfl, hd⟩
    | succ i => exact ih e
  | scr _ _ _ ih =>
    intro i d e
    cases i with
    | zero => cases e
    | succ i => exact ih e
  | raw _ ih =>
    intro i d e
    cases i with
    | zero => cases e
    | succ i => exact ih e
theorem Ar.getS {vs : List V} {ss : List Slot} (h : Ar K H vs ss) : ∀ {i : Nat} {ds : List PyData}, ss[i]? = some (.scr ds) → ∃ a xs, vs[i]? = some (.ref a) ∧ SqL K H a xs ∧ DtAll K H xs ds := by
  induction h with
  | nil => intro i d e; simp at e
  | dat hd _ ih =>
    intro i d e
    cases i with
    | zero => cases e
    | succ i => exact ih e
  | scr h1 h2 _ ih =>
    intro i d e
    cases i with
    | zero => cases e; exact ⟨_, _, rfl, h1, h2⟩
    | succ i => exact ih e
  | raw _ ih =>
    intro i d e
    cases i with
    | zero => cases e
    | succ i => exact ih e
theorem Ar.noOwn {vs : List V} {ss : List Slot} (h : Ar K H vs ss) : ∀ {i : Nat} {ds : Ob}, ss[i]? ≠ some (.own ds) := by
  induction h with
  | nil => intro i d e; simp at e
  | dat hd _ ih =>
    intro i d e
    cases i with
    | zero => cases e
    | succ i => exact ih e
  | scr h1 h2 _ ih =>
    intro i d e
    cases i with
    | zero => cases e
    | succ i => exact ih e
  | raw _ ih =>
    intro i d e
    cases i with
    | zero => cases e
    | succ i => exact ih e
theorem Ar.noOl {vs : List V} {ss : List Slot} (h : Ar K H vs ss) : ∀ {i : Nat} {s : Slot}, s.ol = true → ss[i]? ≠ some s := by
  induction h with
  | nil => intro i d z e; simp at e
  | dat hd _ ih =>
    intro i d z e
    cases i with
    | zero => cases e; cases z
    | succ i => exact ih z e
  | scr h1 h2 _ ih =>
    intro i d z e
    cases i with
    | zero => cases e; cases z
    | succ i => exact ih z e
  | raw _ ih =>
    intro i d z e
    cases i with
    | zero => cases e; cases z
    | succ i => exact ih z e
theorem Ar.getR {vs : List V} {ss : List Slot} (h : Ar K H vs ss) : ∀ {i : Nat} {v : V}, ss[i]? = some (.raw v) → vs[i]? = some v := by
  induction h with
  | nil => intro i d e; simp at e
  | dat hd _ ih =>
    intro i d e
    cases i with
    | zero => cases e
    | succ i => exact ih e
  | scr h1 h2 _ ih =>
    intro i d e
    cases i with
    | zero => cases e
    | succ i => exact ih e
  | raw _ ih =>
    intro i d e
    cases i with
    | zero => cases e; rfl
    | succ i => exact ih e
def slotsA (n : Nat) (ss : List Slot) : List Slot := ss ++ List.replicate (n - ss.length) .no
theorem slotsA_get {n : Nat} {ss : List Slot} {i : Nat} {s : Slot} (e : (slotsA n ss)[i]? = some s) (hs : s ≠ .no) : ss[i]? = some s := by
  unfold slotsA at e
  by_cases hi : i < ss.length
  · rwa [List.getElem?_append_left hi] at e
  · rw [List.getElem?_append_right (by omega)] at e
    have := (List.mem_replicate.mp (List.mem_of_getElem? e)).2
    exact absurd this hs
theorem start_get {N : List Str} {vs : List V} {i : Nat} {v : V} (h : vs[i]? = some v) : (L2.start N vs)[i]? = some (some v) := by
  unfold L2.start
  have hl := (List.getElem?_eq_some_iff.mp h).1
  rw [List.getElem?_append_left (by rw [List.length_map]; exact hl), List.getElem?_map, h]
  rfl
theorem gd_startA {S : List Addr} {vs : List V} {ss : List Slot} {N : List Str} (l : LsT T H S) (h : Ar K (hide H S) vs ss) : Gd K T H (hide H S) S H S (L2.start N vs) (slotsA N.length ss) where
  ext := .refl T H
  vis := hide_kp H S
  bno := fun b o h => (hide_some.mp h).2.2
  hid := fun p hp => hide_mem hp
  lst := l.1
  sub := fun c hc => hc
  cl := l
  len := by unfold L2.start slotsA; simp [h.len]
  dat := fun i d e => by
    obtain ⟨v, h1, h2⟩ := h.getD (slotsA_get e (fun z => by cases z))
    exact ⟨v, start_get h1, h2⟩
  scr := fun i d e => by
    obtain ⟨a, xs, h1, h2, h3⟩ := h.getS (slotsA_get e (fun z => by cases z))
    exact ⟨a, xs, start_get h1, h2, h3⟩
  own := fun i d e => (h.noOwn (slotsA_get e (fun z => by cases z))).elim
  raw := fun i v e => start_get (h.getR (slotsA_get e (fun z => by cases z)))
  sep := fun i j d es p e => (h.noOwn (slotsA_get e (fun z => by cases z))).elim
  rob := fun i d e => (h.noOl rfl (slotsA_get e (fun z => by cases z))).elim
  hc := fun q hq => .inl hq
  obs := .none fun i d e => (h.noOl rfl (slotsA_get e (fun z => by cases z))).elim
def spA (K : PySem.W.Frag) (T : Tb) (R : List Slot → (PyData → Prop) → Prop) : Sp := fun vs H Q _ => ∃ ss Post S, LsT T H S ∧ Ar K (hide H S) vs ss ∧ R ss Post ∧
  ∀ r, Post r → ∀ v H', Ext T H H' → Dt K (hide H' S) v r → Q v H'
theorem fnA {P : Program} {w : World} {mg : Str → Option Value} {base : Heap} {x : Str} {st : Stmt} {dvs : List V} {f : Addr} {fd : FuncData} {N ps : List Str} {k : Nat} {R : List Slot → (PyData → Prop) → Prop} (F : FnP K x st dvs f fd) (S : FnScope N ps (defScope st)) (len : ∀ ss p, R ss p → ss.length = ps.length)
    (hbody : ∀ (cdv : Value) (A : Around) (outer : List Env) (s : Shared) (H : Hp) (E : XK), Room k (A.deeper (PyProof.Rows.envOfC x (defScope st) s.heap.objs.size f cdv)) →
      ∃ t, PSs (cxOf CX0 P w K mg base N x (defScope st) f cdv A outer s H E).nox (defBody st) t ∧ ∀ ss Post, R ss Post → ∀ (H0 : Hp) (C : List Addr) (D : Ends), (∀ r, Post r → Rt K T H0 C D.rt r) → Tri K T H0 (hide H0 C) C (slotsA N.length ss) t D) :
    FnOk P w K mg base CX0 (k + 1) f fd ps (spA K T R) := by
  refine F.ok S (fun vs H Q E h => ?_) (fun cdv A outer s H vs Q E hr h => ?_)
  · obtain ⟨ss, p, S', l, hd, hR, _⟩ := h
    rw [hd.len]
    exact len ss p hR
  · obtain ⟨ss, p, S', l, hd, hR, hq⟩ := h
    obtain ⟨t, pt, tr⟩ := hbody cdv A outer s H E hr
    exact ⟨t, pt.nox, tr ss p hR H S' _ (fun r hr v H' e dv => hq r hr v H' e dv) _ _ ⟨S', gd_startA l hd⟩⟩
variable {ρ : List Slot}
theorem ef_slS {i : Nat} {ds : List PyData} {tl th : TO} {lo hi : Option Int} (h : ρ[i]? = some (.scr ds)) (h1 : EvP K T tl ρ lo) (h2 : EvP K T th ρ hi) : EvF K T (tSl (rSlX K) (tVar i) tl th) ρ (cutD ds lo hi) := fun H0 B C H S σ g Q hQ => by
  obtain ⟨a, xs, a1, a2, a3⟩ := g.scr i ds h
  refine ⟨.ref a, a1, ?_⟩
  refine h1 H0 B C H S σ g _ fun H2 e2 => h2 H0 B C H2 S σ (g.ex e2) _ fun H3 e3 => ?_
  have e23 := e2.trans e3
  refine .inl ⟨a, xs, rfl, (hide_kp H3 S).sql ((e23.kp.hide S).sql a2), fun p hp => ?_⟩
  refine hQ p _ _ (e23.trans (.new hp)) ((Fresh.of hp).back e23.kp) upd_same ?_
  rw [hide_new (.of hp)]
  exact (a3.kp (e23.kp.hide S)).cut lo hi
def Few (xs : List Int) : Prop := ∀ x ∈ xs, 0 ≤ x ∧ x < 9967
def Rnumbers (ss : List Slot) (Post : PyData → Prop) : Prop := ∃ (ns : List Int) (many : Nat), ns.length ≤ 63 ∧ many ≤ 100000 ∧ ss = [.scr (ns.map .int), .dat (.int many)] ∧
  Post = fun r => ∃ xs : List Int, xs.length = many ∧ Few xs ∧ r = .list (xs.map .int)
theorem Few.app {xs ys : List Int} (h : Few xs) (h' : Few ys) : Few (xs ++ ys) := fun x hx => by
  rcases List.mem_append.mp hx with z | z
  · exact h x z
  · exact h' x z
theorem Few.one {x : Int} (h0 : 0 ≤ x) (h1 : x < 9967) : Few [x] := fun y hy => by
  rw [List.mem_singleton.mp hy]
  exact ⟨h0, h1⟩
theorem q_num {H0 B : Hp} {C : List Addr} {i j many : Nat} {ns : List Int} {E : XK} {tz : TS} {D : Ends} (h : ρ[j]? = some (.scr (ns.map .int))) (hl : ns.length ≤ 63) (hm : many ≤ 100000)
    (k : ∀ xs : List Int, xs.length = many → Few xs → Tri K T H0 B C (ρ.set i (.dat (.list (xs.map .int)))) tz D) :
    Tri K T H0 B C ρ (tSeq (tAsg (tCall (spA K T Rnumbers) [] E (tCons (tVar j) (tCons (tC (.int (many : Int))) tNil))) (gName i)) tz) D := fun σ H ⟨S, g⟩ => by
  obtain ⟨a, xs, a1, a2, a3⟩ := g.scr j _ h
  refine ⟨.ref a, a1, ?_⟩
  refine ⟨[.scr (ns.map .int), .dat (.int many)], _, S, g.lsT (.refl T H), .scr a2 a3 (.dat (.int _) .nil), ⟨ns, many, hl, hm, rfl, rfl⟩, ?_⟩
  rintro r ⟨ys, hy, fy, rfl⟩ v H' e dv
  exact k ys hy fy _ _ ⟨S, (g.ex e).set dv⟩
end
def Rlaw (ss : List Slot) (Post : PyData → Prop) : Prop := ∃ ns : List Int, ns.length ≤ 63 ∧ ss = [.scr (ns.map .int)] ∧ Post = fun r => r = .bool true
end Lw

set_option Elab.async false
set_option linter.all false
set_option maxRecDepth 100000
set_option maxHeartbeats 4000000
set_option autoImplicit false
namespace Lw
open PySem L2
def nthI (xs : List Int) (i : Int) : Int := xs.getD i.toNat 0
theorem atI_in {α : Type} {xs : List α} {i : Int} (h0 : 0 ≤ i) (h1 : i < xs.length) : atI xs i = xs[i.toNat]? := by
  unfold atI ixN
  rw [if_pos h0, if_pos h1]
  rfl
theorem at_nthI {xs : List Int} {i : Int} (h0 : 0 ≤ i) (h1 : i < xs.length) : atI (xs.map PyData.int) i = some (.int (nthI xs i)) := by
  rw [atI_in h0 (by rw [List.length_map]; exact h1), List.getElem?_map]
  have h2 : i.toNat < xs.length := by omega
  unfold nthI
  rw [List.getD_eq_getElem?_getD, List.getElem?_eq_getElem h2]
  rfl
theorem fmod_in {a b : Int} (hb : 0 < b) : 0 ≤ a.fmod b ∧ a.fmod b < b := by
  rw [Int.fmod_eq_emod_of_nonneg a (by omega)]
  exact ⟨Int.emod_nonneg a (by omega), Int.emod_lt_of_pos a hb⟩
theorem cut_from (ds : List PyData) (k : Nat) (h : k ≤ ds.length) : cutD ds (some (k : Int)) none = ds.drop k := by
  unfold cutD
  rw [HT.sIx_nat, HT.sIx_none, Nat.min_eq_left h]
  exact List.take_of_length_le (by rw [List.length_drop]; omega)
theorem cut_fromI (xs : List Int) {i : Int} (h0 : 0 ≤ i) (h : i ≤ xs.length) : cutD (xs.map .int) (some i) none = (xs.drop i.toNat).map .int := by
  obtain ⟨k, rfl⟩ := Int.eq_ofNat_of_zero_le h0
  rw [cut_from _ k (by rw [List.length_map]; omega), List.map_drop]
  rfl
theorem cut_betweenI (xs : List Int) {i j : Int} (h0 : 0 ≤ i) (h1 : i ≤ j) (h : j ≤ xs.length) : cutD (xs.map .int) (some i) (some j) = ((xs.drop i.toNat).take (j - i).toNat).map .int := by
  obtain ⟨k, rfl⟩ := Int.eq_ofNat_of_zero_le h0
  obtain ⟨m, rfl⟩ := Int.eq_ofNat_of_zero_le (Int.le_trans h0 h1)
  unfold cutD
  rw [HT.sIx_nat, HT.sIx_nat, List.length_map, Nat.min_eq_left (by omega), Nat.min_eq_left (by omega), List.map_take, List.map_drop]
  congr 1
  omega
theorem Few.drop {xs : List Int} (h : Few xs) (n : Nat) : Few (xs.drop n) := fun x hx => h x (List.mem_of_mem_drop hx)
theorem Few.take {xs : List Int} (h : Few xs) (n : Nat) : Few (xs.take n) := fun x hx => h x (List.mem_of_mem_take hx)
end Lw

set_option Elab.async false
set_option linter.all false
set_option maxRecDepth 100000
set_option maxHeartbeats 4000000
set_option autoImplicit false
namespace Lw
open PySem L2
section
variable {X : Cx} (K : PySem.W.Frag)
theorem op_addK (h : X.K = K := by rfl) : OpR X (binaryOp .Add) (rAddA K) := h ▸ op_addA
theorem op_eqK (hu : X.A.units + 64 < cLine) (h : X.K = K := by rfl) : OpR X (compareOp .Eq) (rEqD K) := h ▸ op_eqD hu
theorem op_neK (hu : X.A.units + 64 < cLine) (h : X.K = K := by rfl) : OpR X (compareOp .NotEq) (rNeD K) := h ▸ op_neD hu
theorem op_notInK (h : X.K = K := by rfl) : OpR X (compareOp .NotIn) (rIn K true) := h ▸ op_notIn_seq
theorem ix_seqK (h : X.K = K := by rfl) : IxR X (rIx K) := h ▸ ix_seq
theorem sl_anyK (h : X.K = K := by rfl) : SlR X (rSlX K) := h ▸ sl_any
theorem call_lenK (h : X.K = K := by rfl) : CallR X (.builtin "len") (rLenA K) := h ▸ call_len
theorem call_listK (h : X.K = K := by rfl) : CallR X (.type "list") (rListA K) := h ▸ call_list_of
theorem call_tupleK (h : X.K = K := by rfl) : CallR X (.type "tuple") (rTupleA K) := h ▸ call_tuple_of
theorem cr_allK (hc : X.calm = true) (h : X.K = K := by rfl) : CallR X (.builtin "all") (rAll K) := h ▸ cr_all hc
theorem cr_anyK (hc : X.calm = true) (h : X.K = K := by rfl) : CallR X (.builtin "any") (rAny K) := h ▸ cr_any hc
theorem pi_seqK {tg l : Expr} {tl : TE} (hl : PE X l tl) (h : X.K = K := by rfl) : PI X tg l (iSeq K tl) := h ▸ pi_seq hl
theorem pg_tupK {pos : Pos} {es : List Expr} {k : Nat} {t : TGs} {n : Nat} (hc : X.calm = true) (hh : PGs X es t) (h : X.K = K := by rfl)
    (hn : (assignEach es X.env).length = n := by rfl) (hst : (assignEach es X.env).findIdx? (·.1) = none := by rfl) : PG X (.Tuple es k pos) (gTup K n t) := h ▸ pg_tup hc hh hn hst
variable {o e : Expr} {es : List Expr} {to : TE} {t : TA} {name : Str} {apos cpos : Pos} {T id : String} {r : V → List V → Hp → VK → Prop}
theorem pe_bmK (pa : PlainAttrs T) (slot : PySem.Slot T name id) (hty : typeOf (.builtin id) = pure (.type "method_descriptor")) (hm : MtR X id r) (ho : PE X o to) (ha : PA X (e :: es) t) (h : X.K = K := by rfl)
    (hbase : attributeBase o name X.env (eval o X.env) = eval o X.env := by rfl)
    (hfew : ((backTo cpos (starEach (e :: es) X.env)).all (fun x => !x.1) && (backToKw cpos (keywordEach [] X.env)).all (fun x => x.1.isSome)
      && decide ((e :: es).length + ([] : List Keyword).length + (if ([] : List Keyword).isEmpty then 0 else 1) < 30)) = true := by rfl)
    (hline : (apos.endLine == cpos.line) = true := by rfl) (hs : starEach (e :: es) X.env = (false, eval e X.env) :: starEach es X.env := by rfl) (hplain : (backTo cpos (starEach es X.env)).any (·.1) = false := by rfl) :
    PE X (.Call (.Attribute o name apos) (e :: es) [] cpos) (tBM K T r to t) := h ▸ pe_bm pa slot hty hm ho ha hbase hfew hline hs hplain
end
end Lw

set_option Elab.async false
set_option linter.all false
set_option maxRecDepth 100000
set_option maxHeartbeats 4000000
set_option autoImplicit false
namespace LwZ
open PySem
open PySem.Sem (wp)
def Quiet (A : Around) (h : Heap) : Prop := A.handled = none ∨ ∃ x1, HotX.HotAt A x1 h
theorem Quiet.keep {A : Around} {h h' : Heap} {it : Addr} {o : Obj} {vs : Array Value} (q : Quiet A h) (ho : h.get? it = some o) (hd : o.data = .fields vs) (hv : vs[2]? ≠ some .none) (k : ∀ b u, b ≠ it → h.get? b = some u → h'.get? b = some u) : Quiet A h' := by
  rcases q with q | ⟨x1, hh, o1, v1, h1, d1, c1⟩
  · exact .inl q
  · refine .inr ⟨x1, hh, o1, v1, k x1 o1 (fun z => ?_) h1, d1, c1⟩
    subst z
    rw [ho] at h1
    cases h1
    rw [hd] at d1
    cases d1
    exact hv c1
theorem Quiet.all {A : Around} {h h' : Heap} (q : Quiet A h) (k : ∀ b u, h.get? b = some u → h'.get? b = some u) : Quiet A h' := by
  rcases q with q | ⟨x1, hh, o1, v1, h1, d1, c1⟩
  · exact .inl q
  · exact .inr ⟨x1, hh, o1, v1, k x1 o1 h1, d1, c1⟩
def IsSq (tp : Bool) (h : Heap) (l : Addr) (items : Array Value) : Prop := match tp with
  | true => h.IsTuple l items
  | false => h.IsList l items
def IsIt (tp : Bool) (h : Heap) (it l : Addr) (i : Nat) : Prop := match tp with
  | true => h.IsTupleIter it l i
  | false => h.IsListIter it l i
def itN : Bool → String
  | true => "tuple_iterator"
  | false => "list_iterator"
theorem IsIt.get {tp : Bool} {h : Heap} {it l : Addr} {i : Nat} (x : IsIt tp h it l i) : ∃ o, h.get? it = some o ∧ o.cls = .type (itN tp) ∧ o.data = .fields #[.ref l, .int i 0] := by
  cases tp <;> exact x
theorem IsIt.mk {tp : Bool} {h : Heap} {it l : Addr} {i : Nat} (x : ∃ o, h.get? it = some o ∧ o.cls = .type (itN tp) ∧ o.data = .fields #[.ref l, .int i 0]) : IsIt tp h it l i := by
  cases tp <;> exact x
theorem IsIt.ext {tp : Bool} {h h' : Heap} {it l b : Addr} {i : Nat} (x : IsIt tp h it l i) (k : Heap.ExtBut b h h') (hb : it ≠ b) : IsIt tp h' it l i :=
  let ⟨o, h1, h2⟩ := x.get; .mk ⟨o, k it o hb h1, h2⟩
theorem IsIt.at {tp : Bool} {h h' : Heap} {it l : Addr} {i : Nat} (x : IsIt tp h it l i) (k : ∀ o, h.get? it = some o → h'.get? it = some o) : IsIt tp h' it l i :=
  let ⟨o, h1, h2⟩ := x.get; .mk ⟨o, k o h1, h2⟩
theorem IsSq.get {tp : Bool} {h : Heap} {l : Addr} {items : Array Value} (x : IsSq tp h l items) : ∃ o n, h.get? l = some o ∧ o.data = .seq items n := by
  cases tp
  · obtain ⟨o, a, _, n, d⟩ := x; exact ⟨o, n, a, d⟩
  · obtain ⟨o, a, _, n, d⟩ := x; exact ⟨o, n, a, d⟩
theorem IsSq.ext {tp : Bool} {h h' : Heap} {l b : Addr} {items : Array Value} (x : IsSq tp h l items) (k : Heap.ExtBut b h h') (hb : l ≠ b) : IsSq tp h' l items := by
  cases tp
  · exact Heap.IsList.extBut x k hb
  · exact Heap.IsTuple.extBut x k hb
section
variable {prog : Program} {w : World} {A : Around} {E : Value → Shared → Prop} {s : Shared}
theorem nextOf_item {tp : Bool} {it l : Addr} {i : Nat} {items : Array Value} {x : Value} {Q : Value → Shared → Prop} (hit : IsIt tp s.heap it l i) (hl : IsSq tp s.heap l items) (hx : items[i]? = some x)
    (hQ : ∀ h', IsIt tp h' it l (i + 1) → Heap.SameBut it s.heap h' → Q x { s with heap := h' }) : wpAny (model prog w) A (Builtin.SmallTypes.nextOf (.ref it)) Q E s := by
  cases tp with
  | true => exact RZ.nextOf_tuple_item hit hl hx hQ
  | false => exact wpAny_nextOf_list_item hit hl hx hQ
theorem stop_raised {Q : Fin → Shared → Prop} (q : Quiet A s.heap) (hE : ∀ h' e, (∀ b o, s.heap.get? b = some o → h'.get? b = some o) → (∃ o, h'.get? e = some o ∧ o.cls = .type "StopIteration") → E (.ref e) { s with heap := h' }) :
    wpAny (model prog w) A (Builtin.SmallTypes.stopIteration) Q E s := by
  show wpAny _ _ (newExc (.type "StopIteration") [] >>= _) _ _ _
  refine wpAny_bind ?_
  simp only [newExc, newTuple]
  refine wpAny_bind (wpAny_newObj_type ?_ (by size_fits))
  refine wpAny_bind (m := firstArgMember _ _) (wpAny_of_eq (a := Value.none) (by first | rfl | (simp only [firstArgMember]; rfl)) ?_)
  refine wpAny_newObj_type ?_ (by size_fits)
  rcases q with hh | ⟨x1, hh, o1, vs1, h1, d1, c1⟩
  · simp only [raiseNew]
    refine wpAny_bind (wpAny_handled ?_)
    rw [hh]
    refine wpAny_bind (wpAny_pure (wpAny_throw ?_))
    exact hE _ _ (fun b o e => Heap.get?_push_of_some _ (Heap.get?_push_of_some _ e)) ⟨_, Heap.get?_push_size _ rfl, rfl⟩
  · refine HotX.raiseNew_hot ⟨hh, o1, vs1, Heap.get?_push_of_some _ (Heap.get?_push_of_some _ h1), d1, c1⟩ (Nat.ne_of_lt (Heap.lt_size (Heap.get?_push_of_some _ h1))) (Heap.get?_push_size _ rfl) rfl (by first | (simp; done) | (simp; omega) | (simp only [Array.size_append]; simp; omega)) ?_
    refine hE _ _ (fun b o e => ?_) ⟨_, Heap.get?_update_self _ (Heap.get?_push_size _ rfl) rfl, rfl⟩
    rw [Heap.get?_update_other _ _ (Nat.ne_of_gt (Heap.lt_size (Heap.get?_push_of_some _ e)))]
    exact Heap.get?_push_of_some _ (Heap.get?_push_of_some _ e)
theorem nextOf_end {tp : Bool} {it l : Addr} {i : Nat} {items : Array Value} {Q : Value → Shared → Prop} (q : Quiet A s.heap) (hit : IsIt tp s.heap it l i) (hl : IsSq tp s.heap l items) (hx : items[i]? = none)
    (hE : ∀ h' e, Heap.ExtBut it s.heap h' → (∃ o, h'.get? e = some o ∧ o.cls = .type "StopIteration") → E (.ref e) { s with heap := h' }) : wpAny (model prog w) A (Builtin.SmallTypes.nextOf (.ref it)) Q E s := by
  obtain ⟨o, ho, hc, hd⟩ := hit.get
  obtain ⟨ol, nl, hol, hdl⟩ := hl.get
  have tail : ∀ (id : String) (Q' : Fin → Shared → Prop), wpAny (model prog w) A.in1 (do
      let seq ← field (.ref it) 0
      if seq == .none then rule s!"{id}.ended"; Builtin.SmallTypes.stopIteration
      let .int i _ ← field (.ref it) 1 | unsupported s!"internal:{id}"
      let some its ← seqItems? seq | unsupported s!"internal:{id}"
      match its[i.toNat]? with
      | some x => setField (.ref it) 1 (rawInt (i + 1)); ret x
      | none => rule s!"{id}.end"; setField (.ref it) 0 .none; Builtin.SmallTypes.stopIteration) Q' E s := by
    intro id Q'
    refine wpAny_bind (wpAny_field ho hd (x := .ref l) rfl ?_)
    show wpAny _ _ (if (Value.ref l == Value.none) = true then _ else _) _ _ s
    rw [if_neg (show ¬ ((Value.ref l == Value.none) = true) from Bool.false_ne_true)]
    refine wpAny_bind (wpAny_field ho hd (x := .int i 0) rfl ?_)
    refine wpAny_bind (wpAny_seqItems hol hdl ?_)
    simp only [Int.toNat_natCast, hx]
    refine wpAny_bind (wpAny_rule (wpAny_bind (wpAny_setField ho hd (by simp) ?_)))
    have q2 : Quiet A.in1 (s.heap.update it (Obj.mapFields (·.setIfInBounds 0 .none))) :=
      Quiet.keep (A := A.in1) (show Quiet A.in1 s.heap from q) ho hd (by simp) fun b u hb e => by rw [Heap.get?_update_other _ _ (Ne.symm hb)]; exact e
    refine stop_raised (s := { s with heap := s.heap.update it (Obj.mapFields (·.setIfInBounds 0 .none)) }) q2 fun h' e k ho' => hE h' e (fun b u hb z => k b u (by
      rw [Heap.get?_update_other _ _ (Ne.symm hb)]; exact z)) ho'
  unfold Builtin.SmallTypes.nextOf
  cases tp with
  | true =>
    refine wpAny_bind (wpAny_callSpecial?_slot (name := Str.ofString "__next__") (show s.TypeIs (.ref it) "tuple_iterator" from ⟨o, ho, hc⟩) F.slot_tuple_iterator_next
      (wpAny_call_entry F.slot_tuple_iterator_next ⟨o, ho, hc⟩ F.entry_tuple_iterator_next ?_ (F.args_tuple_iterator_next_1 _)))
    exact tail "tuple_iterator.__next__" _
  | false =>
    refine wpAny_bind (wpAny_callSpecial?_slot (name := Str.ofString "__next__") (show s.TypeIs (.ref it) "list_iterator" from ⟨o, ho, hc⟩) slot_listiter_next
      (wpAny_call_entry slot_listiter_next ⟨o, ho, hc⟩ entry_listiter_next ?_ (args_listiter_next _)))
    exact tail "list_iterator.__next__" _
theorem orEnd_item {tp : Bool} {it l : Addr} {i : Nat} {items : Array Value} {x : Value} {Q : Option Value → Shared → Prop} (hit : IsIt tp s.heap it l i) (hl : IsSq tp s.heap l items) (hx : items[i]? = some x)
    (hQ : ∀ h', IsIt tp h' it l (i + 1) → Heap.SameBut it s.heap h' → Q (some x) { s with heap := h' }) : wpAny (model prog w) A (Builtin.SmallTypes.nextOrEnd (.ref it)) Q E s := by
  unfold Builtin.SmallTypes.nextOrEnd
  exact wpAny_bind (wpAny_attempt (nextOf_item hit hl hx fun h' a b => wpAny_pure (hQ h' a b)))
theorem orEnd_end {tp : Bool} {it l : Addr} {i : Nat} {items : Array Value} {Q : Option Value → Shared → Prop} (q : Quiet A s.heap) (hit : IsIt tp s.heap it l i) (hl : IsSq tp s.heap l items) (hx : items[i]? = none)
    (hQ : ∀ h', Heap.ExtBut it s.heap h' → Q none { s with heap := h' }) : wpAny (model prog w) A (Builtin.SmallTypes.nextOrEnd (.ref it)) Q E s := by
  unfold Builtin.SmallTypes.nextOrEnd
  refine wpAny_bind (wpAny_attempt (nextOf_end q hit hl hx fun h' e k ho => ?_))
  obtain ⟨o, ho, hc⟩ := ho
  refine wpAny_bind (wpAny_isInstance (T := "StopIteration") (b := true) ⟨o, ho, hc⟩ isSubtype_stop ?_)
  exact wpAny_pure (hQ h' k)
abbrev IsZp (st : Bool) (h : Heap) (z TI TO : Addr) (f0 : Value) : Prop :=
  h.get? z = some { cls := .type "zip", dict := none, data := .fields #[f0, .bool false, .bool st, .ref TI, .ref TO], slots := #[] }
theorem zip_item {st p1 p2 : Bool} {z TI TO i1 i2 l1 l2 : Addr} {k1 k2 : Nat} {xs ys : Array Value} {x y a b : Value} {Q : Value → Shared → Prop} (D : ZipApart z TI TO i1 i2 l1 l2)
    (hz : IsZp st s.heap z TI TO .none) (hTI : IsPair s.heap TI (.ref i1) (.ref i2)) (hTO : IsPair s.heap TO a b)
    (h1 : IsIt p1 s.heap i1 l1 k1) (h2 : IsIt p2 s.heap i2 l2 k2) (hl1 : IsSq p1 s.heap l1 xs) (hl2 : IsSq p2 s.heap l2 ys) (hx : xs[k1]? = some x) (hy : ys[k2]? = some y)
    (hQ : ∀ h', IsZp st h' z TI TO (rawInt s.heap.objs.size) → IsPair h' TO x y → IsIt p1 h' i1 l1 (k1 + 1) → IsIt p2 h' i2 l2 (k2 + 1) → IsPair h' s.heap.objs.size x y → h'.objs.size = s.heap.objs.size + 1 →
      (∀ c o, c ≠ z → c ≠ TO → c ≠ i1 → c ≠ i2 → s.heap.get? c = some o → h'.get? c = some o) → Q (.ref s.heap.objs.size) { s with heap := h' }) :
    wpAny (model prog w) A (Builtin.«zip.__next__» ⟨[.ref z], []⟩) (fun fin s' => ∃ v, fin = .done (.ret v) ∧ Q v s') E s := by
  have draw1 : ∀ {h₁ : Heap} {Q' : Option Value → Shared → Prop} {E' : Value → Shared → Prop}, Heap.SameBut z s.heap h₁ → (∀ h₂, IsIt p1 h₂ i1 l1 (k1 + 1) → Heap.SameBut i1 h₁ h₂ → Q' (some x) { s with heap := h₂ }) →
      wpAny (model prog w) A (if st = true then Builtin.SmallTypes.nextOrEnd (.ref i1) else (do return some (← Builtin.SmallTypes.nextOf (.ref i1)))) Q' E' { s with heap := h₁ } := by
    intro h₁ Q' E' hs₁ k
    have a1 := h1.ext hs₁.extBut D.i1z
    have a2 := hl1.ext hs₁.extBut D.l1z
    cases st with
    | true => exact orEnd_item (s := { s with heap := h₁ }) a1 a2 hx k
    | false => exact wpAny_bind (nextOf_item (s := { s with heap := h₁ }) a1 a2 hx fun h₂ b1 b2 => wpAny_pure (k h₂ b1 b2))
  have draw2 : ∀ {h₁ : Heap} {Q' : Option Value → Shared → Prop} {E' : Value → Shared → Prop}, IsIt p2 h₁ i2 l2 k2 → IsSq p2 h₁ l2 ys → (∀ h₂, IsIt p2 h₂ i2 l2 (k2 + 1) → Heap.SameBut i2 h₁ h₂ → Q' (some y) { s with heap := h₂ }) →
      wpAny (model prog w) A (if st = true then Builtin.SmallTypes.nextOrEnd (.ref i2) else (do return some (← Builtin.SmallTypes.nextOf (.ref i2)))) Q' E' { s with heap := h₁ } := by
    intro h₁ Q' E' a1 a2 k
    cases st with
    | true => exact orEnd_item (s := { s with heap := h₁ }) a1 a2 hy k
    | false => exact wpAny_bind (nextOf_item (s := { s with heap := h₁ }) a1 a2 hy fun h₂ b1 b2 => wpAny_pure (k h₂ b1 b2))
  have est : (Value.bool st == Value.bool true) = st := by cases st <;> rfl
  show wpAny _ _ (field (.ref z) 2 >>= _) _ _ _
  refine wpAny_bind (wpAny_field hz rfl (x := .bool st) rfl ?_)
  rw [est]
  show wpAny _ _ (field (.ref z) 3 >>= _) _ _ _
  refine wpAny_bind (wpAny_field hz rfl (x := .ref TI) rfl ?_)
  refine wpAny_bind (wpAny_seqItems hTI rfl ?_)
  show wpAny _ _ (Builtin.SmallTypes.ownedTupleIsFree (.ref z) >>= _) _ _ _
  refine wpAny_bind ?_
  unfold Builtin.SmallTypes.ownedTupleIsFree
  refine wpAny_bind (wpAny_field hz rfl (x := .none) rfl (wpAny_pure ?_))
  simp only [if_true]
  refine wpAny_bind (wpAny_rule ?_)
  refine wpAny_bind (wpAny_field hz rfl (x := .ref TO) rfl ?_)
  refine wpAny_bind (wpAny_setField_rec hz (by simp) fun h₁ hz₁ hs₁ => ?_)
  replace hz₁ : IsZp st h₁ z TI TO .ellipsis := hz₁
  refine wpAny_bind ?_
  simp only [List.zipIdx_cons, List.zipIdx_nil, List.forIn_cons, List.forIn_nil]
  refine wpAny_bind (wpAny_bind (wpAny_onRaise ?_))
  refine draw1 hs₁ fun h₂ h1₂ hs₂ => ?_
  have hTO₂ : IsPair h₂ TO a b := hs₂.extBut _ _ D.TOi1 (hs₁.extBut _ _ D.TOz hTO)
  refine wpAny_bind (wpAny_seqItems (s := { s with heap := h₂ }) hTO₂ rfl ?_)
  refine wpAny_bind (wpAny_updateSeq_pair (s := { s with heap := h₂ }) hTO₂ fun h₃ hTO₃ hs₃ => ?_)
  replace hTO₃ : IsPair h₃ TO x b := hTO₃
  refine wpAny_bind (wpAny_letGo (wpAny_pure ?_))
  refine wpAny_bind (wpAny_bind (wpAny_onRaise ?_))
  refine draw2 (((h2.ext hs₁.extBut D.i2z).ext hs₂.extBut D.i12.symm).ext hs₃.extBut D.TOi2.symm) (((hl2.ext hs₁.extBut D.l2z).ext hs₂.extBut D.l2i1).ext hs₃.extBut D.l2TO) fun h₄ h2₄ hs₄ => ?_
  have hTO₄ : IsPair h₄ TO x b := hs₄.extBut _ _ D.TOi2 hTO₃
  refine wpAny_bind (wpAny_seqItems (s := { s with heap := h₄ }) hTO₄ rfl ?_)
  refine wpAny_bind (wpAny_updateSeq_pair (s := { s with heap := h₄ }) hTO₄ fun h₅ hTO₅ hs₅ => ?_)
  replace hTO₅ : IsPair h₅ TO x y := hTO₅
  refine wpAny_bind (wpAny_letGo (wpAny_pure (wpAny_pure ?_)))
  refine wpAny_bind (wpAny_seqItems (s := { s with heap := h₅ }) hTO₅ rfl ?_)
  refine wpAny_bind (wpAny_newTuple ?_)
  have hsz : h₅.objs.size = s.heap.objs.size := by rw [hs₅.1, hs₄.1, hs₃.1, hs₂.1, hs₁.1]
  have hz₅ : IsZp st h₅ z TI TO .ellipsis := hs₅.extBut _ _ D.TOz.symm (hs₄.extBut _ _ D.i2z.symm (hs₃.extBut _ _ D.TOz.symm (hs₂.extBut _ _ D.i1z.symm hz₁)))
  have hk₅ : ∀ c o, c ≠ z → c ≠ TO → c ≠ i1 → c ≠ i2 → s.heap.get? c = some o → h₅.get? c = some o := fun c o c1 c2 c3 c4 e =>
    hs₅.extBut _ _ c2 (hs₄.extBut _ _ c4 (hs₃.extBut _ _ c2 (hs₂.extBut _ _ c3 (hs₁.extBut _ _ c1 e))))
  have h1₅ : IsIt p1 h₅ i1 l1 (k1 + 1) := ((h1₂.ext hs₃.extBut D.TOi1.symm).ext hs₄.extBut D.i12).ext hs₅.extBut D.TOi1.symm
  have h2₅ : IsIt p2 h₅ i2 l2 (k2 + 1) := h2₄.ext hs₅.extBut D.TOi2.symm
  have hzlt : z < h₅.objs.size := Heap.lt_size hz₅
  show wpAny _ _ (Builtin.SmallTypes.ownedTupleHandOut (.ref z) (.ref h₅.objs.size) >>= _) _ _ _
  refine wpAny_bind ?_
  unfold Builtin.SmallTypes.ownedTupleHandOut
  have hz₆ : IsZp st (h₅.push { cls := .type "tuple", data := .seq #[x, y] }) z TI TO .ellipsis := Heap.get?_push_of_some _ hz₅
  refine wpAny_bind (wpAny_setField_rec hz₆ (by simp) fun h₇ hz₇ hs₇ => ?_)
  replace hz₇ : IsZp st h₇ z TI TO (rawInt h₅.objs.size) := hz₇
  refine wpAny_setField_rec hz₇ (by simp) fun h₈ hz₈ hs₈ => ?_
  replace hz₈ : IsZp st h₈ z TI TO (rawInt h₅.objs.size) := hz₈
  have up : ∀ c o, c ≠ z → h₅.get? c = some o → h₈.get? c = some o := fun c o c1 e => hs₈.extBut _ _ c1 (hs₇.extBut _ _ c1 (Heap.get?_push_of_some _ e))
  have hT₈ : IsPair h₈ h₅.objs.size x y := hs₈.extBut _ _ (Nat.ne_of_gt hzlt) (hs₇.extBut _ _ (Nat.ne_of_gt hzlt) (Heap.get?_push_size _ rfl))
  have hz8 : h₈.objs.size = h₅.objs.size + 1 := by rw [hs₈.1, hs₇.1, Heap.size_push]
  rw [hsz] at hz₈ hT₈ hz8
  refine wpAny_pure ⟨_, rfl, ?_⟩
  show Q (.ref h₅.objs.size) _
  rw [hsz]
  exact hQ h₈ hz₈ (up _ _ D.TOz hTO₅) (h1₅.at fun o e => up _ o D.i1z e) (h2₅.at fun o e => up _ o D.i2z e) hT₈ hz8 fun c o c1 c2 c3 c4 e => up c o c1 (hk₅ c o c1 c2 c3 c4 e)

theorem Quiet.out {h h' : Heap} {tp : Bool} {it l : Addr} {i : Nat} (q : Quiet A h) (x : IsIt tp h it l i) (k : Heap.ExtBut it h h') : Quiet A h' := by
  obtain ⟨o, ho, hc, hd⟩ := x.get
  exact q.keep ho hd (by simp) k
theorem Quiet.outZ {h h' : Heap} {st : Bool} {z TI TO : Addr} {f0 : Value} (q : Quiet A h) (x : IsZp st h z TI TO f0) (k : Heap.ExtBut z h h') : Quiet A h' :=
  q.keep x rfl (by simp) k
theorem Quiet.outP {h h' : Heap} {a : Addr} {x y : Value} (q : Quiet A h) (p : IsPair h a x y) (k : Heap.ExtBut a h h') : Quiet A h' := by
  rcases q with q | ⟨x1, hh, o1, v1, h1, d1, c1⟩
  · exact .inl q
  · refine .inr ⟨x1, hh, o1, v1, k x1 o1 (fun z => ?_) h1, d1, c1⟩
    subst z
    rw [p] at h1
    cases h1
    cases d1
theorem zip_end {st p1 p2 : Bool} {z TI TO i1 i2 l1 l2 : Addr} {k1 k2 : Nat} {xs ys : Array Value} {a b : Value} {Q : Fin → Shared → Prop} (q : Quiet A s.heap) (D : ZipApart z TI TO i1 i2 l1 l2)
    (hz : IsZp st s.heap z TI TO .none) (hTI : IsPair s.heap TI (.ref i1) (.ref i2)) (hTO : IsPair s.heap TO a b)
    (h1 : IsIt p1 s.heap i1 l1 k1) (h2 : IsIt p2 s.heap i2 l2 k2) (hl1 : IsSq p1 s.heap l1 xs) (hl2 : IsSq p2 s.heap l2 ys) (hend : (xs[k1]? = none ∧ ys[k2]? = none) ∨ (st = false ∧ (xs[k1]? = none ∨ ys[k2]? = none)))
    (hE : ∀ h' e, (∀ c o, c ≠ z → c ≠ TO → c ≠ i1 → c ≠ i2 → s.heap.get? c = some o → h'.get? c = some o) → (∃ o, h'.get? e = some o ∧ o.cls = .type "StopIteration") → E (.ref e) { s with heap := h' }) :
    wpAny (model prog w) A (Builtin.«zip.__next__» ⟨[.ref z], []⟩) Q E s := by
  have est : (Value.bool st == Value.bool true) = st := by cases st <;> rfl
  show wpAny _ _ (field (.ref z) 2 >>= _) _ _ _
  refine wpAny_bind (wpAny_field hz rfl (x := .bool st) rfl ?_)
  rw [est]
  show wpAny _ _ (field (.ref z) 3 >>= _) _ _ _
  refine wpAny_bind (wpAny_field hz rfl (x := .ref TI) rfl ?_)
  refine wpAny_bind (wpAny_seqItems hTI rfl ?_)
  show wpAny _ _ (Builtin.SmallTypes.ownedTupleIsFree (.ref z) >>= _) _ _ _
  refine wpAny_bind ?_
  unfold Builtin.SmallTypes.ownedTupleIsFree
  refine wpAny_bind (wpAny_field hz rfl (x := .none) rfl (wpAny_pure ?_))
  simp only [if_true]
  refine wpAny_bind (wpAny_rule ?_)
  refine wpAny_bind (wpAny_field hz rfl (x := .ref TO) rfl ?_)
  refine wpAny_bind (wpAny_setField_rec hz (by simp) fun h₁ hz₁ hs₁ => ?_)
  replace hz₁ : IsZp st h₁ z TI TO .ellipsis := hz₁
  have q₁ : Quiet A h₁ := q.outZ hz hs₁.extBut
  have a1 := h1.ext hs₁.extBut D.i1z
  have a2 := hl1.ext hs₁.extBut D.l1z
  refine wpAny_bind ?_
  simp only [List.zipIdx_cons, List.zipIdx_nil, List.forIn_cons, List.forIn_nil]
  refine wpAny_bind (wpAny_bind (wpAny_onRaise ?_))
  cases st with
  | false =>
    show wpAny _ _ (Builtin.SmallTypes.nextOf (.ref i1) >>= _) _ _ _
    replace hend : xs[k1]? = none ∨ ys[k2]? = none := by
      rcases hend with ⟨h, _⟩ | ⟨_, h⟩
      · exact .inl h
      · exact h
    cases hx : xs[k1]? with
    | none =>
      refine wpAny_bind (nextOf_end (s := { s with heap := h₁ }) q₁ a1 a2 hx fun h₂ e hs₂ he => ?_)
      obtain ⟨oe, hoe, hce⟩ := he
      have hz₂ : IsZp false h₂ z TI TO .ellipsis := hs₂ _ _ D.i1z.symm hz₁
      have hez : e ≠ z := fun x => by subst x; rw [hz₂] at hoe; cases hoe; simp at hce
      refine wpAny_setField_rec hz₂ (by simp) fun h₃ _ hs₃ => hE h₃ e (fun c o c1 _ c3 _ x => hs₃.extBut _ _ c1 (hs₂ _ _ c3 (hs₁.extBut _ _ c1 x))) ⟨oe, hs₃.extBut _ _ hez hoe, hce⟩
    | some x =>
      have hy : ys[k2]? = none := by rcases hend with h | h; rw [hx] at h; cases h; exact h
      refine wpAny_bind (nextOf_item (s := { s with heap := h₁ }) a1 a2 hx fun h₂ h1₂ hs₂ => wpAny_pure ?_)
      have q₂ : Quiet A h₂ := q₁.out a1 hs₂.extBut
      have hTO₂ : IsPair h₂ TO a b := hs₂.extBut _ _ D.TOi1 (hs₁.extBut _ _ D.TOz hTO)
      refine wpAny_bind (wpAny_seqItems (s := { s with heap := h₂ }) hTO₂ rfl ?_)
      refine wpAny_bind (wpAny_updateSeq_pair (s := { s with heap := h₂ }) hTO₂ fun h₃ hTO₃ hs₃ => ?_)
      have q₃ : Quiet A h₃ := q₂.outP hTO₂ hs₃.extBut
      refine wpAny_bind (wpAny_letGo (wpAny_pure ?_))
      refine wpAny_bind (wpAny_bind (wpAny_onRaise ?_))
      show wpAny _ _ (Builtin.SmallTypes.nextOf (.ref i2) >>= _) _ _ _
      refine wpAny_bind (nextOf_end (s := { s with heap := h₃ }) q₃ (((h2.ext hs₁.extBut D.i2z).ext hs₂.extBut D.i12.symm).ext hs₃.extBut D.TOi2.symm)
        (((hl2.ext hs₁.extBut D.l2z).ext hs₂.extBut D.l2i1).ext hs₃.extBut D.l2TO) hy fun h₄ e hs₄ he => ?_)
      obtain ⟨oe, hoe, hce⟩ := he
      have hz₄ : IsZp false h₄ z TI TO .ellipsis := hs₄ _ _ D.i2z.symm (hs₃.extBut _ _ D.TOz.symm (hs₂.extBut _ _ D.i1z.symm hz₁))
      have hez : e ≠ z := fun x => by subst x; rw [hz₄] at hoe; cases hoe; simp at hce
      refine wpAny_setField_rec hz₄ (by simp) fun h₅ _ hs₅ => hE h₅ e (fun c o c1 c2 c3 c4 x => hs₅.extBut _ _ c1 (hs₄ _ _ c4 (hs₃.extBut _ _ c2 (hs₂.extBut _ _ c3 (hs₁.extBut _ _ c1 x))))) ⟨oe, hs₅.extBut _ _ hez hoe, hce⟩
  | true =>
    obtain ⟨hx, hy⟩ : xs[k1]? = none ∧ ys[k2]? = none := by
      rcases hend with h | ⟨h, _⟩
      · exact h
      · cases h
    show wpAny _ _ (Builtin.SmallTypes.nextOrEnd (.ref i1)) _ _ _
    refine orEnd_end (s := { s with heap := h₁ }) q₁ a1 a2 hx fun h₂ hs₂ => ?_
    have q₂ : Quiet A h₂ := q₁.out a1 hs₂
    have hz₂ : IsZp true h₂ z TI TO .ellipsis := hs₂ _ _ D.i1z.symm hz₁
    refine wpAny_bind (wpAny_setField_rec hz₂ (by simp) fun h₃ _ hs₃ => ?_)
    have q₃ : Quiet A h₃ := q₂.outZ hz₂ hs₃.extBut
    have b1 := (((h2.ext hs₁.extBut D.i2z).ext hs₂ D.i12.symm).ext hs₃.extBut D.i2z)
    have b2 := (((hl2.ext hs₁.extBut D.l2z).ext hs₂ D.l2i1).ext hs₃.extBut D.l2z)
    refine wpAny_bind (wpAny_bind ?_)
    simp only [List.drop_succ_cons, List.drop_zero, List.zipIdx_cons, List.zipIdx_nil, List.forIn_cons, List.forIn_nil]
    refine wpAny_bind (wpAny_bind (orEnd_end (s := { s with heap := h₃ }) q₃ b1 b2 hy fun h₄ hs₄ => ?_))
    have q₄ : Quiet A h₄ := q₃.out b1 hs₄
    refine wpAny_pure (wpAny_pure (wpAny_bind (wpAny_rule ?_)))
    exact stop_raised (s := { s with heap := h₄ }) q₄ fun h₅ e k he => hE h₅ e (fun c o c1 c2 c3 c4 x => k _ _ (hs₄ _ _ c4 (hs₃.extBut _ _ c1 (hs₂ _ _ c3 (hs₁.extBut _ _ c1 x))))) he
end
end LwZ

set_option Elab.async false
set_option linter.all false
set_option maxRecDepth 100000
set_option maxHeartbeats 4000000
set_option autoImplicit false
namespace LwZ
open PySem PySem.Spec PyProof.Rows L2 Lw
open PySem.Sem (wp)
theorem F_typeCall_zip_strict (a b v : Value) : checkTypeCall "zip" ⟨[a, b], [(Str.ofString "strict", v)]⟩ = pure () := by kernel_rfl
theorem F_newCall_zip_strict (a b v : Value) : checkBuiltinCall "zip.__new__" ⟨[.type "zip", a, b], [(Str.ofString "strict", v)]⟩ = pure () := by kernel_rfl
theorem F_args_object_init_strict (obj a b v : Value) : argsOk "object.__init__" ⟨[obj, a, b], [(Str.ofString "strict", v)]⟩ := by unfold argsOk; kernel_rfl
abbrev gzS2 (h : Heap) (o1 o2 : Obj) : Heap := (gzO2 h o1 o2).push { cls := .type "zip", data := .fields #[.none, .bool false, .bool true, .ref ((h.push o1).push o2).objs.size, .ref (gzT2 h o1 o2).objs.size] }
theorem meets_zip_newS2 {v1 v2 : Value} {o1 o2 : Obj} {H1 H2 : Heap → Prop} (B1 : Begins v1 o1 H1) (B2 : Begins v2 o2 H2) :
    Meets (Builtin.«zip.__new__» ⟨[.type "zip", v1, v2], [(Str.ofString "strict", .bool true)]⟩) (fun _ R s => (H1 s.heap ∧ H2 s.heap) ∧
      R (.ok (.ret (.ref (gzO2 s.heap o1 o2).objs.size))) { s with heap := gzS2 s.heap o1 o2 }) :=
  .of_wp fun prog w A R s h => by
    obtain ⟨hp, g, d, tk, os⟩ := s; obtain ⟨⟨h1, h2⟩, h⟩ := h
    have hsub := sub_zip
    have q1 : ∀ {A' : Around} {E : Value → Shared → Prop} {Q : Value → Shared → Prop}, Q (.ref hp.objs.size) ⟨(hp.push o1), g, d, tk, os⟩ → wpAny (model prog w) A' (pyIter v1) Q E ⟨hp, g, d, tk, os⟩ :=
      fun q => B1.iter prog w _ _ ⟨hp, g, d, tk, os⟩ _ (B1.keeps _ _ h1 fun b o' e => e) q
    have q2 : ∀ {A' : Around} {E : Value → Shared → Prop} {Q : Value → Shared → Prop}, Q (.ref (hp.push o1).objs.size) ⟨((hp.push o1).push o2), g, d, tk, os⟩ → wpAny (model prog w) A' (pyIter v2) Q E ⟨(hp.push o1), g, d, tk, os⟩ :=
      fun q => B2.iter prog w _ _ ⟨(hp.push o1), g, d, tk, os⟩ _ (B2.keeps _ _ h2 fun b o' e => (Heap.get?_push_of_some _ e)) q
    have e1 : (Str.ofString "strict" == ("strict" : Str)) = true := by decide +kernel
    have e2 : (Str.ofString "strict" != ("strict" : Str)) = false := by decide +kernel
    wp_walk using q1, q2
    exact ⟨_, rfl, h⟩
def itO (tp : Bool) (l : Addr) : Obj := { cls := .type (itN tp), data := .fields #[.ref l, .int 0 0] }
theorem begins_sq (tp : Bool) (l : Addr) (items : Array Value) : Begins (.ref l) (itO tp l) fun h => IsSq tp h l items := by
  cases tp
  · exact begins_list l items
  · exact begins_tuple l items
section
variable {prog : Program} {w : World} {A : Around} {E : Value → Shared → Prop} {s : Shared}
theorem zip_beginsS {v1 v2 : Value} {o1 o2 : Obj} {H1 H2 : Heap → Prop} {Q : Value → Shared → Prop} (B1 : Begins v1 o1 H1) (B2 : Begins v2 o2 H2) (h1 : H1 s.heap) (h2 : H2 s.heap)
    (h : ∀ h', IsZp true h' (s.heap.objs.size + 4) (s.heap.objs.size + 2) (s.heap.objs.size + 3) .none → IsTupOf2 h' (s.heap.objs.size + 2) (.ref s.heap.objs.size) (.ref (s.heap.objs.size + 1)) →
      IsTupOf2 h' (s.heap.objs.size + 3) .none .none → h'.get? s.heap.objs.size = some o1 → h'.get? (s.heap.objs.size + 1) = some o2 → h'.objs.size = s.heap.objs.size + 5 →
      (∀ c o, s.heap.get? c = some o → h'.get? c = some o) → Q (.ref (s.heap.objs.size + 4)) { s with heap := h' }) :
    wpAny (model prog w) A (call (.type "zip") [v1, v2] [(Str.ofString "strict", .bool true)]) Q E s := by
  refine callType_newKw F.called_zip (by decide) (F_typeCall_zip_strict _ _ _) (F_newCall_zip_strict _ _ _) (fun obj => F_args_object_init_strict obj _ _ _) F.entry_zip_new
    (meets_zip_newS2 B1 B2) ⟨⟨h1, h2⟩, ?_⟩
  have z1 : (s.heap.push o1).objs.size = s.heap.objs.size + 1 := by rw [Heap.size_push]
  have z2 : ((s.heap.push o1).push o2).objs.size = s.heap.objs.size + 2 := by rw [Heap.size_push, z1]
  have zT : (gzT2 s.heap o1 o2).objs.size = s.heap.objs.size + 3 := by rw [Heap.size_push, z2]
  have zO : (gzO2 s.heap o1 o2).objs.size = s.heap.objs.size + 4 := by rw [Heap.size_push, zT]
  have zZ : (gzS2 s.heap o1 o2).objs.size = s.heap.objs.size + 5 := by rw [Heap.size_push, zO]
  have gZ : (gzS2 s.heap o1 o2).get? (gzO2 s.heap o1 o2).objs.size = some { cls := .type "zip", data := .fields #[.none, .bool false, .bool true, .ref ((s.heap.push o1).push o2).objs.size, .ref (gzT2 s.heap o1 o2).objs.size] } := Heap.get?_push_size _ rfl
  have gO : (gzS2 s.heap o1 o2).get? (gzT2 s.heap o1 o2).objs.size = some { cls := .type "tuple", data := .seq #[.none, .none] } := Heap.get?_push_of_some _ (Heap.get?_push_size _ rfl)
  have gT : (gzS2 s.heap o1 o2).get? ((s.heap.push o1).push o2).objs.size = some { cls := .type "tuple", data := .seq #[.ref s.heap.objs.size, .ref (s.heap.push o1).objs.size] } := Heap.get?_push_of_some _ (Heap.get?_push_of_some _ (Heap.get?_push_size _ rfl))
  have g1 : (gzS2 s.heap o1 o2).get? s.heap.objs.size = some o1 := Heap.get?_push_of_some _ (Heap.get?_push_of_some _ (Heap.get?_push_of_some _ (Heap.get?_push_of_some _ (Heap.get?_push_size _ B1.free))))
  have g2 : (gzS2 s.heap o1 o2).get? (s.heap.push o1).objs.size = some o2 := Heap.get?_push_of_some _ (Heap.get?_push_of_some _ (Heap.get?_push_of_some _ (Heap.get?_push_size _ B2.free)))
  rw [zO, zT, z2] at gZ
  rw [zT] at gO
  rw [z2, z1] at gT
  rw [z1] at g2
  show _ ∧ _
  rw [zO]
  exact ⟨⟨_, gZ, rfl⟩, h _ gZ gT gO g1 g2 zZ fun c o x => Heap.get?_push_of_some _ (Heap.get?_push_of_some _ (Heap.get?_push_of_some _ (Heap.get?_push_of_some _ (Heap.get?_push_of_some _ x))))⟩
def zkw : Bool → List (Str × Value)
  | true => [(Str.ofString "strict", .bool true)]
  | false => []
theorem call_zp {st p1 p2 : Bool} {l1 l2 : Addr} {xs ys : Array Value} {Q : Value → Shared → Prop} (hl1 : IsSq p1 s.heap l1 xs) (hl2 : IsSq p2 s.heap l2 ys)
    (h : ∀ h', IsZp st h' (s.heap.objs.size + 4) (s.heap.objs.size + 2) (s.heap.objs.size + 3) .none → IsPair h' (s.heap.objs.size + 2) (.ref s.heap.objs.size) (.ref (s.heap.objs.size + 1)) →
      IsPair h' (s.heap.objs.size + 3) .none .none → IsIt p1 h' s.heap.objs.size l1 0 → IsIt p2 h' (s.heap.objs.size + 1) l2 0 → h'.objs.size = s.heap.objs.size + 5 →
      (∀ c o, s.heap.get? c = some o → h'.get? c = some o) → Q (.ref (s.heap.objs.size + 4)) { s with heap := h' }) :
    wpAny (model prog w) A (call (.type "zip") [.ref l1, .ref l2] (zkw st)) Q E s := by
  cases st with
  | false => exact zip_begins2 (begins_sq p1 l1 xs) (begins_sq p2 l2 ys) hl1 hl2 fun h' a1 a2 a3 a4 a5 a6 a7 => h h' a1 a2 a3 (.mk ⟨_, a4, rfl, rfl⟩) (.mk ⟨_, a5, rfl, rfl⟩) a6 a7
  | true => exact zip_beginsS (begins_sq p1 l1 xs) (begins_sq p2 l2 ys) hl1 hl2 fun h' a1 a2 a3 a4 a5 a6 a7 => h h' a1 a2 a3 (.mk ⟨_, a4, rfl, rfl⟩) (.mk ⟨_, a5, rfl, rfl⟩) a6 a7
theorem pyNext_zp_item {st p1 p2 : Bool} {z TI TO i1 i2 l1 l2 : Addr} {k1 k2 : Nat} {xs ys : Array Value} {x y a b : Value} {Q : Option Value → Shared → Prop} (D : ZipApart z TI TO i1 i2 l1 l2)
    (hz : IsZp st s.heap z TI TO .none) (hTI : IsPair s.heap TI (.ref i1) (.ref i2)) (hTO : IsPair s.heap TO a b)
    (h1 : IsIt p1 s.heap i1 l1 k1) (h2 : IsIt p2 s.heap i2 l2 k2) (hl1 : IsSq p1 s.heap l1 xs) (hl2 : IsSq p2 s.heap l2 ys) (hx : xs[k1]? = some x) (hy : ys[k2]? = some y)
    (hQ : ∀ h', IsZp st h' z TI TO (rawInt s.heap.objs.size) → IsPair h' TO x y → IsIt p1 h' i1 l1 (k1 + 1) → IsIt p2 h' i2 l2 (k2 + 1) → IsPair h' s.heap.objs.size x y → h'.objs.size = s.heap.objs.size + 1 →
      (∀ c o, c ≠ z → c ≠ TO → c ≠ i1 → c ≠ i2 → s.heap.get? c = some o → h'.get? c = some o) → Q (some (.ref s.heap.objs.size)) { s with heap := h' }) :
    wpAny (model prog w) A (pyNext (.ref z)) Q E s := by
  have hT : s.TypeIs (.ref z) "zip" := ⟨_, hz, rfl⟩
  unfold pyNext
  exact wpAny_bind (wpAny_attempt (wpAny_callSpecial?_slot (name := Str.ofString "__next__") hT F.slot_zip_next
    (wpAny_call_entry F.slot_zip_next hT F.entry_zip_next
      (zip_item D hz hTI hTO h1 h2 hl1 hl2 hx hy fun h' a1 a2 a3 a4 a5 a6 a7 => wpAny_pure (hQ h' a1 a2 a3 a4 a5 a6 a7)) (F.args_zip_next_1 _))))
theorem pyNext_zp_end {st p1 p2 : Bool} {z TI TO i1 i2 l1 l2 : Addr} {k1 k2 : Nat} {xs ys : Array Value} {a b : Value} {Q : Option Value → Shared → Prop} (q : Quiet A s.heap) (D : ZipApart z TI TO i1 i2 l1 l2)
    (hz : IsZp st s.heap z TI TO .none) (hTI : IsPair s.heap TI (.ref i1) (.ref i2)) (hTO : IsPair s.heap TO a b)
    (h1 : IsIt p1 s.heap i1 l1 k1) (h2 : IsIt p2 s.heap i2 l2 k2) (hl1 : IsSq p1 s.heap l1 xs) (hl2 : IsSq p2 s.heap l2 ys) (hend : (xs[k1]? = none ∧ ys[k2]? = none) ∨ (st = false ∧ (xs[k1]? = none ∨ ys[k2]? = none)))
    (hQ : ∀ h', (∀ c o, c ≠ z → c ≠ TO → c ≠ i1 → c ≠ i2 → s.heap.get? c = some o → h'.get? c = some o) → Q none { s with heap := h' }) : wpAny (model prog w) A (pyNext (.ref z)) Q E s := by
  have hT : s.TypeIs (.ref z) "zip" := ⟨_, hz, rfl⟩
  unfold pyNext
  refine wpAny_bind (wpAny_attempt (wpAny_callSpecial?_slot (name := Str.ofString "__next__") hT F.slot_zip_next
    (wpAny_call_entry F.slot_zip_next hT F.entry_zip_next (zip_end (A := A.in1) q D hz hTI hTO h1 h2 hl1 hl2 hend fun h' e hk he => ?_) (F.args_zip_next_1 _))))
  obtain ⟨o, ho, hc⟩ := he
  refine wpAny_bind (wpAny_isInstance (T := "StopIteration") (b := true) ⟨o, ho, hc⟩ isSubtype_stop ?_)
  exact wpAny_pure (hQ _ hk)
theorem pyIter_zp {st : Bool} {z TI TO : Addr} {f0 : Value} {Q : Value → Shared → Prop} (hz : IsZp st s.heap z TI TO f0) (h : Q (.ref z) s) : wpAny (model prog w) A (pyIter (.ref z)) Q E s := by
  have hT : s.TypeIs (.ref z) "zip" := ⟨_, hz, rfl⟩
  refine wpAny_pyIter_slot hT F.slot_zip_iter (wpAny_call_entry F.slot_zip_iter hT F.entry_zip_iter ?_ (F.args_zip_iter_1 _))
  show wpAny _ _ (ret (.ref z)) _ _ s
  exact wpAny_pure ⟨_, rfl, "zip", _, hT, F.slot_zip_next.lookup, h⟩
theorem letGo_zp {st : Bool} {elts : List Expr} {kk : Nat} {tpos : Pos} {z TI TO T : Addr} {Q : Unit → Shared → Prop} (hz : IsZp st s.heap z TI TO (rawInt T))
    (h : ∀ h', IsZp st h' z TI TO .none → Heap.SameBut z s.heap h' → Q () { s with heap := h' }) : wpAny (model prog w) A (letOwnedTupleGo (.Tuple elts kk tpos) (.ref z) (.ref T)) Q E s := by
  unfold letOwnedTupleGo
  refine wpAny_bind (wpAny_load hz ?_)
  show wpAny _ _ (if (["enumerate", "zip", "dict_itemiterator", "dict_reverseitemiterator", "odict_iterator", "itertools.zip_longest", "itertools.pairwise"].contains "zip" &&
      (#[rawInt T, .bool false, .bool st, .ref TI, .ref TO] : Array Value)[0]? == some (rawInt T)) = true then _ else _) Q E s
  rw [if_pos (by simp)]
  refine wpAny_bind (wpAny_rule ?_)
  show wpAny _ _ (setField (.ref z) 0 .none) Q E s
  exact wpAny_setField_rec hz (by simp) fun h' hz' hs' => h h' hz' hs'
end
def SqB (K : PySem.W.Frag) (tp : Bool) (H : Hp) (a : Addr) (xs : List V) : Prop := match tp with
  | true => SqT K H a xs
  | false => SqL K H a xs
theorem inv_sq {X : Cx} {pins : List (Addr × Obj)} {σ : L2.St} {H : Hp} {s : Shared} {tp : Bool} {a : Addr} {xs : List V} (I : Inv X pins σ H s) (h : SqB X.K tp H a xs) : ∃ its : List Value, Vals xs its ∧ IsSq tp s.heap a its.toArray := by
  cases tp
  · obtain ⟨its, rv, p, _⟩ := I.list h
    exact ⟨its, rv, p.isList⟩
  · obtain ⟨its, rv, p, _⟩ := I.tuple h
    exact ⟨its, rv, p⟩
theorem inv_sq_inj {X : Cx} {pins : List (Addr × Obj)} {σ : L2.St} {H : Hp} {s : Shared} {tp : Bool} {a : Addr} {xs ys : List V} (I : Inv X pins σ H s) (h : SqB X.K tp H a xs) (h2 : SqB X.K tp H a ys) : xs = ys := by
  cases tp
  · exact I.list_inj h h2
  · exact I.tuple_inj h h2
def ItZ (K : PySem.W.Frag) (st p1 p2 : Bool) (a b : Addr) : It :=
  ⟨fun i H => ∃ (xs ys : List V) (x y : V), SqB K p1 H a xs ∧ SqB K p2 H b ys ∧ xs[i]? = some x ∧ ys[i]? = some y,
    fun i H v H' => ∃ T x y, v = .ref T ∧ H T = none ∧ H' = upd H T (.tup [x, y]) ∧ (∀ xs, SqB K p1 H a xs → xs[i]? = some x) ∧ ∀ ys, SqB K p2 H b ys → ys[i]? = some y,
    fun i H => ∃ xs ys : List V, SqB K p1 H a xs ∧ SqB K p2 H b ys ∧ ((xs.length ≤ i ∧ ys.length ≤ i) ∨ (st = false ∧ (xs.length ≤ i ∨ ys.length ≤ i)))⟩
abbrev zTn (st p1 p2 : Bool) (a b z TI TO i1 i2 : Addr) (i : Nat) (h : Heap) : Prop := IsZp st h z TI TO .none ∧ IsPair h TI (.ref i1) (.ref i2) ∧ (∃ x y, IsPair h TO x y) ∧ IsIt p1 h i1 a i ∧ IsIt p2 h i2 b i
section
variable {st p1 p2 : Bool} {a b z TI TO i1 i2 : Addr}
theorem zp_obj (i : Nat) (h : Heap) (t : zTn st p1 p2 a b z TI TO i1 i2 i h) (c : Addr) (hc : c ∈ [z, TI, TO, i1, i2]) : ∃ o, h.get? c = some o ∧ ∀ v, o.data ≠ .cell v := by
  obtain ⟨hz, hTI, ⟨x, y, hTO⟩, j1, j2⟩ := t
  obtain ⟨o1, e1, _, d1⟩ := j1.get
  obtain ⟨o2, e2, _, d2⟩ := j2.get
  have e' : c = z ∨ c = TI ∨ c = TO ∨ c = i1 ∨ c = i2 := by simpa using hc
  rcases e' with q | q | q | q | q
  · rw [q]; exact ⟨_, hz, fun v q => nomatch q⟩
  · rw [q]; exact ⟨_, hTI, fun v q => nomatch q⟩
  · rw [q]; exact ⟨_, hTO, fun v q => nomatch q⟩
  · rw [q]; exact ⟨o1, e1, fun v q => by rw [d1] at q; cases q⟩
  · rw [q]; exact ⟨o2, e2, fun v q => by rw [d2] at q; cases q⟩
theorem zp_keep (i : Nat) (h h' : Heap) (t : zTn st p1 p2 a b z TI TO i1 i2 i h) (k : ∀ c ∈ [z, TI, TO, i1, i2], ∀ o, h.get? c = some o → h'.get? c = some o) : zTn st p1 p2 a b z TI TO i1 i2 i h' := by
  obtain ⟨hz, hTI, ⟨x, y, hTO⟩, h1, h2⟩ := t
  exact ⟨k z (by simp) _ hz, k TI (by simp) _ hTI, ⟨x, y, k TO (by simp) _ hTO⟩, h1.at fun o q => k i1 (by simp) o q, h2.at fun o q => k i2 (by simp) o q⟩
theorem zp_item {elts : List Expr} {kk : Nat} {tpos : Pos} (D : ZipApart z TI TO i1 i2 a b) (X : Cx) (i : Nat) (pins : List (Addr × Obj)) (s : Shared) (σ : L2.St) (H : Hp) (E : Value → Shared → Prop) (I : Inv X pins σ H s) (hf : ∀ c ∈ [z, TI, TO, i1, i2], FpOk X pins H c)
    (t : zTn st p1 p2 a b z TI TO i1 i2 i s.heap) (hg : (ItZ X.K st p1 p2 a b).go i H) :
    wpAny (model X.prog X.w) X.A (pyNext (.ref z)) (fun r s1 => ∃ u, r = some u ∧
      wpAny (model X.prog X.w) X.A (letOwnedTupleGo (.Tuple elts kk tpos) (.ref z) u) (fun _ s2 => ∃ x H', Inv X pins σ H' s2 ∧ RelV x u ∧ (ItZ X.K st p1 p2 a b).yld i H x H' ∧ zTn st p1 p2 a b z TI TO i1 i2 (i + 1) s2.heap ∧ ∀ b ∈ [z, TI, TO, i1, i2], H' b = none) E s1) E s := by
  obtain ⟨hz, hTI, ⟨x0, y0, hTO⟩, h1, h2⟩ := t
  obtain ⟨xs, ys, x, y, hqx, hqy, hx, hy⟩ := hg
  obtain ⟨its, rv, p⟩ := inv_sq I hqx
  obtain ⟨its2, rv2, p2⟩ := inv_sq I hqy
  obtain ⟨u, hu, ru⟩ := rv.get hx
  obtain ⟨u2, hu2, ru2⟩ := rv2.get hy
  have hzl : z < s.heap.objs.size := Heap.lt_size hz
  refine pyNext_zp_item D hz hTI hTO h1 h2 p p2 (x := u) (y := u2) (by simpa using hu) (by simpa using hu2) fun h' z' TO' h1' h2' hT hsz hk => ?_
  refine ⟨_, rfl, letGo_zp (s := { s with heap := h' }) z' fun h'' z'' sb => ?_⟩
  have hT2 : h''.get? s.heap.objs.size = some { cls := .type "tuple", data := .seq #[u, u2] } := (sb.2 _ (Nat.ne_of_gt hzl)).trans hT
  have new : ObjOk X.prog X.w (upd H s.heap.objs.size (.tup [x, y])) h'' s.heap.objs.size (.tup [x, y]) :=
    ⟨by show 2 ≤ sizeLine; decide, [u, u2], .cons ru (.cons ru2 .nil), ⟨_, hT2, rfl, _, rfl⟩⟩
  have I1 : Inv X pins σ (upd H s.heap.objs.size (.tup [x, y])) { s with heap := h'' } :=
    I.turnedNew (t' := s.toks) (ch := [z, TI, TO, i1, i2]) (fun c o hb q => (sb.2 c (fun q' => hb (by simp [q']))).trans (hk c o (fun q' => hb (by simp [q'])) (fun q' => hb (by simp [q'])) (fun q' => hb (by simp [q'])) (fun q' => hb (by simp [q'])) q)) hf (Nat.le_refl _) new
  refine ⟨.ref s.heap.objs.size, _, I1, rfl, ⟨_, x, y, rfl, I.hok.fresh (Nat.le_refl _), rfl, fun l hl => by rw [inv_sq_inj I hl hqx]; exact hx, fun l hl => by rw [inv_sq_inj I hl hqy]; exact hy⟩, ⟨z'', ?_, ⟨u, u2, ?_⟩, ?_, ?_⟩, fun c hcm => ?_⟩
  · exact (sb.2 _ D.TIz).trans (hk _ _ D.TIz D.TITO D.TIi1 D.TIi2 hTI)
  · exact (sb.2 _ D.TOz).trans TO'
  · exact h1'.at fun o q => (sb.2 _ D.i1z).trans q
  · exact h2'.at fun o q => (sb.2 _ D.i2z).trans q
  · have hlt : c < s.heap.objs.size := by
      have e' : c = z ∨ c = TI ∨ c = TO ∨ c = i1 ∨ c = i2 := by simpa using hcm
      rcases e' with q | q | q | q | q
      · rw [q]; exact hzl
      · rw [q]; exact Heap.lt_size hTI
      · rw [q]; exact Heap.lt_size hTO
      · rw [q]; obtain ⟨_, e1, _⟩ := h1.get; exact Heap.lt_size e1
      · rw [q]; obtain ⟨_, e2, _⟩ := h2.get; exact Heap.lt_size e2
    rw [upd_ne (Nat.ne_of_lt hlt)]
    exact (hf c hcm).1
theorem zp_done (D : ZipApart z TI TO i1 i2 a b) (X : Cx) (i : Nat) (pins : List (Addr × Obj)) (s : Shared) (σ : L2.St) (H : Hp) (E : Value → Shared → Prop) (qt : Quiet X.A s.heap) (I : Inv X pins σ H s) (hf : ∀ c ∈ [z, TI, TO, i1, i2], FpOk X pins H c)
    (t : zTn st p1 p2 a b z TI TO i1 i2 i s.heap) (hg : (ItZ X.K st p1 p2 a b).stop i H) : wpAny (model X.prog X.w) X.A (pyNext (.ref z)) (fun r s1 => r = none ∧ Inv X pins σ H s1) E s := by
  obtain ⟨hz, hTI, ⟨x0, y0, hTO⟩, h1, h2⟩ := t
  obtain ⟨xs, ys, hqx, hqy, hend⟩ := hg
  obtain ⟨its, rv, p⟩ := inv_sq I hqx
  obtain ⟨its2, rv2, p2⟩ := inv_sq I hqy
  have l1 := rv.length
  have l2 := rv2.length
  have he : (its.toArray[i]? = none ∧ its2.toArray[i]? = none) ∨ (st = false ∧ (its.toArray[i]? = none ∨ its2.toArray[i]? = none)) := by
    rcases hend with ⟨q, q2⟩ | ⟨e, q | q⟩
    · exact .inl ⟨by simp; omega, by simp; omega⟩
    · exact .inr ⟨e, .inl (by simp; omega)⟩
    · exact .inr ⟨e, .inr (by simp; omega)⟩
  exact pyNext_zp_end qt D hz hTI hTO h1 h2 p p2 he fun h' hk => ⟨rfl, I.turnedL (t' := s.toks) (ch := [z, TI, TO, i1, i2]) (fun c o hb q =>
    hk c o (fun q' => hb (by simp [q'])) (fun q' => hb (by simp [q'])) (fun q' => hb (by simp [q'])) (fun q' => hb (by simp [q'])) q) hf⟩
theorem turn_zp {P : Program} {w : World} {K : PySem.W.Frag} {elts : List Expr} {kk : Nat} {tpos : Pos} (D : ZipApart z TI TO i1 i2 a b) :
    Turn P w K (.Tuple elts kk tpos) (ItZ K st p1 p2 a b) [z, TI, TO, i1, i2] z (zTn st p1 p2 a b z TI TO i1 i2) where
  mem := by simp
  obj := zp_obj
  keep := zp_keep
  item := by
    intro X hP hw hK hc i pins s σ H E I hf t hg
    subst hP hw hK
    exact zp_item D X i pins s σ H E I hf t hg
  done := by
    intro X hP hw hK hc i pins s σ H E I hf t hg
    subst hP hw hK
    exact zp_done D X i pins s σ H E (.inl (I.ok.hd hc)) I hf t hg
  self := fun A i s Q E t h => pyIter_zp t.1 h
end
def iZip (K : PySem.W.Frag) (st : Bool) (ta : TA) : TI := fun σ H R => ta σ H fun vs H1 => ∃ a b p1 p2 xs ys, vs = [.ref a, .ref b] ∧ SqB K p1 H1 a xs ∧ SqB K p2 H1 b ys ∧ R (ItZ K st p1 p2 a b) H1
theorem callWith_typeKw {M : Model} {A : Around} {E : Value → Shared → Prop} {s : Shared} {pos : Pos} {T : String} {args : List (Bool × Sem Value)} {keywords : List (Option Str × Sem Value)} {Q : Value → Shared → Prop}
    (hplain : args.any (·.1) = false) (hkw : keywords.any (·.1.isNone) = false)
    (h : wpAny M A (evalArgs (.type T) true args keywords) (fun a s₁ => wpAny M A (call (.type T) a.pos a.kw) Q E s₁) E s) :
    wpAny M A (callWith pos (.type T) [] args keywords) Q E s := by
  unfold callWith
  refine wpAny_bind (wpAny_holding (wpAny_mono h (fun a s₁ h₁ => wpAny_bind (wpAny_standAt ?_)) fun _ _ x => x))
  simp only [hplain, hkw, Bool.or_false]
  refine wpAny_bind (wpAny_pure ?_)
  exact wpAny_bind (wpAny_mono h₁ (fun r s₂ hr => wpAny_bind (wpAny_holding (wpAny_point (wpAny_pure hr)))) fun _ _ x => x)
section
variable {X : Cx} {pins : List (Addr × Obj)} {σ : L2.St} {H1 : Hp} {s1 : Shared} {R : It → Hp → Prop} {elts : List Expr} {kk : Nat} {tpos : Pos} {st : Bool}
theorem zp_go {Q : Value → Shared → Prop} {us : List Value} {vs : List V} (hD : ∀ {p1 p2 : Bool} {a b : Addr} {xs ys : List V}, SqB X.K p1 H1 a xs → SqB X.K p2 H1 b ys → R (ItZ X.K st p1 p2 a b) H1 →
      ∀ h', zTn st p1 p2 a b (s1.heap.objs.size + 4) (s1.heap.objs.size + 2) (s1.heap.objs.size + 3) s1.heap.objs.size (s1.heap.objs.size + 1) 0 h' → ZipApart (s1.heap.objs.size + 4) (s1.heap.objs.size + 2) (s1.heap.objs.size + 3) s1.heap.objs.size (s1.heap.objs.size + 1) a b →
      Inv X pins σ H1 { s1 with heap := h' } → (∀ c, c ∈ [s1.heap.objs.size + 4, s1.heap.objs.size + 2, s1.heap.objs.size + 3, s1.heap.objs.size, s1.heap.objs.size + 1] → FpOk X pins H1 c) → wpAny (model X.prog X.w) X.A (pyIter (.ref (s1.heap.objs.size + 4))) Q X.xe { s1 with heap := h' })
    (I1 : Inv X pins σ H1 s1) (r1 : Vals vs us) (q1 : ∃ a b p1 p2 xs ys, vs = [.ref a, .ref b] ∧ SqB X.K p1 H1 a xs ∧ SqB X.K p2 H1 b ys ∧ R (ItZ X.K st p1 p2 a b) H1) :
    wpAny (model X.prog X.w) X.A (call (.type "zip") us (zkw st)) (fun v s2 => wpAny (model X.prog X.w) X.A (pyIter v) Q X.xe s2) X.xe s1 := by
  obtain ⟨a, b, p1, p2, xs, ys, ex, hqx, hqy, q⟩ := q1
  subst ex
  cases r1 with
  | cons r rr =>
    cases rr with
    | cons r' rr =>
      cases rr
      cases r
      cases r'
      have fresh5 : ∀ c, c ∈ [s1.heap.objs.size + 4, s1.heap.objs.size + 2, s1.heap.objs.size + 3, s1.heap.objs.size, s1.heap.objs.size + 1] → FpOk X pins H1 c := fun c hcm => by
        have e' : c = s1.heap.objs.size + 4 ∨ c = s1.heap.objs.size + 2 ∨ c = s1.heap.objs.size + 3 ∨ c = s1.heap.objs.size ∨ c = s1.heap.objs.size + 1 := by simpa using hcm
        have hle : s1.heap.objs.size ≤ c := by
          rcases e' with z | z | z | z | z <;> rw [z] <;> first | exact Nat.le_add_right _ _ | exact Nat.le_refl _
        exact I1.fpOk hle (I1.hok.fresh hle)
      obtain ⟨its, rv, e1⟩ := inv_sq I1 hqx
      obtain ⟨its2, rv2, e2⟩ := inv_sq I1 hqy
      obtain ⟨o1, n1, ho1, _⟩ := e1.get
      obtain ⟨o2, n2, ho2, _⟩ := e2.get
      refine call_zp e1 e2 fun h' hz hTI hTO h1 h2 hsz hk => ?_
      exact hD hqx hqy q h' ⟨hz, hTI, ⟨_, _, hTO⟩, h1, h2⟩ (PySem.W.ktu_apart s1.heap.objs.size a b (Heap.lt_size ho1) (Heap.lt_size ho2)) (I1.kept (t' := s1.toks) hk) fresh5
end
theorem pi_zipM {X : Cx} (K : PySem.W.Frag) {e e2 : Expr} {ta : TA} {p pos tpos : Pos} {elts : List Expr} {kk : Nat} (hg : Gl X "zip") (hm : X.mg "zip" = none) (ha : PA X [e, e2] ta) (hK : X.K = K := by rfl)
    (hs : starEach [e, e2] X.env = (false, eval e X.env) :: starEach [e2] X.env := by rfl) (hpl : (backTo pos (starEach [e2] X.env)).any (·.1) = false := by rfl) :
    PI X (.Tuple elts kk tpos) (.Call (.Name "zip" p) [e, e2] [] pos) (iZip K false ta) := by
  subst hK
  refine ⟨fun pins s σ H R I h => ?_⟩
  refine Call_ (ld_blt I hg hm PyProof.Rows.boot_zip (PyProof.Rows.callWith_type1 (thn (ha.run pos pins s σ H _ I h) fun us s1 ⟨vs, H1, I1, r1, q1⟩ => ?_) hs hpl))
  exact zp_go (st := false) (fun {p1 p2 a b xs ys} hqx hqy q h' t D I2 f => pyIter_zp t.1 ⟨_, _, _, _, H1, rfl, I2, turn_zp D, t, f, q⟩) I1 r1 q1
theorem pi_zipS {X : Cx} (K : PySem.W.Frag) {e e2 : Expr} {ta : TA} {p pos tpos kp : Pos} {cn : Nat} {cp : Pos} {elts : List Expr} {kk : Nat} (hg : Gl X "zip") (hm : X.mg "zip" = none) (ha : PA X [e, e2] ta) (hK : X.K = K := by rfl)
    (hs : backTo pos (starEach [e, e2] X.env) = (false, eval e X.env) :: backTo pos (starEach [e2] X.env) := by rfl) (hpl : (backTo pos (starEach [e, e2] X.env)).any (·.1) = false := by rfl) :
    PI X (.Tuple elts kk tpos) (.Call (.Name "zip" p) [e, e2] [⟨some "strict", .Constant (.bool true) cn cp, kp⟩] pos) (iZip K true ta) := by
  subst hK
  refine ⟨fun pins s σ H R I h => ?_⟩
  show wpAny _ _ (eval (.Name "zip" p) X.env >>= _) _ _ _
  refine wpAny_bind (ld_blt I hg hm PyProof.Rows.boot_zip (callWith_typeKw hpl rfl ?_))
  have hr := ha.run pos pins s σ H _ I h
  rw [hs] at hr ⊢
  refine evalArgs_kwB rfl (thn hr fun us s1 ⟨vs, H1, I1, r1, q1⟩ => kws_cons (thn ?_ fun v s2 (hv : v = .bool true ∧ s2 = s1) => kws_nil ?_))
  · exact wpAny_pure ⟨rfl, rfl⟩
  · obtain ⟨rfl, rfl⟩ := hv
    exact zp_go (st := true) (fun {p1 p2 a b xs ys} hqx hqy q h' t D I2 f => pyIter_zp t.1 ⟨_, _, _, _, H1, rfl, I2, turn_zp D, t, f, q⟩) I1 r1 q1
inductive SeqD : PyData → List PyData → Prop
  | lst (ds : List PyData) : SeqD (.list ds) ds
  | tup (ds : List PyData) : SeqD (.tuple ds) ds
def zipD (ds es : List PyData) : List PyData := List.zipWith (fun a b => .tuple [a, b]) ds es
section
variable {K : PySem.W.Frag} {T : Tb} {ρ : List Slot} {ta : TA}
theorem seqD_sq {H : Hp} {S : List Addr} {v : V} {d : PyData} {ds : List PyData} (hd : SeqD d ds) (dv : Dt K (hide H S) v d) : ∃ (a : Addr) (tp : Bool) (xs : List V), v = .ref a ∧ DtAll K (hide H S) xs ds ∧
    ∀ (H' : Hp) (S' : List Addr), Kp (hide H S) (hide H' S') → SqB K tp H' a xs := by
  cases hd with
  | lst =>
    cases dv with
    | lst h1 a1 => exact ⟨_, false, _, rfl, a1, fun H' S' k => SqL.of (hide_get (k _ _ h1 rfl))⟩
  | tup =>
    cases dv with
    | tup h1 a1 => exact ⟨_, true, _, rfl, a1, fun H' S' k => sqt_hide (k.sqt h1)⟩
theorem feeds_zip {st : Bool} {B : Hp} {a b : Addr} {p1 p2 : Bool} {xs ys : List V} {ds es : List PyData} (hl : st = true → ds.length = es.length) (d1 : DtAll K B xs ds) (d2 : DtAll K B ys es)
    (s1 : ∀ (H' : Hp) (S' : List Addr), Kp B (hide H' S') → SqB K p1 H' a xs) (s2 : ∀ (H' : Hp) (S' : List Addr), Kp B (hide H' S') → SqB K p2 H' b ys) : Feeds K T (ItZ K st p1 p2 a b) B (zipD ds es) := by
  intro i H S k l
  have q1 := s1 H S k
  have q2 := s2 H S k
  refine ⟨fun d hd => ?_, fun hle => ⟨xs, ys, q1, q2, ?_⟩⟩
  · have hz : (zipD ds es)[i]? = some d := hd
    unfold zipD at hz
    rw [List.getElem?_zipWith] at hz
    cases hx : ds[i]? with
    | none => rw [hx] at hz; cases hz
    | some x =>
      cases hy : es[i]? with
      | none => rw [hx, hy] at hz; cases hz
      | some y =>
        rw [hx, hy] at hz
        cases hz
        obtain ⟨v1, hv1, e1⟩ := d1.get hx
        obtain ⟨v2, hv2, e2⟩ := d2.get hy
        refine ⟨⟨xs, ys, v1, v2, q1, q2, hv1, hv2⟩, fun x' H2 hyl => ?_⟩
        obtain ⟨Ta, w1, w2, rfl, hT, rfl, f1, f2⟩ := hyl
        have g1 := f1 _ q1
        have g2 := f2 _ q2
        rw [hv1] at g1
        rw [hv2] at g2
        cases g1
        cases g2
        have k2 : Kp B (hide (upd H Ta (.tup [v1, v2])) S) := k.trans ((Ext.new (T := T) hT).kp.hide S)
        exact ⟨.new hT, .tup (.inl (.inl (hide_at l (.of hT) rfl))) (.cons (e1.kp k2) (.cons (e2.kp k2) .nil))⟩
  · have hz : (zipD ds es).length = min ds.length es.length := by simp [zipD]
    rw [hz] at hle
    rw [d1.len, d2.len]
    cases st with
    | true => have := hl rfl; exact .inl ⟨by omega, by omega⟩
    | false => exact .inr ⟨rfl, by omega⟩
theorem it_zip {st : Bool} {d e : PyData} {ds es : List PyData} (h : EvA K T ta ρ [d, e]) (hd : SeqD d ds) (he : SeqD e es) (hl : st = true → ds.length = es.length) : IterD K T (iZip K st ta) ρ (zipD ds es) := fun H0 B C H S σ g R hR =>
  h H0 B C H S σ g _ fun vs H2 ex dv => by
    cases dv with
    | cons b1 b2 =>
      cases b2 with
      | cons b2 b3 =>
        cases b3
        obtain ⟨a, p1, xs, rfl, a1, q1⟩ := seqD_sq hd b1
        obtain ⟨b, p2, ys, rfl, a2, q2⟩ := seqD_sq he b2
        exact ⟨a, b, p1, p2, xs, ys, rfl, q1 _ _ (.refl _), q2 _ _ (.refl _), hR _ _ ex (feeds_zip hl a1 a2 q1 q2)⟩
end
end LwZ

set_option Elab.async false
set_option linter.all false
set_option maxRecDepth 100000
set_option maxHeartbeats 4000000
set_option autoImplicit false
namespace Lw
open PySem L2
section
variable (K : PySem.W.Frag) (T : Tb)
def EvX (te : TE) (ρ : List Slot) (Po : PyData → Prop) : Prop := ∀ (H0 B : Hp) (C : List Addr) (H : Hp) (S : List Addr) (σ : St), Gd K T H0 B C H S σ ρ →
  ∀ Q : VK, (∀ d v H2, Po d → Ext T H H2 → Dt K (hide H2 S) v d → Q v H2) → te σ H Q
def EvXF (te : TE) (ρ : List Slot) (Po : List PyData → Prop) : Prop := ∀ (H0 B : Hp) (C : List Addr) (H : Hp) (S : List Addr) (σ : St), Gd K T H0 B C H S σ ρ →
  ∀ Q : VK, (∀ ds p xs H2, Po ds → Ext T H H2 → Fresh H p → H2 p = some (.lst xs) → DtAll K (hide H2 (p :: S)) xs ds → Q (.ref p) H2) → te σ H Q
def EvXA (ta : TA) (ρ : List Slot) (Po : List PyData → Prop) : Prop := ∀ (H0 B : Hp) (C : List Addr) (H : Hp) (S : List Addr) (σ : St), Gd K T H0 B C H S σ ρ →
  ∀ Q : List V → Hp → Prop, (∀ ds vs H2, Po ds → Ext T H H2 → DtAll K (hide H2 S) vs ds → Q vs H2) → ta σ H Q
def EvXT (tt : TT) (ρ : List Slot) (Po : Bool → Prop) : Prop := ∀ (H0 B : Hp) (C : List Addr) (H : Hp) (S : List Addr) (σ : St), Gd K T H0 B C H S σ ρ →
  ∀ Q : Bool → Hp → Prop, (∀ b H2, Po b → Ext T H H2 → Q b H2) → tt σ H Q
end
section
variable {K : PySem.W.Frag} {T : Tb} {ρ : List Slot} {te : TE} {ta : TA} {Po : PyData → Prop} {d : PyData}
theorem Ev.x (h : Ev K T te ρ d) : EvX K T te ρ (fun x => x = d) := fun H0 B C H S σ g Q hQ => h H0 B C H S σ g Q fun v H2 e dv => hQ d v H2 rfl e dv
theorem EvX.mono {Po' : PyData → Prop} (h : EvX K T te ρ Po) (i : ∀ d, Po d → Po' d) : EvX K T te ρ Po' := fun H0 B C H S σ g Q hQ => h H0 B C H S σ g Q fun d v H2 p e dv => hQ d v H2 (i d p) e dv
theorem EvF.x {ds : List PyData} (h : EvF K T te ρ ds) : EvXF K T te ρ (fun x => x = ds) := fun H0 B C H S σ g Q hQ => h H0 B C H S σ g Q fun p xs H2 e f a b => hQ ds p xs H2 rfl e f a b
theorem EvXF.mono {Po Po' : List PyData → Prop} (h : EvXF K T te ρ Po) (i : ∀ d, Po d → Po' d) : EvXF K T te ρ Po' := fun H0 B C H S σ g Q hQ => h H0 B C H S σ g Q fun ds p xs H2 q e f a b => hQ ds p xs H2 (i ds q) e f a b
theorem EvXF.ev {Po : List PyData → Prop} (h : EvXF K T te ρ Po) : EvX K T te ρ (fun d => ∃ ds, d = .list ds ∧ Po ds) := fun H0 B C H S σ g Q hQ => h H0 B C H S σ g Q fun ds p xs H2 q e f a b =>
  hQ (.list ds) _ H2 ⟨ds, rfl, q⟩ e (.lst (hide_some.mpr ⟨(g.lst.not f), a, rfl⟩) (b.kp (hide_sub fun c hc => List.mem_cons_of_mem _ hc)))
theorem EvA.x {ds : List PyData} (h : EvA K T ta ρ ds) : EvXA K T ta ρ (fun x => x = ds) := fun H0 B C H S σ g Q hQ => h H0 B C H S σ g Q fun v H2 e dv => hQ ds v H2 rfl e dv
theorem EvXA.mono {Po Po' : List PyData → Prop} (h : EvXA K T ta ρ Po) (i : ∀ d, Po d → Po' d) : EvXA K T ta ρ Po' := fun H0 B C H S σ g Q hQ => h H0 B C H S σ g Q fun d v H2 p e dv => hQ d v H2 (i d p) e dv
variable {H0 B : Hp} {C : List Addr} {D : Ends} {tz : TS} {i : Nat}
variable {wi : TI} {g : TG} {tt : TT} {vs : List Nat} {items : List PyData}
theorem EvT.x {b : Bool} {t : TT} (h : EvT K T t ρ b) : EvXT K T t ρ (fun x => x = b) := fun H0 B C H S σ g Q hQ => h H0 B C H S σ g Q fun H2 e => hQ b H2 rfl e
inductive All2 (P : PyData → PyData → Prop) : List PyData → List PyData → Prop
  | nil : All2 P [] []
  | cons {x y : PyData} {xs ys : List PyData} : P x y → All2 P xs ys → All2 P (x :: xs) (y :: ys)
end
end Lw

set_option Elab.async false
set_option linter.all false
set_option maxRecDepth 100000
set_option maxHeartbeats 4000000
set_option autoImplicit false
namespace Lw
open PySem L2
section
variable (K : PySem.W.Frag) (T : Tb)
def EvS (te : TE) (ρ : List Slot) (Po : PyData → List Slot → Prop) : Prop := ∀ (H0 B : Hp) (C : List Addr) (H : Hp) (S : List Addr) (σ : St), Gd K T H0 B C H S σ ρ →
  ∀ Q : VK, (∀ d ρ' v H2, Po d ρ' → Gd K T H0 B C H2 S σ ρ' → Kp (hide H S) (hide H2 S) → Dt K (hide H2 S) v d → Q v H2) → te σ H Q
end
section
variable {K : PySem.W.Frag} {T : Tb} {ρ : List Slot} {te : TE} {ta tb : TE} {Po : PyData → List Slot → Prop} {d : PyData}
theorem EvX.s {P : PyData → Prop} (h : EvX K T te ρ P) : EvS K T te ρ (fun d ρ' => P d ∧ ρ' = ρ) := fun H0 B C H S σ g Q hQ => h H0 B C H S σ g Q fun d v H2 p e dv => hQ d ρ v H2 ⟨p, rfl⟩ (g.ex e) (e.kp.hide S) dv
theorem EvS.mono {Po' : PyData → List Slot → Prop} (h : EvS K T te ρ Po) (i : ∀ d ρ', Po d ρ' → Po' d ρ') : EvS K T te ρ Po' := fun H0 B C H S σ g Q hQ => h H0 B C H S σ g Q fun d ρ' v H2 p a b c => hQ d ρ' v H2 (i d ρ' p) a b c
variable {H0 B : Hp} {C : List Addr} {D : Ends} {tz : TS} {i j : Nat}
end
end Lw

set_option Elab.async false
set_option linter.all false
set_option maxRecDepth 100000
set_option maxHeartbeats 4000000
set_option autoImplicit false
namespace Lw
open PySem L2
def seerB (K : PySem.W.Frag) : Bool := He.eqO (PySem.W.nsIn K cStatics "sys.audit-hooks") (some none) && (He.eqO (PySem.W.nsIn K cStatics "sys.dict") (some none) &&
  ((match K.lookup sysModules with
    | some ⟨_, _, .dict es _, _⟩ => (es.toList.all fun e => match e.key with | .str _ _ => true | _ => false) && He.eqO (some (nsFind es "_pylong")) (some none)
    | _ => false) &&
  (match PySem.W.nsIn K mainGlobals "__builtins__" with
    | some (some (.ref bm)) => (match K.lookup bm with
      | some ⟨.type c, some d, _, _⟩ => decide (c = "module") && decide (d = builtinsNs)
      | _ => false)
    | _ => false)))
structure Seer (P : Program) (K : PySem.W.Frag) : Prop where
  tree : P.given.tree = none
  ok : seerB K = true
theorem ns_none_of {K : PySem.W.Frag} {h : Heap} {a : Addr} {mg : Str → Option Value} {n : Str} (X : K.In h) (G : h.Ns a mg) (e : PySem.W.nsIn K a n = some none) : mg n = none := by
  obtain ⟨o, es, ep, ho, hd, hk, hf⟩ := G
  unfold PySem.W.nsIn at e
  split at e
  · rename_i c d es' n' sl q
    have := X _ _ q
    rw [ho] at this
    cases this
    cases hd
    rw [← hf]
    split at e
    · cases e
    · rename_i q2
      unfold nsFind findBy
      rw [← Array.find?_toList, q2]
      rfl
  · cases e
theorem seer_heap {K : PySem.W.Frag} {mg : Str → Option Value} {base : Heap} (c : seerB K = true) (M : Mod K mg base) : base.NoSeer := by
  unfold seerB at c
  obtain ⟨c1, c⟩ := He.ba c
  obtain ⟨c2, c⟩ := He.ba c
  obtain ⟨c3, c4⟩ := He.ba c
  refine ⟨?_, ?_, M.blt, ?_⟩
  · obtain ⟨mc, n, _⟩ := M.nolimit
    exact ⟨mc, n, ns_none_of M.kin n (He.eqO_ok c1), ns_none_of M.kin n (He.eqO_ok c2)⟩
  · split at c3
    · rename_i cl d es ep sl q
      obtain ⟨k1, k2⟩ := He.ba c3
      refine ⟨fun x => nsFind es x, ⟨_, es, ep, M.kin _ _ q, rfl, fun e he => ?_, fun _ => rfl⟩, ?_⟩
      · have := List.all_eq_true.mp k1 e (Array.mem_toList_iff.mpr he)
        split at this
        · rename_i n t hk
          exact ⟨n, t, hk⟩
        · cases this
      · exact Option.some.inj (He.eqO_ok k2)
    · cases c3
  · split at c4
    · rename_i bm q
      split at c4
      · rename_i cl d dt sl q2
        obtain ⟨k1, k2⟩ := He.ba c4
        exact ⟨mg, bm, _, M.glob, PySem.W.mg_of M.kin M.glob q, M.kin _ _ q2, congrArg Value.type (of_decide_eq_true k1), congrArg some (of_decide_eq_true k2)⟩
      · cases c4
    · cases c4
theorem op_fdB {X : Cx} {k : Nat} {env : Env} {l : List Env} (Se : Seer X.prog X.K) (hr : Room k X.A) (hk : 32 ≤ k) (hst : X.stack = env :: l) (h1 : env.scope.isGenerator = false) (h2 : env.scope.isCoroutine = false) (h3 : env.builtins = builtinsNs) (h4 : env.globals = mainGlobals) :
    OpR X (binaryOp .FloorDiv) (rI (fun _ j => j ≠ 0) fun i j => .int (i.fdiv j)) := fun pins s σ H x y v u Q I rx ry h => by
  obtain ⟨i, j, rfl, rfl, hj, q⟩ := h
  obtain ⟨t1, rfl⟩ := rx
  obtain ⟨t2, rfl⟩ := ry
  have sa : SeerAt (model X.prog X.w) X.A s.heap := SeerAt.of ((seer_heap Se.ok I.ok.mod).keeps I.bk) Se.tree (by rw [I.ok.frames, hst]) h1 h2 h3 h4
  refine PyProof.Rows.floordiv_int hj ?_ (.inr (PylongRoom.of I.nolimit (by have := hr.dp; have e : Builtin.pylongFrames = 100 := rfl; omega) sa))
  exact ⟨.int (i.fdiv j), H, I.tok _, ⟨_, rfl⟩, q⟩
section
variable {K : PySem.W.Frag} {T : Tb} {ρ : List Slot}
abbrev rFdB : R2 := rI (fun _ j => j ≠ 0) fun i j => .int (i.fdiv j)
theorem rv_fdB {i j : Int} (h : j ≠ 0) : RV K T rFdB (.int i) (.int j) (.int (i.fdiv j)) := fun H S v u l dv du Q hQ => by
  cases dv
  cases du
  exact ⟨i, j, rfl, rfl, h, hQ _ _ (.refl T H) (.int _)⟩
structure CstV (mg : Str → Option Value) (K : PySem.W.Frag) (x : Str) (v : V) (u : Value) (d : PyData) : Prop where
  m : mg x = some u
  r : RelV v u
  e : ∀ H, Dt K H v d
def Cst (mg : Str → Option Value) (K : PySem.W.Frag) (x : Str) (d : PyData) : Prop := ∃ v u, CstV mg K x v u d
theorem ev_cst {mg : Str → Option Value} {x : Str} {v : V} {u : Value} {d : PyData} (g : CstV mg K x v u d) : Ev K T (tC v) ρ d := fun H0 B C H S σ gd Q hQ => hQ v H (.refl T H) (g.e _)
end
theorem cst_tup {K : PySem.W.Frag} {mg : Str → Option Value} {x : Str} {vs : List He.Dv} {ds : List PyData} (m : mg x = some (.ref (He.ga K x))) (t : He.tupB K x vs = true) (h : ∀ H, DtAll K H (vs.map (He.Dv.v K)) ds) : Cst mg K x (.tuple ds) :=
  ⟨.ref (He.ga K x), _, m, rfl, fun H => .tup (He.tupB_ok t H) (h H)⟩
theorem cst_int {K : PySem.W.Frag} {mg : Str → Option Value} {x : Str} {i : Int} (m : ∃ t, mg x = some (.int i t)) : Cst mg K x (.int i) := let ⟨t, e⟩ := m; ⟨.int i, _, e, ⟨t, rfl⟩, fun H => .int i⟩
abbrev AlL : Type := He.AlD × Bool
def obsLK (fa : List He.Fa) (fn : List He.DefD) (ck : PySem.W.Frag → Bool) (K : PySem.W.Frag) : AlL := (He.obsD fa fn K, ck K)
end Lw

set_option Elab.async false
set_option linter.all false
set_option maxRecDepth 100000
set_option maxHeartbeats 4000000
set_option autoImplicit false
namespace Lw
open PySem L2 LwZ
def ShD (n : Nat) (d : PyData) : Prop := d.canLay0 = true ∧ d.depth ≤ n
theorem ShD.mono {n m : Nat} {d : PyData} (h : ShD n d) (l : n ≤ m) : ShD m d := ⟨h.1, Nat.le_trans h.2 l⟩
theorem ShD.shaped {n : Nat} {d : PyData} (h : ShD n d) (l : n ≤ 64) : SeqAt.shaped d = true := by
  unfold SeqAt.shaped
  rw [h.1, decide_eq_true (Nat.le_trans h.2 l)]
  rfl
theorem ShD.refl {n : Nat} {d : PyData} (h : ShD n d) : PyData.eqv d d = true := PySem.SeqAt.eqv_refl d h.1
theorem lay_all : ∀ {ds : List PyData}, (∀ d ∈ ds, d.canLay0 = true) → PyData.canLayAll0 ds = true
  | [], _ => by simp only [PyData.canLayAll0]
  | d :: ds, h => by
    simp only [PyData.canLayAll0]
    rw [h d (List.mem_cons_self ..), lay_all fun x hx => h x (List.mem_cons_of_mem _ hx)]
    rfl
theorem depth_all {n : Nat} : ∀ {ds : List PyData}, (∀ d ∈ ds, d.depth ≤ n) → PyData.depthAll ds ≤ n
  | [], _ => by simp only [PyData.depthAll]; exact Nat.zero_le _
  | d :: ds, h => by
    simp only [PyData.depthAll]
    exact Nat.max_le.mpr ⟨h d (List.mem_cons_self ..), depth_all fun x hx => h x (List.mem_cons_of_mem _ hx)⟩
theorem shd_list {n : Nat} {ds : List PyData} (h : ∀ d ∈ ds, ShD n d) : ShD (n + 1) (.list ds) := by
  refine ⟨by simp only [PyData.canLay0]; exact lay_all fun d hd => (h d hd).1, ?_⟩
  simp only [PyData.depth]
  have := depth_all fun d hd => (h d hd).2
  omega
theorem shd_tuple {n : Nat} {ds : List PyData} (h : ∀ d ∈ ds, ShD n d) : ShD (n + 1) (.tuple ds) := by
  refine ⟨by simp only [PyData.canLay0]; exact lay_all fun d hd => (h d hd).1, ?_⟩
  simp only [PyData.depth]
  have := depth_all fun d hd => (h d hd).2
  omega
theorem shd_int (i : Int) : ShD 0 (.int i) := ⟨by simp only [PyData.canLay0], by simp only [PyData.depth]; exact Nat.le_refl _⟩
theorem mem_map_of {α β : Type} {P : β → Prop} {f : α → β} {xs : List α} (h : ∀ x ∈ xs, P (f x)) : ∀ y ∈ xs.map f, P y := fun y hy => by
  obtain ⟨x, hx, rfl⟩ := List.mem_map.mp hy
  exact h x hx
theorem shd_encR (q : Rat) : ShD 1 (encR q) := shd_tuple fun d hd => by
  simp only [List.mem_cons, List.mem_nil_iff, or_false] at hd
  rcases hd with rfl | rfl <;> exact shd_int _
theorem shd_encRt (qs : List Rat) : ShD 2 (.tuple (qs.map encR)) := shd_tuple (mem_map_of fun q _ => shd_encR q)
section
variable {K : PySem.W.Frag} {T : Tb} {ρ : List Slot} {te ta tb : TE} {d : PyData} {ds : List PyData}
theorem it_sq (h : Ev K T te ρ d) (hd : SeqD d ds) : IterD K T (iSeq K te) ρ ds := by
  cases hd with
  | lst => exact it_list h
  | tup => exact it_tup h
theorem ru_neg {i : Int} : RU K T (rU fun i => .int (-i)) (.int i) (.int (-i)) := fun H S v l dv Q hQ => by
  cases dv
  exact ⟨i, rfl, hQ _ _ (.refl T H) (.int _)⟩
end
section
variable {K : PySem.W.Frag} {T : Tb} {ρ : List Slot} {te : TE} {wi : TI} {g : TG} {vs : List Nat} {items : List PyData}
end
def dotQ : List Rat → List Rat → Rat
  | a :: r, b :: f => a * b + dotQ r f
  | _, _ => 0
inductive RowsD : List PyData → List (List Rat) → Prop
  | nil : RowsD [] []
  | cons {d : PyData} {ds : List PyData} {r : List Rat} {rs : List (List Rat)} : SeqD d (r.map encR) → RowsD ds rs → RowsD (d :: ds) (r :: rs)
theorem RowsD.len {ds : List PyData} {rs : List (List Rat)} (h : RowsD ds rs) : ds.length = rs.length := by
  induction h with
  | nil => rfl
  | cons a b ih => simp [ih]
theorem RowsD.get {ds : List PyData} {rs : List (List Rat)} (h : RowsD ds rs) : ∀ {i : Nat} {d : PyData}, ds[i]? = some d → ∃ r, rs[i]? = some r ∧ SeqD d (r.map encR) := by
  induction h with
  | nil => intro i d e; cases e
  | cons a b ih =>
    intro i d e
    cases i with
    | zero => cases e; exact ⟨_, rfl, a⟩
    | succ i => exact ih e
section
variable {K : PySem.W.Frag} {T : Tb} {ρ : List Slot} {te : TE} {wi : TI} {ta : TA} {vs : List Nat}
end
end Lw

set_option Elab.async false
set_option linter.all false
set_option maxRecDepth 100000
set_option maxHeartbeats 4000000
set_option autoImplicit false
namespace Lw
open PySem L2 LwZ
def tyN : PyData → String
  | .none => "NoneType"
  | .bool _ => "bool"
  | .int _ => "int"
  | .str _ => "str"
  | .list _ => "list"
  | .tuple _ => "tuple"
  | .dict _ => "dict"
section
variable {K : PySem.W.Frag} {T : Tb} {ρ : List Slot} {te : TE} {d : PyData}
end
structure ExF (K : PySem.W.Frag) (mg : Str → Option Value) (x : Str) (bm : List Value) (nw : String) : Prop where
  g : mg x = some (.ref (He.ga K x))
  q : PySem.W.excIn K (He.ga K x) bm nw = true
  k : PySem.W.keepIn K (.ref (He.ga K x)) = true
  s : PySem.W.subIn K (.ref (He.ga K x)) (.type "BaseException") = some true
  t : PySem.W.typeIn K (.ref (He.ga K x)) = some (.type "type")
def tRaise (K : PySem.W.Frag) (x : Str) (W : WX) : TS := fun _ σ H => W (.ref (He.ga K x)) none σ H
theorem ps_raiseX {X : Cx} {x m : Str} {j : Nat} {p p2 pos pos' : Pos} {bm : List Value} {B nw ini : String} {W : WX} (hc : X.calm = true) (tk : L2N.Takes X W) (F : ExcBaseFacts B nw ini bm) (e : ExF X.K X.mg x bm nw) (hg : Gl X x)
    (hdb : (x == ("__debug__" : Str)) = false := by decide) : PS X (.Raise (some (.Call (.Name x p) [.Constant (.str m) j p2] [] pos)) none pos') (tRaise X.K x W) :=
  L2N.ps_raise hc tk (L2N.pmk_own F e.q e.g e.k (raises_own e.s e.t) hg hdb)
inductive Out where
  | ok (d : PyData)
  | ex (x : Str)
def spE (K : PySem.W.Frag) (T : Tb) (R : List PyData → Out → Prop) : Sp := fun vs H Q E => ∃ ds o S, LsT T H S ∧ DtAll K (hide H S) vs ds ∧ R ds o ∧
  match o with
  | .ok r => ∀ v H', Ext T H H' → Dt K (hide H' S) v r → Q v H'
  | .ex x => ∀ H', Ext T H H' → E (.ref (He.ga K x)) none H'
def WF (E : XK) : WX := fun cls d _ H => E cls d H
section
variable {P : Program} {w : World} {K : PySem.W.Frag} {T : Tb} {mg : Str → Option Value} {base : Heap}
end
structure CalX (P : Program) (w : World) (K : PySem.W.Frag) (mg : Str → Option Value) (base : Heap) (k : Nat) (x : Str) (ps : List Str) (dvs : List V) (sp : Sp) : Prop where
  ex : ∃ (f : Addr) (fd : FuncData) (ds : List Value), FnOk P w K mg base (L2N.CX P w) k f fd ps sp ∧ mg x = some (.ref f) ∧ PySem.W.keepIn K (.ref f) = true ∧ Binds K fd ps ds ∧ Vals dvs ds
section
variable {X : Cx} {x : Str} {ps : List Str} {dvs : List V} {sp : Sp} {k j : Nat} {e : Expr} {es : List Expr} {t : TA} {p pos : Pos} {W : WX}
theorem pe_callX (c : CalX X.prog X.w X.K X.mg X.base k x ps dvs sp) (tk : L2N.Takes X W) (hr : Room j X.A) (hg : Gl X x) (ha : PA X (e :: es) t) (hk : k ≤ j := by decide) (hdb : (x == ("__debug__" : Str)) = false := by decide)
    (he : starEach (e :: es) X.env = (false, eval e X.env) :: starEach es X.env := by rfl) (hpl : (backTo pos (starEach es X.env)).any (·.1) = false := by rfl) : PE X (.Call (.Name x p) (e :: es) [] pos) (tCallSD sp dvs (WE W) t) := by
  obtain ⟨f, fd, ds, G, m, kp, b, v⟩ := c.ex
  exact pe_callSD G (hr.mono hk) hg m kp b v (fun σ => L2N.passAt tk σ) ha hdb he hpl
end
section
variable {K : PySem.W.Frag} {T : Tb} {ρ : List Slot} {te : TE} {ta : TA} {z : PyData} {W : WX} {H0 B : Hp} {C : List Addr} {D : Ends} {tz : TS} {g : TG}
end
structure ErC where
  name : Str
  ups : List Str
  bm : List Value
  nw : String
  ini : Bool
def veB : List Value := [.type "ValueError", .type "Exception", .type "BaseException", .type "object"]
def zeB : List Value := [.type "ZeroDivisionError", .type "ArithmeticError", .type "Exception", .type "BaseException", .type "object"]
def subE (c d : ErC) : Bool := (c.name :: c.ups).contains d.name
def biE : List String := ["ValueError", "ZeroDivisionError", "LookupError", "IndexError"]
def excB (K : PySem.W.Frag) (D : Addr) : Bool := He.eqO (PySem.W.findIn K (.ref D) "__getattribute__") (some (some (.builtin "BaseException.__getattribute__"))) && (He.eqO (PySem.W.findIn K (.ref D) "__getattr__") (some none) &&
  (decide (PySem.W.subIn K (.ref D) (.type "BaseException") = some true) && (PySem.W.hasDictIn K D && (He.eqO (PySem.W.findIn K (.ref D) "__class__") (some (some (.builtin "object.__class__"))) &&
  (He.eqO (PySem.W.specialIn K (.builtin "object.__class__") "__get__") (some (some (.builtin "getset_descriptor.__get__"))) && (decide (PySem.W.takesIn K (.builtin "object.__class__") = some true) && decide (PySem.W.mroIn K D (.type "object") = some true)))))))
theorem excB_ok {K : PySem.W.Frag} {D : Addr} (h : excB K D = true) : ExcC K D := by
  unfold excB at h
  obtain ⟨h1, h⟩ := He.ba h
  obtain ⟨h2, h⟩ := He.ba h
  obtain ⟨h3, h⟩ := He.ba h
  obtain ⟨h4, h⟩ := He.ba h
  obtain ⟨h5, h⟩ := He.ba h
  obtain ⟨h6, h⟩ := He.ba h
  obtain ⟨h7, h8⟩ := He.ba h
  exact ⟨He.eqO_ok h1, He.eqO_ok h2, of_decide_eq_true h3, h4, He.eqO_ok h5, He.eqO_ok h6, of_decide_eq_true h7, of_decide_eq_true h8⟩
def erOne (K : PySem.W.Frag) (cl : List ErC) (c : ErC) : Bool := He.eqO (PySem.W.nsIn K mainGlobals c.name) (some (some (.ref (He.ga K c.name)))) && ((c.ini || PySem.W.excIn K (He.ga K c.name) c.bm c.nw) && (PySem.W.keepIn K (.ref (He.ga K c.name)) &&
  (decide (PySem.W.typeIn K (.ref (He.ga K c.name)) = some (.type "type")) && (excB K (He.ga K c.name) && ((cl.all fun d => decide (PySem.W.exmOne K (.ref (He.ga K c.name)) (.ref (He.ga K d.name)) = some (subE c d)) && decide (PySem.W.kitOne K (.ref (He.ga K c.name)) (.ref (He.ga K d.name)) = some (subE c d))) &&
  biE.all fun t => decide (PySem.W.kitOne K (.ref (He.ga K c.name)) (.type t) = some (c.bm.contains (.type t))))))))
def erB (cl : List ErC) (K : PySem.W.Frag) : Bool := cl.all (erOne K cl)
structure ErF (K : PySem.W.Frag) (mg : Str → Option Value) (cl : List ErC) (c : ErC) : Prop where
  g : mg c.name = some (.ref (He.ga K c.name))
  f : c.ini = false → ExF K mg c.name c.bm c.nw
  k : PySem.W.keepIn K (.ref (He.ga K c.name)) = true
  t : PySem.W.typeIn K (.ref (He.ga K c.name)) = some (.type "type")
  x : ExcC K (He.ga K c.name)
  m : ∀ d ∈ cl, PySem.W.exmOne K (.ref (He.ga K c.name)) (.ref (He.ga K d.name)) = some (subE c d) ∧ PySem.W.kitOne K (.ref (He.ga K c.name)) (.ref (He.ga K d.name)) = some (subE c d)
  b : ∀ t ∈ biE, PySem.W.kitOne K (.ref (He.ga K c.name)) (.type t) = some (c.bm.contains (.type t))
def ErrT (K : PySem.W.Frag) (mg : Str → Option Value) (cl : List ErC) : Prop := ∀ c ∈ cl, ErF K mg cl c
theorem erB_ok {K : PySem.W.Frag} {h : Heap} {mg : Str → Option Value} {cl : List ErC} (X : K.In h) (G : h.Ns mainGlobals mg) (e : erB cl K = true) : ErrT K mg cl := fun c hc => by
  have q := List.all_eq_true.mp e c hc
  unfold erOne at q
  obtain ⟨h1, q⟩ := He.ba q
  obtain ⟨h2, q⟩ := He.ba q
  obtain ⟨h3, q⟩ := He.ba q
  obtain ⟨h4, q⟩ := He.ba q
  obtain ⟨h5, q⟩ := He.ba q
  obtain ⟨h6, h7⟩ := He.ba q
  have g := PySem.W.mg_of X G (He.eqO_ok h1)
  have c5 := excB_ok h5
  refine ⟨g, fun z => ⟨g, ?_, h3, c5.hs, of_decide_eq_true h4⟩, h3, of_decide_eq_true h4, c5, fun d hd => ?_, fun t ht => of_decide_eq_true (List.all_eq_true.mp h7 t ht)⟩
  · rw [z, Bool.false_or] at h2
    exact h2
  · obtain ⟨a, b⟩ := He.ba (List.all_eq_true.mp h6 d hd)
    exact ⟨of_decide_eq_true a, of_decide_eq_true b⟩
theorem CalX.calm {P : Program} {w : World} {K : PySem.W.Frag} {T : Tb} {mg : Str → Option Value} {base : Heap} {k : Nat} {x : Str} {ps : List Str} {dvs : List V} {R : List PyData → Out → Prop} (c : CalX P w K mg base k x ps dvs (spE K T R)) :
    Cal P w K mg base k x ps dvs (spR K T fun ds r => R ds (.ok r)) := by
  obtain ⟨f, fd, ds, G, m, kp, b, v⟩ := c.ex
  refine ⟨f, fd, ds, ⟨fun vs H Q E h => ?_, fun A outer s H args us vs Q E hr e0 hb hv h => ?_⟩, m, kp, b, v⟩
  · obtain ⟨ds, r, S, l, hd, hR, hq⟩ := h
    exact G.len vs H Q (fun _ _ _ => False) ⟨ds, .ok r, S, l, hd, hR, hq⟩
  · obtain ⟨ds, r, S, l, hd, hR, hq⟩ := h
    refine codeAny_mono (G.run A outer s H args us vs Q (fun _ _ _ => False) hr e0 hb hv ⟨ds, .ok r, S, l, hd, hR, hq⟩) fun o s' h' => ?_
    cases o with
    | error e =>
      obtain ⟨_, _, _, _, _, _, _, _, _, _, _, _, z⟩ := h'
      exact z.elim
    | ok fl => cases fl <;> exact h'
section
variable {K : PySem.W.Frag} {T : Tb} {ρ : List Slot} {H0 B : Hp} {C : List Addr} {D : Ends} {H : Hp} {S : List Addr} {σ : St}
theorem tri_app {ts : TS} (σ : St) (H : Hp) (g : Good K T H0 B C ρ σ H) (h : Tri K T H0 B C ρ ts D) : ts D σ H := h σ H g
end
end Lw

set_option Elab.async false
set_option linter.all false
set_option maxRecDepth 100000
set_option maxHeartbeats 4000000
set_option autoImplicit false
namespace Lw
open PySem PySem.Spec PyProof.Rows L2
inductive Cl2 where
  | one (c : Value)
  | two (c d : Value)
inductive TestOk (X : Cx) : Expr → Cl2 → Prop
  | one {x : Str} {c : Value} {np : Pos} (h : Names X x c) : TestOk X (.Name x np) (.one c)
  | two {x y : Str} {c d : Value} {p q pos : Pos} {k : Nat} (h : Names X x c) (h2 : Names X y d) : TestOk X (.Tuple [.Name x p, .Name y q] k pos) (.two c d)
abbrev Sui := Addr → Value → Option Addr → TS
inductive HdsA (X : Cx) (n : Str) : List ExceptHandler → List (Cl2 × Sui) → Prop
  | nil : HdsA X n [] []
  | cons {e : Expr} {c : Cl2} {ts : Sui} {b₀ : Stmt} {suite : List Stmt} {pos' : Pos} {hds : List ExceptHandler} {l : List (Cl2 × Sui)} (hc : TestOk X e c)
      (hsu : ∀ (a : Addr) (oe : Obj) (cls : Value) (d : Option Addr) (pn : List (Addr × Obj)), L2N.Zn cls d oe → (∃ vs, oe.data = .fields vs) → PSs (X.suite a ((a, oe) :: pn)) (b₀ :: suite) (ts a cls d)) (r : HdsA X n hds l) :
      HdsA X n (.ExceptHandler (some e) (some n) (b₀ :: suite) pos' :: hds) ((c, ts) :: l)
section
variable {X : Cx} {body : List Stmt} {h₀ : ExceptHandler} {hds : List ExceptHandler} {l : List (Cl2 × Sui)} {pos : Pos} {tb : WX → TS} {Wout : WX} {n : Str} {i : Nat}
end
end Lw

set_option Elab.async false
set_option linter.all false
set_option maxRecDepth 100000
set_option maxHeartbeats 4000000
set_option autoImplicit false
namespace LwZ
open PySem PySem.Spec PyProof.Rows L2
structure TurnQ (P : Program) (w : World) (K : PySem.W.Frag) (tg : Expr) (J : It) (fp : List Addr) (it : Addr) (tn : Nat → Heap → Prop) : Prop where
  mem : it ∈ fp
  obj : ∀ i h, tn i h → ∀ b ∈ fp, ∃ o, h.get? b = some o ∧ ∀ v, o.data ≠ .cell v
  keep : ∀ i h h', tn i h → (∀ b ∈ fp, ∀ o, h.get? b = some o → h'.get? b = some o) → tn i h'
  item : ∀ (X : Cx), X.prog = P → X.w = w → X.K = K → ∀ (i : Nat) (pins : List (Addr × Obj)) (s : Shared) (σ : L2.St) (H : Hp) (E : Value → Shared → Prop), Inv X pins σ H s → (∀ b ∈ fp, FpOk X pins H b) → tn i s.heap → J.go i H →
    wpAny (model P w) X.A (pyNext (.ref it)) (fun r s1 => ∃ u, r = some u ∧
      wpAny (model P w) X.A (letOwnedTupleGo tg (.ref it) u) (fun _ s2 => ∃ x H', Inv X pins σ H' s2 ∧ RelV x u ∧ J.yld i H x H' ∧ tn (i + 1) s2.heap ∧ ∀ b ∈ fp, H' b = none) E s1) E s
  done : ∀ (X : Cx), X.prog = P → X.w = w → X.K = K → ∀ (i : Nat) (pins : List (Addr × Obj)) (s : Shared) (σ : L2.St) (H : Hp) (E : Value → Shared → Prop), Quiet X.A s.heap → Inv X pins σ H s → (∀ b ∈ fp, FpOk X pins H b) → tn i s.heap → J.stop i H →
    wpAny (model P w) X.A (pyNext (.ref it)) (fun r s1 => r = none ∧ Inv X pins σ H s1) E s
  self : ∀ (A : Around) (i : Nat) (s : Shared) (Q : Value → Shared → Prop) (E : Value → Shared → Prop), tn i s.heap → Q (.ref it) s → wpAny (model P w) A (pyIter (.ref it)) Q E s
def PIEQ (X : Cx) (pins : List (Addr × Obj)) (σ : L2.St) (tg : Expr) (R : It → Hp → Prop) (itv : Value) (s2 : Shared) : Prop :=
  ∃ (it : Addr) (fp : List Addr) (tn : Nat → Heap → Prop) (J : It) (H' : Hp), itv = .ref it ∧ Inv X pins σ H' s2 ∧ TurnQ X.prog X.w X.K tg J fp it tn ∧ tn 0 s2.heap ∧ (∀ b ∈ fp, FpOk X pins H' b) ∧ R J H'
structure PIQ (X : Cx) (tg iter : Expr) (wi : TI) : Prop where
  run : ∀ (pins : List (Addr × Obj)) (s : Shared) (σ : L2.St) (H : Hp) (R : It → Hp → Prop), Inv X pins σ H s → wi σ H R →
    wpAny (model X.prog X.w) X.A (eval iter X.env) (fun v s1 => wpAny (model X.prog X.w) X.A (pyIter v) (PIEQ X pins σ tg R) X.xe s1) X.xe s
section
variable {prog : Program} {w : World} {A : Around} {E : Value → Shared → Prop} {s : Shared}
end
section
variable {prog : Program} {w : World} {A : Around} {E : Value → Shared → Prop} {s : Shared}
end
structure PGQ (X : Cx) (target : Expr) (t : TG) : Prop where
  run : ∀ (pins : List (Addr × Obj)) (s : Shared) (σ : L2.St) (H : Hp) (v : V) (u : Value) (Q : L2.St → Hp → Prop), Quiet X.A s.heap → Inv X pins σ H s → RelV v u → t v σ H Q →
    wpAny (model X.prog X.w) X.A (assign target X.env u) (fun _ s' => ∃ σ' H', Inv X pins σ' H' s' ∧ Q σ' H') X.xe s
section
variable {X : Cx}
end
end LwZ

set_option Elab.async false
set_option linter.all false
set_option maxRecDepth 100000
set_option maxHeartbeats 4000000
set_option autoImplicit false
namespace LwZ
open PySem PySem.Spec PyProof.Rows L2 Lw
set_option maxHeartbeats 4000000 in
theorem meets_enum0 {v : Value} {o : Obj} {H : Heap → Prop} (B : Begins v o H) :
    Meets (Builtin.«enumerate.__new__» ⟨[.type "enumerate", v], []⟩) (fun _ R s => H s.heap ∧
      R (.ok (.ret (.ref (s.heap.push o).objs.size))) { s with heap := (s.heap.push o).push { cls := .type "enumerate", data := .fields #[.none, .bool false, .ref s.heap.objs.size, rawInt 0, .none, .none] } }) :=
  .of_wp fun prog w A R s h => by
    obtain ⟨hp, g, d, tk, os⟩ := s; obtain ⟨h1, h⟩ := h
    have hsub := sub_enumerate
    have q1 : ∀ {A' : Around} {E : Value → Shared → Prop} {Q : Value → Shared → Prop}, Q (.ref hp.objs.size) ⟨hp.push o, g, d, tk, os⟩ → wpAny (model prog w) A' (pyIter v) Q E ⟨hp, g, d, tk, os⟩ :=
      fun q => B.iter prog w _ _ ⟨hp, g, d, tk, os⟩ _ h1 q
    wp_walk using q1
    refine wpAny_stack_any fun st => wpAny_pure ?_
    split
    · rename_i c _ _ _ _ _
      cases (c == Value.type "enumerate")
      · wp_walk using q1
        exact ⟨_, rfl, h⟩
      · wp_walk using q1
        exact ⟨_, rfl, h⟩
    · wp_walk using q1
      exact ⟨_, rfl, h⟩
section
variable {prog : Program} {w : World} {A : Around} {E : Value → Shared → Prop} {s : Shared}
theorem call_enum {tp : Bool} {l : Addr} {xs : Array Value} {Q : Value → Shared → Prop} (hl : IsSq tp s.heap l xs)
    (h : ∀ h', IsEnum h' (s.heap.objs.size + 1) s.heap.objs.size 0 .none → IsIt tp h' s.heap.objs.size l 0 → h'.objs.size = s.heap.objs.size + 2 →
      (∀ b o, s.heap.get? b = some o → h'.get? b = some o) → Q (.ref (s.heap.objs.size + 1)) { s with heap := h' }) : wpAny (model prog w) A (call (.type "enumerate") [.ref l]) Q E s := by
  refine callType_new F.called_enumerate (by decide) (F.typeCall_enumerate_1 _) (F.newCall_enumerate_1 _) (fun obj => F.args_object_init_2 obj _) F.entry_enumerate_new (meets_enum0 (begins_sq tp l xs)) ⟨hl, ?_⟩
  have hz : (s.heap.push (itO tp l)).objs.size = s.heap.objs.size + 1 := Heap.size_push ..
  show _ ∧ _
  rw [hz]
  have he : IsEnum ((s.heap.push (itO tp l)).push { cls := .type "enumerate", data := .fields #[.none, .bool false, .ref s.heap.objs.size, rawInt 0, .none, .none] }) (s.heap.objs.size + 1) s.heap.objs.size 0 .none := by
    have := Heap.get?_push_size (s.heap.push (itO tp l)) (o := { cls := .type "enumerate", data := .fields #[.none, .bool false, .ref s.heap.objs.size, rawInt 0, .none, .none] }) rfl
    rw [hz] at this; exact this
  refine ⟨⟨_, he, rfl⟩, h _ he (.mk ⟨_, Heap.get?_push_of_some _ (Heap.get?_push_size _ (by cases tp <;> rfl)), rfl, rfl⟩) (by rw [Heap.size_push, hz]) fun b o x => Heap.get?_push_of_some _ (Heap.get?_push_of_some _ x)⟩
end
theorem draws_sq {prog : Program} {w : World} {A : Around} (hh : A.handled = none) (tp : Bool) (it l : Addr) (hne : l ≠ it) (items : Array Value) :
    Draws prog w A it [it, l] items.size (fun i v => items[i]? = some v) (fun i h => IsIt tp h it l i ∧ IsSq tp h l items) := by
  cases tp
  · exact Draws.list hh it l hne items
  · exact Draws.tuple hh it l hne items
theorem en_end {prog : Program} {w : World} {A : Around} {E : Value → Shared → Prop} {s : Shared} {tp : Bool} {e it l : Addr} {i : Nat} {c : Int} {items : Array Value} {old : Value} {Q : Option Value → Shared → Prop} (q : Quiet A s.heap) (he : IsEnum s.heap e it c old) (hit : IsIt tp s.heap it l i)
    (hl : IsSq tp s.heap l items) (hx : items[i]? = none) (hQ : ∀ h', Heap.ExtBut it s.heap h' → Q none { s with heap := h' }) : wpAny (model prog w) A (pyNext (.ref e)) Q E s := by
  have hT : s.TypeIs (.ref e) "enumerate" := ⟨_, he, rfl⟩
  unfold pyNext
  refine wpAny_bind (wpAny_attempt (wpAny_callSpecial?_slot (name := Str.ofString "__next__") hT F.slot_enumerate_next
    (wpAny_call_entry F.slot_enumerate_next hT F.entry_enumerate_next ?_ (F.args_enumerate_next_1 _))))
  show wpAny _ _ (field (.ref e) 2 >>= _) _ _ _
  refine wpAny_bind (wpAny_field he rfl (x := .ref it) rfl ?_)
  refine wpAny_bind (nextOf_end (A := A.in1) q hit hl hx fun h' x he' hx' => ?_)
  obtain ⟨o, ho, hc⟩ := hx'
  refine wpAny_bind (wpAny_isInstance (T := "StopIteration") (b := true) ⟨o, ho, hc⟩ isSubtype_stop ?_)
  exact wpAny_pure (hQ _ he')
def ItE (K : PySem.W.Frag) (tp : Bool) (a : Addr) : It :=
  ⟨fun i H => ∃ (xs : List V) (x : V), SqB K tp H a xs ∧ xs[i]? = some x, fun i H v H' => ∃ T x, v = .ref T ∧ H T = none ∧ H' = upd H T (.tup [.int (i : Nat), x]) ∧ ∀ xs, SqB K tp H a xs → xs[i]? = some x, fun i H => ∃ xs : List V, SqB K tp H a xs ∧ xs.length ≤ i⟩
theorem turn_en {P : Program} {w : World} {K : PySem.W.Frag} {elts : List Expr} {kk : Nat} {tpos : Pos} {tp : Bool} (a e it : Addr) (hat : a ≠ it) (hae : a ≠ e) :
    Turn P w K (.Tuple elts kk tpos) (ItE K tp a) [e, it] e (fun i h => (∃ old, IsEnum h e it ((i : Nat) : Int) old) ∧ IsIt tp h it a i ∧ e ≠ it) where
  mem := by simp
  obj := fun i h st b hb => by
    obtain ⟨⟨old, he⟩, hit, _⟩ := st
    obtain ⟨o, ho, hc, hd⟩ := hit.get
    have e' : b = e ∨ b = it := by simpa using hb
    rcases e' with z | z
    · rw [z]; exact ⟨_, he, fun v q => nomatch q⟩
    · rw [z]; exact ⟨o, ho, fun v q => by rw [hd] at q; cases q⟩
  keep := fun i h h' st k => let ⟨⟨old, he⟩, hi, hne⟩ := st; ⟨⟨old, k e (by simp) _ he⟩, hi.at fun o q => k it (by simp) o q, hne⟩
  item := by
    intro X hP hw hK hc i pins s σ H E I hf st hg
    subst hP hw hK
    obtain ⟨⟨old, he⟩, hit, hne⟩ := st
    obtain ⟨xs, x, hq, hx⟩ := hg
    obtain ⟨its, rv, p⟩ := inv_sq I hq
    obtain ⟨u, hu, ru⟩ := rv.get hx
    have hel : e < s.heap.objs.size := Heap.lt_size he
    have hil : it < s.heap.objs.size := by obtain ⟨_, q, _⟩ := hit.get; exact Heap.lt_size q
    have hlt : i < its.toArray.size := by
      have := (List.getElem?_eq_some_iff.mp hu).1
      simpa using this
    refine wpAny_pyNext_enum_itemD (draws_sq (A := X.A.in1) (I.ok.hd hc) tp it a hat its.toArray) he ⟨hit, p⟩ hlt hne (by simp; exact ⟨hne, Ne.symm hae⟩) fun u' h' tk hu' ho hst' hT hsz hk => ?_
    have eu : u' = u := by
      have h1 : its.toArray[i]? = some u := by simpa using hu
      rw [h1] at hu'
      exact (Option.some.inj hu').symm
    subst eu
    refine ⟨_, rfl, wpAny_letOwnedTupleGo_enum (s := { s with heap := h', toks := tk + 1 }) ho fun h'' he' sb => ?_⟩
    have hT2 : h''.get? s.heap.objs.size = some { cls := .type "tuple", data := .seq #[.int i tk, u'] } := (sb.2 _ (Nat.ne_of_gt hel)).trans hT
    have new : ObjOk X.prog X.w (upd H s.heap.objs.size (.tup [.int (i : Nat), x])) h'' s.heap.objs.size (.tup [.int (i : Nat), x]) :=
      ⟨by show 2 ≤ sizeLine; decide, [.int i tk, u'], .cons ⟨_, rfl⟩ (.cons ru .nil), ⟨_, hT2, rfl, _, rfl⟩⟩
    have I1 : Inv X pins σ (upd H s.heap.objs.size (.tup [.int (i : Nat), x])) { s with heap := h'', toks := tk + 1 } :=
      I.turnedNew (ch := [e, it]) (fun b ob hb q => (sb.2 b (fun z => hb (by simp [z]))).trans (hk b ob (fun z => hb (by simp [z])) (fun z => hb (by simp [z])) q)) hf (Nat.le_refl _) new
    refine ⟨.ref s.heap.objs.size, _, I1, rfl, ⟨_, x, rfl, I.hok.fresh (Nat.le_refl _), rfl, fun ys hy => by rw [inv_sq_inj I hy hq]; exact hx⟩, ⟨⟨u', ?_⟩, hst'.1.at fun o q => (sb.2 it (Ne.symm hne)).trans q, hne⟩, fun b hb => ?_⟩
    · have e1 : ((i + 1 : Nat) : Int) = (i : Int) + 1 := by omega
      rw [e1]; exact he'
    · have hb' : b < s.heap.objs.size := by
        have e' : b = e ∨ b = it := by simpa using hb
        rcases e' with z | z
        · rw [z]; exact hel
        · rw [z]; exact hil
      rw [upd_ne (Nat.ne_of_lt hb')]
      exact (hf b hb).1
  done := by
    intro X hP hw hK hc i pins s σ H E I hf st hg
    subst hP hw hK
    obtain ⟨⟨old, he⟩, hit, hne⟩ := st
    obtain ⟨xs, hq, hx⟩ := hg
    obtain ⟨its, rv, p⟩ := inv_sq I hq
    obtain ⟨f0, f1, f2, f3, f4, f5⟩ := hf it (by simp)
    have hl := rv.length
    exact en_end (.inl (I.ok.hd hc)) he hit p (by simp; omega) fun h' eb => ⟨rfl, I.turned (t' := s.toks) (fun b o hb q => eb b o hb q) f0 f1 f3 f4 f5⟩
  self := fun A i s Q E st h => let ⟨⟨_, he⟩, _⟩ := st; wpAny_pyIter_enum he h
def iEnumB (K : PySem.W.Frag) (ta : TA) : TI := fun σ H R => ta σ H fun vs H1 => ∃ a tp xs, vs = [.ref a] ∧ SqB K tp H1 a xs ∧ R (ItE K tp a) H1
theorem pi_enumA {X : Cx} (K : PySem.W.Frag) {e : Expr} {ta : TA} {p pos tpos : Pos} {elts : List Expr} {kk : Nat} (hg : Gl X "enumerate") (hm : X.mg "enumerate" = none) (ha : PA X [e] ta) (hK : X.K = K := by rfl) (hs : starEach [e] X.env = [(false, eval e X.env)] := by rfl) :
    PI X (.Tuple elts kk tpos) (.Call (.Name "enumerate" p) [e] [] pos) (iEnumB K ta) := by
  subst hK
  refine ⟨fun pins s σ H R I h => ?_⟩
  refine Call_ (ld_blt I hg hm boot_enumerate (PyProof.Rows.callWith_type1 (thn (ha.run pos pins s σ H _ I h) fun us s1 ⟨vs, H1, I1, r1, q1⟩ => ?_) hs rfl))
  obtain ⟨a, tp, xs, ex, hq, q⟩ := q1
  subst ex
  cases r1 with
  | cons r rr =>
    cases rr
    cases r
    obtain ⟨its, rv, p'⟩ := inv_sq I1 hq
    obtain ⟨oa, na, hoa, _⟩ := p'.get
    have hal := Heap.lt_size hoa
    refine call_enum p' fun h' he hit hsz hk => wpAny_pyIter_enum he ?_
    have I2 : Inv X pins σ H1 { s1 with heap := h' } := I1.kept (t' := s1.toks) hk
    refine ⟨s1.heap.objs.size + 1, [s1.heap.objs.size + 1, s1.heap.objs.size], _, _, H1, rfl, I2, turn_en a (s1.heap.objs.size + 1) s1.heap.objs.size (Nat.ne_of_lt hal) (Nat.ne_of_lt (Nat.lt_succ_of_lt hal)), ⟨⟨.none, he⟩, hit, Nat.succ_ne_self _⟩, fun b hb => ?_, q⟩
    have e' : b = s1.heap.objs.size + 1 ∨ b = s1.heap.objs.size := by simpa using hb
    have hle : s1.heap.objs.size ≤ b := by
      rcases e' with z | z
      · rw [z]; exact Nat.le_add_right _ _
      · rw [z]; exact Nat.le_refl _
    exact I1.fpOk hle (I1.hok.fresh hle)
def enD (k : Nat) : List PyData → List PyData
  | [] => []
  | d :: ds => .tuple [.int (k : Int), d] :: enD (k + 1) ds
theorem enD_len : ∀ (ds : List PyData) (k : Nat), (enD k ds).length = ds.length
  | [], _ => rfl
  | d :: ds, k => congrArg (· + 1) (enD_len ds (k + 1))
theorem enD_get : ∀ {ds : List PyData} {k i : Nat} {e : PyData}, (enD k ds)[i]? = some e → ∃ d, ds[i]? = some d ∧ e = .tuple [.int ((k + i : Nat) : Int), d]
  | [], k, i, e, h => by cases h
  | d :: ds, k, 0, e, h => by cases h; exact ⟨d, rfl, rfl⟩
  | d :: ds, k, i + 1, e, h => by
    obtain ⟨x, h1, h2⟩ := enD_get (ds := ds) (k := k + 1) (i := i) h
    exact ⟨x, h1, by rw [h2, show k + 1 + i = k + (i + 1) from by omega]⟩
section
variable {K : PySem.W.Frag} {T : Tb} {ρ : List Slot} {ta : TA}
theorem it_enum {d : PyData} {ds : List PyData} (h : EvA K T ta ρ [d]) (hd : SeqD d ds) : IterD K T (iEnumB K ta) ρ (enD 0 ds) := fun H0 B C H S σ g R hR =>
  h H0 B C H S σ g _ fun vs H2 ex dv => by
    cases dv with
    | cons b1 b2 =>
      cases b2
      obtain ⟨a, tp, xs, rfl, a1, q1⟩ := seqD_sq hd b1
      refine ⟨a, tp, xs, rfl, q1 _ _ (.refl _), hR _ _ ex fun i H' S' k l => ?_⟩
      have q := q1 H' S' k
      refine ⟨fun e he => ?_, fun hle => ⟨xs, q, by rw [a1.len]; rw [enD_len] at hle; exact hle⟩⟩
      obtain ⟨x, hx, rfl⟩ := enD_get he
      obtain ⟨v, hv, dx⟩ := a1.get hx
      refine ⟨⟨xs, v, q, hv⟩, fun x' H3 hy => ?_⟩
      obtain ⟨Ta, w1, rfl, hT, rfl, f1⟩ := hy
      have g1 := f1 _ q
      rw [hv] at g1
      cases g1
      have k2 : Kp (hide H2 S) (hide (upd H' Ta (.tup [.int (i : Nat), v])) S') := k.trans ((Ext.new (T := T) hT).kp.hide S')
      rw [Nat.zero_add]
      exact ⟨.new hT, .tup (.inl (.inl (hide_at l (.of hT) rfl))) (.cons (.int _) (.cons (dx.kp k2) .nil))⟩
end
end LwZ

set_option Elab.async false
set_option linter.all false
set_option maxRecDepth 100000
set_option maxHeartbeats 4000000
set_option autoImplicit false
namespace LwM
open PySem PySem.Spec PyProof.Rows L2 HotX L2H
structure FnHX (P : Program) (w : World) (K : PySem.W.Frag) (mg : Str → Option Value) (base : Heap) (CX : CXT) (k : Nat) (f : Addr) (fd : FuncData) (ps : List Str) (sp : Addr → Value → Option Addr → Sp) : Prop where
  len : ∀ a cls d vs H Q E, sp a cls d vs H Q E → vs.length = ps.length
  run : ∀ (A : Around) (outer : List Env) (s : Shared) (H : Hp) (args : Args) (us : List Value) (vs : List V) (Q : VK) (E : XK) (p : Addr × Obj) (cls : Value) (d : Option Addr), RoomH k A → Hot1 A p → Zc cls d p.2 → PinOk outer H s p → Env0 P w K mg base A outer s H → BindsTo s fd args (ps.zip us) → Vals vs us → sp p.1 cls d vs H Q E →
    codeAny (model P w) A (.call (.ref f) args) (CR CX outer P w H s Q E) s
end LwM

set_option Elab.async false
set_option linter.all false
set_option maxRecDepth 100000
set_option maxHeartbeats 4000000
set_option autoImplicit false
namespace Lw
open PySem L2 LwZ
structure Exn where
  cls : Str
  fs : List (Str × PyData)
inductive Rz (α : Type) where
  | ok (a : α)
  | ex (x : Exn)
  | bad
def Rz.bind {α β : Type} (m : Rz α) (k : α → Rz β) : Rz β := match m with
  | .ok a => k a
  | .ex x => .ex x
  | .bad => .bad
def Rz.of {α : Type} : Option α → Rz α
  | some a => .ok a
  | none => .bad
def Rz.calm {α : Type} : Rz α → Rz α
  | .ok a => .ok a
  | _ => .bad
theorem Rz.bind_ok {α β : Type} (a : α) (k : α → Rz β) : (Rz.ok a).bind k = k a := rfl
theorem Rz.of_some {α : Type} (a : α) : Rz.of (some a) = .ok a := rfl
theorem Rz.calm_ok {α : Type} (a : α) : (Rz.ok a).calm = .ok a := rfl
inductive XD (K : PySem.W.Frag) (H : Hp) : Option Addr → List (Str × PyData) → Prop
  | no : XD K H none []
  | fs {a : Addr} {kvs : List (Str × V)} {fs : List (Str × PyData)} : H a = some (.xd kvs) → kvs.map (·.1) = fs.map (·.1) → DtAll K H (kvs.map (·.2)) (fs.map (·.2)) → fs ≠ [] → XD K H (some a) fs
theorem XD.kp {K : PySem.W.Frag} {H H' : Hp} {d : Option Addr} {fs : List (Str × PyData)} (h : XD K H d fs) (e : Kp H H') : XD K H' d fs := by
  cases h with
  | no => exact .no
  | fs h1 h2 h3 h4 => exact .fs (e _ _ h1 rfl) h2 (h3.kp e) h4
section
variable (K : PySem.W.Frag) (T : Tb)
def EvRx {α : Type} (te : St → Hp → (α → Hp → Prop) → Prop) (ρ : List Slot) (x : Exn) (W : WX) : Prop := ∀ (H0 B : Hp) (C : List Addr) (H : Hp) (S : List Addr) (σ : St), Gd K T H0 B C H S σ ρ →
  ∀ Q : α → Hp → Prop, (∀ d H2, Ext T H H2 → XD K (hide H2 S) d x.fs → W (.ref (He.ga K x.cls)) d σ H2) → te σ H Q
abbrev ME := List Slot → Rz PyData
abbrev MT := List Slot → Rz Bool
abbrev MA := List Slot → Rz (List PyData)
abbrev MO := List Slot → Rz (Option Int)
def EzE (te : TE) (ρ : List Slot) (W : WX) : Rz PyData → Prop
  | .ok d => Ev K T te ρ d
  | .ex x => EvRx K T te ρ x W
  | .bad => True
def EzF (te : TE) (ρ : List Slot) (W : WX) : Rz (List PyData) → Prop
  | .ok ds => EvF K T te ρ ds
  | .ex x => EvRx K T te ρ x W
  | .bad => True
def EzT (te : TT) (ρ : List Slot) (W : WX) : Rz Bool → Prop
  | .ok d => EvT K T te ρ d
  | .ex x => EvRx K T te ρ x W
  | .bad => True
def EzA (te : TA) (ρ : List Slot) (W : WX) : Rz (List PyData) → Prop
  | .ok d => EvA K T te ρ d
  | .ex x => EvRx K T te ρ x W
  | .bad => True
def EzP (te : TO) (ρ : List Slot) (W : WX) : Rz (Option Int) → Prop
  | .ok d => EvP K T te ρ d
  | .ex x => EvRx K T te ρ x W
  | .bad => True
def SimE (te : TE) (W : WX) (m : ME) : Prop := ∀ ρ, EzE K T te ρ W (m ρ)
def SimF (te : TE) (W : WX) (m : MA) : Prop := ∀ ρ, EzF K T te ρ W (m ρ)
def SimT (te : TT) (W : WX) (m : MT) : Prop := ∀ ρ, EzT K T te ρ W (m ρ)
def SimA (te : TA) (W : WX) (m : MA) : Prop := ∀ ρ, EzA K T te ρ W (m ρ)
def SimP (te : TO) (W : WX) (m : MO) : Prop := ∀ ρ, EzP K T te ρ W (m ρ)
def ROp (r : R2) (f : PyData → PyData → Option PyData) : Prop := ∀ x y z, f x y = some z → RV K T r x y z
def ROpF (r : R2) (f : PyData → PyData → Option (List PyData)) : Prop := ∀ x y z, f x y = some z → RVF K T r x y z
def RCb (r : List V → Hp → VK → Prop) (f : List PyData → Option PyData) : Prop := ∀ xs z, f xs = some z → RC K T r xs z
def RCbF (r : List V → Hp → VK → Prop) (f : List PyData → Option (List PyData)) : Prop := ∀ xs z, f xs = some z → RCF K T r xs z
end
def xC (d : PyData) : ME := fun _ => .ok d
def xV (i : Nat) : ME := fun ρ => match ρ[i]? with
  | some (.dat d) => .ok d
  | _ => .bad
def xOp (f : PyData → PyData → Option PyData) (a b : ME) : ME := fun ρ => (a ρ).bind fun x => (b ρ).bind fun y => .of (f x y)
def fOp (f : PyData → PyData → Option (List PyData)) (a b : ME) : MA := fun ρ => (a ρ).bind fun x => (b ρ).bind fun y => .of (f x y)
def xUn (f : PyData → Option PyData) (a : ME) : ME := fun ρ => (a ρ).bind fun x => .of (f x)
def asB : PyData → Option Bool
  | .bool b => some b
  | _ => none
def asI : PyData → Option Int
  | .int i => some i
  | _ => none
def xNot (a : ME) : ME := fun ρ => (a ρ).bind fun x => (Rz.of (asB x)).bind fun c => .ok (.bool (!c))
def xAnd (a b : ME) : ME := fun ρ => (a ρ).bind fun x => (Rz.of (asB x)).bind fun c => match c with
  | true => b ρ
  | false => .ok (.bool false)
def xOr (a b : ME) : ME := fun ρ => (a ρ).bind fun x => (Rz.of (asB x)).bind fun c => match c with
  | true => .ok (.bool true)
  | false => b ρ
def xIf (t : MT) (a b : ME) : ME := fun ρ => (t ρ).bind fun c => match c with
  | true => a ρ
  | false => b ρ
def xChain (f g : PyData → PyData → Option PyData) (a b c : ME) : ME := fun ρ => (a ρ).bind fun x => (b ρ).bind fun y => (Rz.of (f x y)).bind fun z => (Rz.of (asB z)).bind fun k => match k with
  | true => (c ρ).bind fun w => .of (g y w)
  | false => .ok (.bool false)
def zNil : MA := fun _ => .ok []
def zCons (a : ME) (r : MA) : MA := fun ρ => (a ρ).bind fun x => (r ρ).bind fun xs => .ok (x :: xs)
def xTup (a : MA) : ME := fun ρ => (a ρ).bind fun xs => if xs.length ≤ 1000000 then .ok (.tuple xs) else .bad
def fLst (a : MA) : MA := fun ρ => (a ρ).bind fun xs => if xs.length ≤ 1000000 then .ok xs else .bad
def xL (a : MA) : ME := fun ρ => (a ρ).bind fun xs => .ok (.list xs)
def xCB (f : List PyData → Option PyData) (a : MA) : ME := fun ρ => (a ρ).bind fun xs => .of (f xs)
def fCB (f : List PyData → Option (List PyData)) (a : MA) : MA := fun ρ => (a ρ).bind fun xs => .of (f xs)
def xF (f : List PyData → Rz PyData) (a : MA) : ME := fun ρ => (a ρ).bind f
def xFc (f : List PyData → Rz PyData) (a : MA) : ME := fun ρ => (a ρ).bind fun ds => (f ds).calm
def oNo : MO := fun _ => .ok none
def oAt (a : ME) : MO := fun ρ => (a ρ).bind fun x => (Rz.of (asI x)).bind fun i => .ok (some i)
def fSl (f : PyData → Option Int → Option Int → Option (List PyData)) (a : ME) (lo hi : MO) : MA := fun ρ => (a ρ).bind fun x => (lo ρ).bind fun l => (hi ρ).bind fun h => .of (f x l h)
def xSl (f : PyData → Option Int → Option Int → Option PyData) (a : ME) (lo hi : MO) : ME := fun ρ => (a ρ).bind fun x => (lo ρ).bind fun l => (hi ρ).bind fun h => .of (f x l h)
def yV (a : ME) : MT := fun ρ => (a ρ).bind fun x => .of (asB x)
def yAnd (a b : MT) : MT := fun ρ => (a ρ).bind fun c => match c with
  | true => b ρ
  | false => .ok false
def yOr (a b : MT) : MT := fun ρ => (a ρ).bind fun c => match c with
  | true => .ok true
  | false => b ρ
def yNot (a : MT) : MT := fun ρ => (a ρ).bind fun c => .ok (!c)
def yYes : MT := fun _ => .ok true
def ownL : Option Slot → Option (List PyData)
  | some (.own (.lst ds)) => some ds
  | _ => none
def ownD : Option Slot → Option (List (Key × PyData))
  | some (.own (.dct es)) => some es
  | _ => none
def xIxO (k : Nat) (b : ME) : ME := fun ρ => (Rz.of (ownL ρ[k]?)).bind fun ds => (b ρ).bind fun y => (Rz.of (asI y)).bind fun i => .of (atI ds i)
def xLenO (k : Nat) : ME := fun ρ => (Rz.of (ownL ρ[k]?)).bind fun ds => .ok (.int ds.length)
section
variable {K : PySem.W.Frag} {T : Tb} {W : WX} {te ta tb tc : TE} {t u : TT} {ma mb mc : ME} {mt mu : MT}
theorem sim_int {i : Int} : SimE K T (tC (.int i)) W (xC (.int i)) := fun ρ => ev_int
theorem sim_bl {b : Bool} : SimE K T (tC (.bl b)) W (xC (.bool b)) := fun ρ => ev_bl
theorem sim_str {s : Str} : SimE K T (tC (.str s)) W (xC (.str s)) := fun ρ => ev_str
theorem sim_cst {mg : Str → Option Value} {x : Str} {v : V} {u : Value} {d : PyData} (g : CstV mg K x v u d) : SimE K T (tC v) W (xC d) := fun ρ => ev_cst g
theorem sim_V {i : Nat} : SimE K T (tVar i) W (xV i) := fun ρ => by
  unfold xV
  split
  · rename_i d h
    exact ev_var h
  · exact True.intro
theorem sim_op {r : R2} {f : PyData → PyData → Option PyData} (hr : ROp K T r f) (ha : SimE K T ta W ma) (hb : SimE K T tb W mb) : SimE K T (tOp r ta tb) W (xOp f ma mb) := fun ρ => by
  have a := ha ρ
  have b := hb ρ
  unfold xOp
  cases h1 : ma ρ with
  | bad => exact True.intro
  | ex x => rw [h1] at a; exact fun H0 B C H S σ g Q hQ => a H0 B C H S σ g _ hQ
  | ok x =>
    rw [h1] at a
    cases h2 : mb ρ with
    | bad => exact True.intro
    | ex y => rw [h2] at b; exact fun H0 B C H S σ g Q hQ => a H0 B C H S σ g _ fun v H1 e1 d1 => b H0 B C H1 S σ (g.ex e1) _ fun d H2 e2 xd => hQ d H2 (e1.trans e2) xd
    | ok y =>
      rw [h2] at b
      show EzE K T _ ρ W (Rz.of (f x y))
      cases h3 : f x y with
      | none => exact True.intro
      | some z => exact ev_op a b (hr x y z h3)
theorem asB_eq {x : PyData} {b : Bool} (h : asB x = some b) : x = .bool b := by
  cases x <;> first | cases h; rfl | cases h
theorem asI_eq {x : PyData} {b : Int} (h : asI x = some b) : x = .int b := by
  cases x <;> first | cases h; rfl | cases h
theorem sim_and (ha : SimE K T ta W ma) (hb : SimE K T tb W mb) : SimE K T (tAndV ta tb) W (xAnd ma mb) := fun ρ => by
  have a := ha ρ
  have b := hb ρ
  unfold xAnd
  cases h1 : ma ρ with
  | bad => exact True.intro
  | ex x => rw [h1] at a; exact fun H0 B C H S σ g Q hQ => a H0 B C H S σ g _ hQ
  | ok x =>
    rw [h1] at a
    show EzE K T _ ρ W ((Rz.of (asB x)).bind _)
    cases h2 : asB x with
    | none => exact True.intro
    | some c =>
      cases asB_eq h2
      cases c with
      | false =>
        exact fun H0 B C H S σ g Q hQ => a H0 B C H S σ g _ fun v H1 e1 d1 => by
          cases d1
          exact ⟨false, rfl, iteF (hQ _ H1 e1 (.bl false))⟩
      | true =>
        show EzE K T _ ρ W (mb ρ)
        cases h3 : mb ρ with
        | bad => exact True.intro
        | ex y =>
          rw [h3] at b
          exact fun H0 B C H S σ g Q hQ => a H0 B C H S σ g _ fun v H1 e1 d1 => by
            cases d1
            exact ⟨true, rfl, iteT (b H0 B C H1 S σ (g.ex e1) _ fun d H2 e2 xd => hQ d H2 (e1.trans e2) xd)⟩
        | ok y =>
          rw [h3] at b
          exact fun H0 B C H S σ g Q hQ => a H0 B C H S σ g _ fun v H1 e1 d1 => by
            cases d1
            exact ⟨true, rfl, iteT (b H0 B C H1 S σ (g.ex e1) _ fun d H2 e2 xd => hQ d H2 (e1.trans e2) xd)⟩
theorem sim_if (ht : SimT K T t W mt) (ha : SimE K T ta W ma) (hb : SimE K T tb W mb) : SimE K T (tIf t ta tb) W (xIf mt ma mb) := fun ρ => by
  have c := ht ρ
  have a := ha ρ
  have b := hb ρ
  unfold xIf
  cases h1 : mt ρ with
  | bad => exact True.intro
  | ex x => rw [h1] at c; exact fun H0 B C H S σ g Q hQ => c H0 B C H S σ g _ hQ
  | ok k =>
    rw [h1] at c
    cases k with
    | true =>
      show EzE K T _ ρ W (ma ρ)
      cases h2 : ma ρ with
      | bad => exact True.intro
      | ex y => rw [h2] at a; exact fun H0 B C H S σ g Q hQ => c H0 B C H S σ g _ fun H1 e1 => iteT (a H0 B C H1 S σ (g.ex e1) _ fun d H2 e2 xd => hQ d H2 (e1.trans e2) xd)
      | ok y => rw [h2] at a; exact ev_ifT c a
    | false =>
      show EzE K T _ ρ W (mb ρ)
      cases h2 : mb ρ with
      | bad => exact True.intro
      | ex y => rw [h2] at b; exact fun H0 B C H S σ g Q hQ => c H0 B C H S σ g _ fun H1 e1 => iteF (b H0 B C H1 S σ (g.ex e1) _ fun d H2 e2 xd => hQ d H2 (e1.trans e2) xd)
      | ok y => rw [h2] at b; exact ev_ifF c b
theorem sim_chain {r r' : R2} {f f' : PyData → PyData → Option PyData} (hr : ROp K T r f) (hr' : ROp K T r' f') (ha : SimE K T ta W ma) (hb : SimE K T tb W mb) (hc : SimE K T tc W mc) : SimE K T (tChain r r' ta tb tc) W (xChain f f' ma mb mc) := fun ρ => by
  have a := ha ρ
  have b := hb ρ
  have c := hc ρ
  unfold xChain
  cases h1 : ma ρ with
  | bad => exact True.intro
  | ex x => rw [h1] at a; exact fun H0 B C H S σ g Q hQ => a H0 B C H S σ g _ hQ
  | ok x =>
    rw [h1] at a
    cases h2 : mb ρ with
    | bad => exact True.intro
    | ex y => rw [h2] at b; exact fun H0 B C H S σ g Q hQ => a H0 B C H S σ g _ fun v H1 e1 d1 => b H0 B C H1 S σ (g.ex e1) _ fun d H2 e2 xd => hQ d H2 (e1.trans e2) xd
    | ok y =>
      rw [h2] at b
      show EzE K T _ ρ W ((Rz.of (f x y)).bind _)
      cases h3 : f x y with
      | none => exact True.intro
      | some z =>
        show EzE K T _ ρ W ((Rz.of (asB z)).bind _)
        cases h4 : asB z with
        | none => exact True.intro
        | some k =>
          cases asB_eq h4
          have rr := hr x y _ h3
          cases k with
          | false =>
            exact fun H0 B C H S σ g Q hQ => a H0 B C H S σ g _ fun v H1 e1 d1 => b H0 B C H1 S σ (g.ex e1) _ fun w H2 e2 d2 =>
              rr H2 S v w ((g.lst.kp e1.kp).kp e2.kp) (d1.kp (e2.kp.hide S)) d2 _ fun q H3 e3 d3 => by
                cases d3
                exact ⟨false, rfl, iteF (hQ _ H3 (e1.trans (e2.trans e3)) (.bl false))⟩
          | true =>
            show EzE K T _ ρ W ((mc ρ).bind _)
            cases h5 : mc ρ with
            | bad => exact True.intro
            | ex q =>
              rw [h5] at c
              exact fun H0 B C H S σ g Q hQ => a H0 B C H S σ g _ fun v H1 e1 d1 => b H0 B C H1 S σ (g.ex e1) _ fun w H2 e2 d2 =>
                rr H2 S v w ((g.lst.kp e1.kp).kp e2.kp) (d1.kp (e2.kp.hide S)) d2 _ fun q H3 e3 d3 => by
                  cases d3
                  exact ⟨true, rfl, iteT (c H0 B C H3 S σ (((g.ex e1).ex e2).ex e3) _ fun d H4 e4 xd => hQ d H4 (e1.trans (e2.trans (e3.trans e4))) xd)⟩
            | ok q =>
              rw [h5] at c
              show EzE K T _ ρ W (Rz.of (f' y q))
              cases h6 : f' y q with
              | none => exact True.intro
              | some z2 =>
                exact fun H0 B C H S σ g Q hQ => a H0 B C H S σ g _ fun v H1 e1 d1 => b H0 B C H1 S σ (g.ex e1) _ fun w H2 e2 d2 =>
                  rr H2 S v w ((g.lst.kp e1.kp).kp e2.kp) (d1.kp (e2.kp.hide S)) d2 _ fun q H3 e3 d3 => by
                    cases d3
                    refine ⟨true, rfl, iteT (c H0 B C H3 S σ (((g.ex e1).ex e2).ex e3) _ fun w' H4 e4 d4 => ?_)⟩
                    exact hr' y _ _ h6 H4 S w w' ((((g.lst.kp e1.kp).kp e2.kp).kp e3.kp).kp e4.kp) ((d2.kp (e3.kp.hide S)).kp (e4.kp.hide S)) d4 Q fun q5 H5 e5 d5 => hQ q5 H5 (e1.trans (e2.trans (e3.trans (e4.trans e5)))) d5
theorem sim_nil : SimA K T tNil W zNil := fun ρ => ea_nil
theorem sim_cons {tr : TA} {mr : MA} (ha : SimE K T ta W ma) (hr : SimA K T tr W mr) : SimA K T (tCons ta tr) W (zCons ma mr) := fun ρ => by
  have a := ha ρ
  have b := hr ρ
  unfold zCons
  cases h1 : ma ρ with
  | bad => exact True.intro
  | ex x => rw [h1] at a; exact fun H0 B C H S σ g Q hQ => a H0 B C H S σ g _ hQ
  | ok x =>
    rw [h1] at a
    cases h2 : mr ρ with
    | bad => exact True.intro
    | ex y => rw [h2] at b; exact fun H0 B C H S σ g Q hQ => a H0 B C H S σ g _ fun v H1 e1 d1 => b H0 B C H1 S σ (g.ex e1) _ fun d H2 e2 xd => hQ d H2 (e1.trans e2) xd
    | ok y => rw [h2] at b; exact ea_cons a b
variable {tr : TA} {mr : MA}
theorem sim_tup (h : SimA K T tr W mr) : SimE K T (tTup tr) W (xTup mr) := fun ρ => by
  have a := h ρ
  unfold xTup
  cases h1 : mr ρ with
  | bad => exact True.intro
  | ex x => rw [h1] at a; exact fun H0 B C H S σ g Q hQ => a H0 B C H S σ g _ hQ
  | ok xs =>
    rw [h1] at a
    show EzE K T _ ρ W (if _ then _ else _)
    by_cases hl : xs.length ≤ 1000000
    · rw [if_pos hl]; exact ev_tup a hl
    · rw [if_neg hl]; exact True.intro
theorem sim_lstF (h : SimA K T tr W mr) : SimF K T (tLst tr) W (fLst mr) := fun ρ => by
  have a := h ρ
  unfold fLst
  cases h1 : mr ρ with
  | bad => exact True.intro
  | ex x => rw [h1] at a; exact fun H0 B C H S σ g Q hQ => a H0 B C H S σ g _ hQ
  | ok xs =>
    rw [h1] at a
    show EzF K T _ ρ W (if _ then _ else _)
    by_cases hl : xs.length ≤ 1000000
    · rw [if_pos hl]; exact ef_lst a hl
    · rw [if_neg hl]; exact True.intro
theorem sim_L (h : SimF K T te W mr) : SimE K T te W (xL mr) := fun ρ => by
  have a := h ρ
  unfold xL
  cases h1 : mr ρ with
  | bad => exact True.intro
  | ex x => rw [h1] at a; exact a
  | ok xs => rw [h1] at a; exact EvF.ev a
theorem sim_cb {r : List V → Hp → VK → Prop} {f : List PyData → Option PyData} (hr : RCb K T r f) (h : SimA K T tr W mr) : SimE K T (tCB r tr) W (xCB f mr) := fun ρ => by
  have a := h ρ
  unfold xCB
  cases h1 : mr ρ with
  | bad => exact True.intro
  | ex x => rw [h1] at a; exact fun H0 B C H S σ g Q hQ => a H0 B C H S σ g _ hQ
  | ok xs =>
    rw [h1] at a
    show EzE K T _ ρ W (Rz.of (f xs))
    cases h3 : f xs with
    | none => exact True.intro
    | some z => exact ev_cb a (hr xs z h3)
theorem sim_cbF {r : List V → Hp → VK → Prop} {f : List PyData → Option (List PyData)} (hr : RCbF K T r f) (h : SimA K T tr W mr) : SimF K T (tCB r tr) W (fCB f mr) := fun ρ => by
  have a := h ρ
  unfold fCB
  cases h1 : mr ρ with
  | bad => exact True.intro
  | ex x => rw [h1] at a; exact fun H0 B C H S σ g Q hQ => a H0 B C H S σ g _ hQ
  | ok xs =>
    rw [h1] at a
    show EzF K T _ ρ W (Rz.of (f xs))
    cases h3 : f xs with
    | none => exact True.intro
    | some z => exact ef_cb a (hr xs z h3)
theorem sim_oNo : SimP K T tNoPart W oNo := fun ρ => ep_none
theorem sim_oAt (h : SimE K T te W ma) : SimP K T (tPart te) W (oAt ma) := fun ρ => by
  have a := h ρ
  unfold oAt
  cases h1 : ma ρ with
  | bad => exact True.intro
  | ex x => rw [h1] at a; exact fun H0 B C H S σ g Q hQ => a H0 B C H S σ g _ hQ
  | ok x =>
    rw [h1] at a
    show EzP K T _ ρ W ((Rz.of (asI x)).bind _)
    cases h2 : asI x with
    | none => exact True.intro
    | some i => cases asI_eq h2; exact ep_some a
theorem sim_sl {r : V → Option Int → Option Int → Hp → VK → Prop} {f : PyData → Option Int → Option Int → Option PyData} {tl th : TO} {ml mh : MO} (hr : ∀ x l h z, f x l h = some z → RS K T r x l h z) (ha : SimE K T te W ma) (h1 : SimP K T tl W ml) (h2 : SimP K T th W mh) : SimE K T (tSl r te tl th) W (xSl f ma ml mh) := fun ρ => by
  have a := ha ρ
  have b := h1 ρ
  have c := h2 ρ
  unfold xSl
  cases e1 : ma ρ with
  | bad => exact True.intro
  | ex x => rw [e1] at a; exact fun H0 B C H S σ g Q hQ => a H0 B C H S σ g _ hQ
  | ok x =>
    rw [e1] at a
    cases e2 : ml ρ with
    | bad => exact True.intro
    | ex y => rw [e2] at b; exact fun H0 B C H S σ g Q hQ => a H0 B C H S σ g _ fun v H1 e1 d1 => b H0 B C H1 S σ (g.ex e1) _ fun d H2 e2 xd => hQ d H2 (e1.trans e2) xd
    | ok lo =>
      rw [e2] at b
      cases e3 : mh ρ with
      | bad => exact True.intro
      | ex y => rw [e3] at c; exact fun H0 B C H S σ g Q hQ => a H0 B C H S σ g _ fun v H1 e1 d1 => b H0 B C H1 S σ (g.ex e1) _ fun H2 e2 => c H0 B C H2 S σ ((g.ex e1).ex e2) _ fun d H3 e3 xd => hQ d H3 (e1.trans (e2.trans e3)) xd
      | ok hi =>
        rw [e3] at c
        show EzE K T _ ρ W (Rz.of (f x lo hi))
        cases e4 : f x lo hi with
        | none => exact True.intro
        | some z => exact ev_sl a b c (hr x lo hi z e4)
theorem sim_yT (h : SimE K T te W ma) : SimT K T (tTest te) W (yV ma) := fun ρ => by
  have a := h ρ
  unfold yV
  cases h1 : ma ρ with
  | bad => exact True.intro
  | ex x => rw [h1] at a; exact fun H0 B C H S σ g Q hQ => a H0 B C H S σ g _ hQ
  | ok x =>
    rw [h1] at a
    show EzT K T _ ρ W (Rz.of (asB x))
    cases h2 : asB x with
    | none => exact True.intro
    | some i => cases asB_eq h2; exact et_test a
theorem sim_yB (h : SimE K T te W ma) : SimT K T (tB te) W (yV ma) := fun ρ => by
  have a := h ρ
  unfold yV
  cases h1 : ma ρ with
  | bad => exact True.intro
  | ex x => rw [h1] at a; exact fun H0 B C H S σ g Q hQ => a H0 B C H S σ g _ hQ
  | ok x =>
    rw [h1] at a
    show EzT K T _ ρ W (Rz.of (asB x))
    cases h2 : asB x with
    | none => exact True.intro
    | some i => cases asB_eq h2; exact et_B a
theorem sim_yNot (h : SimT K T t W mt) : SimT K T (tNot t) W (yNot mt) := fun ρ => by
  have a := h ρ
  unfold yNot
  cases h1 : mt ρ with
  | bad => exact True.intro
  | ex x => rw [h1] at a; exact fun H0 B C H S σ g Q hQ => a H0 B C H S σ g _ hQ
  | ok x => rw [h1] at a; exact et_not a
theorem sim_yYes : SimT K T tYes W yYes := fun ρ => et_yes
theorem sim_yAnd (h : SimT K T t W mt) (h' : SimT K T u W mu) : SimT K T (tAnd t u) W (yAnd mt mu) := fun ρ => by
  have a := h ρ
  have b := h' ρ
  unfold yAnd
  cases h1 : mt ρ with
  | bad => exact True.intro
  | ex x => rw [h1] at a; exact fun H0 B C H S σ g Q hQ => a H0 B C H S σ g _ hQ
  | ok x =>
    rw [h1] at a
    cases x with
    | false => exact fun H0 B C H S σ g Q hQ => a H0 B C H S σ g _ fun H1 e1 => iteF (hQ H1 e1)
    | true =>
      show EzT K T _ ρ W (mu ρ)
      cases h2 : mu ρ with
      | bad => exact True.intro
      | ex y => rw [h2] at b; exact fun H0 B C H S σ g Q hQ => a H0 B C H S σ g _ fun H1 e1 => iteT (b H0 B C H1 S σ (g.ex e1) _ fun d H2 e2 xd => hQ d H2 (e1.trans e2) xd)
      | ok y => rw [h2] at b; exact fun H0 B C H S σ g Q hQ => a H0 B C H S σ g _ fun H1 e1 => iteT (b H0 B C H1 S σ (g.ex e1) _ fun H2 e2 => hQ H2 (e1.trans e2))
theorem sim_yOr (h : SimT K T t W mt) (h' : SimT K T u W mu) : SimT K T (tOr t u) W (yOr mt mu) := fun ρ => by
  have a := h ρ
  have b := h' ρ
  unfold yOr
  cases h1 : mt ρ with
  | bad => exact True.intro
  | ex x => rw [h1] at a; exact fun H0 B C H S σ g Q hQ => a H0 B C H S σ g _ hQ
  | ok x =>
    rw [h1] at a
    cases x with
    | true => exact fun H0 B C H S σ g Q hQ => a H0 B C H S σ g _ fun H1 e1 => iteT (hQ H1 e1)
    | false =>
      show EzT K T _ ρ W (mu ρ)
      cases h2 : mu ρ with
      | bad => exact True.intro
      | ex y => rw [h2] at b; exact fun H0 B C H S σ g Q hQ => a H0 B C H S σ g _ fun H1 e1 => iteF (b H0 B C H1 S σ (g.ex e1) _ fun d H2 e2 xd => hQ d H2 (e1.trans e2) xd)
      | ok y => rw [h2] at b; exact fun H0 B C H S σ g Q hQ => a H0 B C H S σ g _ fun H1 e1 => iteF (b H0 B C H1 S σ (g.ex e1) _ fun H2 e2 => hQ H2 (e1.trans e2))
theorem ownL_eq {o : Option Slot} {ds : List PyData} (h : ownL o = some ds) : o = some (.own (.lst ds)) := by
  unfold ownL at h
  split at h
  · cases h; rfl
  · cases h
theorem sim_ixO {k : Nat} (hb : SimE K T tb W mb) : SimE K T (tOp (rIx K) (tVar k) tb) W (xIxO k mb) := fun ρ => by
  have b := hb ρ
  unfold xIxO
  cases h0 : ownL ρ[k]? with
  | none => exact True.intro
  | some ds =>
    have ho := ownL_eq h0
    show EzE K T _ ρ W ((mb ρ).bind _)
    cases h1 : mb ρ with
    | bad => exact True.intro
    | ex x =>
      rw [h1] at b
      exact fun H0 B C H S σ g Q hQ => by
        obtain ⟨p, u, a1, a2, a3, a4, a5⟩ := g.own k _ ho
        exact ⟨.ref p, a1, b H0 B C H S σ g _ hQ⟩
    | ok y =>
      rw [h1] at b
      show EzE K T _ ρ W ((Rz.of (asI y)).bind _)
      cases h2 : asI y with
      | none => exact True.intro
      | some i =>
        cases asI_eq h2
        show EzE K T _ ρ W (Rz.of (atI ds i))
        cases h3 : atI ds i with
        | none => exact True.intro
        | some z => exact ev_ixO ho b h3
theorem sim_lenO {k : Nat} : SimE K T (tCB (rLenA K) (tCons (tVar k) tNil)) W (xLenO k) := fun ρ => by
  unfold xLenO
  cases h0 : ownL ρ[k]? with
  | none => exact True.intro
  | some ds =>
    have ho := ownL_eq h0
    show Ev K T _ ρ (.int ds.length)
    refine ev_view (ev_cb (ea_cons (ev_var (d := .list ds) ?_) ea_nil) rc_lenL) rfl
    rw [List.getElem?_map, ho]
    rfl
end
end Lw

set_option Elab.async false
set_option linter.all false
set_option maxRecDepth 100000
set_option maxHeartbeats 4000000
set_option autoImplicit false
namespace Lw
open PySem L2 LwZ
abbrev MG := PyData → Option (List Slot → List Slot)
abbrev MGs := List PyData → Option (List Slot → List Slot)
def SimG (K : PySem.W.Frag) (T : Tb) (g : TG) (js : List Nat) (m : MG) : Prop := ∀ d f, m d = some f → TgD K T g d js f
def SimGs (K : PySem.W.Frag) (T : Tb) (g : TGs) (js : List Nat) (m : MGs) : Prop := ∀ d f, m d = some f → TgDs K T g d js f
def gN (i : Nat) : MG := fun d => some fun ρ => ρ.set i (.dat d)
def gs0 : MGs := fun ds => match ds with
  | [] => some fun ρ => ρ
  | _ => none
def gsC (g : MG) (r : MGs) : MGs := fun ds => match ds with
  | d :: ds => (g d).bind fun f => (r ds).bind fun h => some fun ρ => h (f ρ)
  | [] => none
def gT (n : Nat) (r : MGs) : MG := fun d => match d with
  | .tuple ds => if ds.length = n then r ds else none
  | _ => none
def gU (n : Nat) (r : MGs) : MG := fun d => match d with
  | .list ds => if ds.length = n then r ds else none
  | _ => none
section
variable {K : PySem.W.Frag} {T : Tb}
theorem simG_N {i : Nat} : SimG K T (gName i) [i] (gN i) := fun d f h => by
  cases h; exact tg_name
theorem simG_0 : SimGs K T gNil [] gs0 := fun d f h => by
  unfold gs0 at h
  split at h
  · cases h; exact tgs_nil
  · cases h
theorem simG_C {g : TG} {u : TGs} {js ks : List Nat} {m : MG} {r : MGs} (h1 : SimG K T g js m) (h2 : SimGs K T u ks r) : SimGs K T (gCons g u) (js ++ ks) (gsC m r) := fun d f h => by
  unfold gsC at h
  split at h
  · rename_i d ds
    cases e1 : m d with
    | none => rw [e1] at h; cases h
    | some f1 =>
      rw [e1] at h
      cases e2 : r ds with
      | none => rw [Option.bind_some, e2] at h; cases h
      | some f2 =>
        rw [Option.bind_some, e2] at h
        cases h
        exact tgs_cons (h1 d f1 e1) (h2 ds f2 e2)
  · cases h
theorem simG_T {u : TGs} {js : List Nat} {n : Nat} {r : MGs} (h2 : SimGs K T u js r) : SimG K T (gTup K n u) js (gT n r) := fun d f h => by
  unfold gT at h
  split at h
  · rename_i ds
    by_cases hl : ds.length = n
    · rw [if_pos hl] at h; exact tg_tup (h2 ds f h) hl
    · rw [if_neg hl] at h; cases h
  · cases h
end
def SimI (K : PySem.W.Frag) (T : Tb) (wi : TI) (W : WX) (m : MA) : Prop := ∀ ρ, match m ρ with
  | .ok items => IterD K T wi ρ items
  | .ex x => EvRx K T wi ρ x W
  | .bad => True
def seqOf : PyData → Option (List PyData)
  | .list ds => some ds
  | .tuple ds => some ds
  | _ => none
theorem seqOf_eq {d : PyData} {ds : List PyData} (h : seqOf d = some ds) : SeqD d ds := by
  cases d with
  | list xs => cases h; exact .lst _
  | tuple xs => cases h; exact .tup _
  | none => cases h
  | bool b => cases h
  | int i => cases h
  | str s => cases h
  | dict k => cases h
def iS (a : ME) : MA := fun ρ => (a ρ).bind fun d => .of (seqOf d)
def fitR (i : Int) : Bool := Nat.ble i.natAbs 4611686018427387903
def rng1 : List PyData → Option (List PyData)
  | [.int j] => if fitR j then some (rgD 0 j.toNat) else none
  | _ => none
def zipO (st : Bool) : List PyData → Option (List PyData)
  | [d, e] => (seqOf d).bind fun ds => (seqOf e).bind fun es => if st && decide (ds.length ≠ es.length) then none else some (zipD ds es)
  | _ => none
def enO : List PyData → Option (List PyData)
  | [d] => (seqOf d).bind fun ds => some (enD 0 ds)
  | _ => none
def iA (f : List PyData → Option (List PyData)) (a : MA) : MA := fun ρ => (a ρ).bind fun ds => .of (f ds)
section
variable {K : PySem.W.Frag} {T : Tb} {W : WX} {te : TE} {ta : TA} {m : ME} {ma : MA}
theorem sim_iS (h : SimE K T te W m) : SimI K T (iSeq K te) W (iS m) := fun ρ => by
  have a := h ρ
  unfold iS
  cases h1 : m ρ with
  | bad => exact True.intro
  | ex x => rw [h1] at a; exact fun H0 B C H S σ g Q hQ => a H0 B C H S σ g _ hQ
  | ok d =>
    rw [h1] at a
    show match Rz.of (seqOf d) with | .ok items => _ | .ex x => _ | .bad => _
    cases h2 : seqOf d with
    | none => exact True.intro
    | some ds => exact it_sq a (seqOf_eq h2)
theorem sim_iA {wi : TI} {f : List PyData → Option (List PyData)} (hf : ∀ ρ ds items, f ds = some items → EvA K T ta ρ ds → IterD K T wi ρ items) (hx : ∀ ρ x, EvRx K T ta ρ x W → EvRx K T wi ρ x W) (h : SimA K T ta W ma) : SimI K T wi W (iA f ma) := fun ρ => by
  have a := h ρ
  unfold iA
  cases h1 : ma ρ with
  | bad => exact True.intro
  | ex x => rw [h1] at a; exact hx ρ x a
  | ok ds =>
    rw [h1] at a
    show match Rz.of (f ds) with | .ok items => _ | .ex x => _ | .bad => _
    cases h2 : f ds with
    | none => exact True.intro
    | some items => exact hf ρ ds items h2 a
theorem fitR_eq {i : Int} (h : fitR i = true) : -(2 ^ 62) ≤ i ∧ i < 2 ^ 62 := by
  have h := Nat.le_of_ble_eq_true h
  exact ⟨by omega, by omega⟩
theorem sim_rng1 (h : SimA K T ta W ma) : SimI K T (iRng1 ta) W (iA rng1 ma) := sim_iA (fun ρ ds items e ea => by
  unfold rng1 at e
  split at e
  · rename_i j
    by_cases hf : fitR j = true
    · rw [if_pos hf] at e; cases e; exact it_range1 ea (fitR_eq hf).1 (fitR_eq hf).2
    · rw [if_neg hf] at e; cases e
  · cases e) (fun ρ x a H0 B C H S σ g Q hQ => a H0 B C H S σ g _ hQ) h
theorem sim_zip {st : Bool} (h : SimA K T ta W ma) : SimI K T (iZip K st ta) W (iA (zipO st) ma) := sim_iA (fun ρ ds items e ea => by
  unfold zipO at e
  split at e
  · rename_i d e'
    cases h1 : seqOf d with
    | none => rw [h1] at e; cases e
    | some xs =>
      rw [h1, Option.bind_some] at e
      cases h2 : seqOf e' with
      | none => rw [h2] at e; cases e
      | some ys =>
        rw [h2, Option.bind_some] at e
        split at e
        · cases e
        · rename_i hl
          cases e
          refine it_zip ea (seqOf_eq h1) (seqOf_eq h2) fun hs => ?_
          subst hs
          simpa using hl
  · cases e) (fun ρ x a H0 B C H S σ g Q hQ => a H0 B C H S σ g _ hQ) h
theorem sim_en (h : SimA K T ta W ma) : SimI K T (iEnumB K ta) W (iA enO ma) := sim_iA (fun ρ ds items e ea => by
  unfold enO at e
  split at e
  · rename_i d
    cases h1 : seqOf d with
    | none => rw [h1] at e; cases e
    | some xs =>
      rw [h1, Option.bind_some] at e
      cases e
      exact it_enum ea (seqOf_eq h1)
  · cases e) (fun ρ x a H0 B C H S σ g Q hQ => a H0 B C H S σ g _ hQ) h
end
def lcL (g : MG) (mt : MT) (me : ME) (ρ : List Slot) : List PyData → Rz (List PyData)
  | [] => .ok []
  | d :: ds => match g d with
    | none => .bad
    | some f => (mt (f ρ)).calm.bind fun b => match b with
      | true => (me (f ρ)).calm.bind fun y => (lcL g mt me ρ ds).bind fun ys => .ok (y :: ys)
      | false => lcL g mt me ρ ds
def fLc (vs : List Nat) (it : MA) (g : MG) (mt : MT) (me : ME) : MA := fun ρ => (it ρ).bind fun items => if items.length ≤ 1000000 then lcL g mt me (wipeS ρ vs) items else .bad
def lcF (g : MG) (mt : MT) (me : ME) (ρ : List Slot) (d : PyData) : Option PyData := match g d with
  | none => none
  | some f => match mt (f ρ) with
    | .ok true => match me (f ρ) with
      | .ok y => some y
      | _ => none
    | _ => none
theorem calm_inv {α β : Type} {m : Rz α} {k : α → Rz β} {y : β} (h : m.calm.bind k = .ok y) : ∃ a, m = .ok a ∧ k a = .ok y := by
  cases m with
  | ok a => exact ⟨a, rfl, h⟩
  | ex x => cases h
  | bad => cases h
theorem bind_inv {α β : Type} {m : Rz α} {k : α → Rz β} {y : β} (h : m.bind k = .ok y) : ∃ a, m = .ok a ∧ k a = .ok y := by
  cases m with
  | ok a => exact ⟨a, rfl, h⟩
  | ex x => cases h
  | bad => cases h
theorem lcL_inv {g : MG} {mt : MT} {me : ME} {ρ : List Slot} : ∀ {items ys : List PyData}, lcL g mt me ρ items = .ok ys →
    ys = items.filterMap (lcF g mt me ρ) ∧ ∀ d ∈ items, ∃ f b, g d = some f ∧ mt (f ρ) = .ok b ∧ (b = true → ∃ y, lcF g mt me ρ d = some y ∧ me (f ρ) = .ok y) ∧ (b = false → lcF g mt me ρ d = none)
  | [], ys, h => by
    cases h
    exact ⟨rfl, fun d hd => by cases hd⟩
  | d :: ds, ys, h => by
    unfold lcL at h
    cases hg : g d with
    | none => rw [hg] at h; cases h
    | some f =>
      rw [hg] at h
      obtain ⟨b, hb, h⟩ := calm_inv h
      cases b with
      | true =>
        obtain ⟨y, hy, h⟩ := calm_inv h
        obtain ⟨zs, hz, h⟩ := bind_inv h
        cases h
        obtain ⟨e1, e2⟩ := lcL_inv hz
        have hF : lcF g mt me ρ d = some y := by unfold lcF; rw [hg]; simp only; rw [hb]; simp only; rw [hy]
        refine ⟨by rw [List.filterMap_cons, hF, e1], fun x hx => ?_⟩
        rcases List.mem_cons.mp hx with z | z
        · subst z; exact ⟨f, true, hg, hb, fun _ => ⟨y, hF, hy⟩, fun z => by cases z⟩
        · exact e2 x z
      | false =>
        obtain ⟨e1, e2⟩ := lcL_inv (show lcL g mt me ρ ds = .ok ys from h)
        have hF : lcF g mt me ρ d = none := by unfold lcF; rw [hg]; simp only; rw [hb]
        refine ⟨by rw [List.filterMap_cons, hF, e1], fun x hx => ?_⟩
        rcases List.mem_cons.mp hx with z | z
        · subst z; exact ⟨f, false, hg, hb, nofun, fun _ => hF⟩
        · exact e2 x z
theorem lcL_noex {g : MG} {mt : MT} {me : ME} {ρ : List Slot} {x : Exn} : ∀ {items : List PyData}, lcL g mt me ρ items ≠ .ex x
  | [], h => by cases h
  | d :: ds, h => by
    unfold lcL at h
    cases hg : g d with
    | none => rw [hg] at h; cases h
    | some f =>
      rw [hg] at h
      simp only at h
      cases hm : mt (f ρ) with
      | bad => rw [hm] at h; cases h
      | ex y => rw [hm] at h; cases h
      | ok b =>
        rw [hm] at h
        cases b with
        | false => exact lcL_noex (show lcL g mt me ρ ds = .ex x from h)
        | true =>
          have h : (me (f ρ)).calm.bind _ = Rz.ex x := h
          cases he : me (f ρ) with
          | bad => rw [he] at h; cases h
          | ex y => rw [he] at h; cases h
          | ok y =>
            rw [he] at h
            have h : (lcL g mt me ρ ds).bind _ = Rz.ex x := h
            cases hz : lcL g mt me ρ ds with
            | bad => rw [hz] at h; cases h
            | ex y => exact lcL_noex hz
            | ok zs => rw [hz] at h; cases h
section
variable {K : PySem.W.Frag} {T : Tb} {W W' : WX} {wi : TI} {tg : TG} {tt : TT} {te : TE} {vs js : List Nat} {mi : MA} {g : MG} {mt : MT} {me : ME}
theorem sim_lc (hi : SimI K T wi W mi) (hg : SimG K T tg js g) (ht : SimT K T tt W' mt) (he : SimE K T te W' me) (hj : ∀ j ∈ js, j ∈ vs) : SimF K T (tLc wi tg tt te vs) W (fLc vs mi g mt me) := fun ρ => by
  have a := hi ρ
  unfold fLc
  cases h1 : mi ρ with
  | bad => exact True.intro
  | ex x => rw [h1] at a; exact fun H0 B C H S σ g Q hQ => a H0 B C H S σ g _ hQ
  | ok items =>
    rw [h1] at a
    show EzF K T _ ρ W (if _ then _ else _)
    by_cases hl : items.length ≤ 1000000
    · rw [if_pos hl]
      cases h2 : lcL g mt me (wipeS ρ vs) items with
      | bad => exact True.intro
      | ex x => exact (lcL_noex h2).elim
      | ok ys =>
        obtain ⟨e1, e2⟩ := lcL_inv h2
        rw [e1]
        refine ef_lc (lcF g mt me (wipeS ρ vs)) a hl fun i d hd => ?_
        obtain ⟨f, b, q1, q2, q3, q4⟩ := e2 d (List.mem_of_getElem? hd)
        refine ⟨js, f, b, hg d f q1, hj, ?_, fun hb => ?_, q4⟩
        · have := ht (f (wipeS ρ vs)); rw [q2] at this; exact this
        · obtain ⟨y, r1, r2⟩ := q3 hb
          have := he (f (wipeS ρ vs)); rw [r2] at this
          exact ⟨y, r1, this⟩
    · rw [if_neg hl]; exact True.intro
end
inductive Fr where
  | no | yes | two
inductive Rs where
  | nx (ρ : List Slot)
  | rt (d : PyData)
  | bk (ρ : List Slot)
  | ct (ρ : List Slot)
  | ex (x : Exn) (ρ : List Slot)
  | rs (d : PyData) (ρ : List Slot)
  | bad
abbrev MS := List Slot → Rs
section
variable (K : PySem.W.Frag) (T : Tb)
def pairL : PyData → Option (List PyData × List PyData)
  | .tuple [.list a, .list b] => some (a, b)
  | _ => none
def RtK (fr : Fr) (H0 : Hp) (C : List Addr) (rt : VK) (d : PyData) : Prop := match fr with
  | .no => Rt K T H0 C rt d
  | .yes => (match d with
    | .list ds => ∀ p xs H', Ext T H0 H' → Fresh H0 p → H' p = some (.lst xs) → DtAll K (hide H' (p :: C)) xs ds → rt (.ref p) H'
    | _ => Rt K T H0 C rt d)
  | .two => (match pairL d with
    | some (a, b) => ∀ t p q xs ys H', Ext T H0 H' → Fresh H0 p → Fresh H0 q → p ≠ q → t ∉ q :: p :: C → H' t = some (.tup [.ref p, .ref q]) → H' p = some (.lst xs) → H' q = some (.lst ys) → DtAll K (hide H' (q :: p :: C)) xs a → DtAll K (hide H' (q :: p :: C)) ys b → rt (.ref t) H'
    | none => Rt K T H0 C rt d)
def EscX (H0 B : Hp) (C : List Addr) (ρ : List Slot) (x : Exn) (W : WX) : Prop := ∀ (σ : St) (H : Hp) (S : List Addr), Gd K T H0 B C H S σ ρ → ∀ d, XD K (hide H S) d x.fs → W (.ref (He.ga K x.cls)) d σ H
def PostS (fr : Fr) (H0 B : Hp) (C : List Addr) (D : Ends) (W : WX) : Rs → Prop
  | .nx ρ => Tri K T H0 B C ρ tNext D
  | .rt d => RtK K T fr H0 C D.rt d
  | .bk ρ => Tri K T H0 B C ρ tBreak D
  | .ct ρ => Tri K T H0 B C ρ tCont D
  | .ex x ρ => EscX K T H0 B C ρ x W
  | .rs d ρ => ∀ (σ : St) (H : Hp) (S : List Addr), Gd K T H0 B C H S σ ρ → ∀ v, Dt K (hide H S) v d → D.rt v H
  | .bad => False
def SimS (fr : Fr) (ts : TS) (W : WX) (m : MS) : Prop := ∀ ρ H0 B C D, PostS K T fr H0 B C D W (m ρ) → Tri K T H0 B C ρ ts D
end
def kSeq (a b : MS) : MS := fun ρ => match a ρ with
  | .nx ρ' => b ρ'
  | r => r
def kNx : MS := fun ρ => .nx ρ
def kE {α : Type} (m : List Slot → Rz α) (k : α → Rs) : MS := fun ρ => match m ρ with
  | .ok a => k a
  | .ex x => .ex x ρ
  | .bad => .bad
def kAsg (m : ME) (i : Nat) : MS := fun ρ => kE m (fun d => .nx (ρ.set i (.dat d))) ρ
def kOwn (m : MA) (i : Nat) : MS := fun ρ => kE m (fun ds => .nx (ρ.set i (.own (.lst ds)))) ρ
def kDrop (m : ME) : MS := fun ρ => kE m (fun _ => .nx ρ) ρ
def kRet (m : ME) : MS := fun ρ => kE m (fun d => .rt d) ρ
def kRetP (m : ME) : MS := fun ρ => kE m (fun d => match d with | .list _ => .bad | _ => .rt d) ρ
def kRetF (m : MA) : MS := fun ρ => kE m (fun ds => .rt (.list ds)) ρ
def kRetO (i : Nat) : MS := fun ρ => match ownL ρ[i]? with
  | some ds => .rt (.list ds)
  | none => .bad
def kRetN : MS := fun _ => .rt .none
def kIf (t : MT) (a b : MS) : MS := fun ρ => kE t (fun c => match c with | true => a ρ | false => b ρ) ρ
def kBk : MS := fun ρ => .bk ρ
def kCt : MS := fun ρ => .ct ρ
def kTg (m : ME) (g : MG) : MS := fun ρ => kE m (fun d => match g d with | some f => .nx (f ρ) | none => .bad) ρ
def kPar (m : MA) (i j : Nat) : MS := fun ρ => kE m (fun ds => match ds with | [a, b] => .nx ((ρ.set i (.dat a)).set j (.dat b)) | _ => .bad) ρ
def kApp (i : Nat) (m : ME) : MS := fun ρ => match ownL ρ[i]? with
  | some ds => kE m (fun d => if ds.length < 1000000 then .nx (ρ.set i (.own (.lst (ds ++ [d])))) else .bad) ρ
  | none => .bad
def kPut (i : Nat) (j m : ME) : MS := fun ρ => match ownL ρ[i]? with
  | some ds => kE m (fun d => kE j (fun e => match (asI e).bind (ixN ds.length) with | some n => .nx (ρ.set i (.own (.lst (ds.set n d)))) | none => .bad) ρ) ρ
  | none => .bad
def kFrz (i : Nat) (a : MS) : MS := fun ρ => match ownL ρ[i]? with
  | some ds => a (ρ.set i (.dat (.list ds)))
  | none => .bad
def forL (g : MG) (wp : List Nat) (b : MS) : List PyData → MS
  | [] => fun ρ => .nx ρ
  | d :: ds => fun ρ => match g d with
    | none => .bad
    | some f => match b (f ρ) with
      | .nx ρ' => forL g wp b ds (wipeS ρ' wp)
      | .ct ρ' => forL g wp b ds (wipeS ρ' wp)
      | .bk ρ' => .nx ρ'
      | r => r
def kFor (it : MA) (g : MG) (wp : List Nat) (b : MS) : MS := fun ρ => kE it (fun items => forL g wp b items ρ) ρ
def whileN (t : MT) (wp : List Nat) (b : MS) : Nat → MS
  | 0 => fun _ => .bad
  | n + 1 => fun ρ => kE t (fun c => match c with
    | false => .nx ρ
    | true => match b ρ with
      | .nx ρ' => whileN t wp b n (wipeS ρ' wp)
      | .ct ρ' => whileN t wp b n (wipeS ρ' wp)
      | .bk ρ' => .nx ρ'
      | r => r) ρ
open Classical in
noncomputable def kWhile (t : MT) (wp : List Nat) (b : MS) : MS := fun ρ => if h : ∃ n, whileN t wp b n ρ ≠ .bad then whileN t wp b (choose h) ρ else .bad
theorem whileN_mono {t : MT} {wp : List Nat} {b : MS} : ∀ {n : Nat} {ρ : List Slot} {m : Nat}, whileN t wp b n ρ ≠ .bad → n ≤ m → whileN t wp b m ρ = whileN t wp b n ρ
  | 0, ρ, m, h, _ => (h rfl).elim
  | n + 1, ρ, 0, h, l => by omega
  | n + 1, ρ, m + 1, h, l => by
    have ih : ∀ ρ', whileN t wp b n ρ' ≠ .bad → whileN t wp b m ρ' = whileN t wp b n ρ' := fun ρ' h' => whileN_mono h' (by omega)
    unfold whileN at h ⊢
    unfold kE at h ⊢
    cases ht : t ρ with
    | bad => rfl
    | ex x => rfl
    | ok c =>
      rw [ht] at h
      cases c with
      | false => rfl
      | true =>
        simp only at h ⊢
        cases hb : b ρ with
        | nx ρ' => rw [hb] at h; exact ih _ h
        | ct ρ' => rw [hb] at h; exact ih _ h
        | bk ρ' => rfl
        | rt d => rfl
        | ex x ρ' => rfl
        | rs d ρ' => rfl
        | bad => rfl
theorem kWhile_of {t : MT} {wp : List Nat} {b : MS} {ρ : List Slot} {n : Nat} {r : Rs} (h : whileN t wp b n ρ = r) (hr : r ≠ .bad) : kWhile t wp b ρ = r := by
  have hx : ∃ n, whileN t wp b n ρ ≠ .bad := ⟨n, by rw [h]; exact hr⟩
  unfold kWhile
  rw [dif_pos hx]
  rcases Nat.le_total n (Classical.choose hx) with l | l
  · rw [whileN_mono (by rw [h]; exact hr) l, h]
  · rw [← whileN_mono (Classical.choose_spec hx) l, h]
theorem kWhile_inv {t : MT} {wp : List Nat} {b : MS} {ρ : List Slot} (h : kWhile t wp b ρ ≠ .bad) : ∃ n, whileN t wp b n ρ = kWhile t wp b ρ := by
  unfold kWhile at h ⊢
  split at h
  · rename_i hx
    rw [dif_pos hx]
    exact ⟨_, rfl⟩
  · exact (h rfl).elim
theorem kWhile_stop {t : MT} {wp : List Nat} {b : MS} {ρ : List Slot} (h : t ρ = .ok false) : kWhile t wp b ρ = .nx ρ := kWhile_of (n := 1) (by unfold whileN kE; rw [h]) nofun
theorem kWhile_go {t : MT} {wp : List Nat} {b : MS} {ρ ρ' : List Slot} {r : Rs} (h : t ρ = .ok true) (hb : b ρ = .nx ρ') (h' : kWhile t wp b (wipeS ρ' wp) = r) (hr : r ≠ .bad) : kWhile t wp b ρ = r := by
  obtain ⟨n, hn⟩ := kWhile_inv (h'.symm ▸ hr)
  exact kWhile_of (n := n + 1) (by unfold whileN kE; rw [h]; simp only; rw [hb]; simp only; rw [hn, h']) hr
theorem Le.trans : ∀ {a b c : List Slot}, Le a b → Le b c → Le a c
  | _, _, _, .nil, .nil => .nil
  | _, _, _, .no h, .no k => .no (Le.trans h k)
  | _, _, _, .no h, .eq k => .no (Le.trans h k)
  | _, _, _, .eq h, .no k => .no (Le.trans h k)
  | _, _, _, .eq h, .eq k => .eq (Le.trans h k)
theorem le_setNo : ∀ (ρ : List Slot) (i : Nat), Le (ρ.set i .no) ρ
  | [], i => by simp; exact .nil
  | s :: ρ, 0 => .no (Le.refl ρ)
  | s :: ρ, i + 1 => .eq (le_setNo ρ i)
theorem le_wipe (ρ : List Slot) : ∀ vs : List Nat, Le (wipeS ρ vs) ρ
  | [] => Le.refl ρ
  | v :: vs => (le_setNo (wipeS ρ vs) v).trans (le_wipe ρ vs)
section
variable {K : PySem.W.Frag} {T : Tb} {fr : Fr} {W : WX} {te : TE} {t : TT} {ta : TA} {tu tz : TS} {m : ME} {ma : MA} {mt : MT} {a b : MS} {i j : Nat}
theorem sim_seq (h1 : SimS K T fr tu W a) (h2 : SimS K T fr tz W b) : SimS K T fr (tSeq tu tz) W (kSeq a b) := fun ρ H0 B C D p => by
  refine s_seq (h1 ρ H0 B C _ ?_)
  unfold kSeq at p
  cases h : a ρ with
  | nx ρ' => rw [h] at p; exact h2 ρ' H0 B C D p
  | rt d => rw [h] at p; exact p
  | bk ρ' => rw [h] at p; exact p
  | ct ρ' => rw [h] at p; exact p
  | ex x ρ' => rw [h] at p; exact p
  | rs d ρ' => rw [h] at p; exact p
  | bad => rw [h] at p; exact p
theorem sim_kNx : SimS K T fr tNext W kNx := fun ρ H0 B C D p => p
theorem tri_ex {ρ : List Slot} {H0 B : Hp} {C : List Addr} {D : Ends} {x : Exn} {ts : TS} (h : ∀ σ H S, Gd K T H0 B C H S σ ρ → (∀ d H2, Ext T H H2 → XD K (hide H2 S) d x.fs → W (.ref (He.ga K x.cls)) d σ H2) → ts D σ H) (p : EscX K T H0 B C ρ x W) : Tri K T H0 B C ρ ts D := fun σ H ⟨S, g⟩ =>
  h σ H S g fun d H2 e xd => p σ H2 S (g.ex e) d xd
theorem sim_asg (h : SimE K T te W m) : SimS K T fr (tAsg te (gName i)) W (kAsg m i) := fun ρ H0 B C D p => by
  have a := h ρ
  unfold kAsg kE at p
  cases h1 : m ρ with
  | bad => rw [h1] at p; exact p.elim
  | ex x => rw [h1] at p a; exact tri_ex (fun σ H S g hQ => a H0 B C H S σ g _ hQ) p
  | ok d => rw [h1] at p a; exact s_asg a p
theorem sim_own (h : SimF K T te W ma) : SimS K T fr (tAsg te (gName i)) W (kOwn ma i) := fun ρ H0 B C D p => by
  have a := h ρ
  unfold kOwn kE at p
  cases h1 : ma ρ with
  | bad => rw [h1] at p; exact p.elim
  | ex x => rw [h1] at p a; exact tri_ex (fun σ H S g hQ => a H0 B C H S σ g _ hQ) p
  | ok d => rw [h1] at p a; exact s_own a p
theorem sim_drop (h : SimE K T te W m) : SimS K T fr (tDrop te) W (kDrop m) := fun ρ H0 B C D p => by
  have a := h ρ
  unfold kDrop kE at p
  cases h1 : m ρ with
  | bad => rw [h1] at p; exact p.elim
  | ex x => rw [h1] at p a; exact tri_ex (fun σ H S g hQ => a H0 B C H S σ g _ hQ) p
  | ok d => rw [h1] at p a; exact s_drop a p
theorem sim_ret (h : SimE K T te W m) : SimS K T .no (tRet te) W (kRet m) := fun ρ H0 B C D p => by
  have a := h ρ
  unfold kRet kE at p
  cases h1 : m ρ with
  | bad => rw [h1] at p; exact p.elim
  | ex x => rw [h1] at p a; exact tri_ex (fun σ H S g hQ => a H0 B C H S σ g _ hQ) p
  | ok d => rw [h1] at p a; exact s_ret a p
theorem sim_retF (h : SimF K T te W ma) : SimS K T .yes (tRet te) W (kRetF ma) := fun ρ H0 B C D p => by
  have a := h ρ
  unfold kRetF kE at p
  cases h1 : ma ρ with
  | bad => rw [h1] at p; exact p.elim
  | ex x => rw [h1] at p a; exact tri_ex (fun σ H S g hQ => a H0 B C H S σ g _ hQ) p
  | ok ds =>
    rw [h1] at p a
    exact fun σ H ⟨S, g⟩ => a H0 B C H S σ g _ fun q xs H2 e hp h2 ha => p q xs H2 (g.ext.trans e) (hp.back g.ext.kp) h2 (ha.kp (hide_sub fun c hc => by
      rcases List.mem_cons.mp hc with z | z
      · rw [z]; exact List.mem_cons_self ..
      · exact List.mem_cons_of_mem _ (g.sub c z)))
theorem sim_retO : SimS K T .yes (tRet (tVar i)) W (kRetO i) := fun ρ H0 B C D p => by
  unfold kRetO at p
  cases h1 : ownL ρ[i]? with
  | none => rw [h1] at p; exact p.elim
  | some ds =>
    rw [h1] at p
    exact fun σ H ⟨S, g⟩ => by
      obtain ⟨q, u, a1, a2, a3, a4, a5⟩ := g.own i _ (ownL_eq h1)
      cases a5 with
      | lst a5 =>
        refine ⟨.ref q, a1, p q _ H g.ext a3 a4 (a5.kp (hide_sub fun c hc => ?_))⟩
        rcases List.mem_cons.mp hc with z | z
        · rw [z]; exact a2
        · exact g.sub c z
theorem pairL_eq {d : PyData} {a b : List PyData} (h : pairL d = some (a, b)) : d = .tuple [.list a, .list b] := by
  unfold pairL at h
  split at h
  · cases h; rfl
  · cases h
theorem rtK_of {fr : Fr} {H : Hp} {S : List Addr} {Q : VK} {r : PyData} (l : Lsts H S) (hQ : ∀ v H2, Ext T H H2 → Dt K (hide H2 S) v r → Q v H2) : RtK K T fr H S Q r := by
  cases fr with
  | no => exact hQ
  | yes =>
    cases r with
    | list rs => exact fun p xs H' e2 hp h3 ha => hQ _ H' e2 (.lst (hide_some.mpr ⟨l.not hp, h3, rfl⟩) (ha.kp (hide_sub fun a m => List.mem_cons_of_mem _ m)))
    | none => exact hQ
    | bool b => exact hQ
    | int b => exact hQ
    | str b => exact hQ
    | tuple b => exact hQ
    | dict b => exact hQ
  | two =>
    unfold RtK
    cases h : pairL r with
    | none => exact hQ
    | some ab =>
      obtain ⟨a, b⟩ := ab
      have e := pairL_eq h
      subst e
      intro t p q xs ys H' e2 hp hq hpq ht h1 h2 h3 ha hb
      have sub : ∀ c, c ∈ S → c ∈ q :: p :: S := fun c hc => List.mem_cons_of_mem _ (List.mem_cons_of_mem _ hc)
      exact hQ _ H' e2 (.tup (SqT.of (hide_some.mpr ⟨fun z => ht (sub t z), h1, rfl⟩)) (.cons (.lst (hide_some.mpr ⟨l.not hp, h2, rfl⟩) (ha.kp (hide_sub sub))) (.cons (.lst (hide_some.mpr ⟨l.not hq, h3, rfl⟩) (hb.kp (hide_sub sub))) .nil)))
def kRet2 (i j : Nat) : MS := fun ρ => match ownL ρ[i]?, ownL ρ[j]? with
  | some a, some b => if i ≠ j then .rt (.tuple [.list a, .list b]) else .bad
  | _, _ => .bad
theorem sim_kIf (h : SimT K T t W mt) (h1 : SimS K T fr tu W a) (h2 : SimS K T fr tz W b) : SimS K T fr (tIfS t tu tz) W (kIf mt a b) := fun ρ H0 B C D p => by
  have c := h ρ
  unfold kIf kE at p
  cases e : mt ρ with
  | bad => rw [e] at p; exact p.elim
  | ex x => rw [e] at p c; exact tri_ex (fun σ H S g hQ => c H0 B C H S σ g _ hQ) p
  | ok k =>
    rw [e] at p c
    cases k with
    | true => exact s_ifT c (h1 ρ H0 B C D p)
    | false => exact s_ifF c (h2 ρ H0 B C D p)
theorem sim_tg {g : TG} {js : List Nat} {mg : MG} (h : SimE K T te W m) (hg : SimG K T g js mg) : SimS K T fr (tAsg te g) W (kTg m mg) := fun ρ H0 B C D p => by
  have a := h ρ
  unfold kTg kE at p
  cases h1 : m ρ with
  | bad => rw [h1] at p; exact p.elim
  | ex x => rw [h1] at p a; exact tri_ex (fun σ H S g hQ => a H0 B C H S σ g _ hQ) p
  | ok d =>
    rw [h1] at p a
    simp only at p
    cases h2 : mg d with
    | none => rw [h2] at p; exact p.elim
    | some f => rw [h2] at p; exact s_asgT a (hg d f h2) p
theorem sim_par (h : SimA K T ta W ma) : SimS K T fr (tPar i j ta) W (kPar ma i j) := fun ρ H0 B C D p => by
  have a := h ρ
  unfold kPar kE at p
  cases h1 : ma ρ with
  | bad => rw [h1] at p; exact p.elim
  | ex x => rw [h1] at p a; exact tri_ex (fun σ H S g hQ => a H0 B C H S σ g _ hQ) p
  | ok ds =>
    rw [h1] at p a
    match ds, p, a with
    | [x, y], p, a => exact s_par a p
    | [], p, a => exact p.elim
    | [x], p, a => exact p.elim
    | x :: y :: z :: r, p, a => exact p.elim
theorem sim_app (h : SimE K T te W m) : SimS K T fr (tDrop (tBM K "list" rAppend (tVar i) (tCons te tNil))) W (kApp i m) := fun ρ H0 B C D p => by
  have a := h ρ
  unfold kApp kE at p
  cases h0 : ownL ρ[i]? with
  | none => rw [h0] at p; exact p.elim
  | some ds =>
    rw [h0] at p
    have ho := ownL_eq h0
    cases h1 : m ρ with
    | bad => rw [h1] at p; exact p.elim
    | ex x =>
      rw [h1] at p a
      refine tri_ex (fun σ H S g hQ => ?_) p
      obtain ⟨q, u, a1, a2, a3, a4, a5⟩ := g.own i _ ho
      cases a5 with
      | lst a5 => exact ⟨.ref q, a1, .inl ⟨rfl, _, SqL.of a4⟩, a H0 B C H S σ g _ hQ⟩
    | ok d =>
      rw [h1] at p a
      simp only at p
      by_cases hl : ds.length < 1000000
      · rw [if_pos hl] at p; exact s_app ho a hl p
      · rw [if_neg hl] at p; exact p.elim
theorem sim_frz (h : SimS K T fr tu W a) : SimS K T fr tu W (kFrz i a) := fun ρ H0 B C D p => by
  unfold kFrz at p
  cases h0 : ownL ρ[i]? with
  | none => rw [h0] at p; exact p.elim
  | some ds => rw [h0] at p; exact s_freeze (ownL_eq h0) (h _ H0 B C D p)
theorem tri_base {H0 B B' : Hp} {C : List Addr} {ρ : List Slot} {ts : TS} {D : Ends} (e : Kp B B') (hb : ∀ b o, B b = some o → isTbl o = false) (h : Tri K T H0 B C ρ ts D) : Tri K T H0 B' C ρ ts D := fun σ H ⟨S, g⟩ => h σ H ⟨S, g.unbase e hb⟩
theorem sim_for {wi : TI} {g : TG} {js wp : List Nat} {mi : MA} {mg : MG} (hi : SimI K T wi W mi) (hg : SimG K T g js mg) (hb : SimS K T fr tu W b) : SimS K T fr (tFor wi g tu) W (kFor mi mg wp b) := fun ρ H0 B C D p => by
  have a := hi ρ
  unfold kFor kE at p
  cases h1 : mi ρ with
  | bad => rw [h1] at p; exact p.elim
  | ex x => rw [h1] at p a; exact tri_ex (fun σ H S g hQ => a H0 B C H S σ g _ hQ) p
  | ok items =>
    rw [h1] at p a
    simp only at p
    intro σ H hgood
    have bno : ∀ b o, B b = some o → isTbl o = false := let ⟨S, g⟩ := hgood; g.bno
    generalize hTot : forL mg wp b items ρ = Tot at p
    refine s_forG (D := D) a (fun i ρi => forL mg wp b (items.drop i) ρi = Tot) (by rw [List.drop_zero]; exact hTot) (fun B' i d ρi kb hd hI => ?_) (fun ρn hn => ?_) σ H hgood
    · have hlt := (List.getElem?_eq_some_iff.mp hd).1
      have hdrop : items.drop i = d :: items.drop (i + 1) := by
        rw [List.drop_eq_getElem_cons hlt, (List.getElem?_eq_some_iff.mp hd).2]
      rw [hdrop] at hI
      unfold forL at hI
      cases hm : mg d with
      | none => rw [hm] at hI; rw [← hI] at p; exact p.elim
      | some f =>
        rw [hm] at hI
        simp only at hI
        refine ⟨js, f, hg d f hm, hb (f ρi) H0 B' C _ ?_⟩
        cases hr : b (f ρi) with
        | nx ρ' => rw [hr] at hI; exact s_nxt (I := fun ρi => forL mg wp b (items.drop (i + 1)) ρi = Tot) hI (le_wipe ρ' wp) rfl
        | ct ρ' => rw [hr] at hI; exact s_cont (I := fun ρi => forL mg wp b (items.drop (i + 1)) ρi = Tot) hI (le_wipe ρ' wp) rfl
        | bk ρ' => rw [hr] at hI; rw [← hI] at p; exact fun σ H gd => tri_base kb bno p σ H gd
        | rt d => rw [hr] at hI; rw [← hI] at p; exact p
        | ex x ρ' => rw [hr] at hI; rw [← hI] at p; exact fun σ H S gd d xd => p σ H S (gd.unbase kb bno) d xd
        | rs r ρ' => rw [hr] at hI; rw [← hI] at p; exact fun σ H S gd v dv => p σ H S (gd.unbase kb bno) v dv
        | bad => rw [hr] at hI; rw [← hI] at p; exact p.elim
    · rw [List.drop_length] at hn
      have hn : Rs.nx ρn = Tot := hn
      rw [← hn] at p
      exact p
theorem sim_whileN {wp : List Nat} (ht : SimT K T t W mt) (hb : SimS K T fr tu W b) (n : Nat) : SimS K T fr (tWhile t tu) W (whileN mt wp b n) := fun ρ H0 B C D p => by
  intro σ H hgood
  refine ⟨fun k σ H => ∃ ρ', Good K T H0 B C ρ' σ H ∧ PostS K T fr H0 B C D W (whileN mt wp b k ρ'), ⟨n, ρ, hgood, p⟩, ?_⟩
  rintro k σ H ⟨ρ', ⟨S, g⟩, q⟩
  cases k with
  | zero => exact q.elim
  | succ k =>
    have c := ht ρ'
    unfold whileN kE at q
    cases e : mt ρ' with
    | bad => rw [e] at q; exact q.elim
    | ex x => rw [e] at q c; exact c H0 B C H S σ g _ fun d H2 e2 xd => q σ H2 S (g.ex e2) d xd
    | ok k' =>
      rw [e] at q c
      refine c H0 B C H S σ g _ fun H1 e1 => ?_
      cases k' with
      | false => exact iteF (q σ H1 ⟨S, g.ex e1⟩)
      | true =>
        refine iteT ?_
        simp only at q
        have go : ∀ r, b ρ' = r → ∃ N : St → Hp → Prop, (∀ σ' H', N σ' H' → ∃ m', m' < k + 1 ∧ ∃ ρ', Good K T H0 B C ρ' σ' H' ∧ PostS K T fr H0 B C D W (whileN mt wp b m' ρ')) ∧ tu { D with nx := N, ct := N, bk := D.nx } σ H1 := fun r hr => by
          refine ⟨fun σ' H' => ∃ m', m' < k + 1 ∧ ∃ ρ', Good K T H0 B C ρ' σ' H' ∧ PostS K T fr H0 B C D W (whileN mt wp b m' ρ'), fun _ _ h => h, hb ρ' H0 B C _ ?_ σ H1 ⟨S, g.ex e1⟩⟩
          cases hr' : b ρ' with
          | nx ρ2 => rw [hr'] at q; exact fun σ2 H2 g2 => ⟨k, Nat.lt_succ_self k, _, g2.weak (le_wipe ρ2 wp), q⟩
          | ct ρ2 => rw [hr'] at q; exact fun σ2 H2 g2 => ⟨k, Nat.lt_succ_self k, _, g2.weak (le_wipe ρ2 wp), q⟩
          | bk ρ2 => rw [hr'] at q; exact q
          | rt d => rw [hr'] at q; exact q
          | ex x ρ2 => rw [hr'] at q; exact q
          | rs r ρ2 => rw [hr'] at q; exact q
          | bad => rw [hr'] at q; exact q.elim
        exact go _ rfl
theorem sim_while {wp : List Nat} (ht : SimT K T t W mt) (hb : SimS K T fr tu W b) : SimS K T fr (tWhile t tu) W (kWhile mt wp b) := fun ρ H0 B C D p => by
  have hn : kWhile mt wp b ρ ≠ .bad := fun z => by rw [z] at p; exact p
  obtain ⟨n, e⟩ := kWhile_inv hn
  exact sim_whileN (wp := wp) ht hb n ρ H0 B C D (by rw [e]; exact p)
end
end Lw

set_option Elab.async false
set_option linter.all false
set_option maxRecDepth 100000
set_option maxHeartbeats 4000000
set_option autoImplicit false
namespace Lw
open PySem L2 LwZ
def spZ (K : PySem.W.Frag) (T : Tb) (fr : Fr) (f : List PyData → Rz PyData) : Sp := fun vs H Q E => ∃ ds S, LsT T H S ∧ DtAll K (hide H S) vs ds ∧ match f ds with
  | .ok r => RtK K T fr H S Q r
  | .ex x => ∀ d H', Ext T H H' → XD K (hide H' S) d x.fs → E (.ref (He.ga K x.cls)) d H'
  | .bad => False
def fnD (np n : Nat) (m : MS) (ds : List PyData) : Rz PyData := if ds.length = np then match m (slots n ds) with
  | .rt d => .ok d
  | .nx _ => .ok .none
  | .ex x _ => .ex x
  | _ => .bad
  else .bad
section
variable {P : Program} {w : World} {K : PySem.W.Frag} {T : Tb} {mg : Str → Option Value} {base : Heap}
abbrev FnQ (K : PySem.W.Frag) (x : Str) (st : Stmt) (dvs : List V) (kws : List (Str × V)) (f : Addr) (fd : FuncData) : Prop := FunD K x x (defArgs st) (defBody st) (defScope st) dvs kws f fd
theorem spZ_len {fr : Fr} {np n : Nat} {m : MS} {vs : List V} {H : Hp} {Q : VK} {E : XK} (h : spZ K T fr (fnD np n m) vs H Q E) : vs.length = np := by
  obtain ⟨ds, S', l, hd, hR⟩ := h
  rw [hd.len]
  by_cases hl : ds.length = np
  · exact hl
  · unfold fnD at hR
    rw [if_neg hl] at hR
    exact hR.elim
theorem fnZ {fr : Fr} {x : Str} {st : Stmt} {dvs : List V} {kws : List (Str × V)} {f : Addr} {fd : FuncData} {N ps : List Str} {k : Nat} {m : MS} {n np : Nat} (F : FnQ K x st dvs kws f fd) (S : FnScope N ps (defScope st)) (hn : N.length = n) (hp : ps.length = np)
    (hbody : ∀ (cdv : Value) (A : Around) (outer : List Env) (s : Shared) (H : Hp) (E : XK), Room k (A.deeper (PyProof.Rows.envOfC x (defScope st) s.heap.objs.size f cdv)) →
      ∃ t, PSs (cxOf (L2N.CX P w) P w K mg base N x (defScope st) f cdv A outer s H E) (defBody st) t ∧ SimS K T fr t (WF E) m) :
    FnOk P w K mg base (L2N.CX P w) (k + 1) f fd ps (spZ K T fr (fnD np n m)) := by
  subst hn hp
  refine F.ok S (fun vs H Q E h => spZ_len h) (fun cdv A outer s H vs Q E hr h => ?_)
  have hl := spZ_len h
  obtain ⟨ds, S', l, hd, hR⟩ := h
  have hld : ds.length = ps.length := hd.len ▸ hl
  obtain ⟨t, pt, sm⟩ := hbody cdv A outer s H E hr
  refine ⟨t, pt, ?_⟩
  refine sm (slots N.length ds) H (hide H S') S' { nx := fun _ H' => Q .non H', rt := Q } ?_ _ _ ⟨S', gd_start l hd⟩
  unfold fnD at hR
  rw [if_pos hld] at hR
  cases hm : m (slots N.length ds) with
  | nx ρ' =>
    rw [hm] at hR
    exact fun σ H' ⟨S2, g⟩ => by
      have hR : RtK K T fr H S' Q .none := hR
      cases fr <;> exact hR .non H' g.ext .non
  | rt d => rw [hm] at hR; exact hR
  | bk ρ' => rw [hm] at hR; exact hR.elim
  | rs r ρ' => rw [hm] at hR; exact hR.elim
  | ct ρ' => rw [hm] at hR; exact hR.elim
  | ex y ρ' => rw [hm] at hR; exact fun σ H' S2 g d xd => hR d H' g.ext (xd.kp (hide_sub g.sub))
  | bad => rw [hm] at hR; exact hR.elim
theorem CalX.calmZ {k : Nat} {x : Str} {ps : List Str} {dvs : List V} {fr : Fr} {F : List PyData → Rz PyData} (c : CalX P w K mg base k x ps dvs (spZ K T fr F)) :
    Cal P w K mg base k x ps dvs (spZ K T fr fun ds => (F ds).calm) := by
  have key : ∀ {vs : List V} {H : Hp} {Q : VK} {E : XK}, spZ K T fr (fun ds => (F ds).calm) vs H Q E → spZ K T fr F vs H Q (fun _ _ _ => False) := fun {vs H Q E} h => by
    obtain ⟨ds, S, l, hd, hR⟩ := h
    refine ⟨ds, S, l, hd, ?_⟩
    cases hf : F ds with
    | ok r => simp only [hf] at hR; exact hR
    | ex x => simp only [hf] at hR; exact hR.elim
    | bad => simp only [hf] at hR; exact hR.elim
  obtain ⟨f, fd, ds, G, m, kp, b, v⟩ := c.ex
  refine ⟨f, fd, ds, ⟨fun vs H Q E h => ?_, fun A outer s H args us vs Q E hr e0 hb hv h => ?_⟩, m, kp, b, v⟩
  · exact G.len vs H Q (fun _ _ _ => False) (key h)
  · refine codeAny_mono (G.run A outer s H args us vs Q (fun _ _ _ => False) hr e0 hb hv (key h)) fun o s' h' => ?_
    cases o with
    | error e =>
      obtain ⟨_, _, _, _, _, _, _, _, _, _, _, _, z⟩ := h'
      exact z.elim
    | ok fl => cases fl <;> exact h'
end
section
variable {K : PySem.W.Frag} {T : Tb} {W : WX} {ta : TA} {ma : MA} {dvs : List V} {es : List PyData} {F : List PyData → Rz PyData}
def zApp (a : MA) (es : List PyData) : MA := fun ρ => (a ρ).bind fun ds => .ok (ds ++ es)
theorem sim_call {fr : Fr} (hd : ∀ H, DtAll K H dvs es) (h : SimA K T ta W ma) : SimE K T (tCallSD (spZ K T fr F) dvs (WE W) ta) W (xF F (zApp ma es)) := fun ρ => by
  have a := h ρ
  unfold xF zApp
  cases h1 : ma ρ with
  | bad => exact True.intro
  | ex x => rw [h1] at a; exact fun H0 B C H S σ g Q hQ => a H0 B C H S σ g _ hQ
  | ok ds =>
    rw [h1] at a
    show EzE K T _ ρ W (F (ds ++ es))
    cases h2 : F (ds ++ es) with
    | bad => exact True.intro
    | ex x =>
      exact fun H0 B C H S σ g Q hQ => a H0 B C H S σ g _ fun vs H1 e1 d1 => ⟨ds ++ es, S, g.lsT e1, d1.app (hd _), by rw [h2]; exact fun d H' e2 xd => hQ d H' (e1.trans e2) xd⟩
    | ok r =>
      exact fun H0 B C H S σ g Q hQ => a H0 B C H S σ g _ fun vs H1 e1 d1 => ⟨ds ++ es, S, g.lsT e1, d1.app (hd _), by
        rw [h2]
        have l1 := g.lst.kp e1.kp
        exact rtK_of l1 fun v H2 e2 d2 => hQ v H2 (e1.trans e2) d2⟩
def asL : PyData → Option (List PyData)
  | .list ds => some ds
  | _ => none
def fF (f : List PyData → Rz PyData) (a : MA) : MA := fun ρ => (a ρ).bind fun ds => (f ds).bind fun r => .of (asL r)
theorem sim_callC {fr : Fr} {E : XK} (hd : ∀ H, DtAll K H dvs es) (h : SimA K T ta W ma) : SimE K T (tCall (spZ K T fr fun ds => (F ds).calm) dvs E ta) W (xFc F (zApp ma es)) := fun ρ => by
  have a := h ρ
  unfold xFc zApp
  cases h1 : ma ρ with
  | bad => exact True.intro
  | ex x => rw [h1] at a; exact fun H0 B C H S σ g Q hQ => a H0 B C H S σ g _ hQ
  | ok ds =>
    rw [h1] at a
    show EzE K T _ ρ W (F (ds ++ es)).calm
    cases h2 : F (ds ++ es) with
    | bad => exact True.intro
    | ex x => exact True.intro
    | ok r =>
      exact fun H0 B C H S σ g Q hQ => a H0 B C H S σ g _ fun vs H1 e1 d1 => ⟨ds ++ es, S, g.lsT e1, d1.app (hd _), by
        simp only [h2]
        have l1 := g.lst.kp e1.kp
        exact rtK_of l1 fun v H2 e2 d2 => hQ v H2 (e1.trans e2) d2⟩
def fP (f : List PyData → Rz PyData) (a : MA) (k : Int) : MA := fun ρ => (a ρ).bind fun ds => (f ds).bind fun r => match pairL r with
  | some (x, y) => .ok (if k = 0 then x else y)
  | none => .bad
def fFc (f : List PyData → Rz PyData) (a : MA) : MA := fun ρ => (a ρ).bind fun ds => (f ds).calm.bind fun r => .of (asL r)
end
def kRaise (x : Str) : MS := fun ρ => .ex ⟨x, []⟩ ρ
theorem sim_raise {K : PySem.W.Frag} {T : Tb} {W : WX} {fr : Fr} {x : Str} : SimS K T fr (tRaise K x W) W (kRaise x) := fun ρ H0 B C D p => fun σ H ⟨S, g⟩ => p σ H S g none .no
def bitsOk (i j : Int) : Bool := decide (i.natAbs < 18446744073709551616) || decide (j.natAbs < 18446744073709551616) || decide (i.natAbs.log2 + j.natAbs.log2 + 2 ≤ 100000000)
def zAdd : PyData → PyData → Option PyData
  | .int i, .int j => some (.int (i + j))
  | .str a, .str b => if a.length + b.length ≤ 1000000 then some (.str (a ++ b)) else none
  | .tuple a, .tuple b => if a.length + b.length ≤ 1000000 then some (.tuple (a ++ b)) else none
  | _, _ => none
def zAddL : PyData → PyData → Option (List PyData)
  | .list a, .list b => if a.length + b.length ≤ 1000000 then some (a ++ b) else none
  | _, _ => none
def zSub : PyData → PyData → Option PyData
  | .int i, .int j => some (.int (i - j))
  | _, _ => none
def zMul : PyData → PyData → Option PyData
  | .int i, .int j => if bitsOk i j then some (.int (i * j)) else none
  | _, _ => none
def zRep : PyData → PyData → Option (List PyData)
  | .list a, .int j => if Nat.ble j.natAbs 4611686018427387903 && Nat.ble (a.length * j.toNat) 1000000 then some (List.replicate j.toNat a).flatten else none
  | _, _ => none
def zFd : PyData → PyData → Option PyData
  | .int i, .int j => if j ≠ 0 ∧ j.natAbs < 1073741824 then some (.int (i.fdiv j)) else none
  | _, _ => none
def zFdB : PyData → PyData → Option PyData
  | .int i, .int j => if j ≠ 0 then some (.int (i.fdiv j)) else none
  | _, _ => none
def zMod : PyData → PyData → Option PyData
  | .int i, .int j => if j ≠ 0 then some (.int (i.fmod j)) else none
  | _, _ => none
def zLt : PyData → PyData → Option PyData
  | .int i, .int j => some (.bool (decide (i < j)))
  | _, _ => none
def zLe : PyData → PyData → Option PyData
  | .int i, .int j => some (.bool (decide (i ≤ j)))
  | _, _ => none
def zGt : PyData → PyData → Option PyData
  | .int i, .int j => some (.bool (decide (j < i)))
  | _, _ => none
def zGe : PyData → PyData → Option PyData
  | .int i, .int j => some (.bool (decide (j ≤ i)))
  | _, _ => none
def zEq (x y : PyData) : Option PyData := if SeqAt.shaped x && SeqAt.shaped y then some (.bool (PyData.eqv x y)) else none
def zNe (x y : PyData) : Option PyData := if SeqAt.shaped x && SeqAt.shaped y then some (.bool (!PyData.eqv x y)) else none
def zIsN (x y : PyData) : Option PyData := if isNone y then some (.bool (isNone x)) else none
def zNotN (x y : PyData) : Option PyData := if isNone y then some (.bool (!isNone x)) else none
def zIx (x y : PyData) : Option PyData := match x, y with
  | .list ds, .int i => atI ds i
  | .tuple ds, .int i => atI ds i
  | .str s, .int i => if s.length ≤ 1000000 then (atI s.cps.toList i).map fun c => .str ⟨#[c]⟩ else none
  | _, _ => none
def zNeg : PyData → Option PyData
  | .int i => some (.int (-i))
  | _ => none
def zLen : List PyData → Option PyData
  | [.list ds] => some (.int ds.length)
  | [.tuple ds] => some (.int ds.length)
  | [.str s] => if s.length ≤ 1000000 then some (.int s.length) else none
  | _ => none
def zAbs : List PyData → Option PyData
  | [.int i] => some (.int (if i < 0 then -i else i))
  | _ => none
def zInt : List PyData → Option PyData
  | [.int i] => some (.int i)
  | [.bool b] => some (.int (if b then 1 else 0))
  | _ => none
def zList : List PyData → Option (List PyData)
  | [.list ds] => some ds
  | [.tuple ds] => some ds
  | _ => none
def zTuple : List PyData → Option PyData
  | [.list ds] => some (.tuple ds)
  | [.tuple ds] => some (.tuple ds)
  | _ => none
def allB : List PyData → Option (List Bool)
  | [] => some []
  | d :: ds => (asB d).bind fun b => (allB ds).bind fun bs => some (b :: bs)
def zAll : List PyData → Option PyData
  | [.list ds] => (allB ds).bind fun bs => some (.bool (bs.all id))
  | _ => none
def zAny : List PyData → Option PyData
  | [.list ds] => (allB ds).bind fun bs => some (.bool (bs.any id))
  | _ => none
def zSlL : PyData → Option Int → Option Int → Option (List PyData)
  | .list ds, l, h => some (cutD ds l h)
  | _, _, _ => none
def zSlT : PyData → Option Int → Option Int → Option PyData
  | .tuple ds, l, h => some (.tuple (cutD ds l h))
  | _, _, _ => none
theorem allB_eq : ∀ {ds : List PyData} {bs : List Bool}, allB ds = some bs → ds = bs.map PyData.bool
  | [], bs, h => by cases h; rfl
  | d :: ds, bs, h => by
    unfold allB at h
    cases h1 : asB d with
    | none => rw [h1] at h; cases h
    | some b =>
      rw [h1, Option.bind_some] at h
      cases h2 : allB ds with
      | none => rw [h2] at h; cases h
      | some cs =>
        rw [h2, Option.bind_some] at h
        cases h
        rw [asB_eq h1, allB_eq h2]
        rfl
theorem bits_ok {i j : Int} (h : bitsOk i j = true) : IntMulOk i j := by
  unfold bitsOk at h
  simp only [Bool.or_eq_true, decide_eq_true_eq] at h
  rcases h with (h | h) | h
  · exact mulOkL h
  · exact mulOkR h
  · exact mulOk (n := i.natAbs.log2 + 1) (m := j.natAbs.log2 + 1) Nat.lt_log2_self Nat.lt_log2_self (by omega)
section
variable {K : PySem.W.Frag} {T : Tb}
theorem r_add : ROp K T (rAddA K) zAdd := fun x y z h => by
  unfold zAdd at h
  split at h
  · cases h; exact rv_add
  · split at h
    · rename_i hl; cases h; exact rv_addS hl
    · cases h
  · split at h
    · rename_i hl; cases h; exact rv_addT hl
    · cases h
  · cases h
theorem r_addL : ROpF K T (rAddA K) zAddL := fun x y z h => by
  unfold zAddL at h
  split at h
  · split at h
    · rename_i hl; cases h; exact rf_addL hl
    · cases h
  · cases h
theorem r_sub : ROp K T rSubA zSub := fun x y z h => by
  unfold zSub at h
  split at h
  · cases h; exact rv_sub
  · cases h
theorem r_mul : ROp K T rMulA zMul := fun x y z h => by
  unfold zMul at h
  split at h
  · split at h
    · rename_i hl; cases h; exact rv_mul (bits_ok hl)
    · cases h
  · cases h
theorem r_rep : ROpF K T rMulA zRep := fun x y z h => by
  unfold zRep at h
  split at h
  · split at h
    · rename_i hl
      simp only [Bool.and_eq_true] at hl
      have h1 := Nat.le_of_ble_eq_true hl.1
      cases h
      exact rf_rep (by omega) (by omega) (Nat.le_of_ble_eq_true hl.2)
    · cases h
  · cases h
theorem r_fd : ROp K T rFdA zFd := fun x y z h => by
  unfold zFd at h
  split at h
  · split at h
    · rename_i hl; cases h; exact rv_fd (fdOkS hl.1 hl.2)
    · cases h
  · cases h
theorem r_fdB : ROp K T rFdB zFdB := fun x y z h => by
  unfold zFdB at h
  split at h
  · split at h
    · rename_i hl; cases h; exact rv_fdB hl
    · cases h
  · cases h
theorem r_mod : ROp K T rModA zMod := fun x y z h => by
  unfold zMod at h
  split at h
  · split at h
    · rename_i hl; cases h; exact rv_mod hl
    · cases h
  · cases h
theorem r_lt : ROp K T rLtA zLt := fun x y z h => by
  unfold zLt at h
  split at h
  · cases h; exact rv_lt
  · cases h
theorem r_le : ROp K T rLeA zLe := fun x y z h => by
  unfold zLe at h
  split at h
  · cases h; exact rv_le
  · cases h
theorem r_gt : ROp K T rGtA zGt := fun x y z h => by
  unfold zGt at h
  split at h
  · cases h; exact rv_gt
  · cases h
theorem r_eq : ROp K T (rEqD K) zEq := fun x y z h => by
  unfold zEq at h
  split at h
  · rename_i hl; rw [Bool.and_eq_true] at hl; cases h; exact rv_eq hl.1 hl.2
  · cases h
theorem r_ne : ROp K T (rNeD K) zNe := fun x y z h => by
  unfold zNe at h
  split at h
  · rename_i hl; rw [Bool.and_eq_true] at hl; cases h; exact rv_ne hl.1 hl.2
  · cases h
theorem r_ix : ROp K T (rIx K) zIx := fun x y z h => by
  unfold zIx at h
  split at h
  · exact rv_ixL h
  · exact rv_ixT h
  · split at h
    · rename_i s i hl
      cases h1 : atI s.cps.toList i with
      | none => rw [h1] at h; cases h
      | some c => rw [h1] at h; cases h; exact rv_ixS hl h1
    · cases h
  · cases h
theorem r_len : RCb K T (rLenA K) zLen := fun xs z h => by
  unfold zLen at h
  split at h
  · cases h; exact rc_lenL
  · cases h; exact rc_lenT
  · split at h
    · rename_i hl; cases h; exact rc_lenS hl
    · cases h
  · cases h
theorem r_abs : RCb K T rAbsA zAbs := fun xs z h => by
  unfold zAbs at h
  split at h
  · cases h; exact rc_abs
  · cases h
theorem r_int : RCb K T rIntA zInt := fun xs z h => by
  unfold zInt at h
  split at h
  · cases h; exact rc_intI
  · cases h; exact rc_intB
  · cases h
theorem r_list : RCbF K T (rListA K) zList := fun xs z h => by
  unfold zList at h
  split at h
  · cases h; exact rf_listL
  · cases h; exact rf_listT
  · cases h
theorem r_tuple : RCb K T (rTupleA K) zTuple := fun xs z h => by
  unfold zTuple at h
  split at h
  · cases h; exact rc_tupleL
  · cases h; exact rc_tupleT
  · cases h
theorem r_all : RCb K T (rAll K) zAll := fun xs z h => by
  unfold zAll at h
  split at h
  · rename_i ds
    cases h1 : allB ds with
    | none => rw [h1] at h; cases h
    | some bs => rw [h1, Option.bind_some] at h; cases h; rw [allB_eq h1]; exact rc_all
  · cases h
theorem r_any : RCb K T (rAny K) zAny := fun xs z h => by
  unfold zAny at h
  split at h
  · rename_i ds
    cases h1 : allB ds with
    | none => rw [h1] at h; cases h
    | some bs => rw [h1, Option.bind_some] at h; cases h; rw [allB_eq h1]; exact rc_any
  · cases h
theorem r_slL (x : PyData) (l h : Option Int) (z : List PyData) (e : zSlL x l h = some z) : RSF K T (rSlX K) x l h z := by
  unfold zSlL at e
  split at e
  · cases e; exact rf_slL
  · cases e
theorem r_slT (x : PyData) (l h : Option Int) (z : PyData) (e : zSlT x l h = some z) : RS K T (rSlX K) x l h z := by
  unfold zSlT at e
  split at e
  · cases e; exact rs_slT
  · cases e
end
def keyD : PyData → Option Key
  | .int i => some (.inl i)
  | .str s => some (.inr s)
  | _ => none
def getD? (k : Key) : List (Key × PyData) → Option PyData
  | [] => none
  | e :: es => if e.1 = k then some e.2 else getD? k es
def putD (es : List (Key × PyData)) (k : Key) (d : PyData) : List (Key × PyData) :=
  if (es.any fun e => decide (e.1 = k)) = true then es.map (fun e => if e.1 = k then (e.1, d) else e) else es ++ [(k, d)]
def kDict (i : Nat) : MS := fun ρ => .nx (ρ.set i (.own (.dct [])))
def kDput (i : Nat) (mk mv : ME) : MS := fun ρ => match ownD ρ[i]? with
  | some es => kE mv (fun v => kE mk (fun k => match keyD k with | some k => if es.length < 1000000 then .nx (ρ.set i (.own (.dct (putD es k v)))) else .bad | none => .bad) ρ) ρ
  | none => .bad
def xDg (i : Nat) (mk : ME) : ME := fun ρ => (Rz.of (ownD ρ[i]?)).bind fun es => (mk ρ).bind fun k => (Rz.of (keyD k)).bind fun k => .of (getD? k es)
def xDin (mk : ME) (i : Nat) : ME := fun ρ => (mk ρ).bind fun k => (Rz.of (ownD ρ[i]?)).bind fun es => (Rz.of (keyD k)).bind fun k => .ok (.bool (getD? k es).isSome)
def xDnotin (mk : ME) (i : Nat) : ME := fun ρ => (mk ρ).bind fun k => (Rz.of (ownD ρ[i]?)).bind fun es => (Rz.of (keyD k)).bind fun k => .ok (.bool (!(getD? k es).isSome))
theorem dt_key {K : PySem.W.Frag} {H : Hp} {v : V} {d : PyData} {k : Key} (h : Dt K H v d) (e : keyD d = some k) : v = kV k := by
  cases h with
  | int i => cases e; rfl
  | str s => cases e; rfl
  | non => cases e
  | bl b => cases e
  | lst _ _ => cases e
  | tup _ _ => cases e
  | dct _ _ _ => cases e
theorem dct_get {K : PySem.W.Frag} {H : Hp} {k : Key} : ∀ {kvs : List (Key × V)} {es : List (Key × PyData)}, kvs.map (·.1) = es.map (·.1) → DtAll K H (kvs.map (·.2)) (es.map (·.2)) →
    (∀ d, getD? k es = some d → ∃ v, valV kvs k = some v ∧ Dt K H v d) ∧ (getD? k es = none → valV kvs k = none)
  | [], [], _, _ => ⟨nofun, fun _ => rfl⟩
  | [], e :: es, h, _ => by cases h
  | v :: kvs, [], h, _ => by cases h
  | v :: kvs, e :: es, h, ha => by
    have h1 : v.1 = e.1 := (List.cons.inj h).1
    have h2 : kvs.map (·.1) = es.map (·.1) := (List.cons.inj h).2
    cases ha with
    | cons a b =>
      have ih := dct_get (k := k) h2 b
      unfold getD?
      by_cases z : e.1 = k
      · rw [if_pos z]
        exact ⟨fun d hd => ⟨v.2, valV_pos (h1.trans z), by cases hd; exact a⟩, nofun⟩
      · rw [if_neg z, valV_neg (fun q => z (h1 ▸ q))]
        exact ih
theorem any_key {k : Key} : ∀ {kvs : List (Key × V)} {es : List (Key × PyData)}, kvs.map (·.1) = es.map (·.1) → (kvs.any fun kv => decide (kv.1 = k)) = es.any fun e => decide (e.1 = k)
  | [], [], _ => rfl
  | [], e :: es, h => by cases h
  | v :: kvs, [], h => by cases h
  | v :: kvs, e :: es, h => by
    have h1 : v.1 = e.1 := (List.cons.inj h).1
    have h2 : kvs.map (·.1) = es.map (·.1) := (List.cons.inj h).2
    rw [List.any_cons, List.any_cons, any_key h2, h1]
theorem map_key {k : Key} {v : V} {d : PyData} : ∀ {kvs : List (Key × V)} {es : List (Key × PyData)}, kvs.map (·.1) = es.map (·.1) →
    (kvs.map fun kv => if kv.1 = k then (kv.1, v) else kv).map (·.1) = (es.map fun e => if e.1 = k then (e.1, d) else e).map (·.1) ∧
    ∀ {K : PySem.W.Frag} {H : Hp}, DtAll K H (kvs.map (·.2)) (es.map (·.2)) → Dt K H v d → DtAll K H ((kvs.map fun kv => if kv.1 = k then (kv.1, v) else kv).map (·.2)) ((es.map fun e => if e.1 = k then (e.1, d) else e).map (·.2))
  | [], [], _ => ⟨rfl, fun a _ => a⟩
  | [], e :: es, h => by cases h
  | u :: kvs, [], h => by cases h
  | u :: kvs, e :: es, h => by
    have h1 : u.1 = e.1 := (List.cons.inj h).1
    have h2 : kvs.map (·.1) = es.map (·.1) := (List.cons.inj h).2
    obtain ⟨i1, i2⟩ := map_key (k := k) (v := v) (d := d) h2
    by_cases z : e.1 = k
    · have z' : u.1 = k := h1.trans z
      simp only [List.map_cons, if_pos z, if_pos z']
      refine ⟨by rw [i1, h1], fun a b => ?_⟩
      cases a with
      | cons a1 a2 => exact .cons b (i2 a2 b)
    · have z' : ¬ u.1 = k := fun q => z (h1 ▸ q)
      simp only [List.map_cons, if_neg z, if_neg z']
      refine ⟨by rw [i1, h1], fun a b => ?_⟩
      cases a with
      | cons a1 a2 => exact .cons a1 (i2 a2 b)
theorem obd_put {K : PySem.W.Frag} {H : Hp} {k : Key} {v : V} {d : PyData} {kvs : List (Key × V)} {es : List (Key × PyData)} (h : kvs.map (·.1) = es.map (·.1)) (ha : DtAll K H (kvs.map (·.2)) (es.map (·.2))) (dv : Dt K H v d) : ObD K H (.dK (putK kvs k v)) (.dct (putD es k d)) := by
  unfold putK putD
  rw [any_key h]
  by_cases z : (es.any fun e => decide (e.1 = k)) = true
  · rw [if_pos z, if_pos z]
    exact .dct (map_key h).1 ((map_key h).2 ha dv)
  · rw [if_neg z, if_neg z]
    refine .dct (by simp [h]) ?_
    rw [List.map_append, List.map_append]
    exact ha.app (.cons dv .nil)
section
variable {K : PySem.W.Frag} {T : Tb} {W : WX} {fr : Fr} {i : Nat} {tk tv : TE} {mk mv : ME}
theorem dct_some {es : List (Key × PyData)} {kvs : List (Key × V)} {k : Key} {H : Hp} (b1 : kvs.map (·.1) = es.map (·.1)) (b2 : DtAll K H (kvs.map (·.2)) (es.map (·.2))) : (valV kvs k).isSome = (getD? k es).isSome := by
  obtain ⟨h1, h2⟩ := dct_get (k := k) b1 b2
  cases h : getD? k es with
  | none => rw [h2 h]; rfl
  | some d => obtain ⟨v, hv, _⟩ := h1 d h; rw [hv]; rfl
end
end Lw

set_option Elab.async false
set_option linter.all false
set_option maxRecDepth 100000
set_option maxHeartbeats 4000000
set_option autoImplicit false
namespace Lw
open PySem L2 LwZ
def zAddV (x y : PyData) : Option PyData := match zAdd x y with
  | some z => some z
  | none => (zAddL x y).map .list
def zMulV (x y : PyData) : Option PyData := match zMul x y with
  | some z => some z
  | none => (zRep x y).map .list
def zSlV (x : PyData) (l h : Option Int) : Option PyData := match zSlT x l h with
  | some z => some z
  | none => (zSlL x l h).map .list
def zListV (xs : List PyData) : Option PyData := (zList xs).map .list
def flatD : PyData → Bool
  | .none => true
  | .bool _ => true
  | .int _ => true
  | .str _ => true
  | _ => false
def zNotIn (x y : PyData) : Option PyData := (seqOf y).bind fun ds => if flatD x && ds.all flatD then some (.bool (!ds.any fun z => PyData.eqv z x)) else none
section
variable {K : PySem.W.Frag} {T : Tb}
theorem r_addV : ROp K T (rAddA K) zAddV := fun x y z h => by
  unfold zAddV at h
  cases h1 : zAdd x y with
  | some w => rw [h1] at h; cases h; exact r_add x y _ h1
  | none =>
    rw [h1] at h
    cases h2 : zAddL x y with
    | none => rw [h2] at h; cases h
    | some ds => rw [h2] at h; cases h; exact (r_addL x y ds h2).rv
theorem r_mulV : ROp K T rMulA zMulV := fun x y z h => by
  unfold zMulV at h
  cases h1 : zMul x y with
  | some w => rw [h1] at h; cases h; exact r_mul x y _ h1
  | none =>
    rw [h1] at h
    cases h2 : zRep x y with
    | none => rw [h2] at h; cases h
    | some ds => rw [h2] at h; cases h; exact (r_rep x y ds h2).rv
theorem r_slV (x : PyData) (l h : Option Int) (z : PyData) (e : zSlV x l h = some z) : RS K T (rSlX K) x l h z := by
  unfold zSlV at e
  cases h1 : zSlT x l h with
  | some w => rw [h1] at e; cases e; exact r_slT x l h _ h1
  | none =>
    rw [h1] at e
    cases h2 : zSlL x l h with
    | none => rw [h2] at e; cases e
    | some ds => rw [h2] at e; cases e; exact (r_slL x l h ds h2).rs
theorem flat_v {H : Hp} {v : V} {d : PyData} (h : Dt K H v d) (f : flatD d = true) : flatV v = true := by
  cases h <;> first | rfl | cases f
theorem eqv_v {H : Hp} {v u : V} {d e : PyData} (h : Dt K H v d) (h' : Dt K H u e) (f : flatD d = true) (f' : flatD e = true) : eqV v u = PyData.eqv d e := by
  cases h <;> cases h' <;> first | cases f; done | cases f'; done | (simp [eqV, PyData.eqv])
theorem in_v {H : Hp} {v : V} {d : PyData} (h : Dt K H v d) (f : flatD d = true) : ∀ {vs : List V} {ds : List PyData}, DtAll K H vs ds → ds.all flatD = true → vs.all flatV = true ∧ inV v vs = ds.any fun z => PyData.eqv z d
  | [], [], _, _ => ⟨rfl, rfl⟩
  | [], d :: ds, h, _ => by cases h
  | v :: vs, [], h, _ => by cases h
  | w :: vs, e :: ds, h2, fa => by
    cases h2 with
    | cons a b =>
      rw [List.all_cons, Bool.and_eq_true] at fa
      obtain ⟨i1, i2⟩ := in_v h f b fa.2
      unfold inV at i2 ⊢
      rw [List.all_cons, List.any_cons, List.any_cons, i2, eqv_v a h fa.1 f, flat_v a fa.1, i1]
      exact ⟨rfl, rfl⟩
theorem r_notIn : ROp K T (rIn K true) zNotIn := fun x y z h => fun H S v u l dv du Q hQ => by
  unfold zNotIn at h
  cases h1 : seqOf y with
  | none => rw [h1] at h; cases h
  | some ds =>
    rw [h1, Option.bind_some] at h
    split at h
    · rename_i hf
      rw [Bool.and_eq_true] at hf
      cases h
      cases seqOf_eq h1 with
      | lst _ =>
        cases du with
        | lst h3 a3 =>
          obtain ⟨q1, q2⟩ := in_v dv hf.1 a3 hf.2
          exact ⟨_, _, rfl, .inl (SqL.of (hide_get h3)), flat_v dv hf.1, q1, by rw [q2]; exact hQ _ H (.refl T H) (.bl _)⟩
      | tup _ =>
        cases du with
        | tup h3 a3 =>
          obtain ⟨q1, q2⟩ := in_v dv hf.1 a3 hf.2
          exact ⟨_, _, rfl, .inr (sqt_hide h3), flat_v dv hf.1, q1, by rw [q2]; exact hQ _ H (.refl T H) (.bl _)⟩
    · cases h
end
structure CalK (P : Program) (w : World) (K : PySem.W.Frag) (mg : Str → Option Value) (base : Heap) (k : Nat) (x : Str) (ps : List Str) (n : Nat) (ks : List Str) (gV : List V → List V → List V) (sp : Sp) : Prop where
  ex : ∃ (f : Addr) (fd : FuncData) (g : List Value → List Value → List Value), FnOk P w K mg base (L2N.CX P w) k f fd ps sp ∧ mg x = some (.ref f) ∧ PySem.W.keepIn K (.ref f) = true ∧ KBn K fd ps n ks g gV
structure CalKc (P : Program) (w : World) (K : PySem.W.Frag) (mg : Str → Option Value) (base : Heap) (k : Nat) (x : Str) (ps : List Str) (n : Nat) (ks : List Str) (gV : List V → List V → List V) (sp : Sp) : Prop where
  ex : ∃ (f : Addr) (fd : FuncData) (g : List Value → List Value → List Value), FnOk P w K mg base CX0 k f fd ps sp ∧ mg x = some (.ref f) ∧ PySem.W.keepIn K (.ref f) = true ∧ KBn K fd ps n ks g gV
section
variable {X : Cx} {k j n : Nat} {ps ks : List Str} {sp : Sp} {W : WX} {x : Str} {p pos : Pos} {e : Expr} {es : List Expr} {kws : List Keyword} {t tk : TA} {gV : List V → List V → List V}
end
section
variable {P : Program} {w : World} {K : PySem.W.Frag} {T : Tb} {mg : Str → Option Value} {base : Heap}
theorem CalK.calmZ {k n : Nat} {x : Str} {ps ks : List Str} {gV : List V → List V → List V} {fr : Fr} {F : List PyData → Rz PyData} (c : CalK P w K mg base k x ps n ks gV (spZ K T fr F)) :
    CalKc P w K mg base k x ps n ks gV (spZ K T fr fun ds => (F ds).calm) := by
  have key : ∀ {vs : List V} {H : Hp} {Q : VK} {E : XK}, spZ K T fr (fun ds => (F ds).calm) vs H Q E → spZ K T fr F vs H Q (fun _ _ _ => False) := fun {vs H Q E} h => by
    obtain ⟨ds, S, l, hd, hR⟩ := h
    refine ⟨ds, S, l, hd, ?_⟩
    cases hf : F ds with
    | ok r => simp only [hf] at hR; exact hR
    | ex x => simp only [hf] at hR; exact hR.elim
    | bad => simp only [hf] at hR; exact hR.elim
  obtain ⟨f, fd, ds, G, m, kp, b⟩ := c.ex
  refine ⟨f, fd, ds, ⟨fun vs H Q E h => ?_, fun A outer s H args us vs Q E hr e0 hb hv h => ?_⟩, m, kp, b⟩
  · exact G.len vs H Q (fun _ _ _ => False) (key h)
  · refine codeAny_mono (G.run A outer s H args us vs Q (fun _ _ _ => False) hr e0 hb hv (key h)) fun o s' h' => ?_
    cases o with
    | error e =>
      obtain ⟨_, _, _, _, _, _, _, _, _, _, _, _, z⟩ := h'
      exact z.elim
    | ok fl => cases fl <;> exact h'
end
def zKw (n m : Nat) (gD : List PyData → List PyData → List PyData) (a k : MA) : MA := fun ρ => (a ρ).bind fun ds => (k ρ).bind fun es => if ds.length = n ∧ es.length = m then .ok (gD ds es) else .bad
section
variable {K : PySem.W.Frag} {T : Tb} {W : WX} {ta tk : TA} {ma mk : MA} {F : List PyData → Rz PyData} {n m : Nat} {gV : List V → List V → List V} {gD : List PyData → List PyData → List PyData}
end
end Lw

set_option Elab.async false
set_option linter.all false
set_option maxRecDepth 100000
set_option maxHeartbeats 4000000
set_option autoImplicit false
namespace Lw
open PySem L2 LwZ
inductive Arg where
  | p (i : Nat)
  | k (j : Nat)
  | d (j : Nat)
def Arg.get {α : Type} (us mv ws : List α) : Arg → Option α
  | .p i => us[i]?
  | .k j => ws[j]?
  | .d j => mv[j]?
def sel {α : Type} (o : List Arg) (us mv ws : List α) : List α := o.filterMap (Arg.get us mv ws)
section
variable {K : PySem.W.Frag} {x qual : Str} {params : Arguments} {body : List Stmt} {scope : Scope} {kws : List (Str × V)} {f : Addr} {fd : FuncData} {ps : List Str}
end
section
variable {K : PySem.W.Frag} {T : Tb} {W : WX} {ta tk : TA} {ma mk : MA} {F : List PyData → Rz PyData} {n m : Nat} {o : List Arg} {mz : List V} {ms : List PyData} {fr : Fr}
theorem zApp_nil (ma : MA) : zApp ma [] = ma := by
  funext ρ
  unfold zApp
  cases ma ρ with
  | ok a => show Rz.ok (a ++ []) = _; rw [List.append_nil]
  | ex x => rfl
  | bad => rfl
theorem sim_call0 (h : SimA K T ta W ma) : SimE K T (tCallSD (spZ K T fr F) [] (WE W) ta) W (xF F ma) := by
  have := sim_call (F := F) (fr := fr) (es := []) (fun _ => .nil) h
  rw [zApp_nil] at this; exact this
theorem sim_callC0 {E : XK} (h : SimA K T ta W ma) : SimE K T (tCall (spZ K T fr fun ds => (F ds).calm) [] E ta) W (xFc F ma) := by
  have := sim_callC (F := F) (fr := fr) (E := E) (es := []) (fun _ => .nil) h
  rw [zApp_nil] at this; exact this
end
theorem tri_sim {K : PySem.W.Frag} {T : Tb} {fr : Fr} {H0 B : Hp} {C : List Addr} {ρ : List Slot} {ts : TS} {D : Ends} {W : WX} {m : MS} (h : SimS K T fr ts W m) (p : PostS K T fr H0 B C D W (m ρ)) : Tri K T H0 B C ρ ts D := h ρ H0 B C D p
def pop0 (ρ : List Slot) (k : Nat) : Option (PyData × List Slot) := match ownL ρ[k]? with
  | some (x :: xs) => if xs.length < 1000000 then some (x, ρ.set k (.own (.lst xs))) else none
  | _ => none
section
variable {K : PySem.W.Frag} {T : Tb} {fr : Fr} {W : WX} {te ta tb : TE} {t : TT} {i j l r : Nat}
end
end Lw

set_option Elab.async false
set_option linter.all false
set_option maxRecDepth 100000
set_option maxHeartbeats 4000000
set_option autoImplicit false
namespace Lw
open PySem L2 LwZ
theorem nr {α : Sort _} {a b : α} (h : a = b) : a = b := h
section
variable (ρ : List Slot)
theorem fnD_a (np n : Nat) (m : MS) (ds : List PyData) : fnD np n m ds = if ds.length = np then (match m (slots n ds) with | .rt d => .ok d | .nx _ => .ok .none | .ex x _ => .ex x | _ => .bad) else .bad := nr rfl
theorem kSeq_a (a b : MS) : kSeq a b ρ = (match a ρ with | .nx ρ' => b ρ' | r => r) := nr rfl
theorem kNx_a : kNx ρ = .nx ρ := nr rfl
theorem kE_a {α : Type} (m : List Slot → Rz α) (k : α → Rs) : kE m k ρ = (match m ρ with | .ok a => k a | .ex x => .ex x ρ | .bad => .bad) := nr rfl
theorem kAsg_a (m : ME) (i : Nat) : kAsg m i ρ = kE m (fun d => .nx (ρ.set i (.dat d))) ρ := nr rfl
theorem kOwn_a (m : MA) (i : Nat) : kOwn m i ρ = kE m (fun ds => .nx (ρ.set i (.own (.lst ds)))) ρ := nr rfl
theorem kDrop_a (m : ME) : kDrop m ρ = kE m (fun _ => .nx ρ) ρ := nr rfl
theorem kRet_a (m : ME) : kRet m ρ = kE m (fun d => .rt d) ρ := nr rfl
theorem kRetP_a (m : ME) : kRetP m ρ = kE m (fun d => match d with | .list _ => .bad | _ => .rt d) ρ := nr rfl
theorem kRetF_a (m : MA) : kRetF m ρ = kE m (fun ds => .rt (.list ds)) ρ := nr rfl
theorem kRetO_a (i : Nat) : kRetO i ρ = (match ownL ρ[i]? with | some ds => .rt (.list ds) | none => .bad) := nr rfl
theorem kRetN_a : kRetN ρ = .rt .none := nr rfl
theorem kIf_a (t : MT) (a b : MS) : kIf t a b ρ = kE t (fun c => match c with | true => a ρ | false => b ρ) ρ := nr rfl
theorem kBk_a : kBk ρ = .bk ρ := nr rfl
theorem kCt_a : kCt ρ = .ct ρ := nr rfl
theorem kTg_a (m : ME) (g : MG) : kTg m g ρ = kE m (fun d => match g d with | some f => .nx (f ρ) | none => .bad) ρ := nr rfl
theorem kPar_a (m : MA) (i j : Nat) : kPar m i j ρ = kE m (fun ds => match ds with | [a, b] => .nx ((ρ.set i (.dat a)).set j (.dat b)) | _ => .bad) ρ := nr rfl
theorem kApp_a (i : Nat) (m : ME) : kApp i m ρ = (match ownL ρ[i]? with | some ds => kE m (fun d => if ds.length < 1000000 then .nx (ρ.set i (.own (.lst (ds ++ [d])))) else .bad) ρ | none => .bad) := nr rfl
theorem kPut_a (i : Nat) (j m : ME) : kPut i j m ρ = (match ownL ρ[i]? with | some ds => kE m (fun d => kE j (fun e => match (asI e).bind (ixN ds.length) with | some n => .nx (ρ.set i (.own (.lst (ds.set n d)))) | none => .bad) ρ) ρ | none => .bad) := nr rfl
theorem kRet2_a (i j : Nat) : kRet2 i j ρ = (match ownL ρ[i]?, ownL ρ[j]? with | some a, some b => if i ≠ j then .rt (.tuple [.list a, .list b]) else .bad | _, _ => .bad) := nr rfl
theorem fP_a (f : List PyData → Rz PyData) (a : MA) (k : Int) : fP f a k ρ = (a ρ).bind fun ds => (f ds).bind fun r => match pairL r with | some (x, y) => .ok (if k = 0 then x else y) | none => .bad := nr rfl
theorem pairL_a (a b : List PyData) : pairL (.tuple [.list a, .list b]) = some (a, b) := nr rfl
theorem kFrz_a (i : Nat) (a : MS) : kFrz i a ρ = (match ownL ρ[i]? with | some ds => a (ρ.set i (.dat (.list ds))) | none => .bad) := nr rfl
theorem kFor_a (it : MA) (g : MG) (wp : List Nat) (b : MS) : kFor it g wp b ρ = kE it (fun items => forL g wp b items ρ) ρ := nr rfl
theorem forL_nil (g : MG) (wp : List Nat) (b : MS) : forL g wp b [] ρ = .nx ρ := nr rfl
theorem forL_cons (g : MG) (wp : List Nat) (b : MS) (d : PyData) (ds : List PyData) : forL g wp b (d :: ds) ρ = (match g d with
    | none => .bad
    | some f => match b (f ρ) with
      | .nx ρ' => forL g wp b ds (wipeS ρ' wp)
      | .ct ρ' => forL g wp b ds (wipeS ρ' wp)
      | .bk ρ' => .nx ρ'
      | r => r) := nr rfl
theorem kRaise_a (x : Str) : kRaise x ρ = .ex ⟨x, []⟩ ρ := nr rfl
theorem kDict_a (i : Nat) : kDict i ρ = .nx (ρ.set i (.own (.dct []))) := nr rfl
theorem kDput_a (i : Nat) (mk mv : ME) : kDput i mk mv ρ = (match ownD ρ[i]? with | some es => kE mv (fun v => kE mk (fun k => match keyD k with | some k => if es.length < 1000000 then .nx (ρ.set i (.own (.dct (putD es k v)))) else .bad | none => .bad) ρ) ρ | none => .bad) := nr rfl
theorem xC_a (d : PyData) : xC d ρ = .ok d := nr rfl
theorem xV_a (i : Nat) : xV i ρ = (match ρ[i]? with | some (.dat d) => .ok d | _ => .bad) := nr rfl
theorem xOp_a (f : PyData → PyData → Option PyData) (a b : ME) : xOp f a b ρ = (a ρ).bind fun x => (b ρ).bind fun y => .of (f x y) := nr rfl
theorem fOp_a (f : PyData → PyData → Option (List PyData)) (a b : ME) : fOp f a b ρ = (a ρ).bind fun x => (b ρ).bind fun y => .of (f x y) := nr rfl
theorem xUn_a (f : PyData → Option PyData) (a : ME) : xUn f a ρ = (a ρ).bind fun x => .of (f x) := nr rfl
theorem xNot_a (a : ME) : xNot a ρ = (a ρ).bind fun x => (Rz.of (asB x)).bind fun c => .ok (.bool (!c)) := nr rfl
theorem xAnd_a (a b : ME) : xAnd a b ρ = (a ρ).bind fun x => (Rz.of (asB x)).bind fun c => match c with | true => b ρ | false => .ok (.bool false) := nr rfl
theorem xOr_a (a b : ME) : xOr a b ρ = (a ρ).bind fun x => (Rz.of (asB x)).bind fun c => match c with | true => .ok (.bool true) | false => b ρ := nr rfl
theorem xIf_a (t : MT) (a b : ME) : xIf t a b ρ = (t ρ).bind fun c => match c with | true => a ρ | false => b ρ := nr rfl
theorem xChain_a (f g : PyData → PyData → Option PyData) (a b c : ME) : xChain f g a b c ρ = (a ρ).bind fun x => (b ρ).bind fun y => (Rz.of (f x y)).bind fun z => (Rz.of (asB z)).bind fun k => match k with
  | true => (c ρ).bind fun w => .of (g y w)
  | false => .ok (.bool false) := nr rfl
theorem zNil_a : zNil ρ = .ok [] := nr rfl
theorem zCons_a (a : ME) (r : MA) : zCons a r ρ = (a ρ).bind fun x => (r ρ).bind fun xs => .ok (x :: xs) := nr rfl
theorem xTup_a (a : MA) : xTup a ρ = (a ρ).bind fun xs => if xs.length ≤ 1000000 then .ok (.tuple xs) else .bad := nr rfl
theorem fLst_a (a : MA) : fLst a ρ = (a ρ).bind fun xs => if xs.length ≤ 1000000 then .ok xs else .bad := nr rfl
theorem xL_a (a : MA) : xL a ρ = (a ρ).bind fun xs => .ok (.list xs) := nr rfl
theorem xCB_a (f : List PyData → Option PyData) (a : MA) : xCB f a ρ = (a ρ).bind fun xs => .of (f xs) := nr rfl
theorem fCB_a (f : List PyData → Option (List PyData)) (a : MA) : fCB f a ρ = (a ρ).bind fun xs => .of (f xs) := nr rfl
theorem xF_a (f : List PyData → Rz PyData) (a : MA) : xF f a ρ = (a ρ).bind f := nr rfl
theorem xFc_a (f : List PyData → Rz PyData) (a : MA) : xFc f a ρ = (a ρ).bind fun ds => (f ds).calm := nr rfl
theorem fF_a (f : List PyData → Rz PyData) (a : MA) : fF f a ρ = (a ρ).bind fun ds => (f ds).bind fun r => .of (asL r) := nr rfl
theorem fFc_a (f : List PyData → Rz PyData) (a : MA) : fFc f a ρ = (a ρ).bind fun ds => (f ds).calm.bind fun r => .of (asL r) := nr rfl
theorem zApp_a (a : MA) (es : List PyData) : zApp a es ρ = (a ρ).bind fun ds => .ok (ds ++ es) := nr rfl
theorem zKw_a (n m : Nat) (gD : List PyData → List PyData → List PyData) (a k : MA) : zKw n m gD a k ρ = (a ρ).bind fun ds => (k ρ).bind fun es => if ds.length = n ∧ es.length = m then .ok (gD ds es) else .bad := nr rfl
theorem oNo_a : oNo ρ = .ok none := nr rfl
theorem oAt_a (a : ME) : oAt a ρ = (a ρ).bind fun x => (Rz.of (asI x)).bind fun i => .ok (some i) := nr rfl
theorem fSl_a (f : PyData → Option Int → Option Int → Option (List PyData)) (a : ME) (lo hi : MO) : fSl f a lo hi ρ = (a ρ).bind fun x => (lo ρ).bind fun l => (hi ρ).bind fun h => .of (f x l h) := nr rfl
theorem xSl_a (f : PyData → Option Int → Option Int → Option PyData) (a : ME) (lo hi : MO) : xSl f a lo hi ρ = (a ρ).bind fun x => (lo ρ).bind fun l => (hi ρ).bind fun h => .of (f x l h) := nr rfl
theorem yV_a (a : ME) : yV a ρ = (a ρ).bind fun x => .of (asB x) := nr rfl
theorem yAnd_a (a b : MT) : yAnd a b ρ = (a ρ).bind fun c => match c with | true => b ρ | false => .ok false := nr rfl
theorem yOr_a (a b : MT) : yOr a b ρ = (a ρ).bind fun c => match c with | true => .ok true | false => b ρ := nr rfl
theorem yNot_a (a : MT) : yNot a ρ = (a ρ).bind fun c => .ok (!c) := nr rfl
theorem yYes_a : yYes ρ = .ok true := nr rfl
theorem xIxO_a (k : Nat) (b : ME) : xIxO k b ρ = (Rz.of (ownL ρ[k]?)).bind fun ds => (b ρ).bind fun y => (Rz.of (asI y)).bind fun i => .of (atI ds i) := nr rfl
theorem xLenO_a (k : Nat) : xLenO k ρ = (Rz.of (ownL ρ[k]?)).bind fun ds => .ok (.int ds.length) := nr rfl
theorem xDg_a (i : Nat) (mk : ME) : xDg i mk ρ = (Rz.of (ownD ρ[i]?)).bind fun es => (mk ρ).bind fun k => (Rz.of (keyD k)).bind fun k => .of (getD? k es) := nr rfl
theorem xDin_a (mk : ME) (i : Nat) : xDin mk i ρ = (mk ρ).bind fun k => (Rz.of (ownD ρ[i]?)).bind fun es => (Rz.of (keyD k)).bind fun k => .ok (.bool (getD? k es).isSome) := nr rfl
theorem xDnotin_a (mk : ME) (i : Nat) : xDnotin mk i ρ = (mk ρ).bind fun k => (Rz.of (ownD ρ[i]?)).bind fun es => (Rz.of (keyD k)).bind fun k => .ok (.bool (!(getD? k es).isSome)) := nr rfl
theorem iS_a (a : ME) : iS a ρ = (a ρ).bind fun d => .of (seqOf d) := nr rfl
theorem iA_a (f : List PyData → Option (List PyData)) (a : MA) : iA f a ρ = (a ρ).bind fun ds => .of (f ds) := nr rfl
theorem fLc_a (vs : List Nat) (it : MA) (g : MG) (mt : MT) (me : ME) : fLc vs it g mt me ρ = (it ρ).bind fun items => if items.length ≤ 1000000 then lcL g mt me (wipeS ρ vs) items else .bad := nr rfl
theorem lcL_nil (g : MG) (mt : MT) (me : ME) : lcL g mt me ρ [] = .ok [] := nr rfl
theorem lcL_cons (g : MG) (mt : MT) (me : ME) (d : PyData) (ds : List PyData) : lcL g mt me ρ (d :: ds) = (match g d with
    | none => .bad
    | some f => (mt (f ρ)).calm.bind fun b => match b with
      | true => (me (f ρ)).calm.bind fun y => (lcL g mt me ρ ds).bind fun ys => .ok (y :: ys)
      | false => lcL g mt me ρ ds) := nr rfl
theorem wipeS_nil : wipeS ρ [] = ρ := nr rfl
theorem wipeS_cons (v : Nat) (vs : List Nat) : wipeS ρ (v :: vs) = (wipeS ρ vs).set v .no := nr rfl
end
theorem gN_a (i : Nat) (d : PyData) : gN i d = some fun ρ => ρ.set i (.dat d) := nr rfl
theorem gs0_a : gs0 [] = some fun ρ => ρ := nr rfl
theorem gsC_a (g : MG) (r : MGs) (d : PyData) (ds : List PyData) : gsC g r (d :: ds) = (g d).bind fun f => (r ds).bind fun h => some fun ρ => h (f ρ) := nr rfl
theorem gT_a (n : Nat) (r : MGs) (ds : List PyData) : gT n r (.tuple ds) = if ds.length = n then r ds else none := nr rfl
theorem gU_a (n : Nat) (r : MGs) (ds : List PyData) : gU n r (.list ds) = if ds.length = n then r ds else none := nr rfl
theorem ownL_a (ds : List PyData) : ownL (some (.own (.lst ds))) = some ds := nr rfl
theorem ownD_a (es : List (Key × PyData)) : ownD (some (.own (.dct es))) = some es := nr rfl
theorem asB_a (b : Bool) : asB (.bool b) = some b := nr rfl
theorem asI_a (b : Int) : asI (.int b) = some b := nr rfl
theorem asL_a (ds : List PyData) : asL (.list ds) = some ds := nr rfl
theorem seqOf_l (ds : List PyData) : seqOf (.list ds) = some ds := nr rfl
theorem seqOf_t (ds : List PyData) : seqOf (.tuple ds) = some ds := nr rfl
theorem keyD_i (i : Int) : keyD (.int i) = some (.inl i) := nr rfl
theorem keyD_s (s : Str) : keyD (.str s) = some (.inr s) := nr rfl
theorem bind_ex {α β : Type} (x : Exn) (k : α → Rz β) : (Rz.ex x : Rz α).bind k = .ex x := nr rfl
theorem bind_bad {α β : Type} (k : α → Rz β) : (Rz.bad : Rz α).bind k = .bad := nr rfl
theorem of_none {α : Type} : (Rz.of (none : Option α)) = .bad := nr rfl
theorem zAddV_i (i j : Int) : zAddV (.int i) (.int j) = some (.int (i + j)) := nr rfl
theorem zAddV_t {a b : List PyData} (h : a.length + b.length ≤ 1000000) : zAddV (.tuple a) (.tuple b) = some (.tuple (a ++ b)) := by unfold zAddV zAdd; simp only [if_pos h]
theorem zAddV_l {a b : List PyData} (h : a.length + b.length ≤ 1000000) : zAddV (.list a) (.list b) = some (.list (a ++ b)) := by unfold zAddV zAdd zAddL; simp only [if_pos h]; rfl
theorem zSub_i (i j : Int) : zSub (.int i) (.int j) = some (.int (i - j)) := nr rfl
theorem log_lt {n : Nat} {i : Int} (h : Bt n i) : i.natAbs.log2 ≤ n := by
  by_cases z : i.natAbs = 0
  · rw [z]; exact Nat.zero_le _
  · have := (Nat.log2_lt z).mpr h
    omega
theorem zMulV_b {n m : Nat} {i j : Int} (h : Bt n i) (h' : Bt m j) (l : n + m ≤ 99999998) : zMulV (.int i) (.int j) = some (.int (i * j)) := by
  have hb : bitsOk i j = true := by
    unfold bitsOk
    have h1 := log_lt h
    have h2 := log_lt h'
    simp only [Bool.or_eq_true, decide_eq_true_eq]
    exact .inr (by omega)
  unfold zMulV zMul
  simp only [if_pos hb]
theorem zMulV_l {i j : Int} (h : i.natAbs < 18446744073709551616) : zMulV (.int i) (.int j) = some (.int (i * j)) := by
  have hb : bitsOk i j = true := by unfold bitsOk; simp only [Bool.or_eq_true, decide_eq_true_eq]; exact .inl (.inl h)
  unfold zMulV zMul
  simp only [if_pos hb]
theorem zFd_i {i j : Int} (h : 0 < j) (h2 : j < 1073741824) : zFd (.int i) (.int j) = some (.int (i.fdiv j)) := by
  unfold zFd
  simp only [if_pos (show j ≠ 0 ∧ j.natAbs < 1073741824 from ⟨by omega, by omega⟩)]
theorem zFdB_i {i j : Int} (h : j ≠ 0) : zFdB (.int i) (.int j) = some (.int (i.fdiv j)) := by
  unfold zFdB
  simp only [if_pos h]
theorem zMod_i {i j : Int} (h : j ≠ 0) : zMod (.int i) (.int j) = some (.int (i.fmod j)) := by
  unfold zMod
  simp only [if_pos h]
theorem zLt_i (i j : Int) : zLt (.int i) (.int j) = some (.bool (decide (i < j))) := nr rfl
theorem zLe_i (i j : Int) : zLe (.int i) (.int j) = some (.bool (decide (i ≤ j))) := nr rfl
theorem zGt_i (i j : Int) : zGt (.int i) (.int j) = some (.bool (decide (j < i))) := nr rfl
theorem zGe_i (i j : Int) : zGe (.int i) (.int j) = some (.bool (decide (j ≤ i))) := nr rfl
theorem zEq_sh {x y : PyData} (h : SeqAt.shaped x = true) (h' : SeqAt.shaped y = true) : zEq x y = some (.bool (PyData.eqv x y)) := by unfold zEq; rw [h, h']; rfl
theorem zNe_sh {x y : PyData} (h : SeqAt.shaped x = true) (h' : SeqAt.shaped y = true) : zNe x y = some (.bool (!PyData.eqv x y)) := by unfold zNe; rw [h, h']; rfl
theorem zEq_i (i j : Int) : zEq (.int i) (.int j) = some (.bool (decide (i = j))) := by rw [zEq_sh rfl rfl, eqv_int]
theorem zNe_i (i j : Int) : zNe (.int i) (.int j) = some (.bool (!decide (i = j))) := by rw [zNe_sh rfl rfl, eqv_int]
theorem zEq_r (a b : Rat) : zEq (encR a) (encR b) = some (.bool (decide (a = b))) := by rw [zEq_sh (shaped_encR _) (shaped_encR _), eqv_encR]
theorem zNe_r (a b : Rat) : zNe (encR a) (encR b) = some (.bool (!decide (a = b))) := by rw [zNe_sh (shaped_encR _) (shaped_encR _), eqv_encR]
theorem zIx_r0 (q : Rat) : zIx (encR q) (.int 0) = some (.int q.num) := nr rfl
theorem zIx_r1 (q : Rat) : zIx (encR q) (.int 1) = some (.int (q.den : Int)) := nr rfl
theorem zIx_t (ds : List PyData) (i : Int) : zIx (.tuple ds) (.int i) = atI ds i := nr rfl
theorem zIx_l (ds : List PyData) (i : Int) : zIx (.list ds) (.int i) = atI ds i := nr rfl
theorem zNeg_i (i : Int) : zNeg (.int i) = some (.int (-i)) := nr rfl
theorem zLen_l (ds : List PyData) : zLen [.list ds] = some (.int ds.length) := nr rfl
theorem zLen_t (ds : List PyData) : zLen [.tuple ds] = some (.int ds.length) := nr rfl
theorem zAbs_i (i : Int) : zAbs [.int i] = some (.int (if i < 0 then -i else i)) := nr rfl
theorem zInt_b (b : Bool) : zInt [.bool b] = some (.int (if b then 1 else 0)) := nr rfl
theorem zInt_i (i : Int) : zInt [.int i] = some (.int i) := nr rfl
theorem zListV_l (ds : List PyData) : zListV [.list ds] = some (.list ds) := nr rfl
theorem zListV_t (ds : List PyData) : zListV [.tuple ds] = some (.list ds) := nr rfl
theorem zList_l (ds : List PyData) : zList [.list ds] = some ds := nr rfl
theorem zList_t (ds : List PyData) : zList [.tuple ds] = some ds := nr rfl
theorem zTuple_l (ds : List PyData) : zTuple [.list ds] = some (.tuple ds) := nr rfl
theorem zTuple_t (ds : List PyData) : zTuple [.tuple ds] = some (.tuple ds) := nr rfl
theorem allB_map : ∀ bs : List Bool, allB (bs.map PyData.bool) = some bs
  | [] => rfl
  | b :: bs => by rw [List.map_cons]; unfold allB; rw [allB_map bs]; rfl
theorem zAll_l (bs : List Bool) : zAll [.list (bs.map PyData.bool)] = some (.bool (bs.all id)) := by unfold zAll; simp only [allB_map]; rfl
theorem zAny_l (bs : List Bool) : zAny [.list (bs.map PyData.bool)] = some (.bool (bs.any id)) := by unfold zAny; simp only [allB_map]; rfl
theorem zAll_m {α : Type} (xs : List α) (f : α → Bool) : zAll [.list (xs.map fun x => .bool (f x))] = some (.bool (xs.all f)) := by
  have e : (xs.map fun x => PyData.bool (f x)) = (xs.map f).map PyData.bool := by rw [List.map_map]; rfl
  rw [e, zAll_l, List.all_map]; rfl
theorem zAny_m {α : Type} (xs : List α) (f : α → Bool) : zAny [.list (xs.map fun x => .bool (f x))] = some (.bool (xs.any f)) := by
  have e : (xs.map fun x => PyData.bool (f x)) = (xs.map f).map PyData.bool := by rw [List.map_map]; rfl
  rw [e, zAny_l, List.any_map]; rfl
theorem zSlV_l (ds : List PyData) (l h : Option Int) : zSlV (.list ds) l h = some (.list (cutD ds l h)) := nr rfl
theorem zSlV_t (ds : List PyData) (l h : Option Int) : zSlV (.tuple ds) l h = some (.tuple (cutD ds l h)) := nr rfl
theorem zIsN_a (x : PyData) : zIsN x .none = some (.bool (isNone x)) := nr rfl
theorem zNotN_a (x : PyData) : zNotN x .none = some (.bool (!isNone x)) := nr rfl
theorem rng1_a {j : Int} (h1 : -4611686018427387903 ≤ j) (h2 : j < 4611686018427387904) : rng1 [.int j] = some (rgD 0 j.toNat) := by
  have h : fitR j = true := Nat.ble_eq_true_of_le (by omega)
  unfold rng1; simp only [h, if_true]
theorem rng1_n {n : Nat} (h : n ≤ 1000000) : rng1 [.int (n : Int)] = some (rgD 0 n) := by
  rw [rng1_a (by omega) (by omega)]; simp
theorem zipO_f {d e : PyData} {ds es : List PyData} (h : seqOf d = some ds) (h' : seqOf e = some es) : zipO false [d, e] = some (zipD ds es) := by unfold zipO; simp only [h, h']; rfl
theorem zipO_t {d e : PyData} {ds es : List PyData} (h : seqOf d = some ds) (h' : seqOf e = some es) (hl : ds.length = es.length) : zipO true [d, e] = some (zipD ds es) := by unfold zipO; simp [h, h', hl]
theorem enO_a {d : PyData} {ds : List PyData} (h : seqOf d = some ds) : enO [d] = some (enD 0 ds) := by unfold enO; simp only [h]; rfl
theorem lcL_map {α : Type} {g : MG} {mt : MT} {me : ME} {ρ : List Slot} {enc : α → PyData} {F : α → List Slot → List Slot} {out : α → PyData} : ∀ {xs : List α}, (∀ x ∈ xs, g (enc x) = some (F x)) → (∀ x ∈ xs, mt (F x ρ) = .ok true) → (∀ x ∈ xs, me (F x ρ) = .ok (out x)) →
    lcL g mt me ρ (xs.map enc) = .ok (xs.map out)
  | [], _, _, _ => rfl
  | x :: xs, h1, h2, h3 => by
    have ih := lcL_map (fun y hy => h1 y (List.mem_cons_of_mem _ hy)) (fun y hy => h2 y (List.mem_cons_of_mem _ hy)) (fun y hy => h3 y (List.mem_cons_of_mem _ hy))
    rw [List.map_cons, lcL_cons, h1 x (List.mem_cons_self ..)]
    simp only [h2 x (List.mem_cons_self ..), h3 x (List.mem_cons_self ..), ih, Rz.calm_ok, Rz.bind_ok, List.map_cons]
theorem lcL_filter {α : Type} {g : MG} {mt : MT} {me : ME} {ρ : List Slot} {enc : α → PyData} {F : α → List Slot → List Slot} {p : α → Bool} {out : α → PyData} : ∀ {xs : List α}, (∀ x ∈ xs, g (enc x) = some (F x)) → (∀ x ∈ xs, mt (F x ρ) = .ok (p x)) → (∀ x ∈ xs, p x = true → me (F x ρ) = .ok (out x)) →
    lcL g mt me ρ (xs.map enc) = .ok ((xs.filter p).map out)
  | [], _, _, _ => rfl
  | x :: xs, h1, h2, h3 => by
    have ih := lcL_filter (fun y hy => h1 y (List.mem_cons_of_mem _ hy)) (fun y hy => h2 y (List.mem_cons_of_mem _ hy)) (fun y hy => h3 y (List.mem_cons_of_mem _ hy))
    rw [List.map_cons, lcL_cons, h1 x (List.mem_cons_self ..)]
    cases hp : p x with
    | true => simp only [h2 x (List.mem_cons_self ..), h3 x (List.mem_cons_self ..) hp, hp, ih, Rz.calm_ok, Rz.bind_ok, List.map_cons, List.filter_cons, if_true]
    | false => simp only [h2 x (List.mem_cons_self ..), hp, ih, Rz.calm_ok, Rz.bind_ok, List.filter_cons, Bool.false_eq_true, if_false]
theorem seq_step {a b : MS} {ρ ρ' : List Slot} {r : Rs} (h : a ρ = .nx ρ') (h2 : b ρ' = r) : kSeq a b ρ = r := by rw [kSeq_a, h]; exact h2
theorem forL_id {α : Type} {g : MG} {wp : List Nat} {b : MS} {enc : α → PyData} {F : α → List Slot → List Slot} {ρ : List Slot} : ∀ {xs : List α}, (∀ x ∈ xs, g (enc x) = some (F x)) → (∀ x ∈ xs, ∃ ρ', b (F x ρ) = .nx ρ' ∧ wipeS ρ' wp = ρ) → forL g wp b (xs.map enc) ρ = .nx ρ
  | [], _, _ => rfl
  | x :: xs, h1, h2 => by
    obtain ⟨ρ', e1, e2⟩ := h2 x (List.mem_cons_self ..)
    have ih := forL_id (fun y hy => h1 y (List.mem_cons_of_mem _ hy)) (fun y hy => h2 y (List.mem_cons_of_mem _ hy))
    rw [List.map_cons, forL_cons, h1 x (List.mem_cons_self ..)]
    simp only [e1, e2]
    exact ih
theorem forL_ex {α : Type} {g : MG} {wp : List Nat} {b : MS} {enc : α → PyData} {F : α → List Slot → List Slot} (P : Nat → List Slot → Prop) : ∀ (xs : List α) (k : Nat) (ρ : List Slot), (∀ x ∈ xs, g (enc x) = some (F x)) → P k ρ →
    (∀ i x ρ, xs[i]? = some x → P (k + i) ρ → ∃ ρ', b (F x ρ) = .nx ρ' ∧ P (k + i + 1) (wipeS ρ' wp)) → ∃ ρ', forL g wp b (xs.map enc) ρ = .nx ρ' ∧ P (k + xs.length) ρ'
  | [], k, ρ, _, hp, _ => ⟨ρ, rfl, hp⟩
  | x :: xs, k, ρ, h1, hp, h2 => by
    obtain ⟨ρ', e1, e2⟩ := h2 0 x ρ rfl hp
    obtain ⟨ρ2, e3, e4⟩ := forL_ex P xs (k + 1) (wipeS ρ' wp) (fun y hy => h1 y (List.mem_cons_of_mem _ hy)) e2 (fun i y ρ hi hp => by
      have := h2 (i + 1) y ρ hi (by rw [show k + (i + 1) = k + 1 + i from by omega]; exact hp)
      rw [show k + (i + 1) + 1 = k + 1 + i + 1 from by omega] at this
      exact this)
    refine ⟨ρ2, ?_, by rw [List.length_cons, show k + (xs.length + 1) = k + 1 + xs.length from by omega]; exact e4⟩
    rw [List.map_cons, forL_cons, h1 x (List.mem_cons_self ..)]
    simp only [e1, e3]
theorem lcL_ex {α : Type} {g : MG} {mt : MT} {me : ME} {ρ : List Slot} {enc : α → PyData} {F : α → List Slot → List Slot} {β : Type} {dec : β → PyData} (Q : β → Prop) : ∀ (xs : List α), (∀ x ∈ xs, g (enc x) = some (F x)) → (∀ x ∈ xs, mt (F x ρ) = .ok true) → (∀ x ∈ xs, ∃ y, Q y ∧ me (F x ρ) = .ok (dec y)) →
    ∃ ys : List β, ys.length = xs.length ∧ (∀ y ∈ ys, Q y) ∧ lcL g mt me ρ (xs.map enc) = .ok (ys.map dec)
  | [], _, _, _ => ⟨[], rfl, fun y hy => (by cases hy), rfl⟩
  | x :: xs, h1, h2, h3 => by
    obtain ⟨ys, a, b, c⟩ := lcL_ex Q xs (fun y hy => h1 y (List.mem_cons_of_mem _ hy)) (fun y hy => h2 y (List.mem_cons_of_mem _ hy)) (fun y hy => h3 y (List.mem_cons_of_mem _ hy))
    obtain ⟨y, q1, q2⟩ := h3 x (List.mem_cons_self ..)
    refine ⟨y :: ys, by rw [List.length_cons, List.length_cons, a], fun z hz => ?_, ?_⟩
    · rcases List.mem_cons.mp hz with e | e
      · rw [e]; exact q1
      · exact b z e
    · rw [List.map_cons, lcL_cons, h1 x (List.mem_cons_self ..)]
      simp only [h2 x (List.mem_cons_self ..), q2, c, Rz.calm_ok, Rz.bind_ok, List.map_cons]
theorem enD_map {α : Type} (enc : α → PyData) : ∀ (xs : List α) (k : Nat), enD k (xs.map enc) = (xs.zipIdx k).map fun p => .tuple [.int (p.2 : Nat), enc p.1]
  | [], k => rfl
  | x :: xs, k => by
    rw [List.map_cons, List.zipIdx_cons, List.map_cons, ← enD_map enc xs (k + 1)]
    rfl
theorem zipD_map {α β : Type} (f : α → PyData) (g : β → PyData) : ∀ (xs : List α) (ys : List β), zipD (xs.map f) (ys.map g) = (xs.zip ys).map fun p => .tuple [f p.1, g p.2]
  | [], ys => rfl
  | x :: xs, [] => rfl
  | x :: xs, y :: ys => by
    rw [List.map_cons, List.map_cons, List.zip_cons_cons, List.map_cons, ← zipD_map f g xs ys]
    rfl
theorem rgD_map (n : Nat) : rgD 0 n = (List.range n).map fun (k : Nat) => PyData.int (k : Int) := by
  unfold rgD
  refine List.map_congr_left fun k _ => ?_
  rw [Int.zero_add]
end Lw

set_option Elab.async false
set_option linter.all false
set_option maxRecDepth 100000
set_option maxHeartbeats 4000000
set_option autoImplicit false
namespace Lw
open PySem PySem.Spec PyProof.Rows L2 HotX L2H LwM LwZ
structure CalH (P : Program) (w : World) (K : PySem.W.Frag) (mg : Str → Option Value) (base : Heap) (k : Nat) (x : Str) (ps : List Str) (sp : Addr → Value → Option Addr → Sp) : Prop where
  ex : ∃ (f : Addr) (fd : FuncData), FnHX P w K mg base CX0 k f fd ps sp ∧ mg x = some (.ref f) ∧ PySem.W.keepIn K (.ref f) = true ∧ Binds K fd ps []
section
variable {X : Cx} {k j : Nat} {f : Addr} {fd : FuncData} {ps : List Str} {sp : Addr → Value → Option Addr → Sp} {x : Str} {q pos : Pos} {e : Expr} {es : List Expr} {t : TA} {p : Addr × Obj} {cls : Value} {d : Option Addr}
end
section
variable {P : Program} {w : World} {K : PySem.W.Frag} {T : Tb} {mg : Str → Option Value} {base : Heap}
end
end Lw

set_option Elab.async false
set_option linter.all false
set_option maxRecDepth 100000
set_option maxHeartbeats 4000000
set_option autoImplicit false
namespace Lw
open PySem PySem.Spec PyProof.Rows L2 HotX L2H LwM LwZ LamX
section
variable {X : Cx} {pins : List (Addr × Obj)} {σ : L2.St} {H : Hp} {s : Shared}
end
section
variable {X : Cx}
end
end Lw

set_option Elab.async false
set_option linter.all false
set_option maxRecDepth 100000
set_option maxHeartbeats 4000000
set_option autoImplicit false
namespace Lw
open PySem PySem.Spec PyProof.Rows L2 HotX L2H LwM LwZ LamX
section
variable {K : PySem.W.Frag} {T : Tb}
end
end Lw

set_option Elab.async false
set_option linter.all false
set_option maxRecDepth 100000
set_option maxHeartbeats 4000000
set_option autoImplicit false
namespace Lw
open PySem L2 LwZ
section
variable {K : PySem.W.Frag} {T : Tb} {W : WX} {te : TE} {ta : TA} {m : ME} {ma : MA}
end
end Lw

set_option Elab.async false
set_option linter.all false
set_option maxRecDepth 100000
set_option maxHeartbeats 4000000
set_option autoImplicit false
namespace Lw
open PySem L2
def dd (x : Str) (st : Stmt) (dfl : List He.Dv) : He.DefD := ⟨(x, none), x, x, defArgs st, defBody st, defScope st, dfl, []⟩
theorem cal_mk {P : Program} {w : World} {K : PySem.W.Frag} {mg : Str → Option Value} {base : Heap} {k : Nat} {x : Str} {ps : List Str} {sp : Sp} {f : Addr} {fd : FuncData}
    (G : FnOk P w K mg base CX0 k f fd ps sp) (m : mg x = some (.ref f)) (kp : PySem.W.keepIn K (.ref f) = true) (b : Binds K fd ps []) : Cal P w K mg base k x ps [] sp := ⟨f, fd, [], G, m, kp, b, .nil⟩
theorem calX_mk {P : Program} {w : World} {K : PySem.W.Frag} {mg : Str → Option Value} {base : Heap} {k : Nat} {x : Str} {ps : List Str} {sp : Sp} {f : Addr} {fd : FuncData}
    (G : FnOk P w K mg base (L2N.CX P w) k f fd ps sp) (m : mg x = some (.ref f)) (kp : PySem.W.keepIn K (.ref f) = true) (b : Binds K fd ps []) : CalX P w K mg base k x ps [] sp := ⟨f, fd, [], G, m, kp, b, .nil⟩
theorem calX_mkD {P : Program} {w : World} {K : PySem.W.Frag} {mg : Str → Option Value} {base : Heap} {k : Nat} {x : Str} {ps : List Str} {dvs : List V} {sp : Sp} {f : Addr} {fd : FuncData}
    (G : FnOk P w K mg base (L2N.CX P w) k f fd ps sp) (m : mg x = some (.ref f)) (kp : PySem.W.keepIn K (.ref f) = true) (b : ∃ ds, Vals dvs ds ∧ Binds K fd ps ds) : CalX P w K mg base k x ps dvs sp :=
  let ⟨ds, v, b⟩ := b; ⟨f, fd, ds, G, m, kp, b, v⟩
theorem sql_hide {K : PySem.W.Frag} {H : Hp} {a : Addr} {xs : List V} (h : SqL K H a xs) : SqL K (hide H []) a xs := by
  have e : ∀ (b : Addr) (o : HO), H b = some o → isTbl o = false → hide H [] b = some o := fun b o h n => hide_some.mpr ⟨fun z => (by cases z), h, n⟩
  rcases h with (h | ⟨o, h⟩) | h
  · exact .inl (.inl (e _ _ h rfl))
  · exact .inl (.inr ⟨o, e _ _ h rfl⟩)
  · exact .inr h
theorem law_wish {K : PySem.W.Frag} {T : Tb} {H : Hp} {a : Addr} {ns : List Int} (hl : ns.length ≤ 63) (hS : SqL K H a (ns.map V.int)) (hT : LamX.Tabs T H) : spA K T Rlaw [.ref a] H (fun v _ => v = .bl true) fun _ _ _ => False :=
  ⟨[.scr (ns.map .int)], _, [], ⟨fun q hq => (by cases hq), hT⟩, .scr (sql_hide hS) DtAll.ints .nil, ⟨ns, hl, rfl, rfl⟩, fun r hr v H' _ dv => by
    subst hr
    cases dv
    rfl⟩
end Lw

set_option Elab.async false
set_option linter.all false
set_option maxRecDepth 100000
set_option maxHeartbeats 4000000
set_option autoImplicit false
namespace Lw
open PySem L2 LwZ
structure SaysQ (fa : List He.Fa) (fn : List He.DefD) (tf : List He.Defn) (ck : PySem.W.Frag → Bool) (h : Heap) (K : PySem.W.Frag) : Prop where
  d : He.SaysD fa fn K
  ck : ck K = true
  hd : ∀ p ∈ tf, PySem.W.codeHdIn K (He.cT K p).1 (He.cT K p).2 = true
  out : ∀ p ∈ tf, K.lookup (He.cT K p).2 = none
  empty : ∀ p ∈ tf, h.get? (He.cT K p).2 = some { cls := .none, data := .fields #[] }
  nd : (tf.map fun p => (He.cT K p).2).Nodup
end Lw

set_option Elab.async false
set_option linter.all false
set_option maxRecDepth 100000
set_option maxHeartbeats 4000000
set_option autoImplicit false
namespace Lw
open PySem PySem.Spec PyProof.Rows L2 LwZ
section
variable {K : PySem.W.Frag} {T : Tb}
end
end Lw

set_option Elab.async false
set_option linter.all false
set_option maxRecDepth 100000
set_option maxHeartbeats 4000000
set_option autoImplicit false
namespace Lw
open PySem L2 LwZ
def yVw (m : MT) : MT := fun ρ => match m (ρ.map Slot.view) with
  | .ok b => .ok b
  | _ => .bad
def flatT : PyData → Bool
  | .tuple ds => ds.all scalD
  | d => scalD d
def xVw (m : ME) : ME := fun ρ => match m (ρ.map Slot.view) with
  | .ok d => if flatT d then .ok d else .bad
  | _ => .bad
def kClr (i : Nat) : MS := fun ρ => match ownL ρ[i]? with
  | some _ => .nx (ρ.set i (.own (.lst [])))
  | none => .bad
section
variable {K : PySem.W.Frag} {T : Tb} {W : WX} {fr : Fr}
theorem sim_yVw {t : TT} {mt : MT} (h : SimT K T t W mt) : SimT K T t W (yVw mt) := fun ρ => by
  have a := h (ρ.map Slot.view)
  unfold yVw
  cases h1 : mt (ρ.map Slot.view) with
  | bad => exact True.intro
  | ex x => exact True.intro
  | ok b => rw [h1] at a; exact et_view a
end
section
variable {K : PySem.W.Frag} {T : Tb} {W : WX} {ta tk : TA} {ma mk : MA} {F : List PyData → Rz PyData} {n m : Nat} {gV : List V → List V → List V} {gD : List PyData → List PyData → List PyData}
end
section
variable {ρ : List Slot}
theorem yVw_a (m : MT) : yVw m ρ = (match m (ρ.map Slot.view) with | .ok b => .ok b | _ => .bad) := nr rfl
theorem xVw_a (m : ME) : xVw m ρ = (match m (ρ.map Slot.view) with | .ok d => if flatT d then .ok d else .bad | _ => .bad) := nr rfl
theorem flatT_r (q : Rat) : flatT (encR q) = true := nr rfl
theorem kClr_a (i : Nat) : kClr i ρ = (match ownL ρ[i]? with | some _ => .nx (ρ.set i (.own (.lst []))) | none => .bad) := nr rfl
theorem view_no : Slot.view .no = .no := nr rfl
theorem view_dat (d : PyData) : Slot.view (.dat d) = .dat d := nr rfl
theorem view_own (ds : List PyData) : Slot.view (.own (.lst ds)) = .dat (.list ds) := nr rfl
theorem view_scr (ds : List PyData) : Slot.view (.scr ds) = .scr ds := nr rfl
end
end Lw

set_option Elab.async false
set_option linter.all false
set_option maxRecDepth 100000
set_option maxHeartbeats 4000000
set_option autoImplicit false
namespace Lw
open PySem L2 LwZ
section
variable {K : PySem.W.Frag} {T : Tb} {H0 B : Hp} {C : List Addr} {H H' : Hp} {S : List Addr} {σ : St} {ρ : List Slot}
end
def kNst (f0 f1 : MA) (x : Nat) (mt : MT) : MS := fun ρ => match f0 ρ with
  | .ok d0 => match f1 ρ with
    | .ok d1 => if d0.length < 1000000 ∧ d1.length < 1000000 ∧ x < ρ.length then (match mt ((ρ.map Slot.view).set x (.dat (.list [.list d0, .list d1]))) with
      | .ok true => .rt (.bool false)
      | .ok false => .nx (ρ.set x .no)
      | _ => .bad) else .bad
    | _ => .bad
  | _ => .bad
theorem kNst_a (f0 f1 : MA) (x : Nat) (mt : MT) (ρ : List Slot) : kNst f0 f1 x mt ρ = (match f0 ρ with
  | .ok d0 => match f1 ρ with
    | .ok d1 => if d0.length < 1000000 ∧ d1.length < 1000000 ∧ x < ρ.length then (match mt ((ρ.map Slot.view).set x (.dat (.list [.list d0, .list d1]))) with
      | .ok true => .rt (.bool false)
      | .ok false => .nx (ρ.set x .no)
      | _ => .bad) else .bad
    | _ => .bad
  | _ => .bad) := nr rfl
section
variable {K : PySem.W.Frag} {T : Tb} {W : WX}
end
section
variable {K : PySem.W.Frag} {T : Tb} {ρ : List Slot} {wi wi1 : TI} {te : TE} {vs vs1 : List Nat} {items : List PyData} {i0 i1 : Nat}
theorem wipe_wipe (σ : St) (vs : List Nat) : wipe (wipe σ vs) vs = wipe σ vs := by
  have key : ∀ ws : List Nat, (∀ v ∈ ws, v ∈ vs) → wipe (wipe σ ws) vs = wipe σ vs := fun ws => by
    induction ws with
    | nil => intro _; rfl
    | cons v ws ih =>
      intro hv
      show wipe ((wipe σ ws).set v none) vs = wipe σ vs
      rw [wipe_set (hv v (List.mem_cons_self ..)), ih fun u hu => hv u (List.mem_cons_of_mem _ hu)]
  exact key vs fun v hv => hv
theorem ef_lc2 (G : PyData → List PyData) (hi : IterD K T wi ρ items) (hz : (items.flatMap G).length ≤ 1000000) (h0 : i0 ∈ vs) (h1 : i1 ∈ vs1)
    (hs : ∀ (i : Nat) (d : PyData), items[i]? = some d → ∃ items1 F1, IterD K T wi1 ((wipeS ρ vs).set i0 (.dat d)) items1 ∧ G d = items1.map F1 ∧
      ∀ (j : Nat) (e : PyData), items1[j]? = some e → Ev K T te ((wipeS ((wipeS ρ vs).set i0 (.dat d)) vs1).set i1 (.dat e)) (F1 e)) :
    EvF K T (tLc2 wi (gName i0) tYes wi1 (gName i1) tYes te vs vs1) ρ (items.flatMap G) := fun H0 B C H S σ gd Q hQ => by
  refine hi H0 B C H S σ gd _ fun J H1 e1 fd => ?_
  intro D hD
  have g1 := gd.ex e1
  obtain ⟨gl, nm⟩ := g1.lay (xs := []) hD
  have gw := gl.wiped vs
  have nw := notMine_wipe nm vs
  have frD : Fresh H D := (Fresh.of hD).back e1.kp
  have fr0 : Fresh H0 D := frD.back gd.ext.kp
  have sees : Kp (hide H1 S) (hide (upd H1 D (.lst [])) (D :: S)) := by rw [hide_new (.of hD)]; exact .refl _
  refine ⟨fun i m Hc => m = items.length - i ∧ i ≤ items.length ∧ ∃ acc, Gd K T H0 B C Hc (D :: S) (wipe σ vs) (wipeS ρ vs) ∧ Ext T H Hc ∧ Kp (hide H1 S) (hide Hc (D :: S)) ∧ Hc D = some (.lst acc) ∧ DtAll K (hide Hc (D :: S)) acc ((items.take i).flatMap G), ⟨items.length, by simp, Nat.zero_le _, [], gw, e1.trans (.new hD), sees, upd_same, .nil⟩, ?_⟩
  rintro i m Hc ⟨rfl, hil, acc, gc, ec, sc, hc, dc⟩
  obtain ⟨f1, f2⟩ := fd i Hc (D :: S) sc gc.lst
  by_cases hlt : i < items.length
  · obtain ⟨go, yl⟩ := f1 items[i] (List.getElem?_eq_getElem hlt)
    have htk : items.take (i + 1) = items.take i ++ [items[i]] := (List.take_append_getElem hlt).symm
    obtain ⟨items1, F1, hi1, hG, hev⟩ := hs i _ (List.getElem?_eq_getElem hlt)
    have htk2 : (items.take (i + 1)).flatMap G = (items.take i).flatMap G ++ items1.map F1 := by
      rw [htk, List.flatMap_append, List.flatMap_cons, List.flatMap_nil, List.append_nil, hG]
    have hlen : ((items.take i).flatMap G ++ items1.map F1).length ≤ 1000000 := by
      rw [← htk2]
      have : (items.flatMap G).length = ((items.take (i + 1)).flatMap G).length + ((items.drop (i + 1)).flatMap G).length := by
        rw [← List.length_append, ← List.flatMap_append, List.take_append_drop]
      omega
    refine .inr ⟨go, fun Hn => ∃ acc, Gd K T H0 B C Hn (D :: S) (wipe σ vs) (wipeS ρ vs) ∧ Ext T H Hn ∧ Kp (hide H1 S) (hide Hn (D :: S)) ∧ Hn D = some (.lst acc) ∧ DtAll K (hide Hn (D :: S)) acc ((items.take (i + 1)).flatMap G), fun Hn hn => ⟨items.length - (i + 1), by omega, rfl, hlt, hn⟩, fun x H' hy => ?_⟩
    obtain ⟨ex, dx⟩ := yl x H' hy
    have g2 : Gd K T H0 B C H' (D :: S) ((wipe σ vs).set i0 (some x)) ((wipeS ρ vs).set i0 (.dat items[i])) := (gc.ex ex).set dx
    have n2 : ∀ Hx, Ext T H Hx → NotMine Hx ((wipe σ vs).set i0 (some x)) ((wipeS ρ vs).set i0 (.dat items[i])) D := fun Hx ex => (notMine_wipe ((gd.notMine frD).kp gd ex.kp) vs).set rfl (fun o z => by cases z)
    generalize hσ2 : (wipe σ vs).set i0 (some x) = σ2 at g2 n2
    generalize hρ2 : (wipeS ρ vs).set i0 (.dat items[i]) = ρ2 at g2 n2 hi1 hev
    show wipe ((wipe σ vs).set i0 (some x)) vs = wipe σ vs ∧ tYes ((wipe σ vs).set i0 (some x)) H' _
    refine ⟨by rw [wipe_set h0, wipe_wipe], ?_⟩
    rw [hσ2]
    refine et_yes (ρ := ρ2) H0 B C H' (D :: S) σ2 g2 _ fun H3 e3 => iteT ?_
    refine hi1 H0 B C H3 (D :: S) σ2 (g2.ex e3) _ fun J1 H4 e4 fd1 => ?_
    have ec4 : Ext T Hc H4 := (ex.trans e3).trans e4
    have gin := ((g2.ex e3).ex e4).wiped vs1
    have nin := fun Hx ex => notMine_wipe (n2 Hx ex) vs1
    refine ⟨fun j k Hd => k = items1.length - j ∧ j ≤ items1.length ∧ ∃ acc, Gd K T H0 B C Hd (D :: S) (wipe σ vs) (wipeS ρ vs) ∧ Gd K T H0 B C Hd (D :: S) (wipe σ2 vs1) (wipeS ρ2 vs1) ∧ Ext T H Hd ∧ Kp (hide H1 S) (hide Hd (D :: S)) ∧ Kp (hide H4 (D :: S)) (hide Hd (D :: S)) ∧ Hd D = some (.lst acc) ∧ DtAll K (hide Hd (D :: S)) acc ((items.take i).flatMap G ++ (items1.take j).map F1),
      ⟨items1.length, by simp, Nat.zero_le _, acc, gc.ex ec4, gin, ec.trans ec4, sc.trans (ec4.kp.hide _), .refl _, ec4.kp D _ hc rfl, by rw [List.take_zero, List.map_nil, List.append_nil]; exact dc.kp (ec4.kp.hide _)⟩, ?_⟩
    rintro j k Hd ⟨rfl, hjl, acc1, go1, gi1, ed, sd, sd4, hd, dd⟩
    obtain ⟨p1, p2⟩ := fd1 j Hd (D :: S) sd4 go1.lst
    by_cases hlt1 : j < items1.length
    · obtain ⟨gg, yl1⟩ := p1 items1[j] (List.getElem?_eq_getElem hlt1)
      have htk1 : items1.take (j + 1) = items1.take j ++ [items1[j]] := (List.take_append_getElem hlt1).symm
      refine .inr ⟨gg, fun Hn => ∃ acc, Gd K T H0 B C Hn (D :: S) (wipe σ vs) (wipeS ρ vs) ∧ Gd K T H0 B C Hn (D :: S) (wipe σ2 vs1) (wipeS ρ2 vs1) ∧ Ext T H Hn ∧ Kp (hide H1 S) (hide Hn (D :: S)) ∧ Kp (hide H4 (D :: S)) (hide Hn (D :: S)) ∧ Hn D = some (.lst acc) ∧ DtAll K (hide Hn (D :: S)) acc ((items.take i).flatMap G ++ (items1.take (j + 1)).map F1), fun Hn hn => ⟨items1.length - (j + 1), by omega, rfl, hlt1, hn⟩, fun x1 H5 hy1 => ?_⟩
      obtain ⟨ex1, dx1⟩ := yl1 x1 H5 hy1
      have g5 : Gd K T H0 B C H5 (D :: S) ((wipe σ2 vs1).set i1 (some x1)) ((wipeS ρ2 vs1).set i1 (.dat items1[j])) := (gi1.ex ex1).set dx1
      show wipe ((wipe σ2 vs1).set i1 (some x1)) vs1 = wipe σ2 vs1 ∧ tYes ((wipe σ2 vs1).set i1 (some x1)) H5 _
      refine ⟨by rw [wipe_set h1, wipe_wipe], ?_⟩
      refine et_yes H0 B C H5 (D :: S) _ g5 _ fun H6 e6 => iteT ?_
      refine hev j _ (List.getElem?_eq_getElem hlt1) H0 B C H6 (D :: S) _ (g5.ex e6) _ fun y H7 e7 dy => ?_
      have e57 : Ext T Hd H7 := (ex1.trans e6).trans e7
      have hD7 : H7 D = some (.lst acc1) := e57.kp D _ hd rfl
      refine ⟨acc1, hD7, ?_, acc1 ++ [y], ?_, ?_, ?_, ?_, ?_, upd_same, ?_⟩
      · have q := dd.len
        rw [List.length_append, List.length_map] at hlen
        rw [List.length_append, List.length_map, List.length_take] at q
        have q4 : (1000000 : Nat) < sizeLine := by decide
        omega
      · exact (go1.ex e57).poke (List.mem_cons_self ..) fr0 (notMine_wipe ((gd.notMine frD).kp gd (ed.trans e57).kp) vs) hD7
      · exact (gi1.ex e57).poke (List.mem_cons_self ..) fr0 (nin _ (ed.trans e57)) hD7
      · have q := ed.trans e57
        exact ⟨fun b o hb n => by
          have hb' := q.kp b o hb n
          rw [upd_ne (fun z => by subst z; rw [frD o hb] at n; cases n)]
          exact hb', fun t => tabs_lst hD7 (q.tb t)⟩
      · rw [hide_upd (List.mem_cons_self ..)]
        exact sd.trans (e57.kp.hide _)
      · rw [hide_upd (List.mem_cons_self ..)]
        exact sd4.trans (e57.kp.hide _)
      · rw [hide_upd (List.mem_cons_self ..), htk1, List.map_append, ← List.append_assoc]
        exact (dd.kp (e57.kp.hide _)).app (.cons dy .nil)
    · have e0 : j = items1.length := by omega
      subst e0
      rw [List.take_length] at dd
      exact .inl ⟨p2 (Nat.le_refl _), acc1, go1, ed, sd, hd, by rw [htk2]; exact dd⟩
  · have e0 : i = items.length := by omega
    subst e0
    rw [List.take_length] at dc
    exact .inl ⟨f2 (Nat.le_refl _), hQ D acc Hc ec frD hc dc⟩
end
def lc2F (vs1 : List Nat) (i0 i1 : Nat) (mi1 : MA) (me : ME) (ρ : List Slot) (d : PyData) : Rz (List PyData) := (mi1 (ρ.set i0 (.dat d))).calm.bind fun items => lcL (gN i1) yYes me (wipeS (ρ.set i0 (.dat d)) vs1) items
def lc2L (vs1 : List Nat) (i0 i1 : Nat) (mi1 : MA) (me : ME) (ρ : List Slot) : List PyData → Rz (List PyData)
  | [] => .ok []
  | d :: ds => (lc2F vs1 i0 i1 mi1 me ρ d).calm.bind fun ys => (lc2L vs1 i0 i1 mi1 me ρ ds).calm.bind fun zs => .ok (ys ++ zs)
def fLc2 (vs vs1 : List Nat) (i0 i1 : Nat) (mi mi1 : MA) (me : ME) : MA := fun ρ => (mi ρ).bind fun items => (lc2L vs1 i0 i1 mi1 me (wipeS ρ vs) items).calm.bind fun ys => if ys.length ≤ 1000000 then .ok ys else .bad
section
variable {vs vs1 : List Nat} {i0 i1 : Nat} {mi mi1 : MA} {me : ME} {ρ : List Slot}
theorem fLc2_a : fLc2 vs vs1 i0 i1 mi mi1 me ρ = (mi ρ).bind fun items => (lc2L vs1 i0 i1 mi1 me (wipeS ρ vs) items).calm.bind fun ys => if ys.length ≤ 1000000 then .ok ys else .bad := nr rfl
def meOf (me : ME) (i1 : Nat) (ρ : List Slot) (e : PyData) : PyData := match me (ρ.set i1 (.dat e)) with
  | .ok y => y
  | _ => .none
theorem lcN_inv : ∀ {items ys : List PyData}, lcL (gN i1) yYes me ρ items = .ok ys → ys = items.map (meOf me i1 ρ) ∧ ∀ e ∈ items, me (ρ.set i1 (.dat e)) = .ok (meOf me i1 ρ e)
  | [], ys, h => by cases h; exact ⟨rfl, fun e he => by cases he⟩
  | d :: ds, ys, h => by
    have h : (yYes (ρ.set i1 (.dat d))).calm.bind (fun b => match b with | true => (me (ρ.set i1 (.dat d))).calm.bind fun y => (lcL (gN i1) yYes me ρ ds).bind fun ys => .ok (y :: ys) | false => lcL (gN i1) yYes me ρ ds) = .ok ys := h
    obtain ⟨b, hb, h⟩ := calm_inv h
    cases hb
    obtain ⟨y, hy, h⟩ := calm_inv (show (me (ρ.set i1 (.dat d))).calm.bind _ = _ from h)
    cases hz : lcL (gN i1) yYes me ρ ds with
    | bad => rw [hz] at h; cases h
    | ex x => rw [hz] at h; cases h
    | ok zs =>
      rw [hz] at h
      cases h
      obtain ⟨i1', i2⟩ := lcN_inv hz
      have ey : meOf me i1 ρ d = y := by unfold meOf; rw [hy]
      refine ⟨by rw [List.map_cons, ← i1', ey], fun e he => ?_⟩
      rcases List.mem_cons.mp he with z | z
      · subst z; rw [ey]; exact hy
      · exact i2 e z
def outOf : Rz (List PyData) → List PyData
  | .ok ys => ys
  | _ => []
theorem lc2_inv : ∀ {items ys : List PyData}, lc2L vs1 i0 i1 mi1 me ρ items = .ok ys → ys = items.flatMap (fun d => outOf (lc2F vs1 i0 i1 mi1 me ρ d)) ∧ ∀ d ∈ items, ∃ zs, lc2F vs1 i0 i1 mi1 me ρ d = .ok zs
  | [], ys, h => by cases h; exact ⟨rfl, fun e he => by cases he⟩
  | d :: ds, ys, h => by
    obtain ⟨y, hy, h⟩ := calm_inv (show (lc2F vs1 i0 i1 mi1 me ρ d).calm.bind _ = _ from h)
    obtain ⟨zs, hz, h⟩ := calm_inv h
    cases h
    obtain ⟨j1, j2⟩ := lc2_inv hz
    refine ⟨by rw [List.flatMap_cons, ← j1, hy]; rfl, fun e he => ?_⟩
    rcases List.mem_cons.mp he with z | z
    · subst z; exact ⟨y, hy⟩
    · exact j2 e z
end
section
variable {K : PySem.W.Frag} {T : Tb} {W W' : WX} {wi wi1 : TI} {te : TE} {vs vs1 : List Nat} {i0 i1 : Nat} {mi mi1 : MA} {me : ME}
theorem sim_lc2 (hi : SimI K T wi W mi) (hi1 : SimI K T wi1 W' mi1) (he : SimE K T te W' me) (h0 : i0 ∈ vs) (h1 : i1 ∈ vs1) : SimF K T (tLc2 wi (gName i0) tYes wi1 (gName i1) tYes te vs vs1) W (fLc2 vs vs1 i0 i1 mi mi1 me) := fun ρ => by
  have a := hi ρ
  unfold fLc2
  cases e1 : mi ρ with
  | bad => exact True.intro
  | ex x => rw [e1] at a; exact fun H0 B C H S σ g Q hQ => a H0 B C H S σ g _ hQ
  | ok items =>
    rw [e1] at a
    show EzF K T _ ρ W ((lc2L vs1 i0 i1 mi1 me (wipeS ρ vs) items).calm.bind _)
    cases e2 : lc2L vs1 i0 i1 mi1 me (wipeS ρ vs) items with
    | bad => exact True.intro
    | ex x => exact True.intro
    | ok ys =>
      show EzF K T _ ρ W (if ys.length ≤ 1000000 then .ok ys else .bad)
      by_cases hl : ys.length ≤ 1000000
      · rw [if_pos hl]
        obtain ⟨q1, q2⟩ := lc2_inv e2
        rw [q1]
        rw [q1] at hl
        refine ef_lc2 _ a hl h0 h1 fun i d hd => ?_
        obtain ⟨zs, hz⟩ := q2 d (List.mem_of_getElem? hd)
        rw [hz]
        obtain ⟨items1, hm1, hz2⟩ := calm_inv (show (mi1 ((wipeS ρ vs).set i0 (.dat d))).calm.bind _ = _ from hz)
        obtain ⟨r1, r2⟩ := lcN_inv hz2
        have b := hi1 ((wipeS ρ vs).set i0 (.dat d))
        rw [hm1] at b
        refine ⟨items1, _, b, r1, fun j e hje => ?_⟩
        have c := he ((wipeS ((wipeS ρ vs).set i0 (.dat d)) vs1).set i1 (.dat e))
        rw [r2 e (List.mem_of_getElem? hje)] at c
        exact c
      · rw [if_neg hl]; exact True.intro
end
def fPk2 (f0 f1 : MA) (mi : ME) : MA := fun ρ => (f0 ρ).calm.bind fun a => (f1 ρ).calm.bind fun b => (mi ρ).calm.bind fun d => match asI d with
  | some i => if i = 0 then .ok a else if i = 1 then .ok b else .bad
  | none => .bad
def fPk3 (f0 f1 f2 : MA) (mi : ME) : MA := fun ρ => (f0 ρ).calm.bind fun a => (f1 ρ).calm.bind fun b => (f2 ρ).calm.bind fun c => (mi ρ).calm.bind fun d => match asI d with
  | some i => if i = 0 then .ok a else if i = 1 then .ok b else if i = 2 then .ok c else .bad
  | none => .bad
theorem fPk2_a (f0 f1 : MA) (mi : ME) (ρ : List Slot) : fPk2 f0 f1 mi ρ = (f0 ρ).calm.bind fun a => (f1 ρ).calm.bind fun b => (mi ρ).calm.bind fun d => match asI d with
  | some i => if i = 0 then .ok a else if i = 1 then .ok b else .bad
  | none => .bad := nr rfl
theorem fPk3_a (f0 f1 f2 : MA) (mi : ME) (ρ : List Slot) : fPk3 f0 f1 f2 mi ρ = (f0 ρ).calm.bind fun a => (f1 ρ).calm.bind fun b => (f2 ρ).calm.bind fun c => (mi ρ).calm.bind fun d => match asI d with
  | some i => if i = 0 then .ok a else if i = 1 then .ok b else if i = 2 then .ok c else .bad
  | none => .bad := nr rfl
section
variable {K : PySem.W.Frag} {T : Tb} {W : WX}
end
end Lw

set_option Elab.async false
set_option linter.all false
set_option maxRecDepth 100000
set_option maxHeartbeats 4000000
set_option autoImplicit false
namespace Lw
open PySem PySem.Spec PyProof.Rows L2 HotX L2H LwM LwZ LamX
structure LamTab (K : PySem.W.Frag) (T : Tb) (mg : Str → Option Value) (base : Heap) (x : Str) : Prop where
  tb : TabB base mg (He.codeOf K (x, none)) (He.cT K (x, none)).2
  mem : ((He.cT K (x, none)).2, x ++ (".<locals>." : Str) ++ ("<lambda>" : Str)) ∈ T
  one : ∀ p ∈ T, p.1 = (He.cT K (x, none)).2 → p.2 = x ++ (".<locals>." : Str) ++ ("<lambda>" : Str)
structure CalL (K : PySem.W.Frag) (mg : Str → Option Value) (x : Str) (st : Stmt) (a : Str) : Prop where
  ex : ∃ (g : Addr) (fd : FuncData), FnQ K x st [] [] g fd ∧ mg x = some (.ref g) ∧ L2.Binds K fd [a] []
section
variable {P : Program} {w : World} {K : PySem.W.Frag} {mg : Str → Option Value} {base : Heap} {T : Tb}
end
end Lw

set_option Elab.async false
set_option linter.all false
set_option maxRecDepth 100000
set_option maxHeartbeats 4000000
set_option autoImplicit false
namespace Lw
open PySem L2 LwZ
def kIns (i : Nat) (j m : ME) : MS := fun ρ => match ownL ρ[i]?, j ρ, m ρ with
  | some ds, .ok (.int k), .ok d => if 0 ≤ k ∧ k.toNat ≤ ds.length ∧ ds.length < 1000000 then .nx (ρ.set i (.own (.lst (ds.take k.toNat ++ [d] ++ ds.drop k.toNat)))) else .bad
  | _, _, _ => .bad
def kExt (i : Nat) (m : ME) : MS := fun ρ => match ownL ρ[i]?, m ρ with
  | some ds, .ok (.list es) => if ds.length + es.length ≤ 1000000 then .nx (ρ.set i (.own (.lst (ds ++ es)))) else .bad
  | _, _ => .bad
def kApp3 (i : Nat) (a e : ME) (l : Nat) : MS := fun ρ => match a ρ, e ρ with
  | .ok u, .ok x => match pop0 ρ l with
    | some (y, ρ') => match zIx x y, ownL ρ[i]? with
      | some z, some ds => if ds.length < 1000000 ∧ i ≠ l then .nx (ρ'.set i (.own (.lst (ds ++ [.tuple [u, z]])))) else .bad
      | _, _ => .bad
    | none => .bad
  | _, _ => .bad
def xIsi (t : String) (m : ME) : ME := fun ρ => (m ρ).bind fun d => Rz.of ((kitB (tyN d) t).map .bool)
section
variable {K : PySem.W.Frag} {T : Tb} {W : WX} {fr : Fr} {te tb ta : TE} {i l : Nat} {m j : ME}
end
section
variable {K : PySem.W.Frag} {T : Tb}
end
section
variable {ρ : List Slot}
theorem kIns_a (i : Nat) (j m : ME) : kIns i j m ρ = (match ownL ρ[i]?, j ρ, m ρ with
  | some ds, .ok (.int k), .ok d => if 0 ≤ k ∧ k.toNat ≤ ds.length ∧ ds.length < 1000000 then .nx (ρ.set i (.own (.lst (ds.take k.toNat ++ [d] ++ ds.drop k.toNat)))) else .bad
  | _, _, _ => .bad) := nr rfl
theorem kExt_a (i : Nat) (m : ME) : kExt i m ρ = (match ownL ρ[i]?, m ρ with
  | some ds, .ok (.list es) => if ds.length + es.length ≤ 1000000 then .nx (ρ.set i (.own (.lst (ds ++ es)))) else .bad
  | _, _ => .bad) := nr rfl
theorem kApp3_a (i : Nat) (a e : ME) (l : Nat) : kApp3 i a e l ρ = (match a ρ, e ρ with
  | .ok u, .ok x => match pop0 ρ l with
    | some (y, ρ') => match zIx x y, ownL ρ[i]? with
      | some z, some ds => if ds.length < 1000000 ∧ i ≠ l then .nx (ρ'.set i (.own (.lst (ds ++ [.tuple [u, z]])))) else .bad
      | _, _ => .bad
    | none => .bad
  | _, _ => .bad) := nr rfl
theorem xIsi_a (t : String) (m : ME) : xIsi t m ρ = (m ρ).bind fun d => Rz.of ((kitB (tyN d) t).map .bool) := nr rfl
end
end Lw

set_option Elab.async false
set_option linter.all false
set_option maxRecDepth 100000
set_option maxHeartbeats 4000000
set_option autoImplicit false
namespace LwZ
open PySem PySem.Spec PyProof.Rows L2 Lw
open PySem.Sem (wp)
open PySem.W (kdx_alive)
section
variable {prog : Program} {w : World} {A : Around} {E : Value → Shared → Prop} {s : Shared}
end
section
variable {prog : Program} {w : World}
end
theorem vals_len : ∀ {ys : List V} {us : List Value}, Vals ys us → ys.length = us.length
  | _, _, .nil => rfl
  | _, _, .cons _ r => by rw [List.length_cons, List.length_cons, vals_len r]
end LwZ
namespace Lw
open PySem L2 LwZ
def mergeD (es more : List (Key × PyData)) : List (Key × PyData) := more.foldl (fun acc kv => putD acc kv.1 kv.2) es
def keysD : List PyData → Option (List Key)
  | [] => some []
  | d :: ds => match keyD d, keysD ds with
    | some k, some ks => some (k :: ks)
    | _, _ => none
def fDz (ma : MA) : List Slot → Rz (List (Key × PyData)) := fun ρ => (ma ρ).bind fun ds => match ds with
  | [d, e] => match seqOf d, seqOf e with
    | some xs, some ys => match keysD xs with
      | some ks => if ks.length = ys.length ∧ ks.length ≤ 1000 then .ok (mergeD [] (ks.zip ys)) else .bad
      | none => .bad
    | _, _ => .bad
  | _ => .bad
section
variable {K : PySem.W.Frag} {T : Tb}
variable (K T)
variable {K T}
def kOwnD (F : List PyData → Rz (List (Key × PyData))) (ma : MA) (i : Nat) : MS := fun ρ => match (ma ρ).bind F with
  | .ok es => .nx (ρ.set i (.own (.dct es)))
  | .ex x => .ex x ρ
  | .bad => .bad
end
def fnDD (np n : Nat) (m : List Slot → Rz (List (Key × PyData))) (ds : List PyData) : Rz (List (Key × PyData)) := if ds.length = np then m (slots n ds) else .bad
section
variable {P : Program} {w : World} {K : PySem.W.Frag} {T : Tb} {mg : Str → Option Value} {base : Heap}
end
section
variable {ρ : List Slot}
theorem kOwnD_a (F : List PyData → Rz (List (Key × PyData))) (ma : MA) (i : Nat) : kOwnD F ma i ρ = (match (ma ρ).bind F with
  | .ok es => .nx (ρ.set i (.own (.dct es)))
  | .ex x => .ex x ρ
  | .bad => .bad) := nr rfl
theorem fDz_a (ma : MA) : fDz ma ρ = (ma ρ).bind fun ds => match ds with
  | [d, e] => match seqOf d, seqOf e with
    | some xs, some ys => match keysD xs with
      | some ks => if ks.length = ys.length ∧ ks.length ≤ 1000 then .ok (mergeD [] (ks.zip ys)) else .bad
      | none => .bad
    | _, _ => .bad
  | _ => .bad := nr rfl
theorem fnDD_a (np n : Nat) (m : List Slot → Rz (List (Key × PyData))) (ds : List PyData) : fnDD np n m ds = if ds.length = np then m (slots n ds) else .bad := nr rfl
end
end Lw

set_option Elab.async false
set_option linter.all false
set_option maxRecDepth 100000
set_option maxHeartbeats 4000000
set_option autoImplicit false
namespace LwZ
open PySem PySem.Spec PyProof.Rows L2 Lw
open PySem.Sem (wp)
structure Zip3A (z TI TO i1 i2 i3 l1 l2 l3 : Addr) : Prop where
  TIz : TI ≠ z
  TOz : TO ≠ z
  i1z : i1 ≠ z
  i2z : i2 ≠ z
  i3z : i3 ≠ z
  TITO : TI ≠ TO
  TIi1 : TI ≠ i1
  TIi2 : TI ≠ i2
  TIi3 : TI ≠ i3
  TOi1 : TO ≠ i1
  TOi2 : TO ≠ i2
  TOi3 : TO ≠ i3
  i12 : i1 ≠ i2
  i13 : i1 ≠ i3
  i23 : i2 ≠ i3
  l1z : l1 ≠ z
  l1TO : l1 ≠ TO
  l1i1 : l1 ≠ i1
  l2z : l2 ≠ z
  l2TO : l2 ≠ TO
  l2i1 : l2 ≠ i1
  l2i2 : l2 ≠ i2
  l3z : l3 ≠ z
  l3TO : l3 ≠ TO
  l3i1 : l3 ≠ i1
  l3i2 : l3 ≠ i2
  l3i3 : l3 ≠ i3
section
variable {prog : Program} {w : World} {A : Around} {E : Value → Shared → Prop} {s : Shared}
end
section
variable {prog : Program} {w : World} {A : Around} {E : Value → Shared → Prop} {s : Shared}
end
section
variable {p1 p2 p3 : Bool} {a b c z TI TO i1 i2 i3 : Addr}
end
section
variable {K : PySem.W.Frag} {T : Tb} {ρ : List Slot} {ta : TA}
end
end LwZ
namespace Lw
open PySem L2 LwZ
section
variable {K : PySem.W.Frag} {T : Tb} {W : WX} {ta : TA} {ma : MA}
end
end Lw

set_option Elab.async false
set_option linter.all false
set_option maxRecDepth 100000
set_option maxHeartbeats 4000000
set_option autoImplicit false
namespace LwZ
open PySem PySem.Spec PyProof.Rows L2 Lw
open PySem.Sem (wp)
section
variable {prog : Program} {w : World} {A : Around} {E : Value → Shared → Prop} {s : Shared}
end
end LwZ
namespace LwZ
open PySem PySem.Spec PyProof.Rows L2 Lw
open PySem.Sem (wp)
theorem pgs_star {X : Cx} {e : Expr} {p : Pos} {es : List Expr} {t : TG} {u : TGs} (h1 : PG X e t) (h2 : PGs X es u)
    (hs : (assignEach (.Starred e p :: es) X.env).map (·.2) = assign e X.env :: (assignEach es X.env).map (·.2) := by rfl) : PGs X (.Starred e p :: es) (gCons t u) := by
  refine ⟨fun pins s σ H vs us Q I r h => ?_⟩
  obtain ⟨v, vr, e1, h⟩ := h
  subst e1
  cases r with
  | cons r rr =>
    rw [hs]
    refine assignInOrder_cons (thn (h1.run pins s σ H _ _ _ I r h) fun _ s1 ⟨σ1, H1, I1, q1⟩ => ?_)
    exact h2.run pins s1 σ1 H1 _ _ Q I1 rr q1
end LwZ
namespace Lw
open PySem L2 LwZ
def kStar (m : ME) (i j : Nat) : MS := fun ρ => kE m (fun d => match d with
  | .tuple (x :: xs) => if xs.length ≤ 1000 then .nx ((ρ.set i (.dat x)).set j (.dat (.list xs))) else .bad
  | _ => .bad) ρ
section
variable {K : PySem.W.Frag} {T : Tb} {W : WX} {fr : Fr} {te : TE} {m : ME} {i j : Nat}
end
theorem kStar_a (ρ : List Slot) (m : ME) (i j : Nat) : kStar m i j ρ = kE m (fun d => match d with
  | .tuple (x :: xs) => if xs.length ≤ 1000 then .nx ((ρ.set i (.dat x)).set j (.dat (.list xs))) else .bad
  | _ => .bad) ρ := nr rfl
end Lw

set_option Elab.async false
set_option linter.all false
set_option maxRecDepth 100000
set_option maxHeartbeats 4000000
set_option autoImplicit false
namespace Lw
open PySem L2 LwZ
theorem clFs_nd : ∀ t, (clFs t).Nodup
  | 0 => by decide +kernel
  | 1 => by decide +kernel
  | 2 => by decide +kernel
  | (_ + 3) => List.nodup_cons.mpr ⟨(by simp), List.nodup_nil⟩
theorem clFs_len (t : Nat) : (clFs t).length ≤ 4 := by
  match t with
  | 0 => decide
  | 1 => decide
  | 2 => decide
  | (_ + 3) => exact (by decide : 1 ≤ 4)
theorem lookup_zip : ∀ {ns : List Str} {vs : List V} {k : Nat} {f : Str} {v : V}, ns.Nodup → ns[k]? = some f → vs[k]? = some v → (ns.zip vs).lookup f = some v
  | [], _, k, f, v, _, h, _ => by simp at h
  | n :: ns, [], k, f, v, _, _, h => by simp at h
  | n :: ns, w :: vs, 0, f, v, _, h1, h2 => by
    simp only [List.getElem?_cons_zero, Option.some.injEq] at h1 h2
    subst h1 h2
    simp [List.lookup]
  | n :: ns, w :: vs, k + 1, f, v, nd, h1, h2 => by
    rw [List.getElem?_cons_succ] at h1 h2
    have nd := List.nodup_cons.mp nd
    have hne : (f == n) = false := by
      have : f ≠ n := fun z => nd.1 (z ▸ List.mem_of_getElem? h1)
      simpa using this
    rw [List.zip_cons_cons, List.lookup_cons, hne]
    exact lookup_zip nd.2 h1 h2
theorem lookup_zip_none : ∀ {ns : List Str} {vs : List V} {f : Str}, f ∉ ns → (ns.zip vs).lookup f = none
  | [], _, f, _ => by simp
  | n :: ns, [], f, _ => by simp
  | n :: ns, w :: vs, f, h => by
    have hne : (f == n) = false := by
      have : f ≠ n := fun z => h (z ▸ List.mem_cons_self ..)
      simpa using this
    rw [List.zip_cons_cons, List.lookup_cons, hne]
    exact lookup_zip_none fun z => h (List.mem_cons_of_mem _ z)
def putAt {α : Type} (k : Nat) (x : α) (xs : List α) : List α := if k < xs.length then xs.set k x else xs ++ [x]
theorem putAt_cons {α : Type} (k : Nat) (x y : α) (xs : List α) : putAt (k + 1) x (y :: xs) = y :: putAt k x xs := by
  unfold putAt
  by_cases h : k < xs.length
  · rw [if_pos h, if_pos (by rw [List.length_cons]; omega)]; rfl
  · rw [if_neg h, if_neg (by rw [List.length_cons]; omega)]; rfl
theorem putF_zip : ∀ {ns : List Str} {vs : List V} {k : Nat} {f : Str} {v : V}, ns.Nodup → ns[k]? = some f → k ≤ vs.length → putF f v (ns.zip vs) = ns.zip (putAt k v vs)
  | [], _, k, f, v, _, h, _ => by simp at h
  | n :: ns, [], k, f, v, _, h1, h2 => by
    have : k = 0 := by simpa using h2
    subst this
    simp only [List.getElem?_cons_zero, Option.some.injEq] at h1
    subst h1
    show [(n, v)] = _
    unfold putAt
    simp
  | n :: ns, w :: vs, 0, f, v, _, h1, h2 => by
    simp only [List.getElem?_cons_zero, Option.some.injEq] at h1
    subst h1
    show (if n = n then _ else _) = _
    rw [if_pos rfl]
    rfl
  | n :: ns, w :: vs, k + 1, f, v, nd, h1, h2 => by
    rw [List.getElem?_cons_succ] at h1
    have nd := List.nodup_cons.mp nd
    have hne : n ≠ f := fun z => nd.1 (z ▸ List.mem_of_getElem? h1)
    rw [putAt_cons]
    show (if n = f then _ else (n, w) :: putF f v (ns.zip vs)) = _
    rw [if_neg hne, putF_zip nd.2 h1 (by simpa using h2)]
    rfl
theorem putAt_len {α : Type} {k : Nat} {x : α} {xs : List α} : (putAt k x xs).length ≤ max xs.length (k + 1) ∨ xs.length < k := by
  unfold putAt
  by_cases h : k < xs.length
  · rw [if_pos h, List.length_set]; omega
  · rw [if_neg h, List.length_append]
    simp only [List.length_cons, List.length_nil]
    omega
structure ClT (K : PySem.W.Frag) (tg : Nat) : Prop where
  cl : Cls K (He.ga K (clNm tg))
  no : ∀ f ∈ clFs tg, NoAttr K (He.ga K (clNm tg)) f
section
variable {K : PySem.W.Frag} {T : Tb} {H0 B : Hp} {C : List Addr} {H H' : Hp} {S : List Addr} {σ : St} {ρ : List Slot}
def objF (tg : Nat) : Option Slot → Option (List Fd)
  | some (.rob o) => if o.tg = tg then some o.fs else none
  | some (.obj o) => if o.tg = tg then some o.fs else none
  | _ => none
theorem objF_rob (tg : Nat) (ad : Option Addr) (fs : List Fd) : objF tg (some (.rob ⟨tg, ad, fs⟩)) = some fs := if_pos rfl
theorem objF_obj (tg : Nat) (ad : Option Addr) (fs : List Fd) : objF tg (some (.obj ⟨tg, ad, fs⟩)) = some fs := if_pos rfl
theorem FdR.get : ∀ {vs : List V} {fs : List Fd} {k : Nat} {d : PyData}, FdR K H0 B vs fs → fs[k]? = some (.dat d) → ∃ v, vs[k]? = some v ∧ Dt K B v d := by
  intro vs
  induction vs with
  | nil => intro fs k d h e; cases h; simp at e
  | cons v vs ih =>
    intro fs k d h e
    cases h with
    | dat h1 h2 =>
      cases k with
      | zero => cases e; exact ⟨_, rfl, h1⟩
      | succ k => exact ih h2 e
    | own h1 h2 h3 =>
      cases k with
      | zero => cases e
      | succ k => exact ih h3 e
theorem FdO.get : ∀ {vs : List V} {fs : List Fd} {k : Nat} {d : PyData}, FdO K H0 H S vs fs → fs[k]? = some (.dat d) → ∃ v, vs[k]? = some v ∧ Dt K (hide H S) v d := by
  intro vs
  induction vs with
  | nil => intro fs k d h e; cases h; simp at e
  | cons v vs ih =>
    intro fs k d h e
    cases h with
    | dat h1 h2 =>
      cases k with
      | zero => cases e; exact ⟨_, rfl, h1⟩
      | succ k => exact ih h2 e
    | own h1 h2 h3 h4 h5 =>
      cases k with
      | zero => cases e
      | succ k => exact ih h5 e
theorem FdR.getO : ∀ {vs : List V} {fs : List Fd} {k : Nat} {ob : Ob}, FdR K H0 B vs fs → fs[k]? = some (.own ob) → ∃ q u, vs[k]? = some (.ref q) ∧ H0 q = some u ∧ ObD K B u ob := by
  intro vs
  induction vs with
  | nil => intro fs k d h e; cases h; simp at e
  | cons v vs ih =>
    intro fs k d h e
    cases h with
    | dat h1 h2 =>
      cases k with
      | zero => cases e
      | succ k => exact ih h2 e
    | own h1 h2 h3 =>
      cases k with
      | zero => cases e; exact ⟨_, _, rfl, h1, h2⟩
      | succ k => exact ih h3 e
theorem FdO.getO : ∀ {vs : List V} {fs : List Fd} {k : Nat} {ob : Ob}, FdO K H0 H S vs fs → fs[k]? = some (.own ob) → ∃ q u, vs[k]? = some (.ref q) ∧ q ∈ S ∧ Fresh H0 q ∧ H q = some u ∧ ObD K (hide H S) u ob ∧ q ∈ ownRefs vs fs := by
  intro vs
  induction vs with
  | nil => intro fs k d h e; cases h; simp at e
  | cons v vs ih =>
    intro fs k d h e
    cases h with
    | dat h1 h2 =>
      cases k with
      | zero => cases e
      | succ k =>
        obtain ⟨q, u, a, b, c, d, e, f⟩ := ih h2 e
        exact ⟨q, u, a, b, c, d, e, by cases v <;> exact f⟩
    | own h1 h2 h3 h4 h5 =>
      cases k with
      | zero => cases e; exact ⟨_, _, rfl, h1, h2, h3, h4, List.mem_cons_self ..⟩
      | succ k =>
        obtain ⟨q, u, a, b, c, d, e, f⟩ := ih h5 e
        exact ⟨q, u, a, b, c, d, e, List.mem_cons_of_mem _ f⟩
theorem Gd.objAt (g : Gd K T H0 B C H S σ ρ) {i tg : Nat} {fs : List Fd} (h : objF tg ρ[i]? = some fs) : ∃ p dx fvs, σ[i]? = some (some (.ref p)) ∧ H p = some (.ins (He.ga K (clNm tg)) dx ((clFs tg).zip fvs)) ∧
    (∀ (k : Nat) (d : PyData), fs[k]? = some (.dat d) → ∃ v, fvs[k]? = some v ∧ Dt K (hide H S) v d) ∧ (∀ (k : Nat) (ob : Ob), fs[k]? = some (.own ob) → ∃ (q : Addr) (u : HO), fvs[k]? = some (.ref q) ∧ H q = some u ∧ ObD K (hide H S) u ob) := by
  unfold objF at h
  split at h
  · rename_i o ho
    by_cases z : o.tg = tg
    · rw [if_pos z] at h
      cases h
      obtain ⟨p, dx, fvs, a, b, c⟩ := g.rob i o ho
      rw [z] at b
      refine ⟨p, dx, fvs, a, g.ext.kp _ _ b rfl, fun k d e => ?_, fun k ob e => ?_⟩
      · obtain ⟨v, v1, v2⟩ := c.get e
        exact ⟨v, v1, v2.kp g.old⟩
      · obtain ⟨q, u, v1, v2, v3⟩ := c.getO e
        exact ⟨q, u, v1, g.ext.kp _ _ v2 v3.nt, v3.kp g.old⟩
    · rw [if_neg z] at h; cases h
  · rename_i o ho
    by_cases z : o.tg = tg
    · rw [if_pos z] at h
      cases h
      obtain ⟨p, a, _, dx, fvs, b, _, _, c, _⟩ := g.obs.ob i o ho
      rw [z] at b
      refine ⟨p, dx, fvs, a, b, fun k d e => c.get e, fun k ob e => ?_⟩
      obtain ⟨q, u, v1, v2, v3, v4, v5, _⟩ := c.getO e
      exact ⟨q, u, v1, v4, v5⟩
    · rw [if_neg z] at h; cases h
  · cases h
def xFd (i tg k : Nat) : ME := fun ρ => match objF tg ρ[i]? with
  | some fs => (match fs[k]? with | some (.dat d) => .ok d | _ => .bad)
  | none => .bad
def objD (tg k : Nat) (s : Option Slot) : Option (List (Key × PyData)) := match objF tg s with
  | some fs => (match fs[k]? with | some (.own (.dct es)) => some es | _ => none)
  | none => none
theorem Gd.reobj (g : Gd K T H0 B C H S σ ρ) {i : Nat} {o o' : Oj} {p : Addr} {S' : List Addr} (hi : ρ[i]? = some (.obj o)) (hs : σ[i]? = some (some (.ref p)))
    (hk : ∀ b u, H b = some u → isTbl u = false → ¬ Foot H σ ρ i b → H' b = some u) (ht : LamX.Tabs T H → LamX.Tabs T H') (hS1 : ∀ q ∈ S, ¬ Foot H σ ρ i q → q ∈ S') (hS2 : ∀ q ∈ S', q ∈ S ∨ Fresh H q)
    (hL : Lsts H' S') (hO : ObAt K H0 H' S' p o') (hN : ∀ q, Foot H' σ (ρ.set i (.obj o')) i q → (∀ (j : Nat) (ob : Ob), ρ[j]? = some (.own ob) → σ[j]? ≠ some (some (.ref q))) ∧ ∀ j, j ≠ i → ¬ Foot H σ ρ j q)
    (had : ∀ a, o'.ad = some a → p = a) : Gd K T H0 B C H' S' σ (ρ.set i (.obj o')) := by
  have kp : Kp (hide H S) (hide H' S') := fun b u h n => by
    obtain ⟨h1, h2, h3⟩ := hide_some.mp h
    have nf : ¬ Foot H σ ρ i b := fun z => h1 (g.obs.foot z).1
    refine hide_some.mpr ⟨fun z => ?_, hk b u h2 h3 nf, h3⟩
    rcases hS2 b z with w | w
    · exact h1 w
    · rw [w u h2] at h3; cases h3
  have hlt : i < ρ.length := (List.getElem?_eq_some_iff.mp hi).1
  have other : ∀ j q, j ≠ i → Foot H' σ (ρ.set i (.obj o')) j q → Foot H σ ρ j q := fun j q z f => by
    obtain ⟨ob, pb, Cb, dxb, fvb, f1, f2, f3, f5, f6, f4⟩ := f
    rw [List.getElem?_set_ne (Ne.symm z)] at f1
    obtain ⟨p', b1, _, dx', fvs', b2, b3, b4, b5, b6, l⟩ := g.obs.ob j ob f1
    rw [f2] at b1; cases b1
    have nf : ¬ Foot H σ ρ i pb := fun w => z (g.obs.dj j i pb ⟨ob, pb, _, dx', fvs', f1, f2, b2, b5.len, l, List.mem_cons_self ..⟩ w)
    have := hk _ _ b2 rfl nf
    rw [f3] at this
    injection this with this
    injection this with z1 z2 z3
    have e3 := zip_inj (by rw [f5]; exact l) (by rw [b5.len]; exact l) z3
    subst e3 z1 z2
    exact ⟨ob, pb, _, dxb, fvb, f1, f2, b2, f5, f6, f4⟩
  exact {
    ext := ⟨fun b u e n => hk b u (g.ext.kp b u e n) n (fun z => by
      have := (g.obs.foot z).2.1 u e
      rw [n] at this; cases this), fun t => ht (g.ext.tb t)⟩
    vis := fun b u e n => hk b u (g.vis b u e n) n (fun z => by rw [g.hid _ (g.obs.foot z).1] at e; cases e)
    bno := g.bno
    hid := fun q hq => by
      rcases hS2 q hq with w | w
      · exact g.hid q w
      · exact g.bnone w
    lst := hL
    sub := fun c hc => hS1 c (g.sub c hc) (fun z => by
      obtain ⟨u, e, m⟩ := g.cl.1 c hc
      have := (g.obs.foot z).2.1 u e
      rw [mutO.nt m] at this; cases this)
    cl := g.cl
    len := by rw [List.length_set]; exact g.len
    dat := fun j d e => by
      by_cases z : i = j
      · subst z; cases set_get e
      · rw [List.getElem?_set_ne z] at e
        obtain ⟨v, a, b⟩ := g.dat j d e
        exact ⟨v, a, b.kp kp⟩
    scr := fun j d e => by
      by_cases z : i = j
      · subst z; cases set_get e
      · rw [List.getElem?_set_ne z] at e
        obtain ⟨a, xs, h1, h2, h3⟩ := g.scr j d e
        exact ⟨a, xs, h1, kp.sql h2, h3.kp kp⟩
    raw := fun j d e => by
      by_cases z : i = j
      · subst z; cases set_get e
      · rw [List.getElem?_set_ne z] at e
        exact g.raw j d e
    own := fun j d e => by
      by_cases z : i = j
      · subst z; cases set_get e
      · rw [List.getElem?_set_ne z] at e
        obtain ⟨q, u, h1, h2, h3, h4, h5⟩ := g.own j d e
        have nf : ¬ Foot H σ ρ i q := fun w => g.obs.dl i j q d w e h1
        exact ⟨q, u, h1, hS1 q h2 nf, h3, hk q u h4 h5.nt nf, h5.kp kp⟩
    sep := fun a b ds es q ha hb sa sb => by
      have za : i ≠ a := fun z => by subst z; cases set_get ha
      have zb : i ≠ b := fun z => by subst z; cases set_get hb
      rw [List.getElem?_set_ne za] at ha
      rw [List.getElem?_set_ne zb] at hb
      exact g.sep a b ds es q ha hb sa sb
    rob := fun j d e => by
      by_cases z : i = j
      · subst z; cases set_get e
      · rw [List.getElem?_set_ne z] at e
        exact g.rob j d e
    hc := fun q hq => by
      rcases hS2 q hq with w | w
      · exact g.hc q w
      · exact .inr (w.back g.ext.kp)
    obs := by
      refine ⟨fun j ob e => ?_, fun a b q fa fb => ?_, fun a j q ob f e s => ?_⟩
      · by_cases z : i = j
        · subst z
          cases set_get e
          exact ⟨p, hs, had, hO⟩
        · rw [List.getElem?_set_ne z] at e
          obtain ⟨p', b1, ad', dx', fvs', b2, b3, b4, b5, b6, l⟩ := g.obs.ob j ob e
          have ft : ∀ q, q ∈ p' :: ownRefs fvs' ob.fs → Foot H σ ρ j q := fun q m => ⟨ob, p', _, dx', fvs', e, b1, b2, b5.len, l, m⟩
          have nf : ∀ q, q ∈ p' :: ownRefs fvs' ob.fs → ¬ Foot H σ ρ i q := fun q m w => z (g.obs.dj i j q w (ft q m))
          have keep : ∀ q u, q ∈ p' :: ownRefs fvs' ob.fs → H q = some u → H' q = some u := fun q u m h => hk q u h (g.obs.fnt (ft q m) h) (nf q m)
          exact ⟨p', b1, ad', dx', fvs', keep _ _ (List.mem_cons_self ..) b2, hS1 _ b3 (nf _ (List.mem_cons_self ..)), b4,
            b5.step kp (fun q m => ⟨fun w => hS1 q w (nf q (List.mem_cons_of_mem _ m)), fun u h => keep q u (List.mem_cons_of_mem _ m) h⟩), b6, l⟩
      · by_cases za : a = i
        · by_cases zb : b = i
          · exact za.trans zb.symm
          · subst za
            exact ((hN q fa).2 b zb (other b q zb fb)).elim
        · by_cases zb : b = i
          · subst zb
            exact ((hN q fb).2 a za (other a q za fa)).elim
          · exact g.obs.dj a b q (other a q za fa) (other b q zb fb)
      · have zj : i ≠ j := fun z => by subst z; cases set_get e
        rw [List.getElem?_set_ne zj] at e
        by_cases za : a = i
        · subst za
          exact (hN q f).1 j ob e s
        · exact g.obs.dl a j q ob (other a q za f) e s }
theorem FdO.put : ∀ {vs : List V} {fs : List Fd} {k : Nat} {v : V} {d : PyData}, FdO K H0 H S vs fs → k ≤ fs.length → Dt K (hide H S) v d → FdO K H0 H S (putAt k v vs) (putAt k (.dat d) fs) := by
  intro vs
  induction vs with
  | nil =>
    intro fs k v d h hk hd
    cases h
    exact .dat hd .nil
  | cons w vs ih =>
    intro fs k v d h hk hd
    cases h with
    | dat h1 h2 =>
      cases k with
      | zero => exact .dat hd h2
      | succ k =>
        rw [putAt_cons, putAt_cons]
        exact .dat h1 (ih h2 (by simpa using hk) hd)
    | own h1 h2 h3 h4 h5 =>
      cases k with
      | zero => exact .dat hd h5
      | succ k =>
        rw [putAt_cons, putAt_cons]
        exact .own h1 h2 h3 h4 (ih h5 (by simpa using hk) hd)
theorem FdO.putO : ∀ {vs : List V} {fs : List Fd} {k : Nat} {q : Addr} {u : HO} {ob : Ob}, FdO K H0 H S vs fs → k ≤ fs.length → q ∈ S → Fresh H0 q → H q = some u → ObD K (hide H S) u ob → FdO K H0 H S (putAt k (.ref q) vs) (putAt k (.own ob) fs) := by
  intro vs
  induction vs with
  | nil =>
    intro fs k q u ob h hk a b c d
    cases h
    exact .own a b c d .nil
  | cons w vs ih =>
    intro fs k q u ob h hk a b c d
    cases h with
    | dat h1 h2 =>
      cases k with
      | zero => exact .own a b c d h2
      | succ k =>
        rw [putAt_cons, putAt_cons]
        exact .dat h1 (ih h2 (by simpa using hk) a b c d)
    | own h1 h2 h3 h4 h5 =>
      cases k with
      | zero => exact .own a b c d h5
      | succ k =>
        rw [putAt_cons, putAt_cons]
        exact .own h1 h2 h3 h4 (ih h5 (by simpa using hk) a b c d)
theorem refs_put : ∀ {vs : List V} {fs : List Fd} {k : Nat} {v : V} {fd : Fd} {q : Addr}, vs.length = fs.length → q ∈ ownRefs (putAt k v vs) (putAt k fd fs) → q ∈ ownRefs vs fs ∨ (v = .ref q ∧ ∃ ob, fd = .own ob) := by
  intro vs
  induction vs with
  | nil =>
    intro fs k v fd q hl h
    cases fs with
    | cons _ _ => simp at hl
    | nil =>
      cases fd with
      | dat d =>
        have : ownRefs [v] [.dat d] = [] := by cases v <;> rfl
        have h : q ∈ ownRefs [v] [.dat d] := h
        rw [this] at h; cases h
      | own ob =>
        cases v with
        | ref a =>
          have h : q ∈ [a] := h
          rw [List.mem_singleton] at h
          subst h
          exact .inr ⟨rfl, _, rfl⟩
        | _ => have h : q ∈ ([] : List Addr) := h; cases h
  | cons w vs ih =>
    intro fs k v fd q hl h
    cases fs with
    | nil => simp at hl
    | cons fd0 fs =>
      have hl : vs.length = fs.length := by simpa using hl
      cases k with
      | zero =>
        have h : q ∈ ownRefs (v :: vs) (fd :: fs) := h
        have up : q ∈ ownRefs vs fs → q ∈ ownRefs (w :: vs) (fd0 :: fs) := fun z => by
          cases w <;> cases fd0 <;> first | exact z | exact List.mem_cons_of_mem _ z
        cases fd with
        | dat d =>
          have : q ∈ ownRefs vs fs := by cases v <;> exact h
          exact .inl (up this)
        | own ob =>
          cases v with
          | ref a =>
            rcases List.mem_cons.mp h with z | z
            · subst z; exact .inr ⟨rfl, _, rfl⟩
            · exact .inl (up z)
          | _ => exact .inl (up h)
      | succ k =>
        rw [putAt_cons, putAt_cons] at h
        have key : q ∈ ownRefs (putAt k v vs) (putAt k fd fs) → q ∈ ownRefs (w :: vs) (fd0 :: fs) ∨ (v = .ref q ∧ ∃ ob, fd = .own ob) := fun z => by
          rcases ih hl z with z | z
          · left; cases w <;> cases fd0 <;> first | exact z | exact List.mem_cons_of_mem _ z
          · exact .inr z
        cases fd0 with
        | dat d => exact key (by cases w <;> exact h)
        | own ob =>
          cases w with
          | ref a =>
            rcases List.mem_cons.mp h with z | z
            · subst z; exact .inl (List.mem_cons_self ..)
            · exact key z
          | _ => exact key h
theorem refs_put_nd : ∀ {vs : List V} {fs : List Fd} {k : Nat} {v : V} {fd : Fd}, vs.length = fs.length → (ownRefs vs fs).Nodup → (∀ q ob, v = .ref q → fd = .own ob → q ∉ ownRefs vs fs) → (ownRefs (putAt k v vs) (putAt k fd fs)).Nodup := by
  intro vs
  induction vs with
  | nil =>
    intro fs k v fd hl h hn
    cases fs with
    | cons _ _ => simp at hl
    | nil =>
      show (ownRefs [v] [fd]).Nodup
      cases v <;> cases fd <;> first | exact List.nodup_nil | exact List.nodup_cons.mpr ⟨(by simp [ownRefs]), List.nodup_nil⟩
  | cons w vs ih =>
    intro fs k v fd hl h hn
    cases fs with
    | nil => simp at hl
    | cons fd0 fs =>
      have hl' : vs.length = fs.length := by simpa using hl
      have tl : (ownRefs vs fs).Nodup := by
        cases w <;> cases fd0 <;> first | exact h | exact (List.nodup_cons.mp h).2
      have tn : ∀ q ob, v = .ref q → fd = .own ob → q ∉ ownRefs vs fs := fun q ob a b z => hn q ob a b (by
        cases w <;> cases fd0 <;> first | exact z | exact List.mem_cons_of_mem _ z)
      cases k with
      | zero =>
        show (ownRefs (v :: vs) (fd :: fs)).Nodup
        cases fd with
        | dat d => cases v <;> exact tl
        | own ob =>
          cases v with
          | ref a => exact List.nodup_cons.mpr ⟨tn a ob rfl rfl, tl⟩
          | _ => exact tl
      | succ k =>
        rw [putAt_cons, putAt_cons]
        have r := ih (k := k) (v := v) (fd := fd) hl' tl tn
        cases fd0 with
        | dat d => cases w <;> exact r
        | own ob =>
          cases w with
          | ref a =>
            refine List.nodup_cons.mpr ⟨fun z => ?_, r⟩
            rcases refs_put hl' z with y | ⟨y, ob', y'⟩
            · exact (List.nodup_cons.mp h).1 y
            · exact hn a ob' y y' (List.mem_cons_self ..)
          | _ => exact r
theorem Gd.setFd (g : Gd K T H0 B C H S σ ρ) {i k : Nat} {o : Oj} {p C' dx : Addr} {fvs : List V} {v : V} {fd : Fd} (hi : ρ[i]? = some (.obj o)) (hs : σ[i]? = some (some (.ref p))) (hp : H p = some (.ins C' dx ((clFs o.tg).zip fvs))) (hf : fvs.length = o.fs.length)
    (hk : k ≤ o.fs.length) (hk2 : k < (clFs o.tg).length)
    (hd : (∃ d, fd = .dat d ∧ Dt K (hide H S) v d) ∨ ∃ q u ob, fd = .own ob ∧ v = .ref q ∧ q ∈ S ∧ Fresh H0 q ∧ H q = some u ∧ ObD K (hide H S) u ob ∧ NotMine H σ ρ q) :
    Gd K T H0 B C (upd H p (.ins C' dx ((clFs o.tg).zip (putAt k v fvs)))) S σ (ρ.set i (.obj { o with fs := putAt k fd o.fs })) := by
  obtain ⟨p', a1, ad, dx', fvs', a2, a3, a4, a5, a6, l⟩ := g.obs.ob i o hi
  rw [hs] at a1; cases a1
  rw [hp] at a2
  injection a2 with a2
  injection a2 with z1 z2 z3
  have e3 := zip_inj (by rw [hf]; exact l) (by rw [a5.len]; exact l) z3
  subst e3 z1 z2
  have eh : ∀ u', hide (upd H p u') S = hide H S := fun u' => hide_upd a3
  have fp : Foot H σ ρ i p := ⟨o, p, _, dx, fvs, hi, hs, hp, hf, l, List.mem_cons_self ..⟩
  have nq : ∀ q, q ∈ ownRefs fvs o.fs → q ≠ p := fun q m z => (List.nodup_cons.mp a6).1 (z ▸ m)
  have vq : ∀ q ob, v = .ref q → fd = .own ob → q ≠ p ∧ q ∉ ownRefs fvs o.fs ∧ NotMine H σ ρ q := fun q ob e1 e2 => by
    rcases hd with ⟨d, e, _⟩ | ⟨q', u, ob', e, ev, h1, h2, h3, h4, h5⟩
    · rw [e2] at e; cases e
    · rw [e1] at ev; cases ev
      exact ⟨fun z => h5.ft i (z ▸ fp), fun z => h5.ft i ⟨o, p, _, dx, fvs, hi, hs, hp, hf, l, List.mem_cons_of_mem _ z⟩, h5⟩
  have hlen : (putAt k fd o.fs).length ≤ (clFs o.tg).length := by
    have := putAt_len (k := k) (x := fd) (xs := o.fs)
    omega
  refine g.reobj (H' := upd H p (.ins _ dx ((clFs o.tg).zip (putAt k v fvs)))) (S' := S) hi hs (fun b u e _ n => ?_) (fun t => tabs_mut hp rfl t) (fun q m _ => m) (fun q m => .inl m) (fun q m => ?_) ?_ (fun q f => ?_) ad
  · rw [upd_ne (fun z => by subst z; exact n fp)]; exact e
  · by_cases z : q = p
    · subst z; exact ⟨_, upd_same, rfl⟩
    · obtain ⟨u, e, mm⟩ := g.lst q m
      exact ⟨u, by rw [upd_ne z]; exact e, mm⟩
  · refine ⟨dx, putAt k v fvs, upd_same, a3, a4, ?_, ?_, hlen⟩
    · have base : FdO K H0 H S (putAt k v fvs) (putAt k fd o.fs) := by
        rcases hd with ⟨d, rfl, h1⟩ | ⟨q', u, ob', rfl, rfl, h1, h2, h3, h4, h5⟩
        · exact a5.put hk h1
        · exact a5.putO hk h1 h2 h3 h4
      refine base.step (by rw [eh]; exact .refl _) (fun q m => ⟨id, fun u e => ?_⟩)
      have : q ≠ p := by
        rcases refs_put hf m with z | ⟨z1, ob, z2⟩
        · exact nq q z
        · exact (vq q ob z1 z2).1
      rw [upd_ne this]; exact e
    · refine List.nodup_cons.mpr ⟨fun m => ?_, refs_put_nd hf (List.nodup_cons.mp a6).2 (fun q ob e1 e2 => (vq q ob e1 e2).2.1)⟩
      rcases refs_put hf m with z | ⟨z1, ob, z2⟩
      · exact nq p z rfl
      · exact (vq p ob z1 z2).1 rfl
  · obtain ⟨ob, pb, Cb, dxb, fvb, f1, f2, f3, f5, f6, f4⟩ := f
    cases set_get f1
    rw [hs] at f2; cases f2
    rw [upd_same] at f3
    injection f3 with f3
    injection f3 with y1 y2 y3
    have e4 := zip_inj (by
      have h1 := putAt_len (k := k) (x := v) (xs := fvs)
      show (putAt k v fvs).length ≤ _
      have : (putAt k v fvs).length = (putAt k fd o.fs).length := by
        unfold putAt
        rw [hf]
        by_cases hkk : k < o.fs.length
        · rw [if_pos hkk, if_pos hkk, List.length_set, List.length_set, hf]
        · rw [if_neg hkk, if_neg hkk, List.length_append, List.length_append, hf]; rfl
      rw [this]; exact hlen) (by rw [f5]; exact f6) y3
    subst e4
    have cases4 : q = p ∨ q ∈ ownRefs fvs o.fs ∨ (v = .ref q ∧ ∃ ob, fd = .own ob) := by
      rcases List.mem_cons.mp f4 with z | z
      · exact .inl z
      · exact .inr (refs_put hf z)
    rcases cases4 with z | z | ⟨z1, ob2, z2⟩
    · subst z
      exact ⟨fun j ob e1 e2 => g.obs.dl i j _ ob fp e1 e2, fun j hj w => hj (g.obs.dj j i _ w fp)⟩
    · have fq : Foot H σ ρ i q := ⟨o, p, _, dx, fvs, hi, hs, hp, hf, l, List.mem_cons_of_mem _ z⟩
      exact ⟨fun j ob e1 e2 => g.obs.dl i j _ ob fq e1 e2, fun j hj w => hj (g.obs.dj j i _ w fq)⟩
    · have nm := (vq q ob2 z1 z2).2.2
      exact ⟨fun j ob e1 e2 => nm.ow j ob e1 e2, fun j _ w => nm.ft j w⟩
end
end Lw

set_option Elab.async false
set_option linter.all false
set_option maxRecDepth 100000
set_option maxHeartbeats 4000000
set_option autoImplicit false
namespace Lw
open PySem L2 LwZ
section
variable {K : PySem.W.Frag} {T : Tb} {H0 B : Hp} {C : List Addr} {H H' : Hp} {S : List Addr} {σ : St} {ρ : List Slot}
theorem refs_set : ∀ {vs : List V} {fs : List Fd} {k : Nat} {ob ob' : Ob}, fs[k]? = some (.own ob) → ownRefs vs (fs.set k (.own ob')) = ownRefs vs fs
  | [], fs, k, ob, ob', h => by cases fs <;> cases k <;> rfl
  | _ :: _, [], k, ob, ob', h => by simp at h
  | v :: vs, fd :: fs, 0, ob, ob', h => by
    simp only [List.getElem?_cons_zero, Option.some.injEq] at h
    subst h
    cases v <;> rfl
  | v :: vs, fd :: fs, k + 1, ob, ob', h => by
    have ih := refs_set (vs := vs) (ob' := ob') (by rwa [List.getElem?_cons_succ] at h : fs[k]? = some (.own ob))
    show ownRefs (v :: vs) (fd :: fs.set k (.own ob')) = _
    cases v <;> cases fd <;> first | exact ih | exact congrArg (_ :: ·) ih
theorem FdO.setO : ∀ {vs : List V} {fs : List Fd} {k : Nat} {q : Addr} {u' : HO} {ob ob' : Ob}, FdO K H0 H S vs fs → fs[k]? = some (.own ob) → vs[k]? = some (.ref q) → q ∈ S → (ownRefs vs fs).Nodup → ObD K (hide H S) u' ob' → FdO K H0 (upd H q u') S vs (fs.set k (.own ob')) := by
  intro vs
  induction vs with
  | nil => intro fs k q u' ob ob' h e1 e2; simp at e2
  | cons v vs ih =>
    intro fs k q u' ob ob' h e1 e2 hq nd hd
    have eh : hide (upd H q u') S = hide H S := hide_upd hq
    cases h with
    | dat h1 h2 =>
      cases k with
      | zero => cases e1
      | succ k => exact .dat (by rw [eh]; exact h1) (ih h2 e1 e2 hq (by cases v <;> exact nd) hd)
    | own h1 h2 h3 h4 h5 =>
      have nd' := List.nodup_cons.mp nd
      cases k with
      | zero =>
        cases e1; cases e2
        refine .own hq h2 upd_same (by rw [eh]; exact hd) (h5.step (by rw [eh]; exact .refl _) fun q' m => ⟨id, fun u hu => ?_⟩)
        have nn : q' ≠ q := fun z => nd'.1 (z ▸ m)
        rw [upd_ne nn]; exact hu
      | succ k =>
        have e1' : _ := e1
        rw [List.getElem?_cons_succ] at e1' e2
        obtain ⟨q', u, v1, _, _, _, _, v6⟩ := h5.getO e1'
        rw [e2] at v1; cases v1
        exact .own h1 h2 (by rw [upd_ne (by intro z; subst z; exact nd'.1 v6)]; exact h3) (by rw [eh]; exact h4) (ih h5 e1' e2 hq nd'.2 hd)
theorem Gd.setOwn (g : Gd K T H0 B C H S σ ρ) {i k : Nat} {o : Oj} {p q C' dx : Addr} {fvs : List V} {u u' : HO} {ob ob' : Ob} (hi : ρ[i]? = some (.obj o)) (hs : σ[i]? = some (some (.ref p))) (hp : H p = some (.ins C' dx ((clFs o.tg).zip fvs))) (hf : fvs.length = o.fs.length)
    (hk : o.fs[k]? = some (.own ob)) (hv : fvs[k]? = some (.ref q)) (hq : H q = some u) (hd : ObD K (hide H S) u' ob') : Gd K T H0 B C (upd H q u') S σ (ρ.set i (.obj { o with fs := o.fs.set k (.own ob') })) := by
  obtain ⟨p', a1, ad, dx', fvs', a2, a3, a4, a5, a6, l⟩ := g.obs.ob i o hi
  rw [hs] at a1; cases a1
  rw [hp] at a2
  injection a2 with a2
  injection a2 with z1 z2 z3
  have e3 := zip_inj (by rw [hf]; exact l) (by rw [a5.len]; exact l) z3
  subst e3 z1 z2
  obtain ⟨q', u0, b1, b2, b3, b4, b5, b6⟩ := a5.getO hk
  rw [hv] at b1; cases b1
  rw [hq] at b4; cases b4
  have eh : hide (upd H q u') S = hide H S := hide_upd b2
  have fq : Foot H σ ρ i q := ⟨o, p, _, dx, fvs, hi, hs, hp, hf, l, List.mem_cons_of_mem _ b6⟩
  have npq : p ≠ q := fun z => (List.nodup_cons.mp a6).1 (z ▸ b6)
  have hr : ownRefs fvs (o.fs.set k (.own ob')) = ownRefs fvs o.fs := refs_set hk
  refine g.reobj (H' := upd H q u') (S' := S) hi hs (fun b w e _ n => ?_) (fun t => tabs_mut hq b5.mut t) (fun _ m _ => m) (fun _ m => .inl m) (fun r m => ?_) ?_ (fun r f => ?_) ad
  · rw [upd_ne (fun z => by subst z; exact n fq)]; exact e
  · by_cases z : r = q
    · subst z; exact ⟨_, upd_same, hd.mut⟩
    · obtain ⟨w, e, mm⟩ := g.lst r m
      exact ⟨w, by rw [upd_ne z]; exact e, mm⟩
  · exact ⟨dx, fvs, by rw [upd_ne npq]; exact hp, a3, a4, a5.setO hk hv b2 (List.nodup_cons.mp a6).2 hd, by rw [hr]; exact a6, by show (o.fs.set k _).length ≤ _; rw [List.length_set]; exact l⟩
  · obtain ⟨ob2, pb, Cb, dxb, fvb, f1, f2, f3, f5, f6, f4⟩ := f
    cases set_get f1
    rw [hs] at f2; cases f2
    rw [upd_ne npq, hp] at f3
    injection f3 with f3
    injection f3 with y1 y2 y3
    have e4 := zip_inj (by rw [hf]; exact l) (by rw [f5]; exact f6) y3
    subst e4
    have f4 : r ∈ p :: ownRefs fvs (o.fs.set k (.own ob')) := f4
    rw [hr] at f4
    have fr : Foot H σ ρ i r := ⟨o, p, _, dx, fvs, hi, hs, hp, hf, l, f4⟩
    exact ⟨fun j ob e1 e2 => g.obs.dl i j _ ob fr e1 e2, fun j hj w => hj (g.obs.dj j i _ w fr)⟩
theorem FdO.frz : ∀ {vs : List V} {fs : List Fd} {k : Nat} {q : Addr} {ds : List PyData} {S' : List Addr}, FdO K H0 H S vs fs → fs[k]? = some (.own (.lst ds)) → vs[k]? = some (.ref q) → (ownRefs vs fs).Nodup → (∀ r ∈ S, r ≠ q → r ∈ S') → q ∉ S' → Kp (hide H S) (hide H S') → FdO K H0 H S' vs (fs.set k (.dat (.list ds))) := by
  intro vs
  induction vs with
  | nil => intro fs k q ds S' h e1 e2; simp at e2
  | cons v vs ih =>
    intro fs k q ds S' h e1 e2 nd hS hq hk
    cases h with
    | dat h1 h2 =>
      cases k with
      | zero => cases e1
      | succ k => exact .dat (h1.kp hk) (ih h2 e1 e2 (by cases v <;> exact nd) hS hq hk)
    | own h1 h2 h3 h4 h5 =>
      have nd' := List.nodup_cons.mp nd
      cases k with
      | zero =>
        cases e1; cases e2
        cases h4 with | lst h4 =>
        exact .dat (.lst (hide_some.mpr ⟨hq, h3, rfl⟩) (h4.kp hk)) (h5.step hk fun r m => ⟨fun w => hS r w (fun z => nd'.1 (z ▸ m)), fun u hu => hu⟩)
      | succ k =>
        rw [List.getElem?_cons_succ] at e1 e2
        obtain ⟨q', u, v1, _, _, _, _, v6⟩ := h5.getO e1
        rw [e2] at v1; cases v1
        exact .own (hS _ h1 (fun z => nd'.1 (z ▸ v6))) h2 h3 (h4.kp hk) (ih h5 e1 e2 nd'.2 hS hq hk)
end
def objW (tg : Nat) : Option Slot → Option Oj
  | some (.obj o) => if o.tg = tg then some o else none
  | _ => none
theorem objW_eq {tg : Nat} {s : Option Slot} {o : Oj} (h : objW tg s = some o) : s = some (.obj o) ∧ o.tg = tg := by
  unfold objW at h
  split at h
  · rename_i o'
    by_cases z : o'.tg = tg
    · rw [if_pos z] at h; cases h; exact ⟨rfl, z⟩
    · rw [if_neg z] at h; cases h
  · cases h
theorem objW_obj (tg : Nat) (ad : Option Addr) (fs : List Fd) : objW tg (some (.obj ⟨tg, ad, fs⟩)) = some ⟨tg, ad, fs⟩ := if_pos rfl
def kFset (i tg k : Nat) (m : ME) : MS := fun ρ => match objW tg ρ[i]? with
  | some o => kE m (fun d => if k ≤ o.fs.length then .nx (ρ.set i (.obj { o with fs := putAt k (.dat d) o.fs })) else .bad) ρ
  | none => .bad
def kFown (i tg k : Nat) (m : MA) : MS := fun ρ => match objW tg ρ[i]? with
  | some o => kE m (fun ds => if k ≤ o.fs.length then .nx (ρ.set i (.obj { o with fs := putAt k (.own (.lst ds)) o.fs })) else .bad) ρ
  | none => .bad
def fdL (k : Nat) (o : Oj) : Option (List PyData) := match o.fs[k]? with
  | some (.own (.lst ds)) => some ds
  | _ => none
def kFapp (i tg k : Nat) (m : ME) : MS := fun ρ => match objW tg ρ[i]? with
  | some o => (match fdL k o with
    | some ds => kE m (fun d => if ds.length < 1000000 then .nx (ρ.set i (.obj { o with fs := o.fs.set k (.own (.lst (ds ++ [d]))) })) else .bad) ρ
    | none => .bad)
  | none => .bad
def kFput (i tg k : Nat) (j m : ME) : MS := fun ρ => match objW tg ρ[i]? with
  | some o => (match fdL k o with
    | some ds => kE m (fun d => kE j (fun e => match (asI e).bind (ixN ds.length) with | some n => .nx (ρ.set i (.obj { o with fs := o.fs.set k (.own (.lst (ds.set n d))) })) | none => .bad) ρ) ρ
    | none => .bad)
  | none => .bad
def kFfrz (i tg k : Nat) (a : MS) : MS := fun ρ => match objW tg ρ[i]? with
  | some o => (match fdL k o with
    | some ds => a (ρ.set i (.obj { o with fs := o.fs.set k (.dat (.list ds)) }))
    | none => .bad)
  | none => .bad
section
variable {K : PySem.W.Frag} {T : Tb} {W : WX} {fr : Fr} {te tb : TE} {m mj : ME} {ma : MA} {i tg k : Nat} {f : Str} {a : MS} {tu : TS}
end
end Lw

set_option Elab.async false
set_option linter.all false
set_option maxRecDepth 100000
set_option maxHeartbeats 4000000
set_option autoImplicit false
namespace Lw
open PySem L2 LwZ
mutual
def noL : PyData → Bool
  | .list _ => false
  | .tuple ds => noLs ds
  | .dict _ => false
  | _ => true
def noLs : List PyData → Bool
  | [] => true
  | d :: ds => noL d && noLs ds
end
theorem noLs_map {α : Type} {f : α → PyData} (h : ∀ a, noL (f a) = true) : ∀ xs : List α, noLs (xs.map f) = true
  | [] => rfl
  | x :: xs => by
    show (noL (f x) && noLs (xs.map f)) = true
    rw [h, noLs_map h xs]; rfl
def NoT (H : Hp) (S S' : List Addr) : Prop := ∀ a xs, hide H S' a = some (.tup xs) → hide H S a = some (.tup xs)
def NoF (H : Hp) (S S' : List Addr) : Prop := ∀ a o xs, hide H S' a = some (.frz o (.tup xs)) → hide H S a = some (.frz o (.tup xs))
section
variable {K : PySem.W.Frag} {T : Tb} {H : Hp} {S S' : List Addr}
mutual
theorem dt_noL (h1 : NoT H S S') (h2 : NoF H S S') : ∀ (d : PyData) (v : V), noL d = true → Dt K (hide H S') v d → Dt K (hide H S) v d
  | .none, v, _, h => by cases h; exact .non
  | .bool b, v, _, h => by cases h; exact .bl b
  | .int i, v, _, h => by cases h; exact .int i
  | .str x, v, _, h => by cases h; exact .str x
  | .list ds, v, n, h => by cases n
  | .tuple ds, v, n, h => by
    cases h with
    | tup hs ha =>
      refine .tup ?_ (dt_noLs h1 h2 ds _ n ha)
      rcases hs with (hs | ⟨o, hs⟩) | hs
      · exact .inl (.inl (h1 _ _ hs))
      · exact .inl (.inr ⟨o, h2 _ _ _ hs⟩)
      · exact .inr hs
  | .dict kvs, v, n, h => by cases n
theorem dt_noLs (h1 : NoT H S S') (h2 : NoF H S S') : ∀ (ds : List PyData) (vs : List V), noLs ds = true → DtAll K (hide H S') vs ds → DtAll K (hide H S) vs ds
  | [], vs, _, h => by cases h; exact .nil
  | d :: ds, vs, n, h => by
    have n : (noL d && noLs ds) = true := n
    rw [Bool.and_eq_true] at n
    cases h with
    | cons a b => exact .cons (dt_noL h1 h2 d _ n.1 a) (dt_noLs h1 h2 ds _ n.2 b)
end
theorem noT_of (l : ∀ a, a ∈ S → a ∉ S' → ∃ u, H a = some u ∧ mutO u = true) : NoT H S S' ∧ NoF H S S' := by
  refine ⟨fun a xs h => ?_, fun a o xs h => ?_⟩
  all_goals
    obtain ⟨h1, h2, h3⟩ := hide_some.mp h
    refine hide_some.mpr ⟨fun z => ?_, h2, h3⟩
    obtain ⟨u, e, m⟩ := l a z h1
    rw [h2] at e; cases e; cases m
end
def Fd.view : Fd → Fd
  | .own (.lst ds) => .dat (.list ds)
  | fd => fd
def spRO (K : PySem.W.Frag) (T : Tb) (tg : Nat) (fr : Fr) (F : List Fd → List PyData → Rz PyData) : Sp := fun vs H Q E => ∃ p ws fs ds S dx fvs, vs = .ref p :: ws ∧ H p = some (.ins (He.ga K (clNm tg)) dx ((clFs tg).zip fvs)) ∧ FdR K H (hide H S) fvs fs ∧
  LsT T H S ∧ DtAll K (hide H S) ws ds ∧ match F fs ds with
  | .ok r => RtK K T fr H S Q r
  | .ex x => ∀ d H', Ext T H H' → XD K (hide H' S) d x.fs → E (.ref (He.ga K x.cls)) d H'
  | .bad => False
def slotsM (n : Nat) (s : Slot) (ds : List PyData) : List Slot := s :: (ds.map Slot.dat ++ List.replicate (n - (ds.length + 1)) .no)
def fnO (np n tg : Nat) (m : MS) (fs : List Fd) (ds : List PyData) : Rz PyData := if ds.length + 1 = np then match m (slotsM n (.rob ⟨tg, none, fs⟩) ds) with
  | .rt d => .ok d
  | .nx _ => .ok .none
  | .ex x _ => .ex x
  | _ => .bad
  else .bad
abbrev FnM (K : PySem.W.Frag) (x qual : Str) (st : Stmt) (dvs : List V) (f : Addr) (fd : FuncData) : Prop := FunD K x qual (defArgs st) (defBody st) (defScope st) dvs [] f fd
section
variable {P : Program} {w : World} {K : PySem.W.Frag} {T : Tb} {mg : Str → Option Value} {base : Heap} {H0 B : Hp} {C : List Addr} {H H' : Hp} {S : List Addr} {σ : St} {ρ : List Slot}
theorem DtAll.ar {vs : List V} {ds : List PyData} (h : DtAll K H vs ds) : Ar K H vs (ds.map Slot.dat) := by
  induction ds generalizing vs with
  | nil => cases h; exact .nil
  | cons d ds ih => cases h with | cons a b => exact .dat a (ih b)
theorem Obs.sub {ρ' : List Slot} (g : Obs K H0 H S σ ρ) (h1 : ∀ (j : Nat) (o : Oj), ρ'[j]? = some (.obj o) → ρ[j]? = some (.obj o)) (h2 : ∀ (j : Nat) (o : Ob), ρ'[j]? = some (.own o) → ρ[j]? = some (.own o)) : Obs K H0 H S σ ρ' := by
  have back : ∀ i q, Foot H σ ρ' i q → Foot H σ ρ i q := fun i q f => by
    obtain ⟨o, p, C, dx, fvs, a, b⟩ := f
    exact ⟨o, p, C, dx, fvs, h1 i o a, b⟩
  exact ⟨fun i o h => g.ob i o (h1 i o h), fun i j q a b => g.dj i j q (back i q a) (back j q b), fun i j q o a b c => g.dl i j q o (back i q a) (h2 j o b) c⟩
theorem Gd.toRob (g : Gd K T H0 B C H S σ ρ) {i tg : Nat} {p dx : Addr} {fvs : List V} {fs : List Fd} (hi : ρ[i]? = some (.raw (.ref p))) (hp : H0 p = some (.ins (He.ga K (clNm tg)) dx ((clFs tg).zip fvs))) (hf : FdR K H0 (hide H0 C) fvs fs) : Gd K T H0 B C H S σ (ρ.set i (.rob ⟨tg, none, fs⟩)) := by
  have hs := g.raw i _ hi
  have keep : ∀ (j : Nat) (s : Slot), s.ol = false → (ρ.set i (.rob ⟨tg, none, fs⟩))[j]? = some s → ρ[j]? = some s := fun j s hs e => by
    by_cases z : i = j
    · subst z
      have := set_get e
      subst this
      cases hs
    · rwa [List.getElem?_set_ne z] at e
  exact {
    ext := g.ext, vis := g.vis, bno := g.bno, hid := g.hid, lst := g.lst, sub := g.sub, cl := g.cl
    len := by rw [List.length_set]; exact g.len
    dat := fun j d e => g.dat j d (keep j _ rfl e)
    scr := fun j d e => g.scr j d (keep j _ rfl e)
    raw := fun j d e => g.raw j d (keep j _ rfl e)
    own := fun j d e => g.own j d (keep j _ rfl e)
    sep := fun a b d e q ha hb => g.sep a b d e q (keep a _ rfl ha) (keep b _ rfl hb)
    rob := fun j o e => by
      by_cases z : i = j
      · subst z
        cases set_get e
        exact ⟨p, dx, fvs, hs, hp, hf⟩
      · rw [List.getElem?_set_ne z] at e
        exact g.rob j o e
    hc := g.hc
    obs := g.obs.sub (fun j o e => by
      by_cases z : i = j
      · subst z; cases set_get e
      · rwa [List.getElem?_set_ne z] at e) (fun j o e => keep j _ rfl e) }
theorem fnRO {fr : Fr} {x qual : Str} {st : Stmt} {dvs : List V} {f : Addr} {fd : FuncData} {N ps : List Str} {k : Nat} {m : MS} {n np tg : Nat} (F : FnM K x qual st dvs f fd) (S : FnScope N ps (defScope st)) (hn : N.length = n) (hp : ps.length = np)
    (hbody : ∀ (cdv : Value) (A : Around) (outer : List Env) (s : Shared) (H : Hp) (E : XK), Room k (A.deeper (PyProof.Rows.envOfC qual (defScope st) s.heap.objs.size f cdv)) →
      ∃ t, PSs (cxOf (L2N.CX P w) P w K mg base N qual (defScope st) f cdv A outer s H E) (defBody st) t ∧ SimS K T fr t (WF E) m) :
    FnOk P w K mg base (L2N.CX P w) (k + 1) f fd ps (spRO K T tg fr (fnO np n tg m)) := by
  subst hn hp
  have len : ∀ vs H Q E, spRO K T tg fr (fnO ps.length N.length tg m) vs H Q E → vs.length = ps.length := fun vs H Q E h => by
    obtain ⟨p, ws, fs, ds, S', dx, fvs, rfl, _, _, _, hd, hR⟩ := h
    rw [List.length_cons, hd.len]
    by_cases hl : ds.length + 1 = ps.length
    · exact hl
    · unfold fnO at hR
      rw [if_neg hl] at hR
      exact hR.elim
  refine F.ok S len (fun cdv A outer s H vs Q E hr h => ?_)
  have hl := len _ _ _ _ h
  obtain ⟨p, ws, fs, ds, S', dx, fvs, rfl, hp, hf, l, hd, hR⟩ := h
  have hld : ds.length + 1 = ps.length := by rw [← hd.len]; exact hl
  obtain ⟨t, pt, sm⟩ := hbody cdv A outer s H E hr
  refine ⟨t, pt, ?_⟩
  have g0 : Gd K T H (hide H S') S' H S' (L2.start N (.ref p :: ws)) (slotsA N.length (.raw (.ref p) :: ds.map Slot.dat)) := gd_startA l (.raw hd.ar)
  have g1 := g0.toRob (i := 0) rfl hp hf
  have e1 : (slotsA N.length (.raw (.ref p) :: ds.map Slot.dat)).set 0 (.rob ⟨tg, none, fs⟩) = slotsM N.length (.rob ⟨tg, none, fs⟩) ds := by
    unfold slotsA slotsM
    rw [List.length_cons, List.length_map]
    rfl
  rw [e1] at g1
  refine sm (slotsM N.length (.rob ⟨tg, none, fs⟩) ds) H (hide H S') S' { nx := fun _ H' => Q .non H', rt := Q } ?_ _ _ ⟨S', g1⟩
  unfold fnO at hR
  rw [if_pos hld] at hR
  cases hm : m (slotsM N.length (.rob ⟨tg, none, fs⟩) ds) with
  | nx ρ' =>
    rw [hm] at hR
    exact fun σ H' ⟨S2, g⟩ => by
      have hR : RtK K T fr H S' Q .none := hR
      cases fr <;> exact hR .non H' g.ext .non
  | rt d => rw [hm] at hR; exact hR
  | bk ρ' => rw [hm] at hR; exact hR.elim
  | rs r ρ' => rw [hm] at hR; exact hR.elim
  | ct ρ' => rw [hm] at hR; exact hR.elim
  | ex y ρ' => rw [hm] at hR; exact fun σ H' S2 g d xd => hR d H' g.ext (xd.kp (hide_sub g.sub))
  | bad => rw [hm] at hR; exact hR.elim
theorem fnOk_calm {k : Nat} {f : Addr} {fd : FuncData} {ps : List Str} {sp sp' : Sp} (key : ∀ {vs : List V} {H : Hp} {Q : VK} {E : XK}, sp' vs H Q E → sp vs H Q (fun _ _ _ => False)) (G : FnOk P w K mg base (L2N.CX P w) k f fd ps sp) : FnOk P w K mg base CX0 k f fd ps sp' := by
  refine ⟨fun vs H Q E h => ?_, fun A outer s H args us vs Q E hr e0 hb hv h => ?_⟩
  · exact G.len vs H Q (fun _ _ _ => False) (key h)
  · refine codeAny_mono (G.run A outer s H args us vs Q (fun _ _ _ => False) hr e0 hb hv (key h)) fun o s' h' => ?_
    cases o with
    | error e =>
      obtain ⟨_, _, _, _, _, _, _, _, _, _, _, _, z⟩ := h'
      exact z.elim
    | ok fl => cases fl <;> exact h'
end
structure MetX (P : Program) (w : World) (K : PySem.W.Frag) (mg : Str → Option Value) (base : Heap) (k tg : Nat) (m : Str) (ps : List Str) (sp : Sp) : Prop where
  ex : ∃ (f : Addr) (fd : FuncData), FnOk P w K mg base (L2N.CX P w) k f fd ps sp ∧ Meth K (He.ga K (clNm tg)) m f ∧ Binds K fd ps []
  no : m ∉ clFs tg
structure MetC (P : Program) (w : World) (K : PySem.W.Frag) (mg : Str → Option Value) (base : Heap) (k tg : Nat) (m : Str) (ps : List Str) (sp : Sp) : Prop where
  ex : ∃ (f : Addr) (fd : FuncData), FnOk P w K mg base CX0 k f fd ps sp ∧ Meth K (He.ga K (clNm tg)) m f ∧ Binds K fd ps []
theorem MetX.calm {P : Program} {w : World} {K : PySem.W.Frag} {mg : Str → Option Value} {base : Heap} {k tg : Nat} {m : Str} {ps : List Str} {sp sp' : Sp} (c : MetX P w K mg base k tg m ps sp) (key : ∀ {vs : List V} {H : Hp} {Q : VK} {E : XK}, sp' vs H Q E → sp vs H Q (fun _ _ _ => False)) : MetC P w K mg base k tg m ps sp' :=
  let ⟨f, fd, G, a, b⟩ := c.ex; ⟨f, fd, fnOk_calm key G, a, b⟩
theorem spRO_calm {K : PySem.W.Frag} {T : Tb} {tg : Nat} {fr : Fr} {F : List Fd → List PyData → Rz PyData} {vs : List V} {H : Hp} {Q : VK} {E : XK} (h : spRO K T tg fr (fun fs ds => (F fs ds).calm) vs H Q E) : spRO K T tg fr F vs H Q (fun _ _ _ => False) := by
  obtain ⟨p, ws, fs, ds, S, dx, fvs, e, h1, h2, h3, h4, h5⟩ := h
  refine ⟨p, ws, fs, ds, S, dx, fvs, e, h1, h2, h3, h4, ?_⟩
  cases hF : F fs ds with
  | ok r => simp only [hF] at h5; exact h5
  | ex x => simp only [hF] at h5; exact h5.elim
  | bad => simp only [hF] at h5; exact h5.elim
section
variable {X : Cx} {k j tg : Nat} {m : Str} {ps : List Str} {sp : Sp} {pos apos : Pos} {o e : Expr} {es : List Expr} {ta : TE} {t : TA} {pl : Sem Bool}
theorem pe_mthC (ho : PE X o ta) (cl : ClT X.K tg) (c : MetC X.prog X.w X.K X.mg X.base k tg m ps sp) (hr : Room j X.A) (ha : PA X (e :: es) t) (hk : k ≤ j := by decide)
    (he : starEach (e :: es) X.env = (false, eval e X.env) :: starEach es X.env := by rfl) (hpl : (backTo pos (starEach es X.env)).any (·.1) = false := by rfl)
    (hev : eval (.Call (.Attribute o m apos) (e :: es) [] pos) X.env = (do
      let ov ← eval o X.env
      standAt apos.atName
      let (f, first) ← holding [ov] (getMethod ov m pl)
      callWith pos f first (backTo pos (starEach (e :: es) X.env)) (backToKw pos (keywordEach [] X.env))) := by rfl) : PE X (.Call (.Attribute o m apos) (e :: es) [] pos) (tMeth (He.ga X.K (clNm tg)) m sp [] E0 ta t) := by
  obtain ⟨f, fd, G, a, b⟩ := c.ex
  exact pe_meth ho cl.cl a G (hr.mono hk) b .nil pass0 ha he hpl hev
end
def xMr (i tg : Nat) (F : List Fd → List PyData → Rz PyData) (ma : MA) : ME := fun ρ => match objF tg ρ[i]? with
  | some fs => (ma ρ).bind fun ds => match F (fs.map Fd.view) ds with
    | .ok r => if noL r then .ok r else .bad
    | _ => .bad
  | none => .bad
def fMr (i tg : Nat) (F : List Fd → List PyData → Rz PyData) (ma : MA) : MA := fun ρ => match objF tg ρ[i]? with
  | some fs => (ma ρ).bind fun ds => match F (fs.map Fd.view) ds with
    | .ok (.list rs) => if noLs rs then .ok rs else .bad
    | _ => .bad
  | none => .bad
section
variable {K : PySem.W.Frag} {T : Tb} {H0 B : Hp} {C : List Addr} {H H' : Hp} {S : List Addr} {σ : St} {ρ : List Slot}
theorem FdO.view {S' : List Addr} {vs : List V} {fs : List Fd} (h : FdO K H0 H S vs fs) (hS : ∀ q ∈ S', q ∈ S ∧ q ∉ ownRefs vs fs) : FdR K H (hide H S') vs (fs.map Fd.view) := by
  have hk : Kp (hide H S) (hide H S') := hide_sub fun q m => (hS q m).1
  induction h with
  | nil => exact .nil
  | @dat v d vs fs d1 h2 ih => exact .dat (d1.kp hk) (ih fun q m => ⟨(hS q m).1, fun z => (hS q m).2 (by cases v <;> exact z)⟩)
  | @own q u ob vs fs h1 h2 h3 h4 h5 ih =>
    have ih := ih fun r m => ⟨(hS r m).1, fun z => (hS r m).2 (List.mem_cons_of_mem _ z)⟩
    cases h4 with
    | lst h4 => exact .dat (.lst (hide_some.mpr ⟨fun z => (hS q z).2 (List.mem_cons_self ..), h3, rfl⟩) (h4.kp hk)) ih
    | dct h4 h6 => exact .own h3 (.dct h4 (h6.kp hk)) ih
theorem FdR.view {C' : List Addr} {vs : List V} {fs : List Fd} (h : FdR K H0 (hide H0 C) vs fs) (e : Kp H0 H) (hk : Kp (hide H0 C) (hide H C')) (hS : ∀ q ∈ C', q ∉ ownRefs vs fs) : FdR K H (hide H C') vs (fs.map Fd.view) := by
  induction h with
  | nil => exact .nil
  | @dat v d vs fs d1 h2 ih => exact .dat (d1.kp hk) (ih fun q m => fun z => hS q m (by cases v <;> exact z))
  | @own q u ob vs fs h3 h4 h5 ih =>
    have ih := ih fun r m => fun z => hS r m (List.mem_cons_of_mem _ z)
    cases h4 with
    | lst h4 => exact .dat (.lst (hide_some.mpr ⟨fun z => hS q z (List.mem_cons_self ..), e _ _ h3 rfl, rfl⟩) (h4.kp hk)) ih
    | dct h4 h6 => exact .own (e _ _ h3 rfl) (.dct h4 (h6.kp hk)) ih
theorem FdR.refs {vs : List V} {fs : List Fd} (h : FdR K H0 B vs fs) : ∀ q ∈ ownRefs vs fs, ∃ u, H0 q = some u ∧ mutO u = true := by
  induction h with
  | nil => intro q m; cases m
  | dat d _ ih => intro q m; exact ih q (by cases ‹V› <;> exact m)
  | own a b _ ih =>
    intro q m
    rcases List.mem_cons.mp m with z | z
    · subst z; exact ⟨_, a, b.mut⟩
    · exact ih q z
theorem Gd.shown (g : Gd K T H0 B C H S σ ρ) {i tg : Nat} {fs : List Fd} (h : objF tg ρ[i]? = some fs) : ∃ p dx fvs S', σ[i]? = some (some (.ref p)) ∧ H p = some (.ins (He.ga K (clNm tg)) dx ((clFs tg).zip fvs)) ∧ FdR K H (hide H S') fvs (fs.map Fd.view) ∧
    (∀ q ∈ S', q ∈ S) ∧ ∀ q ∈ S, q ∉ S' → ∃ u, H q = some u ∧ mutO u = true := by
  have mf : ∀ (L : List Addr) (q : Addr), q ∈ S.filter (fun q => decide (q ∉ L)) ↔ q ∈ S ∧ q ∉ L := fun L q => by
    rw [List.mem_filter]
    constructor
    · rintro ⟨x, y⟩; exact ⟨x, of_decide_eq_true y⟩
    · rintro ⟨x, y⟩; exact ⟨x, decide_eq_true y⟩
  unfold objF at h
  split at h
  · rename_i o ho
    by_cases z : o.tg = tg
    · rw [if_pos z] at h
      cases h
      obtain ⟨p, dx, fvs, a, b, c⟩ := g.rob i o ho
      rw [z] at b
      refine ⟨p, dx, fvs, S.filter (fun q => decide (q ∉ ownRefs fvs o.fs)), a, g.ext.kp _ _ b rfl, c.view g.ext.kp (g.old.trans (hide_sub fun q m => ((mf _ q).mp m).1)) (fun q m => ((mf _ q).mp m).2), fun q m => ((mf _ q).mp m).1, fun q m n => g.lst q m⟩
    · rw [if_neg z] at h; cases h
  · rename_i o ho
    by_cases z : o.tg = tg
    · rw [if_pos z] at h
      cases h
      obtain ⟨p, a, _, dx, fvs, b, _, _, c, _⟩ := g.obs.ob i o ho
      rw [z] at b
      exact ⟨p, dx, fvs, S.filter (fun q => decide (q ∉ ownRefs fvs o.fs)), a, b, c.view (fun q m => (mf _ q).mp m), fun q m => ((mf _ q).mp m).1, fun q m n => g.lst q m⟩
    · rw [if_neg z] at h; cases h
  · cases h
end
section
variable {K : PySem.W.Frag} {T : Tb} {W : WX} {fr : Fr} {ta : TA} {ma : MA} {i tg : Nat} {m : Str} {F : List Fd → List PyData → Rz PyData} {E : XK}
theorem sim_mrF (hm : m ∉ clFs tg) (h : SimA K T ta W ma) : SimF K T (tMeth (He.ga K (clNm tg)) m (spRO K T tg .yes fun fs ds => (F fs ds).calm) [] E (tVar i) ta) W (fMr i tg F ma) := fun ρ => by
  have a := h ρ
  unfold fMr
  cases h0 : objF tg ρ[i]? with
  | none => exact True.intro
  | some fs =>
    simp only
    cases h1 : ma ρ with
    | bad => exact True.intro
    | ex x =>
      rw [h1] at a
      exact fun H0 B C H S σ g Q hQ => by
        obtain ⟨p, dx, fvs, a1, a2, _⟩ := g.objAt h0
        exact ⟨.ref p, a1, p, dx, _, rfl, a2, lookup_zip_none hm, a H0 B C H S σ g _ hQ⟩
    | ok ds =>
      rw [h1] at a
      show EzF K T _ ρ W (match F (fs.map Fd.view) ds with | .ok (.list rs) => if noLs rs then .ok rs else .bad | _ => .bad)
      cases h2 : F (fs.map Fd.view) ds with
      | bad => exact True.intro
      | ex x => exact True.intro
      | ok r =>
        cases r with
        | list rs =>
          show EzF K T _ ρ W (if noLs rs then .ok rs else .bad)
          by_cases h3 : noLs rs = true
          · rw [if_pos h3]
            exact fun H0 B C H S σ g Q hQ => by
              obtain ⟨p, dx, fvs, a1, a2, _⟩ := g.objAt h0
              refine ⟨.ref p, a1, p, dx, _, rfl, a2, lookup_zip_none hm, a H0 B C H S σ g _ fun vs H1 e1 d1 => ?_⟩
              have g1 := g.ex e1
              obtain ⟨p', dx', fvs', S', b1, b2, b3, b4, b5⟩ := g1.shown h0
              rw [a1] at b1; cases b1
              refine ⟨p, vs ++ [], fs.map Fd.view, ds, S', dx', fvs', rfl, b2, b3, ⟨fun q m => g1.lst q (b4 q m), (g1.lsT (.refl T H1)).2⟩, by rw [List.append_nil]; exact d1.kp (hide_sub b4), ?_⟩
              show match (F (fs.map Fd.view) ds).calm with | .ok r => _ | .ex x => _ | .bad => _
              rw [h2]
              intro q xs H2 e2 fq hq da
              refine hQ q xs H2 (e1.trans e2) (fq.back e1.kp) hq ?_
              have nt := noT_of (H := H2) (S := q :: S) (S' := q :: S') fun r m n => by
                rcases List.mem_cons.mp m with z | z
                · subst z; exact (n (List.mem_cons_self ..)).elim
                · obtain ⟨u, hu, mu⟩ := b5 r z (fun w => n (List.mem_cons_of_mem _ w))
                  exact ⟨u, e2.kp r u hu (mutO.nt mu), mu⟩
              exact dt_noLs nt.1 nt.2 rs xs h3 da
          · rw [if_neg h3]; exact True.intro
        | _ => exact True.intro
end
end Lw

set_option Elab.async false
set_option linter.all false
set_option maxRecDepth 100000
set_option maxHeartbeats 4000000
set_option autoImplicit false
namespace Lw
open PySem L2 LwZ
def cut (H : Hp) (M : List Addr) : Hp := fun a => if a ∈ M then none else H a
theorem cut_in {H : Hp} {M : List Addr} {a : Addr} (h : a ∈ M) : cut H M a = none := if_pos h
theorem cut_out {H : Hp} {M : List Addr} {a : Addr} (h : a ∉ M) : cut H M a = H a := if_neg h
theorem cut_some {H : Hp} {M : List Addr} {a : Addr} {o : HO} (h : cut H M a = some o) : a ∉ M ∧ H a = some o := by
  by_cases z : a ∈ M
  · rw [cut_in z] at h; cases h
  · rw [cut_out z] at h; exact ⟨z, h⟩
theorem Fresh.cut {H : Hp} {M : List Addr} {a : Addr} (h : Fresh (cut H M) a) (n : a ∉ M) : Fresh H a := fun o e => h o (by rw [cut_out n]; exact e)
theorem fresh_cut {H : Hp} {M : List Addr} {a : Addr} (h : a ∈ M) : Fresh (cut H M) a := fun o e => by rw [cut_in h] at e; cases e
theorem tabs_cut {T : Tb} {H : Hp} {M : List Addr} (hm : ∀ q ∈ M, ∃ u, H q = some u ∧ mutO u = true) (t : LamX.Tabs T H) : LamX.Tabs T (cut H M) := by
  intro q hq
  obtain ⟨ps, h1, h2, h3⟩ := t q hq
  refine ⟨ps, ?_, h2, fun pos cv hc => ?_⟩
  · rw [cut_out (fun z => by
      obtain ⟨u, e, m⟩ := hm _ z
      rw [h1] at e; cases e; cases m)]
    exact h1
  · obtain ⟨c, e, hc'⟩ := h3 pos cv hc
    refine ⟨c, e, ?_⟩
    rw [cut_out (fun z => by
      obtain ⟨u, e, m⟩ := hm _ z
      rw [hc'] at e; cases e; cases m)]
    exact hc'
theorem ext_cut {T : Tb} {H : Hp} {M : List Addr} : Ext T (cut H M) H := Ext.full fun b o e => (cut_some e).2
inductive Ro where
  | ok (r : PyData) (fs : List Fd)
  | ex (x : Exn) (fs : List Fd)
  | bad
structure Aft (K : PySem.W.Frag) (T : Tb) (H : Hp) (S M : List Addr) (tg : Nat) (p : Addr) (fs : List Fd) (H' : Hp) (S2 : List Addr) : Prop where
  ext : Ext T (cut H M) H'
  s1 : ∀ c ∈ S, c ∉ M → c ∈ S2
  s2 : ∀ q ∈ S2, (q ∈ S ∧ q ∉ M) ∨ Fresh (cut H M) q
  l : Lsts H' S2
  ob : ObAt K (cut H M) H' S2 p ⟨tg, some p, fs⟩
def spW (K : PySem.W.Frag) (T : Tb) (tg : Nat) (F : Addr → List Fd → List PyData → Ro) : Sp := fun vs H Q E => ∃ p ws fs ds S dx fvs, vs = .ref p :: ws ∧ H p = some (.ins (He.ga K (clNm tg)) dx ((clFs tg).zip fvs)) ∧
  (p ∈ S ∧ FdO K (cut H (p :: ownRefs fvs fs)) H S fvs fs ∧ (p :: ownRefs fvs fs).Nodup ∧ fs.length ≤ (clFs tg).length) ∧ LsT T H S ∧ DtAll K (hide H S) ws ds ∧ match F p fs ds with
  | .ok r fs' => ∀ v H' S2, Aft K T H S (p :: ownRefs fvs fs) tg p fs' H' S2 → Dt K (hide H' S2) v r → Q v H'
  | .ex x fs' => ∀ d H' S2, Aft K T H S (p :: ownRefs fvs fs) tg p fs' H' S2 → XD K (hide H' S2) d x.fs → E (.ref (He.ga K x.cls)) d H'
  | .bad => False
def fnW (np n tg : Nat) (m : MS) (p : Addr) (fs : List Fd) (ds : List PyData) : Ro := if ds.length + 1 = np then match m (slotsM n (.obj ⟨tg, some p, fs⟩) ds) with
  | .nx ρ' => (match (ρ' : List Slot)[0]? with
    | some (Slot.obj o) => if o.tg = tg ∧ o.ad = some p then .ok .none o.fs else .bad
    | _ => .bad)
  | .rs r ρ' => (match (ρ' : List Slot)[0]? with
    | some (Slot.obj o) => if o.tg = tg ∧ o.ad = some p then .ok r o.fs else .bad
    | _ => .bad)
  | _ => .bad
  else .bad
section
variable {P : Program} {w : World} {K : PySem.W.Frag} {T : Tb} {mg : Str → Option Value} {base : Heap} {H0 B : Hp} {C : List Addr} {H H' : Hp} {S : List Addr} {σ : St} {ρ : List Slot}
theorem FdO.fresh {H1 : Hp} {vs : List V} {fs : List Fd} (h : FdO K H0 H S vs fs) (hq : ∀ q ∈ ownRefs vs fs, Fresh H1 q) : FdO K H1 H S vs fs := by
  induction h with
  | nil => exact .nil
  | @dat v d vs fs d1 _ ih => exact .dat d1 (ih fun q m => hq q (by cases v <;> exact m))
  | own a b c d _ ih => exact .own a (hq _ (List.mem_cons_self ..)) c d (ih fun q m => hq q (List.mem_cons_of_mem _ m))
theorem gd_startW {N : List Str} {vs : List V} {ds : List PyData} {fs : List Fd} {fvs : List V} {p dx : Addr} {tg : Nat} (l : LsT T H S) (hd : DtAll K (hide H S) vs ds) (hp : H p = some (.ins (He.ga K (clNm tg)) dx ((clFs tg).zip fvs)))
    (h1 : p ∈ S) (h2 : FdO K (cut H (p :: ownRefs fvs fs)) H S fvs fs) (h3 : (p :: ownRefs fvs fs).Nodup) (h4 : fs.length ≤ (clFs tg).length) :
    Gd K T (cut H (p :: ownRefs fvs fs)) (hide H S) (S.filter fun q => decide (q ∉ p :: ownRefs fvs fs)) H S (L2.start N (.ref p :: vs)) (slotsM N.length (.obj ⟨tg, some p, fs⟩) ds) := by
  have g0 : Gd K T H (hide H S) S H S (L2.start N (.ref p :: vs)) (slotsA N.length (.raw (.ref p) :: ds.map Slot.dat)) := gd_startA l (.raw hd.ar)
  have e1 : slotsM N.length (.obj ⟨tg, some p, fs⟩) ds = (slotsA N.length (.raw (.ref p) :: ds.map Slot.dat)).set 0 (.obj ⟨tg, some p, fs⟩) := by
    unfold slotsA slotsM
    rw [List.length_cons, List.length_map]
    rfl
  have mf : ∀ q, q ∈ S.filter (fun q => decide (q ∉ p :: ownRefs fvs fs)) ↔ q ∈ S ∧ q ∉ p :: ownRefs fvs fs := fun q => by
    rw [List.mem_filter]
    constructor
    · rintro ⟨x, y⟩; exact ⟨x, of_decide_eq_true y⟩
    · rintro ⟨x, y⟩; exact ⟨x, decide_eq_true y⟩
  have mm : ∀ q ∈ p :: ownRefs fvs fs, q ∈ S ∧ ∃ u, H q = some u ∧ mutO u = true := fun q m => by
    rcases List.mem_cons.mp m with z | z
    · subst z; exact ⟨h1, _, hp, rfl⟩
    · obtain ⟨a, _, u, ob, b, c⟩ := h2.refs q z
      exact ⟨a, u, b, c.mut⟩
  generalize hM : p :: ownRefs fvs fs = M at *
  have kinds : ∀ (j : Nat) (s : Slot), (slotsA N.length (.raw (.ref p) :: ds.map Slot.dat))[j]? = some s → (∀ o, s ≠ .own o) ∧ s.ol = false := fun j s e => by
    have := List.mem_of_getElem? e
    unfold slotsA at this
    rcases List.mem_append.mp this with z | z
    · rcases List.mem_cons.mp z with z | z
      · subst z; exact ⟨fun o y => (by cases y), rfl⟩
      · obtain ⟨d, _, z⟩ := List.mem_map.mp z
        subst z; exact ⟨fun o y => (by cases y), rfl⟩
    · have := (List.mem_replicate.mp z).2
      subst this; exact ⟨fun o y => (by cases y), rfl⟩
  have hs0 : (L2.start N (.ref p :: vs))[0]? = some (some (.ref p)) := start_get rfl
  rw [e1]
  have keep : ∀ (j : Nat) (s : Slot), (∀ o, s ≠ .obj o) → ((slotsA N.length (.raw (.ref p) :: ds.map Slot.dat)).set 0 (.obj ⟨tg, some p, fs⟩))[j]? = some s → (slotsA N.length (.raw (.ref p) :: ds.map Slot.dat))[j]? = some s := fun j s hs e => by
    by_cases z : 0 = j
    · subst z; exact (hs _ (set_get e).symm).elim
    · rwa [List.getElem?_set_ne z] at e
  have only : ∀ (j : Nat) (o : Oj), ((slotsA N.length (.raw (.ref p) :: ds.map Slot.dat)).set 0 (.obj ⟨tg, some p, fs⟩))[j]? = some (.obj o) → j = 0 ∧ o = ⟨tg, some p, fs⟩ := fun j o e => by
    by_cases z : 0 = j
    · subst z; cases set_get e; exact ⟨rfl, rfl⟩
    · rw [List.getElem?_set_ne z] at e
      have := (kinds j _ e).2
      cases this
  exact {
    ext := ext_cut
    vis := g0.vis, bno := g0.bno, hid := g0.hid, lst := g0.lst
    sub := fun c hc => ((mf c).mp hc).1
    cl := ⟨fun q hq => (by
      obtain ⟨u, e, m⟩ := l.1 q ((mf q).mp hq).1
      exact ⟨u, by rw [cut_out ((mf q).mp hq).2]; exact e, m⟩), tabs_cut (fun q m => (mm q m).2) l.2⟩
    len := by rw [List.length_set]; exact g0.len
    dat := fun j d e => g0.dat j d (keep j _ (fun o y => by cases y) e)
    scr := fun j d e => g0.scr j d (keep j _ (fun o y => by cases y) e)
    raw := fun j d e => g0.raw j d (keep j _ (fun o y => by cases y) e)
    own := fun j d e => ((kinds j _ (keep j _ (fun o y => by cases y) e)).1 d rfl).elim
    sep := fun a b d e q ha => ((kinds a _ (keep a _ (fun o y => by cases y) ha)).1 d rfl).elim
    rob := fun j o e => by
      have := (kinds j _ (keep j _ (fun o y => by cases y) e)).2
      cases this
    hc := fun q hq => by
      by_cases z : q ∈ M
      · exact .inr (fresh_cut z)
      · exact .inl ((mf q).mpr ⟨hq, z⟩)
    obs := by
      refine ⟨fun j o e => ?_, fun a b q fa fb => ?_, fun a j q ob f e s => ((kinds j _ (keep j _ (fun o y => by cases y) e)).1 ob rfl).elim⟩
      · obtain ⟨rfl, rfl⟩ := only j o e
        exact ⟨p, hs0, fun a h => by cases h; rfl, dx, fvs, hp, h1, fresh_cut (hM ▸ List.mem_cons_self ..), h2, by rw [hM]; exact h3, h4⟩
      · obtain ⟨oa, _, _, _, _, ha, _⟩ := fa
        obtain ⟨ob, _, _, _, _, hb, _⟩ := fb
        rw [(only a oa ha).1, (only b ob hb).1] }
theorem fnMW {x qual : Str} {st : Stmt} {dvs : List V} {f : Addr} {fd : FuncData} {N ps : List Str} {k : Nat} {m : MS} {n np tg : Nat} (F : FnM K x qual st dvs f fd) (S : FnScope N ps (defScope st)) (hn : N.length = n) (hp : ps.length = np)
    (hbody : ∀ (cdv : Value) (A : Around) (outer : List Env) (s : Shared) (H : Hp) (E : XK), Room k (A.deeper (PyProof.Rows.envOfC qual (defScope st) s.heap.objs.size f cdv)) →
      ∃ t, PSs (cxOf (L2N.CX P w) P w K mg base N qual (defScope st) f cdv A outer s H E) (defBody st) t ∧ SimS K T .no t (WF E) m) :
    FnOk P w K mg base (L2N.CX P w) (k + 1) f fd ps (spW K T tg (fnW np n tg m)) := by
  subst hn hp
  have len : ∀ vs H Q E, spW K T tg (fnW ps.length N.length tg m) vs H Q E → vs.length = ps.length := fun vs H Q E h => by
    obtain ⟨p, ws, fs, ds, S', dx, fvs, rfl, _, _, _, hd, hR⟩ := h
    rw [List.length_cons, hd.len]
    by_cases hl : ds.length + 1 = ps.length
    · exact hl
    · unfold fnW at hR
      rw [if_neg hl] at hR
      exact hR.elim
  refine F.ok S len (fun cdv A outer s H vs Q E hr h => ?_)
  have hl := len _ _ _ _ h
  obtain ⟨p, ws, fs, ds, S', dx, fvs, rfl, hp, ⟨h1, h2, h3, h4⟩, l, hd, hR⟩ := h
  have hld : ds.length + 1 = ps.length := by rw [← hd.len]; exact hl
  obtain ⟨t, pt, sm⟩ := hbody cdv A outer s H E hr
  refine ⟨t, pt, ?_⟩
  have g1 := gd_startW (N := N) l hd hp h1 h2 h3 h4
  have mf : ∀ q, q ∈ S'.filter (fun q => decide (q ∉ p :: ownRefs fvs fs)) ↔ q ∈ S' ∧ q ∉ p :: ownRefs fvs fs := fun q => by
    rw [List.mem_filter]
    constructor
    · rintro ⟨x, y⟩; exact ⟨x, of_decide_eq_true y⟩
    · rintro ⟨x, y⟩; exact ⟨x, decide_eq_true y⟩
  refine sm _ _ _ _ { nx := fun _ H' => Q .non H', rt := Q } ?_ _ _ ⟨S', g1⟩
  unfold fnW at hR
  rw [if_pos hld] at hR
  cases hm : m (slotsM N.length (.obj ⟨tg, some p, fs⟩) ds) with
  | nx ρ' =>
    rw [hm] at hR
    exact fun σ H' ⟨S2, g⟩ => by
      simp only at hR
      cases h0 : ρ'[0]? with
      | none => rw [h0] at hR; exact hR.elim
      | some s0 =>
        rw [h0] at hR
        cases s0 with
        | obj o =>
          simp only at hR
          by_cases hc : o.tg = tg ∧ o.ad = some p
          · rw [if_pos hc] at hR
            obtain ⟨p', a1, a2, a3⟩ := g.obs.ob 0 o h0
            have := a2 p hc.2
            subst this
            refine hR .non H' S2 ⟨g.ext, fun c hc n => g.sub c ((mf c).mpr ⟨hc, n⟩), fun q hq => ?_, g.lst, ?_⟩ .non
            · rcases g.hc q hq with z | z
              · exact .inl ((mf q).mp z)
              · exact .inr z
            · obtain ⟨otg, oad, ofs⟩ := o
              obtain ⟨rfl, rfl⟩ := hc
              exact a3
          · rw [if_neg hc] at hR; exact hR.elim
        | _ => exact hR.elim
  | rs r ρ' =>
    rw [hm] at hR
    exact fun σ H' S2 g v dv => by
      simp only at hR
      cases h0 : ρ'[0]? with
      | none => rw [h0] at hR; exact hR.elim
      | some s0 =>
        rw [h0] at hR
        cases s0 with
        | obj o =>
          simp only at hR
          by_cases hc : o.tg = tg ∧ o.ad = some p
          · rw [if_pos hc] at hR
            obtain ⟨p', a1, a2, a3⟩ := g.obs.ob 0 o h0
            have := a2 p hc.2
            subst this
            refine hR v H' S2 ⟨g.ext, fun c hc n => g.sub c ((mf c).mpr ⟨hc, n⟩), fun q hq => ?_, g.lst, ?_⟩ dv
            · rcases g.hc q hq with z | z
              · exact .inl ((mf q).mp z)
              · exact .inr z
            · obtain ⟨otg, oad, ofs⟩ := o
              obtain ⟨rfl, rfl⟩ := hc
              exact a3
          · rw [if_neg hc] at hR; exact hR.elim
        | _ => exact hR.elim
  | rt d => rw [hm] at hR; exact hR.elim
  | bk ρ' => rw [hm] at hR; exact hR.elim
  | ct ρ' => rw [hm] at hR; exact hR.elim
  | ex y ρ' => rw [hm] at hR; exact hR.elim
  | bad => rw [hm] at hR; exact hR.elim
end
open Classical in
noncomputable def Fall (F : Addr → List Fd → List PyData → Ro) (fs : List Fd) (ds : List PyData) : Ro := if h : ∃ r, ∀ p, F p fs ds = r then h.choose else .bad
theorem Fall_eq {F : Addr → List Fd → List PyData → Ro} {fs : List Fd} {ds : List PyData} {r : Ro} (h : ∀ p, F p fs ds = r) : Fall F fs ds = r := by
  have e : ∃ r, ∀ p, F p fs ds = r := ⟨r, h⟩
  unfold Fall
  rw [dif_pos e]
  exact (e.choose_spec 0).symm.trans (h 0)
theorem Fall_at {F : Addr → List Fd → List PyData → Ro} {fs : List Fd} {ds : List PyData} {r : Ro} (h : Fall F fs ds = r) (hr : r ≠ .bad) (p : Addr) : F p fs ds = r := by
  unfold Fall at h
  by_cases e : ∃ r, ∀ p, F p fs ds = r
  · rw [dif_pos e] at h
    rw [← h]
    exact e.choose_spec p
  · rw [dif_neg e] at h
    exact (hr h.symm).elim
def roCalm : Ro → Ro
  | .ok r fs => .ok r fs
  | _ => .bad
theorem spW_calm {K : PySem.W.Frag} {T : Tb} {tg : Nat} {F : Addr → List Fd → List PyData → Ro} {vs : List V} {H : Hp} {Q : VK} {E : XK} (h : spW K T tg (fun p fs ds => roCalm (F p fs ds)) vs H Q E) : spW K T tg F vs H Q (fun _ _ _ => False) := by
  obtain ⟨p, ws, fs, ds, S, dx, fvs, e, h1, h2, h3, h4, h5⟩ := h
  refine ⟨p, ws, fs, ds, S, dx, fvs, e, h1, h2, h3, h4, ?_⟩
  cases hF : F p fs ds with
  | ok r fs' => simp only [hF, roCalm] at h5; exact h5
  | ex x fs' => simp only [hF, roCalm] at h5
  | bad => simp only [hF, roCalm] at h5
noncomputable def kMw (i tg : Nat) (F : List Fd → List PyData → Ro) (ma : MA) : MS := fun ρ => match objW tg ρ[i]? with
  | some o => kE ma (fun ds => match F o.fs ds with
    | .ok _ fs' => .nx (ρ.set i (.obj { o with fs := fs' }))
    | _ => .bad) ρ
  | none => .bad
noncomputable def kMk (i tg : Nat) (F : List Fd → List PyData → Ro) (ma : MA) : MS := fun ρ => kE ma (fun ds => match F [] ds with
    | .ok .none fs' => .nx (ρ.set i (.obj ⟨tg, none, fs'⟩))
    | _ => .bad) ρ
section
variable {K : PySem.W.Frag} {T : Tb} {W : WX} {fr : Fr} {ta : TA} {ma : MA} {i tg : Nat} {m : Str} {F : Addr → List Fd → List PyData → Ro} {E : XK} {H0 B : Hp} {C : List Addr} {H H' : Hp} {S S2 : List Addr} {σ : St} {ρ : List Slot}
theorem Gd.aft (g : Gd K T H0 B C H S σ ρ) {o : Oj} {p dx : Addr} {fvs : List V} {fs' : List Fd} (hi : ρ[i]? = some (.obj o)) (hs : σ[i]? = some (some (.ref p))) (hp : H p = some (.ins (He.ga K (clNm o.tg)) dx ((clFs o.tg).zip fvs))) (hf : fvs.length = o.fs.length) (hl : o.fs.length ≤ (clFs o.tg).length)
    (ad : ∀ a, o.ad = some a → p = a) (a : Aft K T H S (p :: ownRefs fvs o.fs) o.tg p fs' H' S2) : Gd K T H0 B C H' S2 σ (ρ.set i (.obj { o with fs := fs' })) := by
  have ft : ∀ q, Foot H σ ρ i q ↔ q ∈ p :: ownRefs fvs o.fs := fun q => by
    constructor
    · rintro ⟨o', p', C', dx', fvs', f1, f2, f3, f5, f6, f4⟩
      rw [hi] at f1; cases f1
      rw [hs] at f2; cases f2
      rw [hp] at f3
      injection f3 with f3
      injection f3 with y1 y2 y3
      have e4 := zip_inj (by rw [hf]; exact hl) (by rw [f5]; exact f6) y3
      subst e4
      exact f4
    · intro m; exact ⟨o, p, _, dx, fvs, hi, hs, hp, hf, hl, m⟩
  have fr0 : ∀ q, Fresh (cut H (p :: ownRefs fvs o.fs)) q → Fresh H0 q := fun q z => by
    by_cases w : q ∈ p :: ownRefs fvs o.fs
    · exact (g.obs.foot ((ft q).mpr w)).2.1
    · exact (z.cut w).back g.ext.kp
  obtain ⟨dx', fvs', b1, b2, b3, b4, b5, b6⟩ := a.ob
  refine g.reobj hi hs (fun b u e n nf => a.ext.kp b u (by rw [cut_out (fun z => nf ((ft b).mpr z))]; exact e) n) (fun t => a.ext.tb (tabs_cut (fun q m => (g.obs.foot ((ft q).mpr m)).2.2) t)) (fun q m nf => a.s1 q m (fun z => nf ((ft q).mpr z))) (fun q m => ?_) a.l ?_ (fun q f => ?_) ad
  · rcases a.s2 q m with z | z
    · exact .inl z.1
    · by_cases w : q ∈ p :: ownRefs fvs o.fs
      · exact .inl (g.obs.foot ((ft q).mpr w)).1
      · exact .inr (z.cut w)
  · exact ⟨dx', fvs', b1, b2, fr0 p b3, b4.fresh (fun q m => fr0 q (b4.refs q m).2.1), b5, b6⟩
  · have fq : Fresh (cut H (p :: ownRefs fvs o.fs)) q := by
      obtain ⟨o', p', C', dx2, fvs2, f1, f2, f3, f5, f6, f4⟩ := f
      cases set_get f1
      rw [hs] at f2; cases f2
      rw [b1] at f3
      injection f3 with f3
      injection f3 with y1 y2 y3
      have e4 := zip_inj (by rw [b4.len]; exact b6) (by rw [f5]; exact f6) y3
      subst e4
      rcases List.mem_cons.mp f4 with z | z
      · subst z; exact b3
      · exact (b4.refs q z).2.1
    by_cases w : q ∈ p :: ownRefs fvs o.fs
    · have fo := (ft q).mpr w
      exact ⟨fun j ob e1 e2 => g.obs.dl i j _ ob fo e1 e2, fun j hj z => hj (g.obs.dj j i _ z fo)⟩
    · have nm := g.notMine (fq.cut w)
      exact ⟨fun j ob e1 e2 => nm.ow j ob e1 e2, fun j _ z => nm.ft j z⟩
theorem Gd.mineObj (g : Gd K T H0 B C H S σ ρ) {x : Addr} {o : Oj} (e : Ext T H H') (s1 : ∀ c ∈ S, c ∈ S2) (s2 : ∀ q ∈ S2, q ∈ S ∨ Fresh H q) (l : Lsts H' S2) (ad : o.ad = none) (ob : ObAt K H H' S2 x o) : Gd K T H0 B C H' S2 (σ.set i (some (.ref x))) (ρ.set i (.obj o)) := by
  have kp : Kp (hide H S) (hide H' S2) := fun b u h n => by
    obtain ⟨h1, h2, h3⟩ := hide_some.mp h
    refine hide_some.mpr ⟨fun z => ?_, e.kp b u h2 h3, h3⟩
    rcases s2 b z with w | w
    · exact h1 w
    · rw [w u h2] at h3; cases h3
  have ob0 := ob
  obtain ⟨dx, fvs, b1, b2, b3, b4, b5, b6⟩ := ob
  have nfoot : ∀ q, Foot H' (σ.set i (some (.ref x))) (ρ.set i (.obj o)) i q → Fresh H q := fun q f => by
    obtain ⟨o', p', C', dx2, fvs2, f1, f2, f3, f5, f6, f4⟩ := f
    have := set_get f1
    cases this
    have := set_get f2
    cases this
    rw [b1] at f3
    injection f3 with f3
    injection f3 with y1 y2 y3
    have e4 := zip_inj (by rw [b4.len]; exact b6) (by rw [f5]; exact f6) y3
    subst e4
    rcases List.mem_cons.mp f4 with z | z
    · subst z; exact b3
    · exact (b4.refs q z).2.1
  have other : ∀ j q, i ≠ j → Foot H' (σ.set i (some (.ref x))) (ρ.set i (.obj o)) j q → Foot H σ ρ j q := fun j q z f => by
    obtain ⟨o', p', C', dx2, fvs2, f1, f2, f3, f5, f6, f4⟩ := f
    rw [List.getElem?_set_ne z] at f1 f2
    obtain ⟨p2, c1, _, dx3, fvs3, c2, c3, c4, c5, c6, l3⟩ := g.obs.ob j o' f1
    rw [f2] at c1; cases c1
    have := e.kp _ _ c2 rfl
    rw [f3] at this
    injection this with this
    injection this with y1 y2 y3
    have e4 := zip_inj (by rw [f5]; exact f6) (by rw [c5.len]; exact l3) y3
    subst e4 y1 y2
    exact ⟨o', p', _, dx2, fvs2, f1, f2, c2, f5, f6, f4⟩
  exact {
    ext := g.ext.trans e
    vis := g.vis.trans e.kp
    bno := g.bno
    hid := fun q hq => by
      rcases s2 q hq with w | w
      · exact g.hid q w
      · exact g.bnone w
    lst := l
    sub := fun c hc => s1 c (g.sub c hc)
    cl := g.cl
    len := by rw [List.length_set, List.length_set]; exact g.len
    dat := fun j d q => by
      by_cases z : i = j
      · subst z; cases set_get q
      · rw [List.getElem?_set_ne z] at q ⊢
        obtain ⟨v, a, b⟩ := g.dat j d q
        exact ⟨v, a, b.kp kp⟩
    scr := fun j d q => by
      by_cases z : i = j
      · subst z; cases set_get q
      · rw [List.getElem?_set_ne z] at q ⊢
        obtain ⟨a, ys, h1, h2, h3⟩ := g.scr j d q
        exact ⟨a, ys, h1, kp.sql h2, h3.kp kp⟩
    raw := fun j d q => by
      by_cases z : i = j
      · subst z; cases set_get q
      · rw [List.getElem?_set_ne z] at q ⊢
        exact g.raw j d q
    own := fun j d q => by
      by_cases z : i = j
      · subst z; cases set_get q
      · rw [List.getElem?_set_ne z] at q ⊢
        obtain ⟨q', u, h1, h2, h3, h4, h5⟩ := g.own j d q
        exact ⟨q', u, h1, s1 _ h2, h3, e.kp _ _ h4 h5.nt, h5.kp kp⟩
    sep := fun a b ds es p ha hb sa sb => by
      have za : i ≠ a := fun z => by subst z; cases set_get ha
      have zb : i ≠ b := fun z => by subst z; cases set_get hb
      rw [List.getElem?_set_ne za] at ha sa
      rw [List.getElem?_set_ne zb] at hb sb
      exact g.sep a b ds es p ha hb sa sb
    rob := fun j d q => by
      by_cases z : i = j
      · subst z; cases set_get q
      · rw [List.getElem?_set_ne z] at q
        obtain ⟨p, dx, fvs, h1, h2⟩ := g.rob j d q
        exact ⟨p, dx, fvs, by rw [List.getElem?_set_ne z]; exact h1, h2⟩
    hc := fun q hq => by
      rcases s2 q hq with w | w
      · exact g.hc q w
      · exact .inr (w.back g.ext.kp)
    obs := by
      refine ⟨fun j ob e1 => ?_, fun a b q fa fb => ?_, fun a j q ob f e1 s => ?_⟩
      · by_cases z : i = j
        · subst z
          have hl : i < σ.length := by
            rw [g.len]
            have := (List.getElem?_eq_some_iff.mp e1).1
            rwa [List.length_set] at this
          cases set_get e1
          refine ⟨x, List.getElem?_set_self hl, fun a h => (by rw [ad] at h; cases h), dx, fvs, b1, b2, b3.back g.ext.kp, b4.fresh (fun q m => (b4.refs q m).2.1.back g.ext.kp), b5, b6⟩
        · rw [List.getElem?_set_ne z] at e1
          obtain ⟨p', c1, ad', dx', fvs', c2, c3, c4, c5, c6, l'⟩ := g.obs.ob j ob e1
          refine ⟨p', by rw [List.getElem?_set_ne z]; exact c1, ad', dx', fvs', e.kp _ _ c2 rfl, s1 _ c3, c4, c5.step kp (fun q m => ⟨fun w => s1 q w, fun u hu => ?_⟩), c6, l'⟩
          obtain ⟨_, _, u', ob', hu', mm⟩ := c5.refs q m
          rw [hu] at hu'; cases hu'
          exact e.kp q u hu mm.nt
      · by_cases za : i = a
        · by_cases zb : i = b
          · exact za.symm.trans zb
          · subst za
            exact ((g.notMine (nfoot q fa)).ft b (other b q zb fb)).elim
        · by_cases zb : i = b
          · subst zb
            exact ((g.notMine (nfoot q fb)).ft a (other a q za fa)).elim
          · exact g.obs.dj a b q (other a q za fa) (other b q zb fb)
      · have zj : i ≠ j := fun z => by subst z; cases set_get e1
        rw [List.getElem?_set_ne zj] at e1 s
        by_cases za : i = a
        · subst za
          exact (g.notMine (nfoot q f)).ow j ob e1 s
        · exact g.obs.dl a j q ob (other a q za f) e1 s }
theorem sim_mk (h : SimA K T ta W ma) : SimS K T fr (tAsg (tMake (He.ga K (clNm tg)) (spW K T tg fun p fs ds => roCalm (F p fs ds)) [] E ta) (gName i)) W (kMk i tg (Fall F) ma) := fun ρ H0 B C D p => by
  have a := h ρ
  unfold kMk kE at p
  cases h1 : ma ρ with
  | bad => rw [h1] at p; exact p.elim
  | ex x => rw [h1] at p a; exact tri_ex (fun σ H S g hQ => a H0 B C H S σ g _ hQ) p
  | ok ds =>
    rw [h1] at p a
    simp only at p
    cases h2 : Fall F [] ds with
    | bad => rw [h2] at p; exact p.elim
    | ex x fs' => rw [h2] at p; exact p.elim
    | ok r fs' =>
      rw [h2] at p
      cases r with
      | none =>
        exact fun σ H ⟨S, g⟩ => a H0 B C H S σ g _ fun vs H1 e1 d1 => by
          intro x dx hx hdx ne
          have g1 := g.ex e1
          have en : Ext T H1 (upd (upd H1 dx (.own x)) x (.ins (He.ga K (clNm tg)) dx [])) := (Ext.new hdx).trans (.new (by rw [upd_ne (Ne.symm ne)]; exact hx))
          generalize hH2 : upd (upd H1 dx (.own x)) x (.ins (He.ga K (clNm tg)) dx []) = H2 at en
          have hx2 : H2 x = some (.ins (He.ga K (clNm tg)) dx []) := by rw [← hH2]; exact upd_same
          have fx : Fresh H1 x := .of hx
          have xS : x ∉ S := g1.lst.not fx
          have lS : Lsts H2 (x :: S) := fun q m => by
            rcases List.mem_cons.mp m with z | z
            · subst z; exact ⟨_, hx2, rfl⟩
            · exact g1.lst.kp en.kp q z
          refine ⟨x, vs ++ [], [], ds, x :: S, dx, [], rfl, (by rw [List.zip_nil_right]; exact hx2), ⟨List.mem_cons_self .., .nil, List.nodup_cons.mpr ⟨(by intro z; cases z), List.nodup_nil⟩, Nat.zero_le _⟩, ⟨lS, en.tb (g1.lsT (.refl T H1)).2⟩, by rw [List.append_nil]; exact d1.kp (seen_new en.kp fx), ?_⟩
          have hF := Fall_at h2 (fun z => by cases z) x
          simp only [hF, roCalm]
          intro v H' S2 af dv
          cases dv
          refine ⟨rfl, ?_⟩
          have cutx : ∀ b u, H1 b = some u → isTbl u = false → cut H2 [x] b = some u := fun b u e n => by
            rw [cut_out (fun z => by rw [List.mem_singleton] at z; subst z; rw [hx] at e; cases e)]
            exact en.kp b u e n
          have ex : Ext T H1 H' := ⟨fun b u e n => af.ext.kp b u (cutx b u e n) n, fun t => af.ext.tb (tabs_cut (fun q m => by have m : q ∈ [x] := m; rw [List.mem_singleton] at m; subst m; exact ⟨_, hx2, rfl⟩) (en.tb t))⟩
          have fresh1 : ∀ q, Fresh (cut H2 [x]) q → Fresh H1 q := fun q z o e => by
            cases t : isTbl o with
            | true => rfl
            | false => exact (z o (cutx q o e t)).symm.trans t |>.symm
          obtain ⟨dx', fvs', b1, b2, b3, b4, b5, b6⟩ := af.ob
          refine p _ _ ⟨S2, g1.mineObj (x := x) (o := ⟨tg, none, fs'⟩) ex (fun c hc => af.s1 c (List.mem_cons_of_mem _ hc) (fun z => ?_)) (fun q hq => ?_) af.l rfl ⟨dx', fvs', b1, b2, fx, b4.fresh (fun q m => fresh1 q (b4.refs q m).2.1), b5, b6⟩⟩
          · have z : c ∈ [x] := z
            rw [List.mem_singleton] at z; exact xS (z ▸ hc)
          · rcases af.s2 q hq with ⟨z, n⟩ | z
            · rcases List.mem_cons.mp z with y | y
              · exact (n (y ▸ List.mem_cons_self ..)).elim
              · exact .inl y
            · exact .inr (fresh1 q z)
      | _ => exact p.elim
end
structure MakC (P : Program) (w : World) (K : PySem.W.Frag) (mg : Str → Option Value) (base : Heap) (k tg : Nat) (ps : List Str) (sp : Sp) : Prop where
  ex : ∃ (f : Addr) (fd : FuncData), FnOk P w K mg base CX0 k f fd ps sp ∧ Mk K (He.ga K (clNm tg)) f ∧ Binds K fd ps []
  at_ : mg (clNm tg) = some (.ref (He.ga K (clNm tg)))
section
variable {X : Cx} {k j tg : Nat} {ps : List Str} {sp : Sp} {p pos : Pos} {x : Str} {e : Expr} {es : List Expr} {t : TA}
theorem pe_mkC0 (hx : x = clNm tg) (c : MakC X.prog X.w X.K X.mg X.base k tg ps sp) (hr : Room j X.A) (hg : Gl X x) (hk : k + 1 ≤ j := by decide) (hdb : (x == ("__debug__" : Str)) = false := by decide) : PE X (.Call (.Name x p) [] [] pos) (tMake (He.ga X.K (clNm tg)) sp [] E0 tNil) := by
  obtain ⟨f, fd, G, a, b⟩ := c.ex
  exact pe_make0 a G (hr.mono hk) hg (hx ▸ c.at_) b .nil pass0 hdb
end
theorem MetX.calmW {P : Program} {w : World} {K : PySem.W.Frag} {T : Tb} {mg : Str → Option Value} {base : Heap} {k tg tg' : Nat} {m : Str} {ps : List Str} {F : Addr → List Fd → List PyData → Ro} (c : MetX P w K mg base k tg m ps (spW K T tg' F)) : MetC P w K mg base k tg m ps (spW K T tg' fun p fs ds => roCalm (F p fs ds)) := c.calm spW_calm
theorem MetX.calmR {P : Program} {w : World} {K : PySem.W.Frag} {T : Tb} {mg : Str → Option Value} {base : Heap} {k tg tg' : Nat} {m : Str} {ps : List Str} {fr : Fr} {F : List Fd → List PyData → Rz PyData} (c : MetX P w K mg base k tg m ps (spRO K T tg' fr F)) : MetC P w K mg base k tg m ps (spRO K T tg' fr fun fs ds => (F fs ds).calm) := c.calm spRO_calm
section
variable {X : Cx} {k j tg : Nat} {m f : Str} {ps : List Str} {sp : Sp} {pos apos : Pos} {o e : Expr} {es : List Expr} {ta : TE} {t : TA} {pl : Sem Bool}
theorem pe_fldK (K : PySem.W.Frag) (he : PE X e ta) (hb : attributeBase e f X.env (eval e X.env) = eval e X.env) (h : X.K = K := by rfl) : PE X (.Attribute e f pos) (tFld K ta f) := by
  subst h
  exact pe_fld he hb
end
section
variable {ρ : List Slot}
theorem xFd_a (i tg k : Nat) : xFd i tg k ρ = (match objF tg ρ[i]? with
  | some fs => (match fs[k]? with | some (.dat d) => .ok d | _ => .bad)
  | none => .bad) := nr rfl
theorem kFset_a (i tg k : Nat) (m : ME) : kFset i tg k m ρ = (match objW tg ρ[i]? with
  | some o => kE m (fun d => if k ≤ o.fs.length then .nx (ρ.set i (.obj { o with fs := putAt k (.dat d) o.fs })) else .bad) ρ
  | none => .bad) := nr rfl
theorem kFown_a (i tg k : Nat) (m : MA) : kFown i tg k m ρ = (match objW tg ρ[i]? with
  | some o => kE m (fun ds => if k ≤ o.fs.length then .nx (ρ.set i (.obj { o with fs := putAt k (.own (.lst ds)) o.fs })) else .bad) ρ
  | none => .bad) := nr rfl
theorem kFapp_a (i tg k : Nat) (m : ME) : kFapp i tg k m ρ = (match objW tg ρ[i]? with
  | some o => (match fdL k o with
    | some ds => kE m (fun d => if ds.length < 1000000 then .nx (ρ.set i (.obj { o with fs := o.fs.set k (.own (.lst (ds ++ [d]))) })) else .bad) ρ
    | none => .bad)
  | none => .bad) := nr rfl
theorem kFput_a (i tg k : Nat) (j m : ME) : kFput i tg k j m ρ = (match objW tg ρ[i]? with
  | some o => (match fdL k o with
    | some ds => kE m (fun d => kE j (fun e => match (asI e).bind (ixN ds.length) with | some n => .nx (ρ.set i (.obj { o with fs := o.fs.set k (.own (.lst (ds.set n d))) })) | none => .bad) ρ) ρ
    | none => .bad)
  | none => .bad) := nr rfl
theorem kFfrz_a (i tg k : Nat) (a : MS) : kFfrz i tg k a ρ = (match objW tg ρ[i]? with
  | some o => (match fdL k o with
    | some ds => a (ρ.set i (.obj { o with fs := o.fs.set k (.dat (.list ds)) }))
    | none => .bad)
  | none => .bad) := nr rfl
theorem xMr_a (i tg : Nat) (F : List Fd → List PyData → Rz PyData) (ma : MA) : xMr i tg F ma ρ = (match objF tg ρ[i]? with
  | some fs => (ma ρ).bind fun ds => match F (fs.map Fd.view) ds with
    | .ok r => if noL r then .ok r else .bad
    | _ => .bad
  | none => .bad) := nr rfl
theorem fMr_a (i tg : Nat) (F : List Fd → List PyData → Rz PyData) (ma : MA) : fMr i tg F ma ρ = (match objF tg ρ[i]? with
  | some fs => (ma ρ).bind fun ds => match F (fs.map Fd.view) ds with
    | .ok (.list rs) => if noLs rs then .ok rs else .bad
    | _ => .bad
  | none => .bad) := nr rfl
theorem kMw_a (i tg : Nat) (F : List Fd → List PyData → Ro) (ma : MA) : kMw i tg F ma ρ = (match objW tg ρ[i]? with
  | some o => kE ma (fun ds => match F o.fs ds with
    | .ok _ fs' => .nx (ρ.set i (.obj { o with fs := fs' }))
    | _ => .bad) ρ
  | none => .bad) := nr rfl
theorem kMk_a (i tg : Nat) (F : List Fd → List PyData → Ro) (ma : MA) : kMk i tg F ma ρ = kE ma (fun ds => match F [] ds with
    | .ok .none fs' => .nx (ρ.set i (.obj ⟨tg, none, fs'⟩))
    | _ => .bad) ρ := nr rfl
theorem fnO_a (np n tg : Nat) (m : MS) (fs : List Fd) (ds : List PyData) : fnO np n tg m fs ds = if ds.length + 1 = np then match m (slotsM n (.rob ⟨tg, none, fs⟩) ds) with
  | .rt d => .ok d
  | .nx _ => .ok .none
  | .ex x _ => .ex x
  | _ => .bad
  else .bad := nr rfl
theorem fnW_a (np n tg : Nat) (m : MS) (p : Addr) (fs : List Fd) (ds : List PyData) : fnW np n tg m p fs ds = if ds.length + 1 = np then match m (slotsM n (.obj ⟨tg, some p, fs⟩) ds) with
  | .nx ρ' => (match (ρ' : List Slot)[0]? with
    | some (Slot.obj o) => if o.tg = tg ∧ o.ad = some p then .ok .none o.fs else .bad
    | _ => .bad)
  | .rs r ρ' => (match (ρ' : List Slot)[0]? with
    | some (Slot.obj o) => if o.tg = tg ∧ o.ad = some p then .ok r o.fs else .bad
    | _ => .bad)
  | _ => .bad
  else .bad := nr rfl
end
end Lw

set_option Elab.async false
set_option linter.all false
set_option maxRecDepth 100000
set_option maxHeartbeats 4000000
set_option autoImplicit false
namespace Lw
open PySem L2 LwZ
def xOrL (a b : ME) : ME := fun ρ => (a ρ).bind fun x => match x with
  | .list [] => b ρ
  | .list (d :: ds) => .ok (.list (d :: ds))
  | _ => .bad
def fRev (a : ME) : MA := fun ρ => (a ρ).bind fun x => match x with
  | .list ds => .ok ds.reverse
  | _ => .bad
section
variable {K : PySem.W.Frag} {T : Tb} {W : WX} {ta tb : TE} {ma mb : ME}
end
section
variable {ρ : List Slot}
theorem xOrL_a (a b : ME) : xOrL a b ρ = (a ρ).bind fun x => match x with
  | .list [] => b ρ
  | .list (d :: ds) => .ok (.list (d :: ds))
  | _ => .bad := nr rfl
theorem fRev_a (a : ME) : fRev a ρ = (a ρ).bind fun x => match x with
  | .list ds => .ok ds.reverse
  | _ => .bad := nr rfl
end
end Lw

set_option maxRecDepth 100000
set_option linter.all false
set_option Elab.async false
namespace Lw
open PySem L2 LwZ
def zR0 := And.intro @fnD_a (And.intro @xOrL_a (And.intro @fRev_a (And.intro @fnO_a (And.intro @fnW_a (And.intro @xFd_a (And.intro @kFset_a (And.intro @kFown_a (And.intro @kFapp_a (And.intro @kFput_a (And.intro @kFfrz_a (And.intro @xMr_a (And.intro @fMr_a (And.intro @kMw_a (And.intro @kMk_a (And.intro @objF_rob (And.intro @objF_obj (And.intro @objW_obj (And.intro @kSeq_a (And.intro @kNx_a (And.intro @kE_a (And.intro @kAsg_a (And.intro @kOwn_a (@kDrop_a)))))))))))))))))))))))
def zR1 := And.intro @kRet_a (And.intro @kRetP_a (And.intro @kRetF_a (And.intro @kRetO_a (And.intro @kRet2_a (And.intro @fP_a (And.intro @pairL_a (And.intro @kRetN_a (And.intro @kIf_a (And.intro @kBk_a (And.intro @kCt_a (And.intro @kTg_a (And.intro @kPar_a (And.intro @kApp_a (And.intro @kPut_a (And.intro @kFrz_a (And.intro @kRaise_a (And.intro @kDict_a (And.intro @kDput_a (And.intro @kClr_a (And.intro @kStar_a (And.intro @kOwnD_a (And.intro @fDz_a (@fnDD_a)))))))))))))))))))))))
def zR2 := And.intro @kIns_a (And.intro @kExt_a (And.intro @kApp3_a (And.intro @xIsi_a (And.intro @kNst_a (And.intro @fLc2_a (And.intro @fPk2_a (And.intro @fPk3_a (And.intro @yVw_a (And.intro @xVw_a (And.intro @flatT_r (And.intro @view_no (And.intro @view_dat (And.intro @view_own (And.intro @view_scr (And.intro @xC_a (And.intro @xV_a (And.intro @xOp_a (And.intro @fOp_a (And.intro @xUn_a (And.intro @xNot_a (And.intro @xAnd_a (And.intro @xOr_a (@xIf_a)))))))))))))))))))))))
def zR3 := And.intro @xChain_a (And.intro @zNil_a (And.intro @zCons_a (And.intro @xTup_a (And.intro @fLst_a (And.intro @xL_a (And.intro @xCB_a (And.intro @fCB_a (And.intro @xF_a (And.intro @xFc_a (And.intro @fF_a (And.intro @fFc_a (And.intro @zApp_a (And.intro @zKw_a (And.intro @oNo_a (And.intro @oAt_a (And.intro @fSl_a (And.intro @xSl_a (And.intro @yV_a (And.intro @yAnd_a (And.intro @yOr_a (And.intro @yNot_a (And.intro @yYes_a (@xIxO_a)))))))))))))))))))))))
def zR4 := And.intro @xLenO_a (And.intro @xDg_a (And.intro @xDin_a (And.intro @xDnotin_a (And.intro @iS_a (And.intro @iA_a (And.intro @fLc_a (And.intro @wipeS_nil (And.intro @wipeS_cons (And.intro @gN_a (And.intro @gs0_a (And.intro @gsC_a (And.intro @gT_a (And.intro @gU_a (And.intro @ownL_a (And.intro @ownD_a (And.intro @asB_a (And.intro @asI_a (And.intro @asL_a (And.intro @seqOf_l (And.intro @seqOf_t (And.intro @keyD_i (And.intro @keyD_s (@bind_ex)))))))))))))))))))))))
def zR5 := And.intro @bind_bad (And.intro @of_none (And.intro @zAddV_i (And.intro @zSub_i (And.intro @zLt_i (And.intro @zLe_i (And.intro @zGt_i (And.intro @zGe_i (And.intro @zEq_i (And.intro @zNe_i (And.intro @zEq_r (And.intro @zNe_r (And.intro @zIx_r0 (And.intro @zIx_r1 (And.intro @zIx_t (And.intro @zIx_l (And.intro @zNeg_i (And.intro @zLen_l (And.intro @zLen_t (And.intro @zAbs_i (And.intro @zInt_b (And.intro @zInt_i (And.intro @zListV_l (@zListV_t)))))))))))))))))))))))
def zR6 := And.intro @zList_l (And.intro @zList_t (And.intro @zTuple_l (And.intro @zTuple_t (And.intro @zAll_l (And.intro @zAny_l (And.intro @zSlV_l (And.intro @zSlV_t (And.intro @zIsN_a (@zNotN_a)))))))))
end Lw

set_option Elab.async false
set_option linter.all false
set_option maxRecDepth 100000
set_option maxHeartbeats 4000000
set_option autoImplicit false
namespace Lw
open PySem L2 LwZ
def rf (g : Addr → Option Obj) (as : List Addr) : List Addr := as.flatMap fun a => match g a with
  | some o => He.refsD o
  | none => []
def asV (cl : List Str) (g : Addr → Option Obj) : List Addr :=
  let b0 : List Addr := [mainGlobals]
  let b1 := rf g b0
  let b2 := rf g b1
  let k := He.frT g (b0 ++ b1)
  let c := rf g (rf g (cl.map (He.ga k)))
  b0 ++ b1 ++ b2 ++ c ++ rf g c
def KU (cl : List Str) (g : Addr → Option Obj) : PySem.W.Frag := He.frG g (asV cl g ++ [cStatics, sysModules])
def obsU (cl : List Str) (fa : List He.Fa) (fn : List He.DefD) (ck : PySem.W.Frag → Bool) (g : Addr → Option Obj) : AlL := obsLK fa fn ck (KU cl g)
def hookU (cl : List Str) (fa : List He.Fa) (fn : List He.DefD) (ck : PySem.W.Frag → Bool) : PySem.W.Hook where
  α := AlL
  obs := fun s => obsU cl fa fn ck s.heap.get?
  val := fun _ => (He.valD fn, true)
  says := fun _ h => ∃ K : PySem.W.Frag, K.In h ∧ He.SaysD fa fn K ∧ ck K = true
  of := fun _ _ e => ⟨_, He.frG_in, congrArg Prod.fst e, congrArg Prod.snd e⟩
  keeps := fun _ _ _ ⟨K, hK, c⟩ k => ⟨K, PySem.W.Frag.In.keeps hK k, c⟩
theorem obsU_eq {cl : List Str} {fa : List He.Fa} {fn : List He.DefD} {ck : PySem.W.Frag → Bool} {g : Addr → Option Obj} {s : Shared} (h : ∀ a, g a = s.heap.get? a) : obsU cl fa fn ck g = (hookU cl fa fn ck).obs s := by
  have e : g = s.heap.get? := funext h
  rw [e] <;> rfl
open PySem.Spec PyProof.Rows in
open PySem.Spec PyProof.Rows in
section
variable {K : PySem.W.Frag} {T : Tb}
end
end Lw

set_option Elab.async false
set_option linter.all false
set_option maxRecDepth 100000
set_option maxHeartbeats 4000000
set_option autoImplicit false
namespace Lw
open PySem L2 LwZ
section
variable {K : PySem.W.Frag} {T : Tb} {W : WX} {ta : TA} {ma : MA} {F : List PyData → Rz PyData}
end
section
variable {ρ : List Slot}
end
end Lw

set_option Elab.async false
set_option linter.all false
set_option maxRecDepth 100000
set_option maxHeartbeats 4000000
set_option autoImplicit false
namespace Lw
open PySem L2 LwZ
def kRetW (m : ME) : MS := fun ρ => kE m (fun d => .rs d ρ) ρ
def kFdct (i tg k : Nat) : MS := fun ρ => match objW tg ρ[i]? with
  | some o => if k ≤ o.fs.length then .nx (ρ.set i (.obj { o with fs := putAt k (.own (.dct [])) o.fs })) else .bad
  | none => .bad
def fdK (k : Nat) (o : Oj) : Option (List (Key × PyData)) := match o.fs[k]? with
  | some (.own (.dct es)) => some es
  | _ => none
theorem fdK_eq {k : Nat} {o : Oj} {es : List (Key × PyData)} (h : fdK k o = some es) : o.fs[k]? = some (.own (.dct es)) := by
  unfold fdK at h
  split at h
  · cases h; assumption
  · cases h
def kFdput (i tg k : Nat) (mk mv : ME) : MS := fun ρ => match objW tg ρ[i]? with
  | some o => (match fdK k o with
    | some es => kE mv (fun v => kE mk (fun e => match keyD e with | some q => if es.length < 1000000 then .nx (ρ.set i (.obj { o with fs := o.fs.set k (.own (.dct (putD es q v))) })) else .bad | none => .bad) ρ) ρ
    | none => .bad)
  | none => .bad
section
variable {K : PySem.W.Frag} {T : Tb} {W : WX} {fr : Fr} {te tb tk tv : TE} {m mk mv : ME} {ma : MA} {i tg k : Nat} {f : Str}
theorem sim_retW (h : SimE K T te W m) : SimS K T fr (tRet te) W (kRetW m) := fun ρ H0 B C D p => by
  have a := h ρ
  unfold kRetW kE at p
  cases h1 : m ρ with
  | bad => rw [h1] at p; exact p.elim
  | ex x => rw [h1] at p a; exact tri_ex (fun σ H S g hQ => a H0 B C H S σ g _ hQ) p
  | ok d =>
    rw [h1] at p a
    exact fun σ H ⟨S, g⟩ => a H0 B C H S σ g _ fun v H1 e dv => p σ H1 S (g.ex e) v dv
theorem sim_fdct (c : ClT K tg) (hf : (clFs tg)[k]? = some f) : SimS K T fr (sFld K (tVar i) tDNewK f) W (kFdct i tg k) := fun ρ H0 B C D p => by
  unfold kFdct at p
  cases h0 : objW tg ρ[i]? with
  | none => rw [h0] at p; exact p.elim
  | some o =>
    rw [h0] at p
    simp only at p
    obtain ⟨ho, htg⟩ := objW_eq h0
    subst htg
    by_cases hk : k ≤ o.fs.length
    · rw [if_pos hk] at p
      exact fun σ H ⟨S, g⟩ => fun q hq => by
        have g2 := g.mineO (i := ρ.length) (ds := .dct []) (.new (o := .dK []) hq) (.of hq) upd_same (.dct rfl .nil)
        rw [List.set_eq_of_length_le (Nat.le_refl _), List.set_eq_of_length_le (by rw [g.len]; exact Nat.le_refl _)] at g2
        have nm := (g.notMine (.of hq)).kp g (Ext.new (T := T) (o := .dK []) hq).kp
        obtain ⟨pp, hs, ad, dx, fvs, hp, a3, a4, a5, a6, l⟩ := g2.obs.ob i o ho
        have hl := clFs_len o.tg
        refine ⟨.ref pp, hs, pp, _, dx, _, rfl, hp, c.cl, c.no f (List.mem_of_getElem? hf), ?_, ?_⟩
        · rw [List.length_zip]; omega
        · rw [putF_zip (clFs_nd o.tg) hf (by rw [a5.len]; exact hk)]
          exact p _ _ ⟨q :: S, g2.setFd ho hs hp a5.len hk (List.getElem?_eq_some_iff.mp hf).1 (.inr ⟨q, _, _, rfl, rfl, List.mem_cons_self .., (Fresh.of hq).back g.ext.kp, upd_same, .dct rfl .nil, nm⟩)⟩
    · rw [if_neg hk] at p; exact p.elim
theorem sim_fdput (c : ClT K tg) (hf : (clFs tg)[k]? = some f) (hk : SimE K T tk W mk) (hv : SimE K T tv W mv) : SimS K T fr (sDPut (tFld K (tVar i) f) tk tv) W (kFdput i tg k mk mv) := fun ρ H0 B C D p => by
  have a := hv ρ
  have b := hk ρ
  unfold kFdput kE at p
  cases h0 : objW tg ρ[i]? with
  | none => rw [h0] at p; exact p.elim
  | some o =>
    rw [h0] at p
    simp only at p
    obtain ⟨ho, htg⟩ := objW_eq h0
    subst htg
    cases h9 : fdK k o with
    | none => rw [h9] at p; exact p.elim
    | some es =>
    rw [h9] at p
    simp only at p
    have hfd := fdK_eq h9
    cases h1 : mv ρ with
    | bad => rw [h1] at p; exact p.elim
    | ex x => rw [h1] at p a; exact tri_ex (fun σ H S g hQ => a H0 B C H S σ g _ hQ) p
    | ok d =>
      rw [h1] at p a
      simp only at p
      cases h2 : mk ρ with
      | bad => rw [h2] at p; exact p.elim
      | ex x =>
        rw [h2] at p b
        refine tri_ex (fun σ H S g hQ => a H0 B C H S σ g _ fun v H1 e1 d1 => ?_) p
        obtain ⟨pp, hs, ad, dx, fvs, hp, a3, a4, a5, a6, l⟩ := (g.ex e1).obs.ob i o ho
        obtain ⟨q, u, b1, b2, b3, b4, b5, b6⟩ := a5.getO hfd
        exact ⟨.ref pp, hs, pp, _, dx, _, .ref q, rfl, hp, c.cl, c.no f (List.mem_of_getElem? hf), lookup_zip (clFs_nd o.tg) hf b1, b H0 B C H1 S σ (g.ex e1) _ fun d H2 e2 xd => hQ d H2 (e1.trans e2) xd⟩
      | ok e =>
        rw [h2] at p b
        simp only at p
        cases h3 : keyD e with
        | none => rw [h3] at p; exact p.elim
        | some kk =>
          rw [h3] at p
          simp only at p
          by_cases hl : es.length < 1000000
          · rw [if_pos hl] at p
            exact fun σ H ⟨S, g⟩ => a H0 B C H S σ g _ fun v H1 e1 d1 => by
              obtain ⟨pp, hs, ad, dx, fvs, hp, a3, a4, a5, a6, l⟩ := (g.ex e1).obs.ob i o ho
              obtain ⟨q, u, b1, b2, b3, b4, b5, b6⟩ := a5.getO hfd
              refine ⟨.ref pp, hs, pp, _, dx, _, .ref q, rfl, hp, c.cl, c.no f (List.mem_of_getElem? hf), lookup_zip (clFs_nd o.tg) hf b1, b H0 B C H1 S σ (g.ex e1) _ fun y H2 e2 d2 => ?_⟩
              cases b5 with
              | @dct kvs _ c1 c2 =>
                have hl2 : kvs.length = es.length := by have := congrArg List.length c1; simpa using this
                have h4 : H2 q = some (.dK kvs) := e2.kp q _ b4 rfl
                refine ⟨q, _, rfl, by rw [dt_key d2 h3]; exact DPut.k (k := kk) h4 (by rw [hl2]; exact Nat.lt_trans hl (by decide)), ?_⟩
                exact p _ _ ⟨S, ((g.ex e1).ex e2).setOwn ho hs (e2.kp pp _ hp rfl) a5.len hfd b1 h4 (obd_put c1 (c2.kp (e2.kp.hide S)) (d1.kp (e2.kp.hide S)))⟩
          · rw [if_neg hl] at p; exact p.elim
def xFdg (i tg k : Nat) (mk : ME) : ME := fun ρ => (Rz.of (objD tg k ρ[i]?)).bind fun es => (mk ρ).bind fun e => (Rz.of (keyD e)).bind fun q => .of (getD? q es)
def xFdin (mk : ME) (i tg k : Nat) : ME := fun ρ => (mk ρ).bind fun e => (Rz.of (objD tg k ρ[i]?)).bind fun es => (Rz.of (keyD e)).bind fun q => .ok (.bool (getD? q es).isSome)
theorem objD_eq {s : Option Slot} {es : List (Key × PyData)} (h : objD tg k s = some es) : ∃ fs, objF tg s = some fs ∧ fs[k]? = some (.own (.dct es)) := by
  unfold objD at h
  split at h
  · rename_i fs hfs
    refine ⟨fs, hfs, ?_⟩
    split at h
    · cases h; assumption
    · cases h
  · cases h
theorem sim_fdg (c : ClT K tg) (hf : (clFs tg)[k]? = some f) (hk : SimE K T tk W mk) : SimE K T (tDGet (tFld K (tVar i) f) tk) W (xFdg i tg k mk) := fun ρ => by
  have b := hk ρ
  unfold xFdg
  cases h0 : objD tg k ρ[i]? with
  | none => exact True.intro
  | some es =>
    obtain ⟨fs, h5, h6⟩ := objD_eq h0
    show EzE K T _ ρ W ((mk ρ).bind _)
    cases h2 : mk ρ with
    | bad => exact True.intro
    | ex x =>
      rw [h2] at b
      exact fun H0 B C H S σ g Q hQ => by
        obtain ⟨p, dx, fvs, a1, a2, _, a4⟩ := g.objAt h5
        obtain ⟨q, u, c1, c2, c3⟩ := a4 k _ h6
        exact ⟨.ref p, a1, p, _, dx, _, .ref q, rfl, a2, c.cl, c.no f (List.mem_of_getElem? hf), lookup_zip (clFs_nd tg) hf c1, b H0 B C H S σ g _ hQ⟩
    | ok e =>
      rw [h2] at b
      show EzE K T _ ρ W ((Rz.of (keyD e)).bind _)
      cases h3 : keyD e with
      | none => exact True.intro
      | some kk =>
        show EzE K T _ ρ W (Rz.of (getD? kk es))
        cases h4 : getD? kk es with
        | none => exact True.intro
        | some d =>
          exact fun H0 B C H S σ g Q hQ => by
            obtain ⟨p, dx, fvs, a1, a2, _, a4⟩ := g.objAt h5
            obtain ⟨q, u, c1, c2, c3⟩ := a4 k _ h6
            refine ⟨.ref p, a1, p, _, dx, _, .ref q, rfl, a2, c.cl, c.no f (List.mem_of_getElem? hf), lookup_zip (clFs_nd tg) hf c1, b H0 B C H S σ g _ fun y H2 e2 d2 => ?_⟩
            cases c3 with
            | @dct kvs _ b1 b2 =>
              obtain ⟨v, hv, dv⟩ := (dct_get (k := kk) b1 b2).1 d h4
              refine ⟨q, v, rfl, ?_, hQ v H2 e2 (dv.kp (e2.kp.hide S))⟩
              rw [dt_key d2 h3, ← hv]
              exact DGet.k (e2.kp q _ c2 rfl)
theorem sim_fdin (c : ClT K tg) (hf : (clFs tg)[k]? = some f) (hk : SimE K T tk W mk) : SimE K T (tDIn tk (tFld K (tVar i) f)) W (xFdin mk i tg k) := fun ρ => by
  have b := hk ρ
  unfold xFdin
  cases h2 : mk ρ with
  | bad => exact True.intro
  | ex x => rw [h2] at b; exact fun H0 B C H S σ g Q hQ => b H0 B C H S σ g _ hQ
  | ok e =>
    rw [h2] at b
    show EzE K T _ ρ W ((Rz.of (objD tg k ρ[i]?)).bind _)
    cases h0 : objD tg k ρ[i]? with
    | none => exact True.intro
    | some es =>
      obtain ⟨fs, h5, h6⟩ := objD_eq h0
      show EzE K T _ ρ W ((Rz.of (keyD e)).bind _)
      cases h3 : keyD e with
      | none => exact True.intro
      | some kk =>
        exact fun H0 B C H S σ g Q hQ => b H0 B C H S σ g _ fun y H2 e2 d2 => by
          obtain ⟨p, dx, fvs, a1, a2, _, a4⟩ := (g.ex e2).objAt h5
          obtain ⟨q, u, c1, c2, c3⟩ := a4 k _ h6
          cases c3 with
          | @dct kvs _ b1 b2 =>
            refine ⟨.ref p, a1, p, _, dx, _, .ref q, rfl, a2, c.cl, c.no f (List.mem_of_getElem? hf), lookup_zip (clFs_nd tg) hf c1, q, valV kvs kk, rfl, by rw [dt_key d2 h3]; exact DGet.k c2, ?_⟩
            rw [dct_some b1 b2]
            exact hQ _ H2 e2 (.bl _)
end
noncomputable def kIfW (i tg : Nat) (F : List Fd → List PyData → Ro) (ma : MA) (a b : MS) : MS := fun ρ => match objW tg ρ[i]? with
  | some o => kE ma (fun ds => match F o.fs ds with
    | .ok (.bool true) fs' => a (ρ.set i (.obj { o with fs := fs' }))
    | .ok (.bool false) fs' => b (ρ.set i (.obj { o with fs := fs' }))
    | _ => .bad) ρ
  | none => .bad
section
variable {K : PySem.W.Frag} {T : Tb} {W : WX} {fr : Fr} {ta : TA} {ma m1 m2 : MA} {i j tg : Nat} {m : Str} {F : Addr → List Fd → List PyData → Ro} {E : XK} {H0 B : Hp} {C : List Addr} {H : Hp} {S : List Addr} {σ : St} {ρ : List Slot} {tu tz : TS} {a b : MS} {t1 t2 : TE}
theorem go_mw {ds : List PyData} (hm : m ∉ clFs tg) (h : EvA K T ta ρ ds) {o : Oj} {r : PyData} {fs' : List Fd} (ho : ρ[i]? = some (.obj o)) (htg : o.tg = tg) (h2 : Fall F o.fs ds = .ok r fs') (g : Gd K T H0 B C H S σ ρ) (Q : VK)
    (hQ : ∀ v H' S2, Gd K T H0 B C H' S2 σ (ρ.set i (.obj { o with fs := fs' })) → Dt K (hide H' S2) v r → Q v H') : tMeth (He.ga K (clNm tg)) m (spW K T tg fun p fs ds => roCalm (F p fs ds)) [] E (tVar i) ta σ H Q := by
  subst htg
  obtain ⟨pp, hs, ad, dx, fvs, hp, a3, a4, a5, a6, l⟩ := g.obs.ob i o ho
  refine ⟨.ref pp, hs, pp, dx, _, rfl, hp, lookup_zip_none hm, h H0 B C H S σ g _ fun vs H1 e1 d1 => ?_⟩
  have g1 := g.ex e1
  have hp1 : H1 pp = _ := e1.kp pp _ hp rfl
  obtain ⟨pp', hs', _, dx', fvs', hp', a3', a4', a5', a6', l'⟩ := g1.obs.ob i o ho
  rw [hs] at hs'; cases hs'
  refine ⟨pp, vs ++ [], o.fs, ds, S, dx', fvs', rfl, hp', ⟨a3', a5'.fresh (fun q m => fresh_cut (List.mem_cons_of_mem _ m)), a6', l'⟩, g1.lsT (.refl T H1), by rw [List.append_nil]; exact d1, ?_⟩
  have hF := Fall_at h2 (fun z => by cases z) pp
  simp only [hF, roCalm]
  intro v H' S2 af dv
  exact hQ v H' S2 (g1.aft ho hs hp' a5'.len l' ad af) dv
theorem sim_ifW (hm : m ∉ clFs tg) (h : SimA K T ta W ma) (h1 : SimS K T fr tu W a) (h2 : SimS K T fr tz W b) : SimS K T fr (tIfS (tTest (tMeth (He.ga K (clNm tg)) m (spW K T tg fun p fs ds => roCalm (F p fs ds)) [] E (tVar i) ta)) tu tz) W (kIfW i tg (Fall F) ma a b) := fun ρ H0 B C D p => by
  have ea := h ρ
  unfold kIfW at p
  cases h0 : objW tg ρ[i]? with
  | none => rw [h0] at p; exact p.elim
  | some o =>
    rw [h0] at p
    simp only [kE] at p
    obtain ⟨ho, htg⟩ := objW_eq h0
    cases h3 : ma ρ with
    | bad => rw [h3] at p; exact p.elim
    | ex x =>
      subst htg
      rw [h3] at p ea
      refine tri_ex (fun σ H S g hQ => ?_) p
      obtain ⟨pp, hs, ad, dx, fvs, hp, a3, a4, a5, a6, l⟩ := g.obs.ob i o ho
      exact ⟨.ref pp, hs, pp, dx, _, rfl, hp, lookup_zip_none hm, ea H0 B C H S σ g _ hQ⟩
    | ok ds =>
      rw [h3] at p ea
      simp only at p
      cases h4 : Fall F o.fs ds with
      | bad => rw [h4] at p; exact p.elim
      | ex x fs' => rw [h4] at p; exact p.elim
      | ok r fs' =>
        rw [h4] at p
        cases r with
        | bool c =>
          cases c with
          | true => exact fun σ H ⟨S, g⟩ => go_mw hm ea ho htg h4 g _ fun v H' S2 g2 dv => by cases dv; exact ⟨true, rfl, iteT (h1 _ H0 B C D p σ H' ⟨S2, g2⟩)⟩
          | false => exact fun σ H ⟨S, g⟩ => go_mw hm ea ho htg h4 g _ fun v H' S2 g2 dv => by cases dv; exact ⟨false, rfl, iteF (h2 _ H0 B C D p σ H' ⟨S2, g2⟩)⟩
        | _ => exact p.elim
theorem sim_ownW (hm : m ∉ clFs tg) (h : SimA K T ta W ma) (h1 : SimF K T t1 W m1) (h2 : SimF K T t2 W m2) : SimS K T fr (tAsg (tIf (tTest (tMeth (He.ga K (clNm tg)) m (spW K T tg fun p fs ds => roCalm (F p fs ds)) [] E (tVar i) ta)) t1 t2) (gName j)) W (kIfW i tg (Fall F) ma (kOwn m1 j) (kOwn m2 j)) := fun ρ H0 B C D p => sim_ifW hm h (sim_own h1) (sim_own h2) ρ H0 B C D p
end
end Lw

set_option Elab.async false
set_option linter.all false
set_option maxRecDepth 100000
set_option maxHeartbeats 4000000
set_option autoImplicit false
namespace LwZ
open PySem PySem.Spec PyProof.Rows L2 Lw
open PySem.Sem (wp)
section
variable {prog : Program} {w : World} {A : Around} {E : Value → Shared → Prop} {s : Shared}
theorem star_list {l : Addr} {x : Value} {xs : List Value} {Q : List Value → Shared → Prop} (hl : s.heap.IsList l (x :: xs).toArray) (hh : A.handled = none) (hz : xs.length ≤ 1000)
    (h : ∀ (h' : Heap) (tk : Nat), (∀ b o, s.heap.get? b = some o → h'.get? b = some o) → Q [x, .ref h'.objs.size] { s with heap := h'.push { cls := .type "list", data := .seq xs.toArray }, toks := tk }) : wpAny (model prog w) A (unpackItems (.ref l) 2 (some 1)) Q E s := by
  have hlt : l ≠ s.heap.objs.size := by obtain ⟨o, ho, _⟩ := hl; exact Nat.ne_of_lt (Heap.lt_size ho)
  have hll : l < s.heap.objs.size := by obtain ⟨o, ho, _⟩ := hl; exact Heap.lt_size ho
  have hsz : (x :: xs).toArray.size = xs.length + 1 := by simp
  unfold unpackItems
  refine wpAny_bind ?_
  unfold notIterableAtAll
  refine wpAny_bind (wpAny_specialOf hl.typeIs slot_list_iter.lookup ?_)
  refine wpAny_pure ?_
  simp only [Bool.false_eq_true, if_false]
  refine wpAny_bind (wpAny_holding (wpAny_pyIter_list hl ?_))
  refine wpAny_bind (wpAny_holding (PySem.W.kun_draw hlt 1 0 _ _ ⟨_, Heap.get?_push_size _ rfl, rfl, rfl⟩ (hl.push _) (by omega) fun h₁ hit₁ hs₁ => ?_))
  have hl₁ : h₁.IsList l (x :: xs).toArray := (hl.push _).extBut hs₁.extBut hlt
  rw [Nat.zero_add] at hit₁
  have hit₁' := hit₁
  obtain ⟨oi, hoi, _⟩ := hit₁'
  have hl₁' := hl₁
  obtain ⟨ol, hol, _⟩ := hl₁'
  have e1 : List.take 1 (List.drop 0 (x :: xs).toArray.toList) = [x] := by simp
  rw [e1]
  rw [if_neg (show ¬ ([x].length < 1) by simp)]
  refine wpAny_bind (wpAny_holding (PySem.W.kun_collect (s := { s with heap := h₁ }) (T := "list_iterator") (.inr (.inr (.inl rfl))) (Walks.list (A := A.in1) hh s.heap.objs.size l hlt (x :: xs).toArray) (fun j u st => st.1.typeIs) (k := 1) (by omega) ⟨hit₁, hl₁⟩ (Heap.lt_size hoi) (Heap.lt_size hol) (fun h₂ tk hk => ?_) (by rw [hsz]; exact Nat.le_trans (by omega) (show 1001 ≤ sizeLine by decide))))
  have e2 : (x :: xs).toArray.toList.drop 1 = xs := by simp
  rw [e2]
  simp only [Nat.sub_self, Nat.not_lt_zero, if_false, Nat.sub_zero, List.take_length, List.drop_length, List.append_nil]
  refine wpAny_bind (wpAny_newList ?_)
  have he : Heap.ExtBut s.heap.objs.size s.heap h₂ := fun b o hb e => hk b o hb (hs₁.extBut b o hb (Heap.get?_push_of_some _ e))
  exact wpAny_pure (h h₂ tk fun b o e => he b o (Nat.ne_of_lt (Heap.lt_size e)) e)
end
def gStarL (t : TGs) : TG := fun v σ H Q => ∃ a x xs, v = .ref a ∧ H a = some (.lst (x :: xs)) ∧ xs.length ≤ 1000 ∧ ∀ D, H D = none → t [x, .ref D] σ (upd H D (.lst xs)) Q
theorem pg_starL {X : Cx} {es : List Expr} {k : Nat} {t : TGs} {pos : Pos} (hc : X.calm = true) (h : PGs X es t)
    (hn : (assignEach es X.env).length = 2 := by rfl) (hst : (assignEach es X.env).findIdx? (·.1) = some 1 := by rfl) : PG X (.Tuple es k pos) (gStarL t) := by
  refine ⟨fun pins s σ H v u Q I r hw => ?_⟩
  obtain ⟨a, x, xs, e1, hq, hl, hw⟩ := hw
  subst e1
  cases r
  obtain ⟨its, nn, rv, ht, hz⟩ := I.lst hq
  cases rv with
  | @cons _ v0 _ us r0 rr =>
    rw [assign_Tuple]
    refine wpAny_bind (wpAny_standAt ?_)
    unfold unpack
    rw [hn, hst]
    have hus : us.length ≤ 1000 := by rw [← vals_len rr]; exact hl
    refine wpAny_bind (wpAny_holding (star_list ⟨_, ht, rfl, _, rfl⟩ (I.ok.hd hc) hus fun h' tk hk => ?_))
    have I1 : Inv X pins σ H { s with heap := h', toks := tk } := I.kept (t' := tk) hk
    have hnone : H h'.objs.size = none := I1.hok.fresh (Nat.le_refl _)
    have I2 : Inv X pins σ (upd H h'.objs.size (.lst xs)) { s with heap := h'.push { cls := .type "list", data := .seq us.toArray }, toks := tk } :=
      I1.laid (t' := tk) (fun b o e => Heap.get?_push_of_some _ e) (Nat.le_refl _) (show ObjOk X.prog X.w _ _ _ (.lst xs) from ⟨Nat.le_trans hl (by decide), us, _, rr, Heap.get?_push_size _ rfl⟩)
    exact h.run pins _ σ _ [x, .ref h'.objs.size] [v0, .ref h'.objs.size] Q I2 (.cons r0 (.cons rfl .nil)) (hw _ hnone)
end LwZ
namespace Lw
open PySem L2 LwZ
def kStarO (i j w : Nat) : MS := fun ρ => match ownL ρ[w]? with
  | some (.tuple [a, b] :: xs) => if xs.length ≤ 1000 then .nx (((ρ.set w (.own (.lst xs))).set i (.dat a)).set j (.dat b)) else .bad
  | _ => .bad
section
variable {K : PySem.W.Frag} {T : Tb} {W : WX} {fr : Fr}
theorem sim_starO {i j w : Nat} (hi : w ≠ i) (hj : w ≠ j) : SimS K T fr (tAsg (tVar w) (gStarL (gCons (gTup K 2 (gCons (gName i) (gCons (gName j) gNil))) (gCons (gName w) gNil)))) W (kStarO i j w) := fun ρ H0 B C D p => by
  unfold kStarO at p
  split at p
  · rename_i a b xs ho
    have ho := ownL_eq ho
    split at p
    · rename_i hl
      intro σ H gd
      obtain ⟨S, g⟩ := gd
      obtain ⟨q, u, h1, h2, h3, h4, h5⟩ := g.own w _ ho
      cases h5 with
      | @lst ys _ h5 =>
        cases h5 with
        | @cons v0 vs _ _ c1 c2 =>
          refine ⟨.ref q, h1, q, v0, vs, rfl, h4, by rw [c2.len]; exact hl, fun d hd => ?_⟩
          have e : Ext T H (upd H d (.lst vs)) := .new hd
          have gm := g.mineO (i := w) e (.of hd) upd_same (.lst (c2.kp (seen_new e.kp (.of hd))))
          have c1' := c1.kp (seen_new e.kp (.of hd))
          cases c1' with
          | @tup tt zs _ hs ha =>
            cases ha with
            | @cons v1 _ _ _ a1 ha =>
              cases ha with
              | @cons v2 _ _ _ a2 ha =>
                cases ha
                have gf := (gm.set (i := i) a1).set (i := j) a2
                refine ⟨.ref tt, _, rfl, tt, _, rfl, sqt_hide hs, rfl, _, _, rfl, _, _, rfl, rfl, _, _, rfl, ?_⟩
                have es : (((σ.set i (some v1)).set j (some v2)).set w (some (.ref d))) = (((σ.set w (some (.ref d))).set i (some v1)).set j (some v2)) := by
                  rw [List.set_comm _ _ hj.symm, List.set_comm _ _ hi.symm]
                refine ⟨rfl, ?_⟩
                rw [es]
                exact p _ _ ⟨_, gf⟩
    · exact p.elim
  · exact p.elim
end
def kEq : PyData → PyData → Bool
  | .int i, .int j => decide (i = j)
  | .str a, .str b => decide (a = b)
  | _, _ => false
def getP (k : PyData) : List (PyData × PyData) → Option PyData
  | [] => none
  | p :: r => if kEq p.1 k then some p.2 else getP k r
def zDg (d k : PyData) : Option PyData := match d, keyD k with
  | .dict es, some _ => getP k es
  | _, _ => none
def zDin (k d : PyData) : Option PyData := match d, keyD k with
  | .dict es, some _ => some (.bool (getP k es).isSome)
  | _, _ => none
def zDnotin (k d : PyData) : Option PyData := match d, keyD k with
  | .dict es, some _ => some (.bool (!(getP k es).isSome))
  | _, _ => none
def kFrzD (i : Nat) (a : MS) : MS := fun ρ => match ownD ρ[i]? with
  | some es => a (ρ.set i (.dat (.dict (dctD es))))
  | none => .bad
def fVw (m : MA) : MA := fun ρ => match m (ρ.map Slot.view) with
  | .ok ds => if noLs ds then .ok ds else .bad
  | _ => .bad
section
variable {K : PySem.W.Frag} {T : Tb} {W : WX} {fr : Fr} {te td tk : TE} {md mk : ME} {ma : MA}
end
def fLr (m : ME) : MA := fun ρ => (m ρ).bind fun d => match d with
  | .int n => if Nat.ble n.natAbs 1000000 then .ok (rgD 0 n.toNat) else .bad
  | _ => .bad
theorem dt_rg {K : PySem.W.Frag} {H : Hp} : ∀ (n : Nat) (lo : Int), DtAll K H ((List.range n).map fun (i : Nat) => V.int (lo + (i : Nat))) (rgD lo n) := fun n lo => by
  unfold rgD
  generalize List.range n = L
  induction L with
  | nil => exact .nil
  | cons a L ih => exact .cons (.int _) ih
theorem sim_lr {K : PySem.W.Frag} {T : Tb} {W : WX} {te : TE} {m : ME} (h : SimE K T te W m) : SimF K T (tLstRg (tRg1 te)) W (fLr m) := fun ρ => by
  have a := h ρ
  unfold fLr
  cases h1 : m ρ with
  | bad => exact True.intro
  | ex x => rw [h1] at a; exact fun H0 B C H S σ g Q hQ => a H0 B C H S σ g _ hQ
  | ok d =>
    rw [h1] at a
    cases d with
    | int n =>
      show EzF K T _ ρ W (if Nat.ble n.natAbs 1000000 then .ok (rgD 0 n.toNat) else .bad)
      split
      · rename_i hn
        have hn := Nat.le_of_ble_eq_true hn
        exact fun H0 B C H S σ g Q hQ => a H0 B C H S σ g _ fun v H1 e1 d1 => by
          cases d1
          refine ⟨n, rfl, ⟨by omega, by omega, by omega, by omega, by omega⟩, fun q hq => ?_⟩
          refine hQ q _ _ (e1.trans (.new hq)) ((Fresh.of hq).back e1.kp) upd_same ?_
          unfold rgV
          rw [Int.sub_zero]
          exact dt_rg _ _
      · exact True.intro
    | _ => exact True.intro
def zMin : List PyData → Option PyData
  | [.int i, .int j] => some (.int (if j < i then j else i))
  | _ => none
def zMax : List PyData → Option PyData
  | [.int i, .int j] => some (.int (if j > i then j else i))
  | _ => none
theorem r_min {K : PySem.W.Frag} {T : Tb} : RCb K T (fun xs H Q => ∃ i j, xs = [.int i, .int j] ∧ Q (.int (if j < i then j else i)) H) zMin := fun xs z h => by
  unfold zMin at h
  split at h
  · rename_i i j
    cases h
    exact fun H S vs l dv Q hQ => by
      cases dv with
      | cons d1 d2 =>
        cases d1
        cases d2 with
        | cons d3 d4 => cases d3; cases d4; exact ⟨i, j, rfl, hQ _ H (.refl T H) (.int _)⟩
  · cases h
theorem zMin_i (i j : Int) : zMin [.int i, .int j] = some (.int (if j < i then j else i)) := nr rfl
theorem zMax_i (i j : Int) : zMax [.int i, .int j] = some (.int (if j > i then j else i)) := nr rfl
section
variable {ρ : List Slot}
theorem kStarO_a (i j w : Nat) : kStarO i j w ρ = (match ownL ρ[w]? with
  | some (.tuple [a, b] :: xs) => if xs.length ≤ 1000 then .nx (((ρ.set w (.own (.lst xs))).set i (.dat a)).set j (.dat b)) else .bad
  | _ => .bad) := nr rfl
theorem kFrzD_a (i : Nat) (a : MS) : kFrzD i a ρ = (match ownD ρ[i]? with
  | some es => a (ρ.set i (.dat (.dict (dctD es))))
  | none => .bad) := nr rfl
theorem fVw_a (m : MA) : fVw m ρ = (match m (ρ.map Slot.view) with | .ok ds => if noLs ds then .ok ds else .bad | _ => .bad) := nr rfl
theorem fLr_a (m : ME) : fLr m ρ = (m ρ).bind fun d => match d with
  | .int n => if Nat.ble n.natAbs 1000000 then .ok (rgD 0 n.toNat) else .bad
  | _ => .bad := nr rfl
theorem view_dct (es : List (Key × PyData)) : Slot.view (.own (.dct es)) = .dat (.dict (dctD es)) := nr rfl
theorem zDg_s (es : List (PyData × PyData)) (s : Str) : zDg (.dict es) (.str s) = getP (.str s) es := nr rfl
theorem zDg_i (es : List (PyData × PyData)) (s : Int) : zDg (.dict es) (.int s) = getP (.int s) es := nr rfl
theorem zDin_s (es : List (PyData × PyData)) (s : Str) : zDin (.str s) (.dict es) = some (.bool (getP (.str s) es).isSome) := nr rfl
theorem zDin_i (es : List (PyData × PyData)) (s : Int) : zDin (.int s) (.dict es) = some (.bool (getP (.int s) es).isSome) := nr rfl
theorem zDnotin_s (es : List (PyData × PyData)) (s : Str) : zDnotin (.str s) (.dict es) = some (.bool (!(getP (.str s) es).isSome)) := nr rfl
theorem zDnotin_i (es : List (PyData × PyData)) (s : Int) : zDnotin (.int s) (.dict es) = some (.bool (!(getP (.int s) es).isSome)) := nr rfl
theorem kRetW_a (m : ME) : kRetW m ρ = kE m (fun d => .rs d ρ) ρ := nr rfl
theorem kFdct_a (i tg k : Nat) : kFdct i tg k ρ = (match objW tg ρ[i]? with
  | some o => if k ≤ o.fs.length then .nx (ρ.set i (.obj { o with fs := putAt k (.own (.dct [])) o.fs })) else .bad
  | none => .bad) := nr rfl
theorem kFdput_a (i tg k : Nat) (mk mv : ME) : kFdput i tg k mk mv ρ = (match objW tg ρ[i]? with
  | some o => (match fdK k o with
    | some es => kE mv (fun v => kE mk (fun e => match keyD e with | some q => if es.length < 1000000 then .nx (ρ.set i (.obj { o with fs := o.fs.set k (.own (.dct (putD es q v))) })) else .bad | none => .bad) ρ) ρ
    | none => .bad)
  | none => .bad) := nr rfl
theorem xFdg_a (i tg k : Nat) (mk : ME) : xFdg i tg k mk ρ = (Rz.of (objD tg k ρ[i]?)).bind fun es => (mk ρ).bind fun e => (Rz.of (keyD e)).bind fun q => .of (getD? q es) := nr rfl
theorem xFdin_a (mk : ME) (i tg k : Nat) : xFdin mk i tg k ρ = (mk ρ).bind fun e => (Rz.of (objD tg k ρ[i]?)).bind fun es => (Rz.of (keyD e)).bind fun q => .ok (.bool (getD? q es).isSome) := nr rfl
theorem kIfW_a (i tg : Nat) (F : List Fd → List PyData → Ro) (ma : MA) (a b : MS) : kIfW i tg F ma a b ρ = (match objW tg ρ[i]? with
  | some o => kE ma (fun ds => match F o.fs ds with
    | .ok (.bool true) fs' => a (ρ.set i (.obj { o with fs := fs' }))
    | .ok (.bool false) fs' => b (ρ.set i (.obj { o with fs := fs' }))
    | _ => .bad) ρ
  | none => .bad) := nr rfl
theorem objD_rob0 (tg : Nat) (ad : Option Addr) (es : List (Key × PyData)) : objD tg 0 (some (.rob ⟨tg, ad, [.own (.dct es)]⟩)) = some es := by
  unfold objD; rw [objF_rob]; rfl
theorem objD_obj0 (tg : Nat) (ad : Option Addr) (es : List (Key × PyData)) : objD tg 0 (some (.obj ⟨tg, ad, [.own (.dct es)]⟩)) = some es := by
  unfold objD; rw [objF_obj]; rfl
theorem fdK_0 (tg : Nat) (ad : Option Addr) (es : List (Key × PyData)) : fdK 0 ⟨tg, ad, [.own (.dct es)]⟩ = some es := nr rfl
end
def zR7 := And.intro @kRetW_a (And.intro @kFdct_a (And.intro @kFdput_a (And.intro @xFdg_a (And.intro @xFdin_a (And.intro @kIfW_a (And.intro @objD_rob0 (And.intro @objD_obj0 (And.intro @fdK_0 (And.intro @kStarO_a (And.intro @kFrzD_a (And.intro @fVw_a (And.intro @fLr_a (And.intro @view_dct (And.intro @zDg_s (And.intro @zDg_i (And.intro @zDin_s (And.intro @zDin_i (And.intro @zDnotin_s (And.intro @zDnotin_i (And.intro @zMin_i @zMax_i))))))))))))))))))))
end Lw

set_option Elab.async false
set_option linter.all false
set_option maxRecDepth 100000
set_option maxHeartbeats 4000000
set_option autoImplicit false
namespace Lw
open PySem L2 LwZ
local macro_rules | `(tactic| wtm_at "len") => `(tactic| first | (simp only [List.length_cons, List.length_nil]; omega) | omega)
local macro_rules | `(tactic| wtm_at "ok") => `(tactic| first | assumption | rfl | (intro z; cases z; done) | decide | omega | exact mulOkL (by omega) | exact mulOkR (by omega) | exact fdOkS (by omega) (by omega) | exact cpowOk (by decide))
local macro_rules | `(tactic| wtm_at "rv") => `(tactic| with_reducible first
  | exact rv_add | exact rv_sub | (apply rv_mul; wtm_at "ok") | (apply rv_fd; wtm_at "ok") | (apply rv_fdB; wtm_at "ok") | (apply rv_mod; wtm_at "ok") | (apply rv_pow; wtm_at "ok")
  | exact rv_lt | exact rv_le | exact rv_gt | exact rv_ge | exact rv_isN | exact rv_notN
  | exact rv_ixP0 | exact rv_ixP1 | (apply rv_ixT; wtm_at "at") | (apply rv_ixL; wtm_at "at")
  | (apply rv_eq <;> wtm_at "shape") | (apply rv_ne <;> wtm_at "shape")
  | (apply rv_addT; wtm_at "len") | (apply RVF.rv; wtm_at "rf"))
local macro_rules | `(tactic| wtm_at "rf") => `(tactic| with_reducible first | (apply rf_addL; wtm_at "len") | (apply rf_rep <;> wtm_at "ok"))
local macro_rules | `(tactic| wtm_at "at") => `(tactic| first | assumption | with_unfolding_all rfl)
local macro_rules | `(tactic| wtm_at "shape") => `(tactic| first | assumption | exact shaped_encR _ | exact shaped_int _ | with_unfolding_all rfl)
local macro_rules | `(tactic| wtm_at "rc") => `(tactic| first
  | exact rc_lenL | exact rc_lenT | exact rc_abs | exact rc_intB | exact rc_intI | exact rc_tupleL | exact rc_tupleT | exact RCF.rc rf_listL | exact RCF.rc rf_listT | exact rc_all | exact rc_any | (apply rc_lenS; wtm_at "ok"))
local macro_rules | `(tactic| wtm_at "var") => `(tactic| with_unfolding_all rfl)
local macro_rules | `(tactic| wtm_at "ea") => `(tactic| with_reducible first | exact ea_nil | (apply ea_cons; (· wtm_at "ev"); (· wtm_at "ea")))
local macro_rules | `(tactic| wtm_at "ep") => `(tactic| with_reducible first | exact ep_none | (apply ep_some; wtm_at "ev"))
local macro_rules | `(tactic| wtm_at "ef") => `(tactic| with_reducible first
  | (apply ef_lst; (· wtm_at "ea"); (· wtm_at "len"))
  | (apply ef_sl; (· wtm_at "ev"); (· wtm_at "ep"); (· wtm_at "ep"); (· exact rf_slL))
  | (apply ef_op; (· wtm_at "ev"); (· wtm_at "ev"); (· wtm_at "rf"))
  | (apply ef_cb; (· wtm_at "ea"); (· first | exact rf_listL | exact rf_listT)))
local macro_rules | `(tactic| wtm_at "ev") => `(tactic| with_reducible first
  | exact ev_int | exact ev_bl | exact ev_str | exact ev_non
  | exact ev_cst (by assumption)
  | (apply ev_var; wtm_at "var")
  | (apply ev_op; (· wtm_at "ev"); (· wtm_at "ev"); (· wtm_at "rv"))
  | (apply ev_un; (· wtm_at "ev"); (· exact ru_neg))
  | (apply ev_ixO; (· wtm_at "var"); (· wtm_at "ev"); (· wtm_at "at"))
  | (apply ev_call; (· wtm_at "ea"); (· wtm_at "ok"))
  | (apply ev_cb; (· wtm_at "ea"); (· wtm_at "rc"))
  | (apply ev_tup; (· wtm_at "ea"); (· wtm_at "len"))
  | (apply ev_lst; (· wtm_at "ea"); (· wtm_at "len"))
  | (apply ev_sl; (· wtm_at "ev"); (· wtm_at "ep"); (· wtm_at "ep"); (· first | exact RSF.rs rf_slL | exact rs_slT))
  | (apply ev_if; (· wtm_at "et"); (· intro hb; wtm_at "ev"); (· intro hb; wtm_at "ev"))
  | (apply ev_notV; wtm_at "ev")
  | (apply ev_andV; (· wtm_at "ev"); (· intro hb; wtm_at "ev")) | (apply ev_orV; (· wtm_at "ev"); (· intro hb; wtm_at "ev"))
  | (apply ev_view; (· wtm_at "evv"); (· with_unfolding_all rfl)))
local macro_rules | `(tactic| wtm_at "evv") => `(tactic| (simp only [List.map_cons, List.map_nil, Slot.view]; wtm_at "ev2"))
local macro_rules | `(tactic| wtm_at "ev2") => `(tactic| with_reducible first
  | (apply ev_op; (· wtm_at "ev"); (· wtm_at "ev"); (· wtm_at "rv"))
  | (apply ev_cb; (· wtm_at "ea"); (· wtm_at "rc")))
local macro_rules | `(tactic| wtm_at "et") => `(tactic| with_reducible first
  | (apply et_test; wtm_at "ev") | (apply et_B; wtm_at "ev") | (apply et_not; wtm_at "et")
  | (apply et_and; (· wtm_at "et"); (· intro hb; wtm_at "et")) | (apply et_or; (· wtm_at "et"); (· intro hb; wtm_at "et")))
local macro_rules | `(tactic| wtm_at "le") => `(tactic| with_reducible (repeat' first | exact Le.nil | exact Le.refl _ | refine Le.eq ?_ | refine Le.no ?_))
local macro_rules | `(tactic| wtm_at "cx") => `(tactic| try dsimp only [cxOf, Cx.nox, Cx.wish, Cx.blk])
local macro_rules | `(tactic| wtm_at "nf") => `(tactic| (try dsimp only [List.set]))
local macro_rules | `(tactic| wtm_at "asg") => `(tactic| (refine q_asg (by wtm_at "ev") ?_; wtm_at "nf"))
local macro_rules | `(tactic| wtm_at "asg1") => `(tactic| (refine s_asg (by wtm_at "ev") ?_; wtm_at "nf"))
local macro_rules | `(tactic| wtm_at "own") => `(tactic| (refine q_own (by wtm_at "ef") ?_; wtm_at "nf"))
local macro_rules | `(tactic| wtm_at "par") => `(tactic| (refine q_par (by wtm_at "ea") ?_; wtm_at "nf"))
local macro_rules | `(tactic| wtm_at "par1") => `(tactic| (refine s_par (by wtm_at "ea") ?_; wtm_at "nf"))
local macro_rules | `(tactic| wtm_at "leU") => `(tactic| (repeat' first | exact Le.nil | refine Le.eq ?_ | refine Le.no ?_))
local macro_rules | `(tactic| wtm_at "try") => `(tactic| (refine s_seq (fun σ H g => ?_); (try dsimp only); refine tri_app σ H g ?_; clear g))
local macro_rules | `(tactic| wtm_at "z") => `(tactic| simp only [fnD_a, xOrL_a, fRev_a, fnO_a, fnW_a, xFd_a, kFset_a, kFown_a, kFapp_a, kFput_a, kFfrz_a, xMr_a, fMr_a, kMw_a, kMk_a, objF_rob, objF_obj, objW_obj, slotsM, kSeq_a, kNx_a, kE_a, kAsg_a, kOwn_a, kDrop_a, kRet_a, kRetP_a, kRetF_a, kRetO_a, kRet2_a, fP_a, pairL_a, kRetN_a, kIf_a, kBk_a, kCt_a, kTg_a, kPar_a, kApp_a, kPut_a, kFrz_a, kFor_a, kRaise_a, kDict_a, kDput_a, kClr_a, kStar_a, kOwnD_a, fDz_a, fnDD_a, kIns_a, kExt_a, kApp3_a, xIsi_a, kNst_a, fLc2_a, fPk2_a, fPk3_a, yVw_a, xVw_a, flatT_r, view_no, view_dat, view_own, view_scr, xC_a, xV_a, xOp_a, fOp_a, xUn_a, xNot_a, xAnd_a, xOr_a, xIf_a, xChain_a, zNil_a, zCons_a, xTup_a, fLst_a, xL_a, xCB_a, fCB_a, xF_a, xFc_a, fF_a, fFc_a, zApp_a, zKw_a, oNo_a, oAt_a, fSl_a, xSl_a, yV_a, yAnd_a, yOr_a, yNot_a, yYes_a, xIxO_a, xLenO_a, xDg_a, xDin_a, xDnotin_a, iS_a, iA_a, fLc_a, wipeS_nil, wipeS_cons, gN_a, gs0_a, gsC_a, gT_a, gU_a, ownL_a, ownD_a, asB_a, asI_a, asL_a, seqOf_l, seqOf_t, keyD_i, keyD_s, bind_ex, bind_bad, of_none, Rz.bind_ok, Rz.of_some, Rz.calm_ok, Option.bind_some, Option.bind_none, zAddV_i, zSub_i, zLt_i, zLe_i, zGt_i, zGe_i, zEq_i, zNe_i, zEq_r, zNe_r, zIx_r0, zIx_r1, zIx_t, zIx_l, zNeg_i, zLen_l, zLen_t, zAbs_i, zInt_b, zInt_i, zListV_l, zListV_t, zList_l, zList_t, zTuple_l, zTuple_t, zAll_l, zAny_l, zSlV_l, zSlV_t, zIsN_a, zNotN_a, slots, sel, Arg.get, List.filterMap_cons, List.filterMap_nil, List.length_cons, List.length_nil, List.map_cons, List.map_nil, List.cons_append, List.nil_append, List.append_nil, List.getElem?_cons_succ, List.getElem?_cons_zero, List.getElem?_nil, List.set_cons_zero, List.set_cons_succ, List.set_nil, List.replicate_succ, List.replicate_zero, if_true, Nat.sub_self, Nat.reduceAdd, Nat.reduceSub, Nat.reduceLeDiff, Nat.reduceEqDiff, Nat.reduceLT, Int.reduceLT, Int.reduceLE, Int.reduceNeg, Int.reduceEq, Nat.zero_add, and_self, if_false, Bool.not_true, Bool.not_false, Bool.false_eq_true, Nat.zero_le, decide_true, decide_false, reduceCtorEq])
def top (i : Nat) : Stmt := PySem.Challenge.pw_lullworks_k32_whole_alike_for_ever_or_pa.main.body.getD i (.Pass ⟨0, 0, 0, 0⟩)
def ec_LullError : ErC := ⟨"LullError", [], veB, "ValueError.__new__", false⟩
def ec_BadPart : ErC := ⟨"BadPart", ["LullError"], veB, "ValueError.__new__", false⟩
def ec_BadHand : ErC := ⟨"BadHand", ["LullError"], veB, "ValueError.__new__", false⟩
def ec_BadRows : ErC := ⟨"BadRows", ["LullError"], veB, "ValueError.__new__", false⟩
def ec_BadShares : ErC := ⟨"BadShares", ["LullError"], veB, "ValueError.__new__", false⟩
def ec_BadFilling : ErC := ⟨"BadFilling", ["LullError"], veB, "ValueError.__new__", false⟩
def ec_Unlike : ErC := ⟨"Unlike", ["LullError"], veB, "ValueError.__new__", false⟩
def ec_NoOver : ErC := ⟨"NoOver", [], zeB, "ZeroDivisionError.__new__", false⟩
def erL : List ErC := [ec_LullError, ec_BadPart, ec_BadHand, ec_BadRows, ec_BadShares, ec_BadFilling, ec_Unlike, ec_NoOver]
theorem erf_BadPart {K : PySem.W.Frag} {mg : Str → Option Value} (Er : ErrT K mg erL) : ErF K mg erL ec_BadPart := Er _ (List.mem_of_getElem? (i := 1) rfl)
theorem exf_BadPart {K : PySem.W.Frag} {mg : Str → Option Value} (Er : ErrT K mg erL) : ExF K mg "BadPart" veB "ValueError.__new__" := (erf_BadPart Er).f rfl
theorem erf_BadHand {K : PySem.W.Frag} {mg : Str → Option Value} (Er : ErrT K mg erL) : ErF K mg erL ec_BadHand := Er _ (List.mem_of_getElem? (i := 2) rfl)
theorem exf_BadHand {K : PySem.W.Frag} {mg : Str → Option Value} (Er : ErrT K mg erL) : ExF K mg "BadHand" veB "ValueError.__new__" := (erf_BadHand Er).f rfl
theorem erf_BadRows {K : PySem.W.Frag} {mg : Str → Option Value} (Er : ErrT K mg erL) : ErF K mg erL ec_BadRows := Er _ (List.mem_of_getElem? (i := 3) rfl)
theorem exf_BadRows {K : PySem.W.Frag} {mg : Str → Option Value} (Er : ErrT K mg erL) : ExF K mg "BadRows" veB "ValueError.__new__" := (erf_BadRows Er).f rfl
theorem erf_BadShares {K : PySem.W.Frag} {mg : Str → Option Value} (Er : ErrT K mg erL) : ErF K mg erL ec_BadShares := Er _ (List.mem_of_getElem? (i := 4) rfl)
theorem exf_BadShares {K : PySem.W.Frag} {mg : Str → Option Value} (Er : ErrT K mg erL) : ExF K mg "BadShares" veB "ValueError.__new__" := (erf_BadShares Er).f rfl
theorem erf_BadFilling {K : PySem.W.Frag} {mg : Str → Option Value} (Er : ErrT K mg erL) : ErF K mg erL ec_BadFilling := Er _ (List.mem_of_getElem? (i := 5) rfl)
theorem exf_BadFilling {K : PySem.W.Frag} {mg : Str → Option Value} (Er : ErrT K mg erL) : ExF K mg "BadFilling" veB "ValueError.__new__" := (erf_BadFilling Er).f rfl
theorem erf_Unlike {K : PySem.W.Frag} {mg : Str → Option Value} (Er : ErrT K mg erL) : ErF K mg erL ec_Unlike := Er _ (List.mem_of_getElem? (i := 6) rfl)
theorem exf_Unlike {K : PySem.W.Frag} {mg : Str → Option Value} (Er : ErrT K mg erL) : ExF K mg "Unlike" veB "ValueError.__new__" := (erf_Unlike Er).f rfl
theorem erf_NoOver {K : PySem.W.Frag} {mg : Str → Option Value} (Er : ErrT K mg erL) : ErF K mg erL ec_NoOver := Er _ (List.mem_of_getElem? (i := 7) rfl)
theorem exf_NoOver {K : PySem.W.Frag} {mg : Str → Option Value} (Er : ErrT K mg erL) : ExF K mg "NoOver" zeB "ZeroDivisionError.__new__" := (erf_NoOver Er).f rfl
abbrev s_common : Stmt := top 11
theorem sc_common : FnScope ["one", "other"] ["one", "other"] (defScope s_common) := ⟨rfl, rfl, rfl, by decide +kernel, rfl, by decide +kernel, by decide +kernel⟩
abbrev s_part : Stmt := top 12
theorem sc_part : FnScope ["upper", "lower", "both"] ["upper", "lower"] (defScope s_part) := ⟨rfl, rfl, rfl, by decide +kernel, rfl, by decide +kernel, by decide +kernel⟩
abbrev s_plus : Stmt := top 13
theorem sc_plus : FnScope ["one", "other"] ["one", "other"] (defScope s_plus) := ⟨rfl, rfl, rfl, by decide +kernel, rfl, by decide +kernel, by decide +kernel⟩
abbrev s_less : Stmt := top 14
theorem sc_less : FnScope ["one", "other"] ["one", "other"] (defScope s_less) := ⟨rfl, rfl, rfl, by decide +kernel, rfl, by decide +kernel, by decide +kernel⟩
abbrev s_times : Stmt := top 15
theorem sc_times : FnScope ["one", "other"] ["one", "other"] (defScope s_times) := ⟨rfl, rfl, rfl, by decide +kernel, rfl, by decide +kernel, by decide +kernel⟩
abbrev s_over : Stmt := top 16
theorem sc_over : FnScope ["one", "other"] ["one", "other"] (defScope s_over) := ⟨rfl, rfl, rfl, by decide +kernel, rfl, by decide +kernel, by decide +kernel⟩
abbrev s_is_share : Stmt := top 23
theorem sc_is_share : FnScope ["one"] ["one"] (defScope s_is_share) := ⟨rfl, rfl, rfl, by decide +kernel, rfl, by decide +kernel, by decide +kernel⟩
abbrev s_need_hand : Stmt := top 24
theorem sc_need_hand : FnScope ["hand"] ["hand"] (defScope s_need_hand) := ⟨rfl, rfl, rfl, by decide +kernel, rfl, by decide +kernel, by decide +kernel⟩
abbrev s_look : Stmt := top 25
theorem sc_look : FnScope ["menus", "hand", "rows", "row", "share"] ["menus"] (defScope s_look) := ⟨rfl, rfl, rfl, by decide +kernel, rfl, by decide +kernel, by decide +kernel⟩
abbrev s_all_plans : Stmt := top 26
theorem sc_all_plans : FnScope ["menus", "stores", "found", "store", "plan", "at"] ["menus", "stores"] (defScope s_all_plans) := ⟨rfl, rfl, rfl, by decide +kernel, rfl, by decide +kernel, by decide +kernel⟩
abbrev s_taken : Stmt := top 27
theorem sc_taken : FnScope ["menus", "choice", "store", "at"] ["menus", "choice"] (defScope s_taken) := ⟨rfl, rfl, rfl, by decide +kernel, rfl, by decide +kernel, by decide +kernel⟩
abbrev s_need_filling : Stmt := top 28
theorem sc_need_filling : FnScope ["many", "filling", "one"] ["many", "filling"] (defScope s_need_filling) := ⟨rfl, rfl, rfl, by decide +kernel, rfl, by decide +kernel, by decide +kernel⟩
abbrev s_row_by : Stmt := top 30
theorem sc_row_by : FnScope ["row", "table", "found", "one", "shares", "had", "share"] ["row", "table"] (defScope s_row_by) := ⟨rfl, rfl, rfl, by decide +kernel, rfl, by decide +kernel, by decide +kernel⟩
abbrev s_need_both : Stmt := top 32
theorem sc_need_both : FnScope ["one", "other", "counts", "shapes", "menus", "hand", "rows"] ["one", "other", "counts"] (defScope s_need_both) := ⟨rfl, rfl, rfl, by decide +kernel, rfl, by decide +kernel, by decide +kernel⟩
abbrev s_alike : Stmt := top 33
theorem sc_alike : FnScope ["one", "other", "counts", "span", "basis", "waiting", "row", "choices", "choice", "here", "there", "store", "at"] ["one", "other", "counts"] (defScope s_alike) := ⟨rfl, rfl, rfl, by decide +kernel, rfl, by decide +kernel, by decide +kernel⟩
abbrev s__law_part : Stmt := top 35
theorem sc__law_part : FnScope ["_law_up", "_law_down", "_law_this", "_law_that", "_law_side"] ["_law_up", "_law_down"] (defScope s__law_part) := ⟨rfl, rfl, rfl, by decide +kernel, rfl, by decide +kernel, by decide +kernel⟩
abbrev s__law_plus : Stmt := top 36
theorem sc__law_plus : FnScope ["_law_this", "_law_that"] ["_law_this", "_law_that"] (defScope s__law_plus) := ⟨rfl, rfl, rfl, by decide +kernel, rfl, by decide +kernel, by decide +kernel⟩
abbrev s__law_times : Stmt := top 37
theorem sc__law_times : FnScope ["_law_this", "_law_that"] ["_law_this", "_law_that"] (defScope s__law_times) := ⟨rfl, rfl, rfl, by decide +kernel, rfl, by decide +kernel, by decide +kernel⟩
abbrev s__law_sum : Stmt := top 38
theorem sc__law_sum : FnScope ["_law_line", "_law_some", "_law_found", "_law_this", "_law_that"] ["_law_line", "_law_some"] (defScope s__law_sum) := ⟨rfl, rfl, rfl, by decide +kernel, rfl, by decide +kernel, by decide +kernel⟩
abbrev s__law_told_sums : Stmt := top 39
theorem sc__law_told_sums : FnScope ["_law_books", "_law_counts_now", "_law_ways", "_law_store", "_law_found", "_law_book", "_law_here", "_law_way", "_law_at"] ["_law_books", "_law_counts_now", "_law_ways", "_law_store"] (defScope s__law_told_sums) := ⟨rfl, rfl, rfl, by decide +kernel, rfl, by decide +kernel, by decide +kernel⟩
abbrev s__law_numbers : Stmt := top 40
theorem sc__law_numbers : FnScope ["_law_script", "_law_many", "_law_drawn", "_law_seed", "_law_cell", "_law_rest", "_law_k"] ["_law_script", "_law_many"] (defScope s__law_numbers) := ⟨rfl, rfl, rfl, by decide +kernel, rfl, by decide +kernel, by decide +kernel⟩
abbrev s__law_share : Stmt := top 41
theorem sc__law_share : FnScope ["_law_number"] ["_law_number"] (defScope s__law_share) := ⟨rfl, rfl, rfl, by decide +kernel, rfl, by decide +kernel, by decide +kernel⟩
abbrev s__law_menus : Stmt := top 42
theorem sc__law_menus : FnScope ["_law_d", "_law_upto", "_law_many", "_law_thin", "_law_found", "_law_k", "_law_own", "_law_lines", "_law_r", "_law_some", "_law_by", "_law_this", "_law_at", "_law_that"] ["_law_d", "_law_upto"] (defScope s__law_menus) := ⟨rfl, rfl, rfl, by decide +kernel, rfl, by decide +kernel, by decide +kernel⟩
abbrev s__law_lone_ones : Stmt := top 43
theorem sc__law_lone_ones : FnScope ["_law_d", "_law_full", "_law_k", "_law_whose", "_law_lines"] ["_law_d"] (defScope s__law_lone_ones) := ⟨rfl, rfl, rfl, by decide +kernel, rfl, by decide +kernel, by decide +kernel⟩
abbrev s__law_beside : Stmt := top 44
theorem sc__law_beside : FnScope ["_law_d", "_law_book", "_law_at", "_law_whose", "_law_lines", "_law_spot", "_law_to", "_law_line"] ["_law_d", "_law_book"] (defScope s__law_beside) := ⟨rfl, rfl, rfl, by decide +kernel, rfl, by decide +kernel, by decide +kernel⟩
abbrev s__law_filling : Stmt := top 45
theorem sc__law_filling : FnScope ["_law_d", "_law_many", "_law_found", "_law_k"] ["_law_d", "_law_many"] (defScope s__law_filling) := ⟨rfl, rfl, rfl, by decide +kernel, rfl, by decide +kernel, by decide +kernel⟩
abbrev s__law_choices : Stmt := top 46
theorem sc__law_choices : FnScope ["_law_book", "_law_found", "_law_whose", "_law_lines", "_law_later", "_law_way", "_law_at"] ["_law_book"] (defScope s__law_choices) := ⟨rfl, rfl, rfl, by decide +kernel, rfl, by decide +kernel, by decide +kernel⟩
abbrev s__law_untold_alike : Stmt := top 47
theorem sc__law_untold_alike : FnScope ["_law_book", "_law_counts_now", "_law_shares_now", "_law_lone", "_law_whose", "_law_lines", "_law_two_books", "_law_last", "_law_this", "_law_line"] ["_law_book", "_law_counts_now", "_law_shares_now"] (defScope s__law_untold_alike) := ⟨rfl, rfl, rfl, by decide +kernel, rfl, by decide +kernel, by decide +kernel⟩
abbrev s__law_none_shorter : Stmt := top 48
theorem sc__law_none_shorter : FnScope ["_law_books", "_law_counts_now", "_law_many", "_law_all_ways", "_law_shorter", "_law_turn", "_law_later", "_law_ways", "_law_store", "_law_sums", "_law_way"] ["_law_books", "_law_counts_now", "_law_many", "_law_all_ways"] (defScope s__law_none_shorter) := ⟨rfl, rfl, rfl, by decide +kernel, rfl, by decide +kernel, by decide +kernel⟩
abbrev s_law : Stmt := top 49
theorem sc_law : FnScope ["_law_script", "_law_numbers_here", "_law_book", "_law_beside_here", "_law_counts_now", "_law_found", "_law_back", "_law_all_ways", "_law_k", "_law_ways", "_law_sums", "_law_at", "_law_this"] ["_law_script"] (defScope s_law) := ⟨rfl, rfl, rfl, by decide +kernel, rfl, by decide +kernel, by decide +kernel⟩
abbrev s_Span___init__ : Stmt := inClass (top 31) 0
theorem sc_Span___init__ : FnScope ["self"] ["self"] (defScope s_Span___init__) := ⟨rfl, rfl, rfl, by decide +kernel, rfl, by decide +kernel, by decide +kernel⟩
abbrev s_Span_rest : Stmt := inClass (top 31) 1
theorem sc_Span_rest : FnScope ["self", "row", "found", "at", "many", "one", "lead"] ["self", "row"] (defScope s_Span_rest) := ⟨rfl, rfl, rfl, by decide +kernel, rfl, by decide +kernel, by decide +kernel⟩
abbrev s_Span_has : Stmt := inClass (top 31) 2
abbrev s_Span_put : Stmt := inClass (top 31) 3
theorem sc_Span_put : FnScope ["self", "row", "found", "at", "one", "other"] ["self", "row"] (defScope s_Span_put) := ⟨rfl, rfl, rfl, by decide +kernel, rfl, by decide +kernel, by decide +kernel⟩
def dk (x : Str) (st : Stmt) (dfl : List He.Dv) (kwd : List (Str × He.Dv)) : He.DefD := ⟨(x, none), x, x, defArgs st, defBody st, defScope st, dfl, kwd⟩
def dm_Span___init__ : He.DefD := ⟨("Span", some "__init__"), "__init__", "Span.__init__", defArgs s_Span___init__, defBody s_Span___init__, defScope s_Span___init__, [], []⟩
def dm_Span_rest : He.DefD := ⟨("Span", some "rest"), "rest", "Span.rest", defArgs s_Span_rest, defBody s_Span_rest, defScope s_Span_rest, [], []⟩
def dm_Span_has : He.DefD := ⟨("Span", some "has"), "has", "Span.has", defArgs s_Span_has, defBody s_Span_has, defScope s_Span_has, [], []⟩
def dm_Span_put : He.DefD := ⟨("Span", some "put"), "put", "Span.put", defArgs s_Span_put, defBody s_Span_put, defScope s_Span_put, [], []⟩
def fnL : List He.DefD := [dk "common" s_common [] [], dk "part" s_part [.int 1] [], dk "plus" s_plus [] [], dk "less" s_less [] [], dk "times" s_times [] [], dk "over" s_over [] [], dk "is_share" s_is_share [] [], dk "need_hand" s_need_hand [] [], dk "look" s_look [] [], dk "all_plans" s_all_plans [] [], dk "taken" s_taken [] [], dk "need_filling" s_need_filling [] [], dk "row_by" s_row_by [] [], dk "need_both" s_need_both [] [], dk "alike" s_alike [] [], dk "_law_part" s__law_part [] [], dk "_law_plus" s__law_plus [] [], dk "_law_times" s__law_times [] [], dk "_law_sum" s__law_sum [] [], dk "_law_told_sums" s__law_told_sums [] [], dk "_law_numbers" s__law_numbers [] [], dk "_law_share" s__law_share [] [], dk "_law_menus" s__law_menus [] [], dk "_law_lone_ones" s__law_lone_ones [] [], dk "_law_beside" s__law_beside [] [], dk "_law_filling" s__law_filling [] [], dk "_law_choices" s__law_choices [] [], dk "_law_untold_alike" s__law_untold_alike [] [], dk "_law_none_shorter" s__law_none_shorter [] [], dk "law" s_law [] [], dm_Span___init__, dm_Span_rest, dm_Span_has, dm_Span_put]
def ckL (K : PySem.W.Frag) : Bool := seerB K && He.tupB K "HANDS" [.str "we", .str "weather"] && He.tupB K "NOUGHT" [.int 0, .int 1] && erB erL K
def faL : List He.Fa := [.glo "common", .glo "part", .glo "plus", .glo "less", .glo "times", .glo "over", .glo "is_share", .glo "need_hand", .glo "look", .glo "all_plans", .glo "taken", .glo "need_filling", .glo "row_by", .glo "need_both", .glo "alike", .glo "_law_part", .glo "_law_plus", .glo "_law_times", .glo "_law_sum", .glo "_law_told_sums", .glo "_law_numbers", .glo "_law_share", .glo "_law_menus", .glo "_law_lone_ones", .glo "_law_beside", .glo "_law_filling", .glo "_law_choices", .glo "_law_untold_alike", .glo "_law_none_shorter", .glo "law", .free "len", .free "range", .free "abs", .free "int", .free "list", .free "tuple", .free "all", .free "any", .free "str", .free "sum", .free "max", .free "min", .free "zip", .free "enumerate", .free "isinstance", .free "sorted", .free "reversed", .free "bool", .free "ValueError", .free "ZeroDivisionError", .free "dict", .glo "HANDS", .int "MOST_LOWER" 20, .int "MOST_ROWS" 3, .int "MOST_STORES" 5, .int "MOST_UPPER" 999, .glo "NOUGHT", .glo "Span", .cls "Span", .mkr "Span", .noat "Span" "leads", .meth "Span" "rest", .meth "Span" "has", .meth "Span" "put"]
abbrev rowE : PySem.W.OpenRow := PySem.W.OpenLaw.row PySem.Challenge.rw_lullworks_k32_whole_alike_for_ever_or_pa
def clL : List Str := ["Span"]
abbrev hkL : PySem.W.Hook := hookU clL faL fnL ckL
def obL (s : PySem.W.SharedT) : AlL := obsU clL faL fnL ckL (HandSHeadRun.getT s)
theorem obL_eq (s : PySem.W.SharedT) : obL s = hkL.obs s.abs := obsU_eq (HandSHeadRun.getT_eq s)
def looseL : List Str := (["LullError", "BadPart", "BadHand", "BadRows", "BadShares", "BadFilling", "Unlike", "NoOver", "Span", "NOUGHT", "HANDS", "MOST_STORES"] : List Str) ++ (["MOST_ROWS", "MOST_UPPER", "MOST_LOWER", "common", "part", "plus", "less", "times", "over", "is_share", "need_hand", "look"] : List Str) ++ (["all_plans", "taken", "need_filling", "row_by", "need_both", "alike", "_law_part", "_law_plus", "_law_times", "_law_sum", "_law_told_sums", "_law_numbers"] : List Str) ++ (["_law_share", "_law_menus", "_law_lone_ones", "_law_beside", "_law_filling", "_law_choices", "_law_untold_alike", "_law_none_shorter"] : List Str)
theorem runL (w : World) : HandSHeadRun.RunEq rowE (PySem.W.view rowE.prog [49]) hkL obL 14000 looseL w := by
  intro os
  kernel_rfl

noncomputable def b1_common : MS := (kPar (zCons (xV 1) (zCons (xOp zMod (xV 0) (xV 1)) zNil)) 0 1)
theorem b1_common_a (ρ : List Slot) : b1_common ρ = (kPar (zCons (xV 1) (zCons (xOp zMod (xV 0) (xV 1)) zNil)) 0 1) ρ := nr rfl
noncomputable def m_common : MS := (kSeq (kWhile (yV (xOp zGt (xV 1) (xC (.int 0)))) [] b1_common)
  (kRet (xV 0)))
noncomputable def d_common : List PyData → Rz PyData := fnD 2 2 m_common
theorem ok_common {P : Program} {w : World} {K : PySem.W.Frag} {T : Tb} {mg : Str → Option Value} {base : Heap} {f : Addr} {fd : FuncData} {dvs : List V} {kws : List (Str × V)} (F : FnQ K "common" s_common dvs kws f fd) (Z : Blt mg) :
    FnOk P w K mg base (L2N.CX P w) 41 f fd ["one", "other"] (spZ K T .no d_common) := by
  refine fnZ F sc_common rfl rfl (fun cdv A outer s H E hr => ?_)
  have nd := sc_common.nd
  refine ⟨_, (pss_cons (ps_while (passes_of rfl) (pt_cmpR op_gt (pv 1) pe_int (nomark _)) (pss_one (ps_par (i := 0) (j := 1) (by rfl) nd rfl rfl (by decide) rfl rfl (pa_cons (pv 1) (pa_cons (pe_op op_modN (pv 0) (pv 1)) pa_nil)) (by rfl))))
      (pss_one (ps_ret (pv 0)))), ?_⟩
  exact (sim_seq (sim_while (sim_yT (sim_op r_gt sim_V sim_int)) (sim_par (sim_cons sim_V (sim_cons (sim_op r_mod sim_V sim_V) sim_nil))))
    (sim_ret sim_V))

noncomputable def m_part : MS := (kSeq (kIf (yV (xOp zEq (xV 1) (xC (.int 0)))) (kRaise "BadPart") kNx)
  (kSeq (kIf (yV (xOp zLt (xV 1) (xC (.int 0)))) (kPar (zCons (xOp zSub (xC (.int 0)) (xV 0)) (zCons (xOp zSub (xC (.int 0)) (xV 1)) zNil)) 0 1) kNx)
  (kSeq (kAsg (xF d_common (zCons (xCB zAbs (zCons (xV 0) zNil)) (zCons (xV 1) zNil))) 2)
  (kRet (xTup (zCons (xOp zFdB (xV 0) (xV 2)) (zCons (xOp zFdB (xV 1) (xV 2)) zNil)))))))
noncomputable def d_part : List PyData → Rz PyData := fnD 2 3 m_part
theorem ok_part {P : Program} {w : World} {K : PySem.W.Frag} {T : Tb} {mg : Str → Option Value} {base : Heap} {f : Addr} {fd : FuncData} {dvs : List V} {kws : List (Str × V)} (F : FnQ K "part" s_part dvs kws f fd) (Z : Blt mg) (Se : Seer P K) (Er : ErrT K mg erL)
    (c_common : CalX P w K mg base 41 "common" ["one", "other"] [] (spZ K T .no d_common)) :
    FnOk P w K mg base (L2N.CX P w) 42 f fd ["upper", "lower"] (spZ K T .no d_part) := by
  refine fnZ F sc_part rfl rfl (fun cdv A outer s H E hr => ?_)
  have nd := sc_part.nd
  refine ⟨_, (pss_cons (ps_if (pt_cmpR (op_eqK K hr.units) (pv 1) pe_int (nomark _)) (pss_one (ps_raiseX rfl (L2N.takes_of rfl rfl rfl rfl) PySem.F.excBase_ValueError (exf_BadPart Er) (by rfl))) pss_nil)
      (pss_cons (ps_if (pt_cmpR op_lt (pv 1) pe_int (nomark _)) (pss_one (ps_par (i := 0) (j := 1) (by rfl) nd rfl rfl (by decide) rfl rfl (pa_cons (pe_op op_sub pe_int (pv 0)) (pa_cons (pe_op op_sub pe_int (pv 1)) pa_nil)) (by rfl))) pss_nil)
      (pss_cons (ps_set (i := 2) nd rfl (Or.inl rfl) (pe_callX c_common (L2N.takes_of rfl rfl rfl rfl) hr rfl (pa_cons (pe_callB call_abs (by rfl) Z.abs (by decide +kernel) (pa_cons (pv 0) pa_nil)) (pa_cons (pv 1) pa_nil))))
      (pss_one (ps_ret (pe_tup (pa_cons (pe_op (op_fdB Se hr (by decide) rfl rfl rfl rfl rfl) (pv 0) (pv 2)) (pa_cons (pe_op (op_fdB Se hr (by decide) rfl rfl rfl rfl rfl) (pv 1) (pv 2)) pa_nil)))))))), ?_⟩
  exact (sim_seq (sim_kIf (sim_yT (sim_op r_eq sim_V sim_int)) sim_raise sim_kNx)
    (sim_seq (sim_kIf (sim_yT (sim_op r_lt sim_V sim_int)) (sim_par (sim_cons (sim_op r_sub sim_int sim_V) (sim_cons (sim_op r_sub sim_int sim_V) sim_nil))) sim_kNx)
    (sim_seq (sim_asg (sim_call0 (sim_cons (sim_cb r_abs (sim_cons sim_V sim_nil)) (sim_cons sim_V sim_nil))))
    (sim_ret (sim_tup (sim_cons (sim_op r_fdB sim_V sim_V) (sim_cons (sim_op r_fdB sim_V sim_V) sim_nil)))))))

noncomputable def m_plus : MS := (kRet (xF d_part (zCons (xOp zAddV (xOp zMulV (xOp zIx (xV 0) (xC (.int 0))) (xOp zIx (xV 1) (xC (.int 1)))) (xOp zMulV (xOp zIx (xV 1) (xC (.int 0))) (xOp zIx (xV 0) (xC (.int 1))))) (zCons (xOp zMulV (xOp zIx (xV 0) (xC (.int 1))) (xOp zIx (xV 1) (xC (.int 1)))) zNil))))
noncomputable def d_plus : List PyData → Rz PyData := fnD 2 2 m_plus
theorem ok_plus {P : Program} {w : World} {K : PySem.W.Frag} {T : Tb} {mg : Str → Option Value} {base : Heap} {f : Addr} {fd : FuncData} {dvs : List V} {kws : List (Str × V)} (F : FnQ K "plus" s_plus dvs kws f fd) (Z : Blt mg)
    (c_part : CalX P w K mg base 42 "part" ["upper", "lower"] [] (spZ K T .no d_part)) :
    FnOk P w K mg base (L2N.CX P w) 43 f fd ["one", "other"] (spZ K T .no d_plus) := by
  refine fnZ F sc_plus rfl rfl (fun cdv A outer s H E hr => ?_)
  have nd := sc_plus.nd
  refine ⟨_, (pss_one (ps_ret (pe_callX c_part (L2N.takes_of rfl rfl rfl rfl) hr rfl (pa_cons (pe_op (op_addK K) (pe_op op_mulA (pe_ix (ix_seqK K) (pv 0) pe_int (fun _ _ => rfl)) (pe_ix (ix_seqK K) (pv 1) pe_int (fun _ _ => rfl))) (pe_op op_mulA (pe_ix (ix_seqK K) (pv 1) pe_int (fun _ _ => rfl)) (pe_ix (ix_seqK K) (pv 0) pe_int (fun _ _ => rfl)))) (pa_cons (pe_op op_mulA (pe_ix (ix_seqK K) (pv 0) pe_int (fun _ _ => rfl)) (pe_ix (ix_seqK K) (pv 1) pe_int (fun _ _ => rfl))) pa_nil))))), ?_⟩
  exact (sim_ret (sim_call0 (sim_cons (sim_op r_addV (sim_op r_mulV (sim_op r_ix sim_V sim_int) (sim_op r_ix sim_V sim_int)) (sim_op r_mulV (sim_op r_ix sim_V sim_int) (sim_op r_ix sim_V sim_int))) (sim_cons (sim_op r_mulV (sim_op r_ix sim_V sim_int) (sim_op r_ix sim_V sim_int)) sim_nil))))

noncomputable def m_less : MS := (kRet (xF d_part (zCons (xOp zSub (xOp zMulV (xOp zIx (xV 0) (xC (.int 0))) (xOp zIx (xV 1) (xC (.int 1)))) (xOp zMulV (xOp zIx (xV 1) (xC (.int 0))) (xOp zIx (xV 0) (xC (.int 1))))) (zCons (xOp zMulV (xOp zIx (xV 0) (xC (.int 1))) (xOp zIx (xV 1) (xC (.int 1)))) zNil))))
noncomputable def d_less : List PyData → Rz PyData := fnD 2 2 m_less
theorem ok_less {P : Program} {w : World} {K : PySem.W.Frag} {T : Tb} {mg : Str → Option Value} {base : Heap} {f : Addr} {fd : FuncData} {dvs : List V} {kws : List (Str × V)} (F : FnQ K "less" s_less dvs kws f fd) (Z : Blt mg)
    (c_part : CalX P w K mg base 42 "part" ["upper", "lower"] [] (spZ K T .no d_part)) :
    FnOk P w K mg base (L2N.CX P w) 43 f fd ["one", "other"] (spZ K T .no d_less) := by
  refine fnZ F sc_less rfl rfl (fun cdv A outer s H E hr => ?_)
  have nd := sc_less.nd
  refine ⟨_, (pss_one (ps_ret (pe_callX c_part (L2N.takes_of rfl rfl rfl rfl) hr rfl (pa_cons (pe_op op_sub (pe_op op_mulA (pe_ix (ix_seqK K) (pv 0) pe_int (fun _ _ => rfl)) (pe_ix (ix_seqK K) (pv 1) pe_int (fun _ _ => rfl))) (pe_op op_mulA (pe_ix (ix_seqK K) (pv 1) pe_int (fun _ _ => rfl)) (pe_ix (ix_seqK K) (pv 0) pe_int (fun _ _ => rfl)))) (pa_cons (pe_op op_mulA (pe_ix (ix_seqK K) (pv 0) pe_int (fun _ _ => rfl)) (pe_ix (ix_seqK K) (pv 1) pe_int (fun _ _ => rfl))) pa_nil))))), ?_⟩
  exact (sim_ret (sim_call0 (sim_cons (sim_op r_sub (sim_op r_mulV (sim_op r_ix sim_V sim_int) (sim_op r_ix sim_V sim_int)) (sim_op r_mulV (sim_op r_ix sim_V sim_int) (sim_op r_ix sim_V sim_int))) (sim_cons (sim_op r_mulV (sim_op r_ix sim_V sim_int) (sim_op r_ix sim_V sim_int)) sim_nil))))

noncomputable def m_times : MS := (kRet (xF d_part (zCons (xOp zMulV (xOp zIx (xV 0) (xC (.int 0))) (xOp zIx (xV 1) (xC (.int 0)))) (zCons (xOp zMulV (xOp zIx (xV 0) (xC (.int 1))) (xOp zIx (xV 1) (xC (.int 1)))) zNil))))
noncomputable def d_times : List PyData → Rz PyData := fnD 2 2 m_times
theorem ok_times {P : Program} {w : World} {K : PySem.W.Frag} {T : Tb} {mg : Str → Option Value} {base : Heap} {f : Addr} {fd : FuncData} {dvs : List V} {kws : List (Str × V)} (F : FnQ K "times" s_times dvs kws f fd) (Z : Blt mg)
    (c_part : CalX P w K mg base 42 "part" ["upper", "lower"] [] (spZ K T .no d_part)) :
    FnOk P w K mg base (L2N.CX P w) 43 f fd ["one", "other"] (spZ K T .no d_times) := by
  refine fnZ F sc_times rfl rfl (fun cdv A outer s H E hr => ?_)
  have nd := sc_times.nd
  refine ⟨_, (pss_one (ps_ret (pe_callX c_part (L2N.takes_of rfl rfl rfl rfl) hr rfl (pa_cons (pe_op op_mulA (pe_ix (ix_seqK K) (pv 0) pe_int (fun _ _ => rfl)) (pe_ix (ix_seqK K) (pv 1) pe_int (fun _ _ => rfl))) (pa_cons (pe_op op_mulA (pe_ix (ix_seqK K) (pv 0) pe_int (fun _ _ => rfl)) (pe_ix (ix_seqK K) (pv 1) pe_int (fun _ _ => rfl))) pa_nil))))), ?_⟩
  exact (sim_ret (sim_call0 (sim_cons (sim_op r_mulV (sim_op r_ix sim_V sim_int) (sim_op r_ix sim_V sim_int)) (sim_cons (sim_op r_mulV (sim_op r_ix sim_V sim_int) (sim_op r_ix sim_V sim_int)) sim_nil))))

noncomputable def m_over : MS := (kSeq (kIf (yV (xOp zEq (xOp zIx (xV 1) (xC (.int 0))) (xC (.int 0)))) (kRaise "NoOver") kNx)
  (kRet (xF d_part (zCons (xOp zMulV (xOp zIx (xV 0) (xC (.int 0))) (xOp zIx (xV 1) (xC (.int 1)))) (zCons (xOp zMulV (xOp zIx (xV 0) (xC (.int 1))) (xOp zIx (xV 1) (xC (.int 0)))) zNil)))))
noncomputable def d_over : List PyData → Rz PyData := fnD 2 2 m_over
theorem ok_over {P : Program} {w : World} {K : PySem.W.Frag} {T : Tb} {mg : Str → Option Value} {base : Heap} {f : Addr} {fd : FuncData} {dvs : List V} {kws : List (Str × V)} (F : FnQ K "over" s_over dvs kws f fd) (Z : Blt mg) (Er : ErrT K mg erL)
    (c_part : CalX P w K mg base 42 "part" ["upper", "lower"] [] (spZ K T .no d_part)) :
    FnOk P w K mg base (L2N.CX P w) 43 f fd ["one", "other"] (spZ K T .no d_over) := by
  refine fnZ F sc_over rfl rfl (fun cdv A outer s H E hr => ?_)
  have nd := sc_over.nd
  refine ⟨_, (pss_cons (ps_if (pt_cmpR (op_eqK K hr.units) (pe_ix (ix_seqK K) (pv 1) pe_int (fun _ _ => rfl)) pe_int (nomark _)) (pss_one (ps_raiseX rfl (L2N.takes_of rfl rfl rfl rfl) PySem.F.excBase_ZeroDivisionError (exf_NoOver Er) (by rfl))) pss_nil)
      (pss_one (ps_ret (pe_callX c_part (L2N.takes_of rfl rfl rfl rfl) hr rfl (pa_cons (pe_op op_mulA (pe_ix (ix_seqK K) (pv 0) pe_int (fun _ _ => rfl)) (pe_ix (ix_seqK K) (pv 1) pe_int (fun _ _ => rfl))) (pa_cons (pe_op op_mulA (pe_ix (ix_seqK K) (pv 0) pe_int (fun _ _ => rfl)) (pe_ix (ix_seqK K) (pv 1) pe_int (fun _ _ => rfl))) pa_nil)))))), ?_⟩
  exact (sim_seq (sim_kIf (sim_yT (sim_op r_eq (sim_op r_ix sim_V sim_int) sim_int)) sim_raise sim_kNx)
    (sim_ret (sim_call0 (sim_cons (sim_op r_mulV (sim_op r_ix sim_V sim_int) (sim_op r_ix sim_V sim_int)) (sim_cons (sim_op r_mulV (sim_op r_ix sim_V sim_int) (sim_op r_ix sim_V sim_int)) sim_nil)))))

noncomputable def m_is_share : MS := (kRet (xAnd (xChain zLe zLe (xC (.int 0)) (xOp zIx (xV 0) (xC (.int 0))) (xC (.int 999))) (xOp zLe (xOp zIx (xV 0) (xC (.int 1))) (xC (.int 20)))))
noncomputable def d_is_share : List PyData → Rz PyData := fnD 1 1 m_is_share
theorem ok_is_share {P : Program} {w : World} {K : PySem.W.Frag} {T : Tb} {mg : Str → Option Value} {base : Heap} {f : Addr} {fd : FuncData} {dvs : List V} {kws : List (Str × V)} (F : FnQ K "is_share" s_is_share dvs kws f fd) (Z : Blt mg) (g_MOST_UPPER : Cst mg K "MOST_UPPER" (.int 999)) (g_MOST_LOWER : Cst mg K "MOST_LOWER" (.int 20)) :
    FnOk P w K mg base (L2N.CX P w) 41 f fd ["one"] (spZ K T .no d_is_share) := by
  refine fnZ F sc_is_share rfl rfl (fun cdv A outer s H E hr => ?_)
  have nd := sc_is_share.nd
  obtain ⟨v_MOST_UPPER, u_MOST_UPPER, g_MOST_UPPER⟩ := g_MOST_UPPER
  obtain ⟨v_MOST_LOWER, u_MOST_LOWER, g_MOST_LOWER⟩ := g_MOST_LOWER
  refine ⟨_, (pss_one (ps_ret (pe_and (pe_chain op_le op_le pe_int (pe_ix (ix_seqK K) (pv 0) pe_int (fun _ _ => rfl)) (pe_glob (by rfl) g_MOST_UPPER.m g_MOST_UPPER.r)) (pe_one (pe_cmpR op_le (pe_ix (ix_seqK K) (pv 0) pe_int (fun _ _ => rfl)) (pe_glob (by rfl) g_MOST_LOWER.m g_MOST_LOWER.r) (nomark _)))))), ?_⟩
  exact (sim_ret (sim_and (sim_chain r_le r_le sim_int (sim_op r_ix sim_V sim_int) (sim_cst g_MOST_UPPER)) (sim_op r_le (sim_op r_ix sim_V sim_int) (sim_cst g_MOST_LOWER))))

noncomputable def m_need_hand : MS := (kIf (yV (xOp zNotIn (xV 0) (xC (.tuple [.str "we", .str "weather"])))) (kRaise "BadHand") kNx)
noncomputable def d_need_hand : List PyData → Rz PyData := fnD 1 1 m_need_hand
theorem ok_need_hand {P : Program} {w : World} {K : PySem.W.Frag} {T : Tb} {mg : Str → Option Value} {base : Heap} {f : Addr} {fd : FuncData} {dvs : List V} {kws : List (Str × V)} (F : FnQ K "need_hand" s_need_hand dvs kws f fd) (Z : Blt mg) (g_HANDS : Cst mg K "HANDS" (.tuple [.str "we", .str "weather"])) (Er : ErrT K mg erL) :
    FnOk P w K mg base (L2N.CX P w) 41 f fd ["hand"] (spZ K T .no d_need_hand) := by
  refine fnZ F sc_need_hand rfl rfl (fun cdv A outer s H E hr => ?_)
  have nd := sc_need_hand.nd
  obtain ⟨v_HANDS, u_HANDS, g_HANDS⟩ := g_HANDS
  refine ⟨_, (pss_one (ps_if (pt_cmpR (op_notInK K) (pv 0) (pe_glob (by rfl) g_HANDS.m g_HANDS.r) (by with_unfolding_all rfl)) (pss_one (ps_raiseX rfl (L2N.takes_of rfl rfl rfl rfl) PySem.F.excBase_ValueError (exf_BadHand Er) (by rfl))) pss_nil)), ?_⟩
  exact (sim_kIf (sim_yT (sim_op r_notIn sim_V (sim_cst g_HANDS))) sim_raise sim_kNx)

noncomputable def b1_look : MS := (kIf (yOr (yV (xOp zNe (xCB zLen (zCons (xV 3) zNil)) (xCB zLen (zCons (xV 0) zNil)))) (yNot (yV (xCB zAll (zCons (xL (fLc [4] (iS (xV 3)) (gN 4) yYes (xFc d_is_share (zCons (xV 4) zNil)))) zNil))))) (kRaise "BadShares") kNx)
theorem b1_look_a (ρ : List Slot) : b1_look ρ = (kIf (yOr (yV (xOp zNe (xCB zLen (zCons (xV 3) zNil)) (xCB zLen (zCons (xV 0) zNil)))) (yNot (yV (xCB zAll (zCons (xL (fLc [4] (iS (xV 3)) (gN 4) yYes (xFc d_is_share (zCons (xV 4) zNil)))) zNil))))) (kRaise "BadShares") kNx) ρ := nr rfl
noncomputable def b2_look : MS := (kSeq (kDrop (xF d_need_hand (zCons (xV 1) zNil)))
  (kSeq (kIf (yNot (yV (xChain zLe zLe (xC (.int 1)) (xCB zLen (zCons (xV 2) zNil)) (xC (.int 3))))) (kRaise "BadRows") kNx)
  (kFor (iS (xV 2)) (gN 3) [3] b1_look)))
theorem b2_look_a (ρ : List Slot) : b2_look ρ = (kSeq (kDrop (xF d_need_hand (zCons (xV 1) zNil)))
  (kSeq (kIf (yNot (yV (xChain zLe zLe (xC (.int 1)) (xCB zLen (zCons (xV 2) zNil)) (xC (.int 3))))) (kRaise "BadRows") kNx)
  (kFor (iS (xV 2)) (gN 3) [3] b1_look))) ρ := nr rfl
noncomputable def m_look : MS := (kSeq (kIf (yNot (yV (xChain zLe zLe (xC (.int 1)) (xCB zLen (zCons (xV 0) zNil)) (xC (.int 5))))) (kRaise "BadRows") kNx)
  (kFor (iS (xV 0)) (gT 2 (gsC (gN 1) (gsC (gN 2) gs0))) [1, 2, 3] b2_look))
noncomputable def d_look : List PyData → Rz PyData := fnD 1 5 m_look
theorem ok_look {P : Program} {w : World} {K : PySem.W.Frag} {T : Tb} {mg : Str → Option Value} {base : Heap} {f : Addr} {fd : FuncData} {dvs : List V} {kws : List (Str × V)} (F : FnQ K "look" s_look dvs kws f fd) (Z : Blt mg) (g_MOST_STORES : Cst mg K "MOST_STORES" (.int 5)) (g_MOST_ROWS : Cst mg K "MOST_ROWS" (.int 3)) (Er : ErrT K mg erL)
    (c_need_hand : CalX P w K mg base 41 "need_hand" ["hand"] [] (spZ K T .no d_need_hand))
    (c_is_share : CalX P w K mg base 41 "is_share" ["one"] [] (spZ K T .no d_is_share)) :
    FnOk P w K mg base (L2N.CX P w) 42 f fd ["menus"] (spZ K T .no d_look) := by
  refine fnZ F sc_look rfl rfl (fun cdv A outer s H E hr => ?_)
  have nd := sc_look.nd
  obtain ⟨v_MOST_STORES, u_MOST_STORES, g_MOST_STORES⟩ := g_MOST_STORES
  obtain ⟨v_MOST_ROWS, u_MOST_ROWS, g_MOST_ROWS⟩ := g_MOST_ROWS
  refine ⟨_, (pss_cons (ps_if (pt_not (pt_chain op_le op_le pe_int (pe_callB (call_lenK K) (by rfl) Z.len PySem.boot_len (pa_cons (pv 0) pa_nil)) (pe_glob (by rfl) g_MOST_STORES.m g_MOST_STORES.r))) (pss_one (ps_raiseX rfl (L2N.takes_of rfl rfl rfl rfl) PySem.F.excBase_ValueError (exf_BadRows Er) (by rfl))) pss_nil)
      (pss_one (ps_for (passes_of rfl) rfl (pi_seqK K (pv 0)) (pg_tupK (n := 2) K rfl (pgs_cons (pg_name (i := 1) nd rfl (Or.inl rfl)) (pgs_cons (pg_name (i := 2) nd rfl (Or.inl rfl)) pgs_nil))) (pss_cons (ps_expr (pe_callX c_need_hand (L2N.takes_of rfl rfl rfl rfl) hr rfl (pa_cons (pv 1) pa_nil)))
      (pss_cons (ps_if (pt_not (pt_chain op_le op_le pe_int (pe_callB (call_lenK K) (by rfl) Z.len PySem.boot_len (pa_cons (pv 2) pa_nil)) (pe_glob (by rfl) g_MOST_ROWS.m g_MOST_ROWS.r))) (pss_one (ps_raiseX rfl (L2N.takes_of rfl rfl rfl rfl) PySem.F.excBase_ValueError (exf_BadRows Er) (by rfl))) pss_nil)
      (pss_one (ps_for (passes_of rfl) rfl (pi_seqK K (pv 2)) (pg_name (i := 3) nd rfl (Or.inl rfl)) (pss_one (ps_if (PW.pt (pw_or (pt_cmpR (op_neK K hr.units) (pe_callB (call_lenK K) (by rfl) Z.len PySem.boot_len (pa_cons (pv 3) pa_nil)) (pe_callB (call_lenK K) (by rfl) Z.len PySem.boot_len (pa_cons (pv 0) pa_nil)) (nomark _)) (pw_or1 (pt_not (pt_val (pe_callB (cr_allK K rfl) (by rfl) Z.all (by decide +kernel) (pa_cons (pe_lc (own := [("share", 4)]) rfl nd (pi_seqK K (pv 3)) (blkOk_by (own := [("share", 4)]) (N := ["menus", "hand", "rows", "row", "share"]) (sc := defScope s_look) (by decide +kernel)) (fun _ _ _ _ _ => (pg_name (i := 4) nd rfl (Or.inl rfl))) (fun _ _ _ _ _ => pts_nil) (fun _ _ _ _ _ => (pe_callC c_is_share.calmZ hr rfl (pa_cons (pv 4) pa_nil)))) pa_nil))))))) (pss_one (ps_raiseX rfl (L2N.takes_of rfl rfl rfl rfl) PySem.F.excBase_ValueError (exf_BadShares Er) (by rfl))) pss_nil))))))))), ?_⟩
  exact (sim_seq (sim_kIf (sim_yNot (sim_yT (sim_chain r_le r_le sim_int (sim_cb r_len (sim_cons sim_V sim_nil)) (sim_cst g_MOST_STORES)))) sim_raise sim_kNx)
    (sim_for (sim_iS sim_V) (simG_T (simG_C simG_N (simG_C simG_N simG_0))) (sim_seq (sim_drop (sim_call0 (sim_cons sim_V sim_nil)))
    (sim_seq (sim_kIf (sim_yNot (sim_yT (sim_chain r_le r_le sim_int (sim_cb r_len (sim_cons sim_V sim_nil)) (sim_cst g_MOST_ROWS)))) sim_raise sim_kNx)
    (sim_for (sim_iS sim_V) simG_N (sim_kIf (sim_yOr (sim_yT (sim_op r_ne (sim_cb r_len (sim_cons sim_V sim_nil)) (sim_cb r_len (sim_cons sim_V sim_nil)))) (sim_yNot (sim_yB (sim_cb r_all (sim_cons (sim_L (sim_lc (W' := fun _ _ _ _ => False) (sim_iS sim_V) simG_N sim_yYes (sim_callC0 (sim_cons sim_V sim_nil)) (by decide))) sim_nil))))) sim_raise sim_kNx))))))

noncomputable def b1_all_plans : MS := (kFrz 2 (kOwn (fLc2 [4, 5] [5] 4 5 (iS (xV 2)) (iA rng1 (zCons (xCB zLen (zCons (xOp zIx (xOp zIx (xV 0) (xV 3)) (xC (.int 1))) zNil)) zNil)) (xOp zAddV (xV 4) (xTup (zCons (xV 5) zNil)))) 2))
theorem b1_all_plans_a (ρ : List Slot) : b1_all_plans ρ = (kFrz 2 (kOwn (fLc2 [4, 5] [5] 4 5 (iS (xV 2)) (iA rng1 (zCons (xCB zLen (zCons (xOp zIx (xOp zIx (xV 0) (xV 3)) (xC (.int 1))) zNil)) zNil)) (xOp zAddV (xV 4) (xTup (zCons (xV 5) zNil)))) 2)) ρ := nr rfl
noncomputable def m_all_plans : MS := (kSeq (kOwn (fLst (zCons (xTup zNil) zNil)) 2)
  (kSeq (kFor (iS (xV 1)) (gN 3) [3] b1_all_plans)
  (kRetO 2)))
noncomputable def d_all_plans : List PyData → Rz PyData := fnD 2 6 m_all_plans
theorem ok_all_plans {P : Program} {w : World} {K : PySem.W.Frag} {T : Tb} {mg : Str → Option Value} {base : Heap} {f : Addr} {fd : FuncData} {dvs : List V} {kws : List (Str × V)} (F : FnQ K "all_plans" s_all_plans dvs kws f fd) (Z : Blt mg) :
    FnOk P w K mg base (L2N.CX P w) 41 f fd ["menus", "stores"] (spZ K T .yes d_all_plans) := by
  refine fnZ F sc_all_plans rfl rfl (fun cdv A outer s H E hr => ?_)
  have nd := sc_all_plans.nd
  refine ⟨_, (pss_cons (ps_set (i := 2) nd rfl (Or.inl rfl) (pe_lst (pa_cons (pe_tup pa_nil) pa_nil)))
      (pss_cons (ps_for (passes_of rfl) rfl (pi_seqK K (pv 1)) (pg_name (i := 3) nd rfl (Or.inr rfl)) (pss_one (ps_setLc2 (i := 2) (own := [("plan", 4), ("at", 5)]) (vs1 := [5]) rfl nd rfl rfl (sw_true rfl rfl rfl (by decide +kernel)) (pi_seqK K (pv 2)) (blkOk_by (own := [("plan", 4), ("at", 5)]) (N := ["menus", "stores", "found", "store", "plan", "at"]) (sc := defScope s_all_plans) (by decide +kernel)) (by decide) (fun _ _ _ _ _ => (pg_name (i := 4) nd rfl (Or.inl rfl))) (fun _ _ _ _ _ => pts_nil) (fun _ _ _ _ _ => (pi_range1 (by rfl) Z.range (pa_cons (pe_callB (call_lenK K) (by rfl) Z.len PySem.boot_len (pa_cons (pe_ix (ix_seqK K) (pe_ix (ix_seqK K) (pv 0) (pv 3) (fun _ _ => rfl)) pe_int (fun _ _ => rfl)) pa_nil)) pa_nil))) (fun _ _ _ _ _ => (pg_name (i := 5) nd rfl (Or.inl rfl))) (fun _ _ _ _ _ => pts_nil) (fun _ _ _ _ _ => (pe_op (op_addK K) (pv 4) (pe_tup (pa_cons (pv 5) pa_nil)))))))
      (pss_one (ps_ret (pv 2))))), ?_⟩
  exact (sim_seq (sim_own (sim_lstF (sim_cons (sim_tup sim_nil) sim_nil)))
    (sim_seq (sim_for (sim_iS sim_V) simG_N (sim_frz (sim_own (sim_lc2 (W' := fun _ _ _ _ => False) (sim_iS sim_V) (sim_rng1 (sim_cons (sim_cb r_len (sim_cons (sim_op r_ix (sim_op r_ix sim_V sim_V) sim_int) sim_nil)) sim_nil)) (sim_op r_addV sim_V (sim_tup (sim_cons sim_V sim_nil))) (by decide) (by decide)))))
    sim_retO))

noncomputable def m_taken : MS := (kRetF (fLc [2, 3] (iA enO (zCons (xV 1) zNil)) (gT 2 (gsC (gN 2) (gsC (gN 3) gs0))) yYes (xOp zIx (xOp zIx (xOp zIx (xV 0) (xV 2)) (xC (.int 1))) (xV 3))))
noncomputable def d_taken : List PyData → Rz PyData := fnD 2 4 m_taken
theorem ok_taken {P : Program} {w : World} {K : PySem.W.Frag} {T : Tb} {mg : Str → Option Value} {base : Heap} {f : Addr} {fd : FuncData} {dvs : List V} {kws : List (Str × V)} (F : FnQ K "taken" s_taken dvs kws f fd) (Z : Blt mg) :
    FnOk P w K mg base (L2N.CX P w) 41 f fd ["menus", "choice"] (spZ K T .yes d_taken) := by
  refine fnZ F sc_taken rfl rfl (fun cdv A outer s H E hr => ?_)
  have nd := sc_taken.nd
  refine ⟨_, (pss_one (ps_ret (pe_lc (own := [("store", 2), ("at", 3)]) rfl nd (LwZ.pi_enumA K (by rfl) Z.enumerate (pa_cons (pv 1) pa_nil)) (blkOk_by (own := [("store", 2), ("at", 3)]) (N := ["menus", "choice", "store", "at"]) (sc := defScope s_taken) (by decide +kernel)) (fun _ _ _ _ _ => (pg_tupK (n := 2) K rfl (pgs_cons (pg_name (i := 2) nd rfl (Or.inl rfl)) (pgs_cons (pg_name (i := 3) nd rfl (Or.inl rfl)) pgs_nil)))) (fun _ _ _ _ _ => pts_nil) (fun _ _ _ _ _ => (pe_ix (ix_seqK K) (pe_ix (ix_seqK K) (pe_ix (ix_seqK K) (pv 0) (pv 2) (fun _ _ => rfl)) pe_int (fun _ _ => rfl)) (pv 3) (fun _ _ => rfl)))))), ?_⟩
  exact (sim_retF (sim_lc (W' := fun _ _ _ _ => False) (sim_en (sim_cons sim_V sim_nil)) (simG_T (simG_C simG_N (simG_C simG_N simG_0))) sim_yYes (sim_op r_ix (sim_op r_ix (sim_op r_ix sim_V sim_V) sim_int) sim_V) (by decide)))

noncomputable def m_need_filling : MS := (kIf (yOr (yV (xOp zNe (xCB zLen (zCons (xV 1) zNil)) (xV 0))) (yV (xCB zAny (zCons (xL (fLc [2] (iS (xV 1)) (gN 2) yYes (xOp zLt (xOp zIx (xV 2) (xC (.int 0))) (xC (.int 0))))) zNil)))) (kRaise "BadFilling") kNx)
noncomputable def d_need_filling : List PyData → Rz PyData := fnD 2 3 m_need_filling
theorem ok_need_filling {P : Program} {w : World} {K : PySem.W.Frag} {T : Tb} {mg : Str → Option Value} {base : Heap} {f : Addr} {fd : FuncData} {dvs : List V} {kws : List (Str × V)} (F : FnQ K "need_filling" s_need_filling dvs kws f fd) (Z : Blt mg) (Er : ErrT K mg erL) :
    FnOk P w K mg base (L2N.CX P w) 41 f fd ["many", "filling"] (spZ K T .no d_need_filling) := by
  refine fnZ F sc_need_filling rfl rfl (fun cdv A outer s H E hr => ?_)
  have nd := sc_need_filling.nd
  refine ⟨_, (pss_one (ps_if (PW.pt (pw_or (pt_cmpR (op_neK K hr.units) (pe_callB (call_lenK K) (by rfl) Z.len PySem.boot_len (pa_cons (pv 1) pa_nil)) (pv 0) (nomark _)) (pw_or1 (pt_val (pe_callB (cr_anyK K rfl) (by rfl) Z.any (by decide +kernel) (pa_cons (pe_lc (own := [("one", 2)]) rfl nd (pi_seqK K (pv 1)) (blkOk_by (own := [("one", 2)]) (N := ["many", "filling", "one"]) (sc := defScope s_need_filling) (by decide +kernel)) (fun _ _ _ _ _ => (pg_name (i := 2) nd rfl (Or.inl rfl))) (fun _ _ _ _ _ => pts_nil) (fun _ _ _ _ _ => (pe_cmpR op_lt (pe_ix (ix_seqK K) (pv 2) pe_int (fun _ _ => rfl)) pe_int (nomark _)))) pa_nil)))))) (pss_one (ps_raiseX rfl (L2N.takes_of rfl rfl rfl rfl) PySem.F.excBase_ValueError (exf_BadFilling Er) (by rfl))) pss_nil)), ?_⟩
  exact (sim_kIf (sim_yOr (sim_yT (sim_op r_ne (sim_cb r_len (sim_cons sim_V sim_nil)) sim_V)) (sim_yB (sim_cb r_any (sim_cons (sim_L (sim_lc (W' := fun _ _ _ _ => False) (sim_iS sim_V) simG_N sim_yYes (sim_op r_lt (sim_op r_ix sim_V sim_int) sim_int) (by decide))) sim_nil)))) sim_raise sim_kNx)

noncomputable def b1_row_by : MS := (kIf (yV (xOp zNe (xV 3) (xC (encR 0)))) (kAsg (xL (fLc [5, 6] (iA (zipO true) (zCons (xV 2) (zCons (xV 4) zNil))) (gT 2 (gsC (gN 5) (gsC (gN 6) gs0))) yYes (xFc d_plus (zCons (xV 5) (zCons (xFc d_times (zCons (xV 3) (zCons (xV 6) zNil))) zNil))))) 2) kNx)
theorem b1_row_by_a (ρ : List Slot) : b1_row_by ρ = (kIf (yV (xOp zNe (xV 3) (xC (encR 0)))) (kAsg (xL (fLc [5, 6] (iA (zipO true) (zCons (xV 2) (zCons (xV 4) zNil))) (gT 2 (gsC (gN 5) (gsC (gN 6) gs0))) yYes (xFc d_plus (zCons (xV 5) (zCons (xFc d_times (zCons (xV 3) (zCons (xV 6) zNil))) zNil))))) 2) kNx) ρ := nr rfl
noncomputable def m_row_by : MS := (kSeq (kAsg (xOp zMulV (xL (fLst (zCons (xC (encR 0)) zNil))) (xCB zLen (zCons (xV 0) zNil))) 2)
  (kSeq (kFor (iA (zipO true) (zCons (xV 0) (zCons (xV 1) zNil))) (gT 2 (gsC (gN 3) (gsC (gN 4) gs0))) [3, 4] b1_row_by)
  (kRet (xCB zTuple (zCons (xV 2) zNil)))))
noncomputable def d_row_by : List PyData → Rz PyData := fnD 2 7 m_row_by
theorem ok_row_by {P : Program} {w : World} {K : PySem.W.Frag} {T : Tb} {mg : Str → Option Value} {base : Heap} {f : Addr} {fd : FuncData} {dvs : List V} {kws : List (Str × V)} (F : FnQ K "row_by" s_row_by dvs kws f fd) (Z : Blt mg) (g_NOUGHT : Cst mg K "NOUGHT" (encR 0))
    (c_plus : CalX P w K mg base 43 "plus" ["one", "other"] [] (spZ K T .no d_plus))
    (c_times : CalX P w K mg base 43 "times" ["one", "other"] [] (spZ K T .no d_times)) :
    FnOk P w K mg base (L2N.CX P w) 44 f fd ["row", "table"] (spZ K T .no d_row_by) := by
  refine fnZ F sc_row_by rfl rfl (fun cdv A outer s H E hr => ?_)
  have nd := sc_row_by.nd
  obtain ⟨v_NOUGHT, u_NOUGHT, g_NOUGHT⟩ := g_NOUGHT
  refine ⟨_, (pss_cons (ps_set (i := 2) nd rfl (Or.inl rfl) (pe_op op_mulA (pe_lst (pa_cons (pe_glob (by rfl) g_NOUGHT.m g_NOUGHT.r) pa_nil)) (pe_callB (call_lenK K) (by rfl) Z.len PySem.boot_len (pa_cons (pv 0) pa_nil))))
      (pss_cons (ps_for (passes_of rfl) rfl (LwZ.pi_zipS K (by rfl) Z.zip (pa_cons (pv 0) (pa_cons (pv 1) pa_nil))) (pg_tupK (n := 2) K rfl (pgs_cons (pg_name (i := 3) nd rfl (Or.inr rfl)) (pgs_cons (pg_name (i := 4) nd rfl (Or.inl rfl)) pgs_nil))) (pss_one (ps_if (pt_cmpR (op_neK K hr.units) (pv 3) (pe_glob (by rfl) g_NOUGHT.m g_NOUGHT.r) (nomark _)) (pss_one (ps_setLc (i := 2) (own := [("had", 5), ("share", 6)]) rfl nd rfl rfl (sw_true rfl rfl rfl (by decide +kernel)) (LwZ.pi_zipS K (by rfl) Z.zip (pa_cons (pv 2) (pa_cons (pv 4) pa_nil))) (blkOk_by (own := [("had", 5), ("share", 6)]) (N := ["row", "table", "found", "one", "shares", "had", "share"]) (sc := defScope s_row_by) (by decide +kernel)) (fun _ _ _ _ _ => (pg_tupK (n := 2) K rfl (pgs_cons (pg_name (i := 5) nd rfl (Or.inl rfl)) (pgs_cons (pg_name (i := 6) nd rfl (Or.inl rfl)) pgs_nil)))) (fun _ _ _ _ _ => pts_nil) (fun _ _ _ _ _ => (pe_callC c_plus.calmZ hr rfl (pa_cons (pv 5) (pa_cons (pe_callC c_times.calmZ hr rfl (pa_cons (pv 3) (pa_cons (pv 6) pa_nil))) pa_nil)))))) pss_nil)))
      (pss_one (ps_ret (pe_callTy (call_tupleK K) (by rfl) Z.tuple (by decide +kernel) (pa_cons (pv 2) pa_nil)))))), ?_⟩
  exact (sim_seq (sim_asg (sim_op r_mulV (sim_L (sim_lstF (sim_cons (sim_cst g_NOUGHT) sim_nil))) (sim_cb r_len (sim_cons sim_V sim_nil))))
    (sim_seq (sim_for (sim_zip (sim_cons sim_V (sim_cons sim_V sim_nil))) (simG_T (simG_C simG_N (simG_C simG_N simG_0))) (sim_kIf (sim_yT (sim_op r_ne sim_V (sim_cst g_NOUGHT))) (sim_asg (sim_L (sim_lc (W' := fun _ _ _ _ => False) (sim_zip (sim_cons sim_V (sim_cons sim_V sim_nil))) (simG_T (simG_C simG_N (simG_C simG_N simG_0))) sim_yYes (sim_callC0 (sim_cons sim_V (sim_cons (sim_callC0 (sim_cons sim_V (sim_cons sim_V sim_nil))) sim_nil))) (by decide)))) sim_kNx))
    (sim_ret (sim_cb r_tuple (sim_cons sim_V sim_nil)))))

noncomputable def m_need_both : MS := (kSeq (kDrop (xF d_look (zCons (xV 0) zNil)))
  (kSeq (kDrop (xF d_look (zCons (xV 1) zNil)))
  (kSeq (kAsg (xL (fLc [4] (iS (xTup (zCons (xV 0) (zCons (xV 1) zNil)))) (gN 4) yYes (xL (fLc [5, 6] (iS (xV 4)) (gT 2 (gsC (gN 5) (gsC (gN 6) gs0))) yYes (xTup (zCons (xV 5) (zCons (xCB zLen (zCons (xV 6) zNil)) zNil))))))) 3)
  (kSeq (kIf (yV (xOp zNe (xOp zIx (xV 3) (xC (.int 0))) (xOp zIx (xV 3) (xC (.int 1))))) (kRaise "Unlike") kNx)
  (kDrop (xF d_need_filling (zCons (xCB zLen (zCons (xV 0) zNil)) (zCons (xV 2) zNil))))))))
noncomputable def d_need_both : List PyData → Rz PyData := fnD 3 7 m_need_both
theorem ok_need_both {P : Program} {w : World} {K : PySem.W.Frag} {T : Tb} {mg : Str → Option Value} {base : Heap} {f : Addr} {fd : FuncData} {dvs : List V} {kws : List (Str × V)} (F : FnQ K "need_both" s_need_both dvs kws f fd) (Z : Blt mg) (Er : ErrT K mg erL)
    (c_look : CalX P w K mg base 42 "look" ["menus"] [] (spZ K T .no d_look))
    (c_need_filling : CalX P w K mg base 41 "need_filling" ["many", "filling"] [] (spZ K T .no d_need_filling)) :
    FnOk P w K mg base (L2N.CX P w) 43 f fd ["one", "other", "counts"] (spZ K T .no d_need_both) := by
  refine fnZ F sc_need_both rfl rfl (fun cdv A outer s H E hr => ?_)
  have nd := sc_need_both.nd
  refine ⟨_, (pss_cons (ps_expr (pe_callX c_look (L2N.takes_of rfl rfl rfl rfl) hr rfl (pa_cons (pv 0) pa_nil)))
      (pss_cons (ps_expr (pe_callX c_look (L2N.takes_of rfl rfl rfl rfl) hr rfl (pa_cons (pv 1) pa_nil)))
      (pss_cons (ps_setLc (i := 3) (own := [("menus", 4)]) rfl nd rfl rfl (sw_true rfl rfl rfl (by decide +kernel)) (pi_seqK K (pe_tup (pa_cons (pv 0) (pa_cons (pv 1) pa_nil)))) (blkOk_by (own := [("menus", 4)]) (N := ["one", "other", "counts", "shapes", "menus", "hand", "rows"]) (sc := defScope s_need_both) (by decide +kernel)) (fun _ _ _ _ _ => (pg_name (i := 4) nd rfl (Or.inl rfl))) (fun _ _ _ _ _ => pts_nil) (fun _ _ _ _ _ => (pe_lc (own := [("hand", 5), ("rows", 6)]) rfl nd (pi_seqK K (pv 4)) (blkOk_by (own := [("hand", 5), ("rows", 6)]) (N := ["one", "other", "counts", "shapes", "menus", "hand", "rows"]) (sc := _) (by kernel_rfl)) (fun _ _ _ _ _ => (pg_tupK (n := 2) K rfl (pgs_cons (pg_name (i := 5) nd rfl (Or.inl rfl)) (pgs_cons (pg_name (i := 6) nd rfl (Or.inl rfl)) pgs_nil)))) (fun _ _ _ _ _ => pts_nil) (fun _ _ _ _ _ => (pe_tup (pa_cons (pv 5) (pa_cons (pe_callB (call_lenK K) (by rfl) Z.len PySem.boot_len (pa_cons (pv 6) pa_nil)) pa_nil)))))))
      (pss_cons (ps_if (pt_cmpR (op_neK K hr.units) (pe_ix (ix_seqK K) (pv 3) pe_int (fun _ _ => rfl)) (pe_ix (ix_seqK K) (pv 3) pe_int (fun _ _ => rfl)) (nomark _)) (pss_one (ps_raiseX rfl (L2N.takes_of rfl rfl rfl rfl) PySem.F.excBase_ValueError (exf_Unlike Er) (by rfl))) pss_nil)
      (pss_one (ps_expr (pe_callX c_need_filling (L2N.takes_of rfl rfl rfl rfl) hr rfl (pa_cons (pe_callB (call_lenK K) (by rfl) Z.len PySem.boot_len (pa_cons (pv 0) pa_nil)) (pa_cons (pv 2) pa_nil))))))))), ?_⟩
  exact (sim_seq (sim_drop (sim_call0 (sim_cons sim_V sim_nil)))
    (sim_seq (sim_drop (sim_call0 (sim_cons sim_V sim_nil)))
    (sim_seq (sim_asg (sim_L (sim_lc (W' := fun _ _ _ _ => False) (sim_iS (sim_tup (sim_cons sim_V (sim_cons sim_V sim_nil)))) simG_N sim_yYes (sim_L (sim_lc (W' := fun _ _ _ _ => False) (sim_iS sim_V) (simG_T (simG_C simG_N (simG_C simG_N simG_0))) sim_yYes (sim_tup (sim_cons sim_V (sim_cons (sim_cb r_len (sim_cons sim_V sim_nil)) sim_nil))) (by decide))) (by decide))))
    (sim_seq (sim_kIf (sim_yT (sim_op r_ne (sim_op r_ix sim_V sim_int) (sim_op r_ix sim_V sim_int))) sim_raise sim_kNx)
    (sim_drop (sim_call0 (sim_cons (sim_cb r_len (sim_cons sim_V sim_nil)) (sim_cons sim_V sim_nil))))))))

noncomputable def m_Span___init__ : MS := (kFdct 0 1 0)
noncomputable def f_Span___init__ : Addr → List Fd → List PyData → Ro := fnW 1 1 1 m_Span___init__
theorem ok_Span___init__ {P : Program} {w : World} {K : PySem.W.Frag} {T : Tb} {mg : Str → Option Value} {base : Heap} {f : Addr} {fd : FuncData} (F : FnM K "__init__" "Span.__init__" s_Span___init__ [] f fd) (Z : Blt mg) (cl_Span : ClT K 1) :
    FnOk P w K mg base (L2N.CX P w) 41 f fd ["self"] (spW K T 1 f_Span___init__) := by
  refine fnMW F sc_Span___init__ rfl rfl (fun cdv A outer s H E hr => ?_)
  have nd := sc_Span___init__.nd
  refine ⟨_, (pss_one (ps_fld (pv 0) pe_dnewK rfl)), ?_⟩
  exact (sim_fdct cl_Span rfl)

noncomputable def b1_Span_rest : MS := (kIf (yAnd (yV (xOp zNe (xIxO 2 (xV 3)) (xC (encR 0)))) (yV (xFdin (xV 3) 0 1 0))) (kSeq (kAsg (xIxO 2 (xV 3)) 4)
  (kFrz 2 (kOwn (fLc [5, 6] (iA (zipO true) (zCons (xV 2) (zCons (xFdg 0 1 0 (xV 3)) zNil))) (gT 2 (gsC (gN 5) (gsC (gN 6) gs0))) yYes (xFc d_less (zCons (xV 5) (zCons (xFc d_times (zCons (xV 4) (zCons (xV 6) zNil))) zNil)))) 2))) kNx)
theorem b1_Span_rest_a (ρ : List Slot) : b1_Span_rest ρ = (kIf (yAnd (yV (xOp zNe (xIxO 2 (xV 3)) (xC (encR 0)))) (yV (xFdin (xV 3) 0 1 0))) (kSeq (kAsg (xIxO 2 (xV 3)) 4)
  (kFrz 2 (kOwn (fLc [5, 6] (iA (zipO true) (zCons (xV 2) (zCons (xFdg 0 1 0 (xV 3)) zNil))) (gT 2 (gsC (gN 5) (gsC (gN 6) gs0))) yYes (xFc d_less (zCons (xV 5) (zCons (xFc d_times (zCons (xV 4) (zCons (xV 6) zNil))) zNil)))) 2))) kNx) ρ := nr rfl
noncomputable def m_Span_rest : MS := (kSeq (kOwn (fCB zList (zCons (xV 1) zNil)) 2)
  (kSeq (kFor (iA rng1 (zCons (xLenO 2) zNil)) (gN 3) [3, 4] b1_Span_rest)
  (kRetO 2)))
noncomputable def d_Span_rest : List Fd → List PyData → Rz PyData := fnO 2 7 1 m_Span_rest
theorem ok_Span_rest {P : Program} {w : World} {K : PySem.W.Frag} {T : Tb} {mg : Str → Option Value} {base : Heap} {f : Addr} {fd : FuncData} (F : FnM K "rest" "Span.rest" s_Span_rest [] f fd) (Z : Blt mg) (cl_Span : ClT K 1) (g_NOUGHT : Cst mg K "NOUGHT" (encR 0))
    (c_less : CalX P w K mg base 43 "less" ["one", "other"] [] (spZ K T .no d_less))
    (c_times : CalX P w K mg base 43 "times" ["one", "other"] [] (spZ K T .no d_times)) :
    FnOk P w K mg base (L2N.CX P w) 44 f fd ["self", "row"] (spRO K T 1 .yes d_Span_rest) := by
  refine fnRO F sc_Span_rest rfl rfl (fun cdv A outer s H E hr => ?_)
  have nd := sc_Span_rest.nd
  obtain ⟨v_NOUGHT, u_NOUGHT, g_NOUGHT⟩ := g_NOUGHT
  refine ⟨_, (pss_cons (ps_set (i := 2) nd rfl (Or.inl rfl) (pe_callTy (call_listK K) (by rfl) Z.list (by decide +kernel) (pa_cons (pv 1) pa_nil)))
      (pss_cons (ps_for (passes_of rfl) rfl (pi_range1 (by rfl) Z.range (pa_cons (pe_callB (call_lenK K) (by rfl) Z.len PySem.boot_len (pa_cons (pv 2) pa_nil)) pa_nil)) (pg_name (i := 3) nd rfl (Or.inl rfl)) (pss_one (ps_if (PW.pt (pw_and (pt_cmpR (op_neK K hr.units) (pe_ix (ix_seqK K) (pv 2) (pv 3) (fun _ _ => rfl)) (pe_glob (by rfl) g_NOUGHT.m g_NOUGHT.r) (nomark _)) (pw_and1 (pt_cmp (pc_din (hu_of hr) (pv 3) (pe_fldK K (pv 0) rfl)) rfl)))) (pss_cons (ps_set (i := 4) nd rfl (Or.inr rfl) (pe_ix (ix_seqK K) (pv 2) (pv 3) (fun _ _ => rfl)))
      (pss_one (ps_setLc (i := 2) (own := [("one", 5), ("lead", 6)]) rfl nd rfl rfl (sw_true rfl rfl rfl (by decide +kernel)) (LwZ.pi_zipS K (by rfl) Z.zip (pa_cons (pv 2) (pa_cons (pe_dget (hu_of hr) (pe_fldK K (pv 0) rfl) (pv 3) (fun _ _ => rfl)) pa_nil))) (blkOk_by (own := [("one", 5), ("lead", 6)]) (N := ["self", "row", "found", "at", "many", "one", "lead"]) (sc := defScope s_Span_rest) (by decide +kernel)) (fun _ _ _ _ _ => (pg_tupK (n := 2) K rfl (pgs_cons (pg_name (i := 5) nd rfl (Or.inl rfl)) (pgs_cons (pg_name (i := 6) nd rfl (Or.inl rfl)) pgs_nil)))) (fun _ _ _ _ _ => pts_nil) (fun _ _ _ _ _ => (pe_callC c_less.calmZ hr rfl (pa_cons (pv 5) (pa_cons (pe_callC c_times.calmZ hr rfl (pa_cons (pv 4) (pa_cons (pv 6) pa_nil))) pa_nil))))))) pss_nil)))
      (pss_one (ps_ret (pv 2))))), ?_⟩
  exact (sim_seq (sim_own (sim_cbF r_list (sim_cons sim_V sim_nil)))
    (sim_seq (sim_for (sim_rng1 (sim_cons sim_lenO sim_nil)) simG_N (sim_kIf (sim_yAnd (sim_yT (sim_op r_ne (sim_ixO sim_V) (sim_cst g_NOUGHT))) (sim_yB (sim_fdin cl_Span rfl sim_V))) (sim_seq (sim_asg (sim_ixO sim_V))
    (sim_frz (sim_own (sim_lc (W' := fun _ _ _ _ => False) (sim_zip (sim_cons sim_V (sim_cons (sim_fdg cl_Span rfl sim_V) sim_nil))) (simG_T (simG_C simG_N (simG_C simG_N simG_0))) sim_yYes (sim_callC0 (sim_cons sim_V (sim_cons (sim_callC0 (sim_cons sim_V (sim_cons sim_V sim_nil))) sim_nil))) (by decide))))) sim_kNx))
    sim_retO))

noncomputable def b1_Span_put : MS := (kIf (yV (xOp zNe (xV 4) (xC (encR 0)))) (kSeq (kFdput 0 1 0 (xV 3) (xL (fLc [5] (iS (xV 2)) (gN 5) yYes (xFc d_over (zCons (xV 5) (zCons (xV 4) zNil))))))
  (kRetW (xC (.bool true)))) kNx)
theorem b1_Span_put_a (ρ : List Slot) : b1_Span_put ρ = (kIf (yV (xOp zNe (xV 4) (xC (encR 0)))) (kSeq (kFdput 0 1 0 (xV 3) (xL (fLc [5] (iS (xV 2)) (gN 5) yYes (xFc d_over (zCons (xV 5) (zCons (xV 4) zNil))))))
  (kRetW (xC (.bool true)))) kNx) ρ := nr rfl
noncomputable def m_Span_put : MS := (kSeq (kAsg (xL (fMr 0 1 d_Span_rest (zCons (xV 1) zNil))) 2)
  (kSeq (kFor (iA enO (zCons (xV 2) zNil)) (gT 2 (gsC (gN 3) (gsC (gN 4) gs0))) [3, 4] b1_Span_put)
  (kRetW (xC (.bool false)))))
noncomputable def f_Span_put : Addr → List Fd → List PyData → Ro := fnW 2 6 1 m_Span_put
theorem ok_Span_put {P : Program} {w : World} {K : PySem.W.Frag} {T : Tb} {mg : Str → Option Value} {base : Heap} {f : Addr} {fd : FuncData} (F : FnM K "put" "Span.put" s_Span_put [] f fd) (Z : Blt mg) (cl_Span : ClT K 1)
    (c_Span_rest : MetX P w K mg base 44 1 "rest" ["self", "row"] (spRO K T 1 .yes d_Span_rest)) (g_NOUGHT : Cst mg K "NOUGHT" (encR 0))
    (c_over : CalX P w K mg base 43 "over" ["one", "other"] [] (spZ K T .no d_over)) :
    FnOk P w K mg base (L2N.CX P w) 45 f fd ["self", "row"] (spW K T 1 f_Span_put) := by
  refine fnMW F sc_Span_put rfl rfl (fun cdv A outer s H E hr => ?_)
  have nd := sc_Span_put.nd
  obtain ⟨v_NOUGHT, u_NOUGHT, g_NOUGHT⟩ := g_NOUGHT
  refine ⟨_, (pss_cons (ps_set (i := 2) nd rfl (Or.inl rfl) (pe_mthC (pv 0) cl_Span c_Span_rest.calmR hr (pa_cons (pv 1) pa_nil)))
      (pss_cons (ps_for (passes_of rfl) rfl (LwZ.pi_enumA K (by rfl) Z.enumerate (pa_cons (pv 2) pa_nil)) (pg_tupK (n := 2) K rfl (pgs_cons (pg_name (i := 3) nd rfl (Or.inl rfl)) (pgs_cons (pg_name (i := 4) nd rfl (Or.inr rfl)) pgs_nil))) (pss_one (ps_if (pt_cmpR (op_neK K hr.units) (pv 4) (pe_glob (by rfl) g_NOUGHT.m g_NOUGHT.r) (nomark _)) (pss_cons (ps_dput (hu_of hr) (pe_fldK K (pv 0) rfl) (pv 3) (pe_lc (own := [("other", 5)]) rfl nd (pi_seqK K (pv 2)) (blkOk_by (own := [("other", 5)]) (N := ["self", "row", "found", "at", "one", "other"]) (sc := defScope s_Span_put) (by decide +kernel)) (fun _ _ _ _ _ => (pg_name (i := 5) nd rfl (Or.inl rfl))) (fun _ _ _ _ _ => pts_nil) (fun _ _ _ _ _ => (pe_callC c_over.calmZ hr rfl (pa_cons (pv 5) (pa_cons (pv 4) pa_nil))))) rfl)
      (pss_one (ps_ret pe_bl))) pss_nil)))
      (pss_one (ps_ret pe_bl)))), ?_⟩
  exact (sim_seq (sim_asg (sim_L (sim_mrF c_Span_rest.no (sim_cons sim_V sim_nil))))
    (sim_seq (sim_for (sim_en (sim_cons sim_V sim_nil)) (simG_T (simG_C simG_N (simG_C simG_N simG_0))) (sim_kIf (sim_yT (sim_op r_ne sim_V (sim_cst g_NOUGHT))) (sim_seq (sim_fdput cl_Span rfl sim_V (sim_L (sim_lc (W' := fun _ _ _ _ => False) (sim_iS sim_V) simG_N sim_yYes (sim_callC0 (sim_cons sim_V (sim_cons sim_V sim_nil))) (by decide))))
    (sim_retW sim_bl)) sim_kNx))
    (sim_retW sim_bl)))

noncomputable def b1_alike : MS := (kSeq (kTg (xTup (zCons (xF d_row_by (zCons (xV 6) (zCons (xF d_taken (zCons (xV 0) (zCons (xV 8) zNil))) zNil))) (zCons (xF d_row_by (zCons (xV 6) (zCons (xF d_taken (zCons (xV 1) (zCons (xV 8) zNil))) zNil))) zNil))) (gT 2 (gsC (gN 9) (gsC (gN 10) gs0))))
  (kSeq (kIf (yV (xOp zNe (xV 9) (xV 10))) (kSeq (kAsg (xOp zIx (xL (fLc [12] (iA rng1 (zCons (xCB zLen (zCons (xV 9) zNil)) zNil)) (gN 12) (yV (xOp zNe (xOp zIx (xV 9) (xV 12)) (xOp zIx (xV 10) (xV 12)))) (xV 12))) (xC (.int 0))) 11)
  (kRet (xTup (zCons (xC (.str "apart")) (zCons (xOp zAddV (xL (fLst (zCons (xV 8) zNil))) (xV 7)) (zCons (xV 11) zNil)))))) kNx)
  (kIfW 3 1 (Fall f_Span_put) (zCons (xV 9) zNil) (kApp 5 (xTup (zCons (xV 9) (zCons (xOp zAddV (xL (fLst (zCons (xV 8) zNil))) (xV 7)) zNil)))) kNx)))
theorem b1_alike_a (ρ : List Slot) : b1_alike ρ = (kSeq (kTg (xTup (zCons (xF d_row_by (zCons (xV 6) (zCons (xF d_taken (zCons (xV 0) (zCons (xV 8) zNil))) zNil))) (zCons (xF d_row_by (zCons (xV 6) (zCons (xF d_taken (zCons (xV 1) (zCons (xV 8) zNil))) zNil))) zNil))) (gT 2 (gsC (gN 9) (gsC (gN 10) gs0))))
  (kSeq (kIf (yV (xOp zNe (xV 9) (xV 10))) (kSeq (kAsg (xOp zIx (xL (fLc [12] (iA rng1 (zCons (xCB zLen (zCons (xV 9) zNil)) zNil)) (gN 12) (yV (xOp zNe (xOp zIx (xV 9) (xV 12)) (xOp zIx (xV 10) (xV 12)))) (xV 12))) (xC (.int 0))) 11)
  (kRet (xTup (zCons (xC (.str "apart")) (zCons (xOp zAddV (xL (fLst (zCons (xV 8) zNil))) (xV 7)) (zCons (xV 11) zNil)))))) kNx)
  (kIfW 3 1 (Fall f_Span_put) (zCons (xV 9) zNil) (kApp 5 (xTup (zCons (xV 9) (zCons (xOp zAddV (xL (fLst (zCons (xV 8) zNil))) (xV 7)) zNil)))) kNx))) ρ := nr rfl
noncomputable def b2_alike : MS := (kSeq (kStarO 6 7 5)
  (kSeq (kApp 4 (xV 6))
  (kFor (iS (xF d_all_plans (zCons (xV 0) (zCons (xL (fLr (xCB zLen (zCons (xV 0) zNil)))) zNil)))) (gN 8) [8, 9, 10, 11] b1_alike)))
theorem b2_alike_a (ρ : List Slot) : b2_alike ρ = (kSeq (kStarO 6 7 5)
  (kSeq (kApp 4 (xV 6))
  (kFor (iS (xF d_all_plans (zCons (xV 0) (zCons (xL (fLr (xCB zLen (zCons (xV 0) zNil)))) zNil)))) (gN 8) [8, 9, 10, 11] b1_alike))) ρ := nr rfl
noncomputable def m_alike : MS := (kSeq (kDrop (xF d_need_both (zCons (xV 0) (zCons (xV 1) (zCons (xV 2) zNil)))))
  (kSeq (kMk 3 1 (Fall f_Span___init__) zNil)
  (kSeq (kOwn (fLst zNil) 4)
  (kSeq (kIfW 3 1 (Fall f_Span_put) (zCons (xV 2) zNil) (kOwn (fLst (zCons (xTup (zCons (xCB zTuple (zCons (xV 2) zNil)) (zCons (xL (fLst zNil)) zNil))) zNil)) 5) (kOwn (fLst zNil) 5))
  (kSeq (kWhile (yVw (yV (xOp zNe (xV 5) (xL (fLst zNil))))) [6, 7, 8, 9, 10, 11] b2_alike)
  (kFrz 4 (kRet (xTup (zCons (xC (.str "alike")) (zCons (xV 4) zNil))))))))))
noncomputable def d_alike : List PyData → Rz PyData := fnD 3 13 m_alike
theorem ok_alike {P : Program} {w : World} {K : PySem.W.Frag} {T : Tb} {mg : Str → Option Value} {base : Heap} {f : Addr} {fd : FuncData} {dvs : List V} {kws : List (Str × V)} (F : FnQ K "alike" s_alike dvs kws f fd) (Z : Blt mg) (cl_Span : ClT K 1)
    (c_Span_put : MetX P w K mg base 45 1 "put" ["self", "row"] (spW K T 1 f_Span_put))
    (mk_Span : MakC P w K mg base 41 1 ["self"] (spW K T 1 fun p fs ds => roCalm (f_Span___init__ p fs ds)))
    (c_need_both : CalX P w K mg base 43 "need_both" ["one", "other", "counts"] [] (spZ K T .no d_need_both))
    (c_all_plans : CalX P w K mg base 41 "all_plans" ["menus", "stores"] [] (spZ K T .yes d_all_plans))
    (c_row_by : CalX P w K mg base 44 "row_by" ["row", "table"] [] (spZ K T .no d_row_by))
    (c_taken : CalX P w K mg base 41 "taken" ["menus", "choice"] [] (spZ K T .yes d_taken)) :
    FnOk P w K mg base (L2N.CX P w) 46 f fd ["one", "other", "counts"] (spZ K T .no d_alike) := by
  refine fnZ F sc_alike rfl rfl (fun cdv A outer s H E hr => ?_)
  have nd := sc_alike.nd
  refine ⟨_, (pss_cons (ps_expr (pe_callX c_need_both (L2N.takes_of rfl rfl rfl rfl) hr rfl (pa_cons (pv 0) (pa_cons (pv 1) (pa_cons (pv 2) pa_nil)))))
      (pss_cons (ps_set (i := 3) nd rfl (Or.inl rfl) (pe_mkC0 rfl mk_Span hr (by rfl)))
      (pss_cons (ps_set (i := 4) nd rfl (Or.inl rfl) (pe_lst pa_nil))
      (pss_cons (ps_set (i := 5) nd rfl (Or.inl rfl) (pe_ifExp (pt_val (pe_mthC (pv 3) cl_Span c_Span_put.calmW hr (pa_cons (pv 2) pa_nil))) (pe_lst (pa_cons (pe_tup (pa_cons (pe_callTy (call_tupleK K) (by rfl) Z.tuple (by decide +kernel) (pa_cons (pv 2) pa_nil)) (pa_cons (pe_lst pa_nil) pa_nil))) pa_nil)) (pe_lst pa_nil)))
      (pss_cons (ps_while (passes_of rfl) (pt_cmpR (op_neK K hr.units) (pv 5) (pe_lst pa_nil) (nomark _)) (pss_cons (ps_asg (pv 5) (LwZ.pg_starL rfl (pgs_cons (pg_tupK (n := 2) K rfl (pgs_cons (pg_name (i := 6) nd rfl (Or.inl rfl)) (pgs_cons (pg_name (i := 7) nd rfl (Or.inl rfl)) pgs_nil))) (LwZ.pgs_star (pg_name (i := 5) nd rfl (Or.inl rfl)) pgs_nil))))
      (pss_cons (ps_expr (pe_bmK K PySem.F.plainAttrs_list PySem.F.slot_list_append PySem.F.type_list_append mt_append (pv 4) (pa_cons (pv 6) pa_nil)))
      (pss_one (ps_for (passes_of rfl) rfl (pi_seqK K (pe_callX c_all_plans (L2N.takes_of rfl rfl rfl rfl) hr rfl (pa_cons (pv 0) (pa_cons (pe_listRg rfl (by rfl) Z.list (prg_1 (by rfl) Z.range (pe_callB (call_lenK K) (by rfl) Z.len PySem.boot_len (pa_cons (pv 0) pa_nil)))) pa_nil)))) (pg_name (i := 8) nd rfl (Or.inl rfl)) (pss_cons (ps_asg (pe_tup (pa_cons (pe_callX c_row_by (L2N.takes_of rfl rfl rfl rfl) hr rfl (pa_cons (pv 6) (pa_cons (pe_callX c_taken (L2N.takes_of rfl rfl rfl rfl) hr rfl (pa_cons (pv 0) (pa_cons (pv 8) pa_nil))) pa_nil))) (pa_cons (pe_callX c_row_by (L2N.takes_of rfl rfl rfl rfl) hr rfl (pa_cons (pv 6) (pa_cons (pe_callX c_taken (L2N.takes_of rfl rfl rfl rfl) hr rfl (pa_cons (pv 1) (pa_cons (pv 8) pa_nil))) pa_nil))) pa_nil))) (pg_tupK (n := 2) K rfl (pgs_cons (pg_name (i := 9) nd rfl (Or.inr rfl)) (pgs_cons (pg_name (i := 10) nd rfl (Or.inr rfl)) pgs_nil))))
      (pss_cons (ps_if (pt_cmpR (op_neK K hr.units) (pv 9) (pv 10) (nomark _)) (pss_cons (ps_set (i := 11) nd rfl (Or.inl rfl) (pe_ix (ix_seqK K) (pe_lc (own := [("at", 12)]) rfl nd (pi_range1 (by rfl) Z.range (pa_cons (pe_callB (call_lenK K) (by rfl) Z.len PySem.boot_len (pa_cons (pv 9) pa_nil)) pa_nil)) (blkOk_by (own := [("at", 12)]) (N := ["one", "other", "counts", "span", "basis", "waiting", "row", "choices", "choice", "here", "there", "store", "at"]) (sc := defScope s_alike) (by decide +kernel)) (fun _ _ _ _ _ => (pg_name (i := 12) nd rfl (Or.inl rfl))) (fun _ _ _ _ _ => (pts_one (pt_cmpR (op_neK K hr.units) (pe_ix (ix_seqK K) (pv 9) (pv 12) (fun _ _ => rfl)) (pe_ix (ix_seqK K) (pv 10) (pv 12) (fun _ _ => rfl)) (nomark _)))) (fun _ _ _ _ _ => (pv 12))) pe_int (fun _ _ => rfl)))
      (pss_one (ps_ret (pe_tup (pa_cons pe_str (pa_cons (pe_op (op_addK K) (pe_lst (pa_cons (pv 8) pa_nil)) (pv 7)) (pa_cons (pv 11) pa_nil))))))) pss_nil)
      (pss_one (ps_if (pt_val (pe_mthC (pv 3) cl_Span c_Span_put.calmW hr (pa_cons (pv 9) pa_nil))) (pss_one (ps_expr (pe_bmK K PySem.F.plainAttrs_list PySem.F.slot_list_append PySem.F.type_list_append mt_append (pv 5) (pa_cons (pe_tup (pa_cons (pv 9) (pa_cons (pe_op (op_addK K) (pe_lst (pa_cons (pv 8) pa_nil)) (pv 7)) pa_nil))) pa_nil)))) pss_nil)))))))))
      (pss_one (ps_ret (pe_tup (pa_cons pe_str (pa_cons (pv 4) pa_nil)))))))))), ?_⟩
  exact (sim_seq (sim_drop (sim_call0 (sim_cons sim_V (sim_cons sim_V (sim_cons sim_V sim_nil)))))
    (sim_seq (sim_mk sim_nil)
    (sim_seq (sim_own (sim_lstF sim_nil))
    (sim_seq (sim_ownW c_Span_put.no (sim_cons sim_V sim_nil) (sim_lstF (sim_cons (sim_tup (sim_cons (sim_cb r_tuple (sim_cons sim_V sim_nil)) (sim_cons (sim_L (sim_lstF sim_nil)) sim_nil))) sim_nil)) (sim_lstF sim_nil))
    (sim_seq (sim_while (sim_yVw (sim_yT (sim_op r_ne sim_V (sim_L (sim_lstF sim_nil))))) (sim_seq (sim_starO (by decide) (by decide))
    (sim_seq (sim_app sim_V)
    (sim_for (sim_iS (sim_call0 (sim_cons sim_V (sim_cons (sim_L (sim_lr (sim_cb r_len (sim_cons sim_V sim_nil)))) sim_nil)))) simG_N (sim_seq (sim_tg (sim_tup (sim_cons (sim_call0 (sim_cons sim_V (sim_cons (sim_call0 (sim_cons sim_V (sim_cons sim_V sim_nil))) sim_nil))) (sim_cons (sim_call0 (sim_cons sim_V (sim_cons (sim_call0 (sim_cons sim_V (sim_cons sim_V sim_nil))) sim_nil))) sim_nil))) (simG_T (simG_C simG_N (simG_C simG_N simG_0))))
    (sim_seq (sim_kIf (sim_yT (sim_op r_ne sim_V sim_V)) (sim_seq (sim_asg (sim_op r_ix (sim_L (sim_lc (W' := fun _ _ _ _ => False) (sim_rng1 (sim_cons (sim_cb r_len (sim_cons sim_V sim_nil)) sim_nil)) simG_N (sim_yT (sim_op r_ne (sim_op r_ix sim_V sim_V) (sim_op r_ix sim_V sim_V))) sim_V (by decide))) sim_int))
    (sim_ret (sim_tup (sim_cons sim_str (sim_cons (sim_op r_addV (sim_L (sim_lstF (sim_cons sim_V sim_nil))) sim_V) (sim_cons sim_V sim_nil)))))) sim_kNx)
    (sim_ifW c_Span_put.no (sim_cons sim_V sim_nil) (sim_app (sim_tup (sim_cons sim_V (sim_cons (sim_op r_addV (sim_L (sim_lstF (sim_cons sim_V sim_nil))) sim_V) sim_nil)))) sim_kNx)))))))
    (sim_frz (sim_ret (sim_tup (sim_cons sim_str (sim_cons sim_V sim_nil))))))))))

noncomputable def b1__law_part : MS := (kPar (zCons (xV 3) (zCons (xOp zMod (xV 2) (xV 3)) zNil)) 2 3)
theorem b1__law_part_a (ρ : List Slot) : b1__law_part ρ = (kPar (zCons (xV 3) (zCons (xOp zMod (xV 2) (xV 3)) zNil)) 2 3) ρ := nr rfl
noncomputable def m__law_part : MS := (kSeq (kPar (zCons (xCB zAbs (zCons (xV 0) zNil)) (zCons (xCB zAbs (zCons (xV 1) zNil)) zNil)) 2 3)
  (kSeq (kWhile (yV (xOp zGt (xV 3) (xC (.int 0)))) [] b1__law_part)
  (kSeq (kAsg (xIf (yV (xOp zGt (xV 1) (xC (.int 0)))) (xV 2) (xOp zSub (xC (.int 0)) (xV 2))) 4)
  (kRet (xTup (zCons (xOp zFdB (xV 0) (xV 4)) (zCons (xOp zFdB (xV 1) (xV 4)) zNil)))))))
noncomputable def d__law_part : List PyData → Rz PyData := fnD 2 5 m__law_part
theorem ok__law_part {P : Program} {w : World} {K : PySem.W.Frag} {T : Tb} {mg : Str → Option Value} {base : Heap} {f : Addr} {fd : FuncData} {dvs : List V} {kws : List (Str × V)} (F : FnQ K "_law_part" s__law_part dvs kws f fd) (Z : Blt mg) (Se : Seer P K) :
    FnOk P w K mg base (L2N.CX P w) 41 f fd ["_law_up", "_law_down"] (spZ K T .no d__law_part) := by
  refine fnZ F sc__law_part rfl rfl (fun cdv A outer s H E hr => ?_)
  have nd := sc__law_part.nd
  refine ⟨_, (pss_cons (ps_par (i := 2) (j := 3) (by rfl) nd rfl rfl (by decide) rfl rfl (pa_cons (pe_callB call_abs (by rfl) Z.abs (by decide +kernel) (pa_cons (pv 0) pa_nil)) (pa_cons (pe_callB call_abs (by rfl) Z.abs (by decide +kernel) (pa_cons (pv 1) pa_nil)) pa_nil)) (by rfl))
      (pss_cons (ps_while (passes_of rfl) (pt_cmpR op_gt (pv 3) pe_int (nomark _)) (pss_one (ps_par (i := 2) (j := 3) (by rfl) nd rfl rfl (by decide) rfl rfl (pa_cons (pv 3) (pa_cons (pe_op op_modN (pv 2) (pv 3)) pa_nil)) (by rfl))))
      (pss_cons (ps_set (i := 4) nd rfl (Or.inl rfl) (pe_ifExp (pt_cmpR op_gt (pv 1) pe_int (nomark _)) (pv 2) (pe_op op_sub pe_int (pv 2))))
      (pss_one (ps_ret (pe_tup (pa_cons (pe_op (op_fdB Se hr (by decide) rfl rfl rfl rfl rfl) (pv 0) (pv 4)) (pa_cons (pe_op (op_fdB Se hr (by decide) rfl rfl rfl rfl rfl) (pv 1) (pv 4)) pa_nil)))))))), ?_⟩
  exact (sim_seq (sim_par (sim_cons (sim_cb r_abs (sim_cons sim_V sim_nil)) (sim_cons (sim_cb r_abs (sim_cons sim_V sim_nil)) sim_nil)))
    (sim_seq (sim_while (sim_yT (sim_op r_gt sim_V sim_int)) (sim_par (sim_cons sim_V (sim_cons (sim_op r_mod sim_V sim_V) sim_nil))))
    (sim_seq (sim_asg (sim_if (sim_yT (sim_op r_gt sim_V sim_int)) sim_V (sim_op r_sub sim_int sim_V)))
    (sim_ret (sim_tup (sim_cons (sim_op r_fdB sim_V sim_V) (sim_cons (sim_op r_fdB sim_V sim_V) sim_nil)))))))

noncomputable def m__law_plus : MS := (kRet (xF d__law_part (zCons (xOp zAddV (xOp zMulV (xOp zIx (xV 0) (xC (.int 0))) (xOp zIx (xV 1) (xC (.int 1)))) (xOp zMulV (xOp zIx (xV 1) (xC (.int 0))) (xOp zIx (xV 0) (xC (.int 1))))) (zCons (xOp zMulV (xOp zIx (xV 0) (xC (.int 1))) (xOp zIx (xV 1) (xC (.int 1)))) zNil))))
noncomputable def d__law_plus : List PyData → Rz PyData := fnD 2 2 m__law_plus
theorem ok__law_plus {P : Program} {w : World} {K : PySem.W.Frag} {T : Tb} {mg : Str → Option Value} {base : Heap} {f : Addr} {fd : FuncData} {dvs : List V} {kws : List (Str × V)} (F : FnQ K "_law_plus" s__law_plus dvs kws f fd) (Z : Blt mg)
    (c__law_part : CalX P w K mg base 41 "_law_part" ["_law_up", "_law_down"] [] (spZ K T .no d__law_part)) :
    FnOk P w K mg base (L2N.CX P w) 42 f fd ["_law_this", "_law_that"] (spZ K T .no d__law_plus) := by
  refine fnZ F sc__law_plus rfl rfl (fun cdv A outer s H E hr => ?_)
  have nd := sc__law_plus.nd
  refine ⟨_, (pss_one (ps_ret (pe_callX c__law_part (L2N.takes_of rfl rfl rfl rfl) hr rfl (pa_cons (pe_op (op_addK K) (pe_op op_mulA (pe_ix (ix_seqK K) (pv 0) pe_int (fun _ _ => rfl)) (pe_ix (ix_seqK K) (pv 1) pe_int (fun _ _ => rfl))) (pe_op op_mulA (pe_ix (ix_seqK K) (pv 1) pe_int (fun _ _ => rfl)) (pe_ix (ix_seqK K) (pv 0) pe_int (fun _ _ => rfl)))) (pa_cons (pe_op op_mulA (pe_ix (ix_seqK K) (pv 0) pe_int (fun _ _ => rfl)) (pe_ix (ix_seqK K) (pv 1) pe_int (fun _ _ => rfl))) pa_nil))))), ?_⟩
  exact (sim_ret (sim_call0 (sim_cons (sim_op r_addV (sim_op r_mulV (sim_op r_ix sim_V sim_int) (sim_op r_ix sim_V sim_int)) (sim_op r_mulV (sim_op r_ix sim_V sim_int) (sim_op r_ix sim_V sim_int))) (sim_cons (sim_op r_mulV (sim_op r_ix sim_V sim_int) (sim_op r_ix sim_V sim_int)) sim_nil))))

noncomputable def m__law_times : MS := (kRet (xF d__law_part (zCons (xOp zMulV (xOp zIx (xV 0) (xC (.int 0))) (xOp zIx (xV 1) (xC (.int 0)))) (zCons (xOp zMulV (xOp zIx (xV 0) (xC (.int 1))) (xOp zIx (xV 1) (xC (.int 1)))) zNil))))
noncomputable def d__law_times : List PyData → Rz PyData := fnD 2 2 m__law_times
theorem ok__law_times {P : Program} {w : World} {K : PySem.W.Frag} {T : Tb} {mg : Str → Option Value} {base : Heap} {f : Addr} {fd : FuncData} {dvs : List V} {kws : List (Str × V)} (F : FnQ K "_law_times" s__law_times dvs kws f fd) (Z : Blt mg)
    (c__law_part : CalX P w K mg base 41 "_law_part" ["_law_up", "_law_down"] [] (spZ K T .no d__law_part)) :
    FnOk P w K mg base (L2N.CX P w) 42 f fd ["_law_this", "_law_that"] (spZ K T .no d__law_times) := by
  refine fnZ F sc__law_times rfl rfl (fun cdv A outer s H E hr => ?_)
  have nd := sc__law_times.nd
  refine ⟨_, (pss_one (ps_ret (pe_callX c__law_part (L2N.takes_of rfl rfl rfl rfl) hr rfl (pa_cons (pe_op op_mulA (pe_ix (ix_seqK K) (pv 0) pe_int (fun _ _ => rfl)) (pe_ix (ix_seqK K) (pv 1) pe_int (fun _ _ => rfl))) (pa_cons (pe_op op_mulA (pe_ix (ix_seqK K) (pv 0) pe_int (fun _ _ => rfl)) (pe_ix (ix_seqK K) (pv 1) pe_int (fun _ _ => rfl))) pa_nil))))), ?_⟩
  exact (sim_ret (sim_call0 (sim_cons (sim_op r_mulV (sim_op r_ix sim_V sim_int) (sim_op r_ix sim_V sim_int)) (sim_cons (sim_op r_mulV (sim_op r_ix sim_V sim_int) (sim_op r_ix sim_V sim_int)) sim_nil))))

noncomputable def b1__law_sum : MS := (kAsg (xF d__law_plus (zCons (xV 2) (zCons (xF d__law_times (zCons (xV 3) (zCons (xV 4) zNil))) zNil))) 2)
theorem b1__law_sum_a (ρ : List Slot) : b1__law_sum ρ = (kAsg (xF d__law_plus (zCons (xV 2) (zCons (xF d__law_times (zCons (xV 3) (zCons (xV 4) zNil))) zNil))) 2) ρ := nr rfl
noncomputable def m__law_sum : MS := (kSeq (kAsg (xTup (zCons (xC (.int 0)) (zCons (xC (.int 1)) zNil))) 2)
  (kSeq (kFor (iA (zipO false) (zCons (xV 0) (zCons (xV 1) zNil))) (gT 2 (gsC (gN 3) (gsC (gN 4) gs0))) [3, 4] b1__law_sum)
  (kRet (xV 2))))
noncomputable def d__law_sum : List PyData → Rz PyData := fnD 2 5 m__law_sum
theorem ok__law_sum {P : Program} {w : World} {K : PySem.W.Frag} {T : Tb} {mg : Str → Option Value} {base : Heap} {f : Addr} {fd : FuncData} {dvs : List V} {kws : List (Str × V)} (F : FnQ K "_law_sum" s__law_sum dvs kws f fd) (Z : Blt mg)
    (c__law_plus : CalX P w K mg base 42 "_law_plus" ["_law_this", "_law_that"] [] (spZ K T .no d__law_plus))
    (c__law_times : CalX P w K mg base 42 "_law_times" ["_law_this", "_law_that"] [] (spZ K T .no d__law_times)) :
    FnOk P w K mg base (L2N.CX P w) 43 f fd ["_law_line", "_law_some"] (spZ K T .no d__law_sum) := by
  refine fnZ F sc__law_sum rfl rfl (fun cdv A outer s H E hr => ?_)
  have nd := sc__law_sum.nd
  refine ⟨_, (pss_cons (ps_set (i := 2) nd rfl (Or.inl rfl) (pe_tup (pa_cons pe_int (pa_cons pe_int pa_nil))))
      (pss_cons (ps_for (passes_of rfl) rfl (LwZ.pi_zipM K (by rfl) Z.zip (pa_cons (pv 0) (pa_cons (pv 1) pa_nil))) (pg_tupK (n := 2) K rfl (pgs_cons (pg_name (i := 3) nd rfl (Or.inl rfl)) (pgs_cons (pg_name (i := 4) nd rfl (Or.inl rfl)) pgs_nil))) (pss_one (ps_set (i := 2) nd rfl (Or.inl rfl) (pe_callX c__law_plus (L2N.takes_of rfl rfl rfl rfl) hr rfl (pa_cons (pv 2) (pa_cons (pe_callX c__law_times (L2N.takes_of rfl rfl rfl rfl) hr rfl (pa_cons (pv 3) (pa_cons (pv 4) pa_nil))) pa_nil))))))
      (pss_one (ps_ret (pv 2))))), ?_⟩
  exact (sim_seq (sim_asg (sim_tup (sim_cons sim_int (sim_cons sim_int sim_nil))))
    (sim_seq (sim_for (sim_zip (sim_cons sim_V (sim_cons sim_V sim_nil))) (simG_T (simG_C simG_N (simG_C simG_N simG_0))) (sim_asg (sim_call0 (sim_cons sim_V (sim_cons (sim_call0 (sim_cons sim_V (sim_cons sim_V sim_nil))) sim_nil)))))
    (sim_ret sim_V)))

noncomputable def b1__law_told_sums : MS := (kAsg (xL (fLc [8] (iA rng1 (zCons (xCB zLen (zCons (xV 5) zNil)) zNil)) (gN 8) yYes (xFc d__law_sum (zCons (xOp zIx (xOp zIx (xOp zIx (xV 5) (xV 8)) (xC (.int 1))) (xOp zIx (xV 7) (xV 8))) (zCons (xV 6) zNil))))) 6)
theorem b1__law_told_sums_a (ρ : List Slot) : b1__law_told_sums ρ = (kAsg (xL (fLc [8] (iA rng1 (zCons (xCB zLen (zCons (xV 5) zNil)) zNil)) (gN 8) yYes (xFc d__law_sum (zCons (xOp zIx (xOp zIx (xOp zIx (xV 5) (xV 8)) (xC (.int 1))) (xOp zIx (xV 7) (xV 8))) (zCons (xV 6) zNil))))) 6) ρ := nr rfl
noncomputable def b2__law_told_sums : MS := (kSeq (kAsg (xL (fLc [8] (iA rng1 (zCons (xCB zLen (zCons (xV 5) zNil)) zNil)) (gN 8) yYes (xTup (zCons (xCB zInt (zCons (xOp zEq (xV 8) (xV 3)) zNil)) (zCons (xC (.int 1)) zNil))))) 6)
  (kSeq (kFor (iS (xV 2)) (gN 7) [7] b1__law_told_sums)
  (kApp 4 (xF d__law_sum (zCons (xV 1) (zCons (xV 6) zNil))))))
theorem b2__law_told_sums_a (ρ : List Slot) : b2__law_told_sums ρ = (kSeq (kAsg (xL (fLc [8] (iA rng1 (zCons (xCB zLen (zCons (xV 5) zNil)) zNil)) (gN 8) yYes (xTup (zCons (xCB zInt (zCons (xOp zEq (xV 8) (xV 3)) zNil)) (zCons (xC (.int 1)) zNil))))) 6)
  (kSeq (kFor (iS (xV 2)) (gN 7) [7] b1__law_told_sums)
  (kApp 4 (xF d__law_sum (zCons (xV 1) (zCons (xV 6) zNil)))))) ρ := nr rfl
noncomputable def m__law_told_sums : MS := (kSeq (kOwn (fLst zNil) 4)
  (kSeq (kFor (iS (xV 0)) (gN 5) [5, 6, 7] b2__law_told_sums)
  (kRetO 4)))
noncomputable def d__law_told_sums : List PyData → Rz PyData := fnD 4 9 m__law_told_sums
theorem ok__law_told_sums {P : Program} {w : World} {K : PySem.W.Frag} {T : Tb} {mg : Str → Option Value} {base : Heap} {f : Addr} {fd : FuncData} {dvs : List V} {kws : List (Str × V)} (F : FnQ K "_law_told_sums" s__law_told_sums dvs kws f fd) (Z : Blt mg)
    (c__law_sum : CalX P w K mg base 43 "_law_sum" ["_law_line", "_law_some"] [] (spZ K T .no d__law_sum)) :
    FnOk P w K mg base (L2N.CX P w) 44 f fd ["_law_books", "_law_counts_now", "_law_ways", "_law_store"] (spZ K T .yes d__law_told_sums) := by
  refine fnZ F sc__law_told_sums rfl rfl (fun cdv A outer s H E hr => ?_)
  have nd := sc__law_told_sums.nd
  refine ⟨_, (pss_cons (ps_set (i := 4) nd rfl (Or.inl rfl) (pe_lst pa_nil))
      (pss_cons (ps_for (passes_of rfl) rfl (pi_seqK K (pv 0)) (pg_name (i := 5) nd rfl (Or.inr rfl)) (pss_cons (ps_set (i := 6) nd rfl (Or.inr rfl) (pe_lc (own := [("_law_at", 8)]) rfl nd (pi_range1 (by rfl) Z.range (pa_cons (pe_callB (call_lenK K) (by rfl) Z.len PySem.boot_len (pa_cons (pv 5) pa_nil)) pa_nil)) (blkOk_by (own := [("_law_at", 8)]) (N := ["_law_books", "_law_counts_now", "_law_ways", "_law_store", "_law_found", "_law_book", "_law_here", "_law_way", "_law_at"]) (sc := defScope s__law_told_sums) (by decide +kernel)) (fun _ _ _ _ _ => (pg_name (i := 8) nd rfl (Or.inl rfl))) (fun _ _ _ _ _ => pts_nil) (fun _ _ _ _ _ => (pe_tup (pa_cons (pe_callTy call_int1 (by rfl) Z.int (by decide +kernel) (pa_cons (pe_cmpR (op_eqK K hr.units) (pv 8) (pv 3) (nomark _)) pa_nil)) (pa_cons pe_int pa_nil))))))
      (pss_cons (ps_for (passes_of rfl) rfl (pi_seqK K (pv 2)) (pg_name (i := 7) nd rfl (Or.inr rfl)) (pss_one (ps_set (i := 6) nd rfl (Or.inr rfl) (pe_lc (own := [("_law_at", 8)]) rfl nd (pi_range1 (by rfl) Z.range (pa_cons (pe_callB (call_lenK K) (by rfl) Z.len PySem.boot_len (pa_cons (pv 5) pa_nil)) pa_nil)) (blkOk_by (own := [("_law_at", 8)]) (N := ["_law_books", "_law_counts_now", "_law_ways", "_law_store", "_law_found", "_law_book", "_law_here", "_law_way", "_law_at"]) (sc := defScope s__law_told_sums) (by decide +kernel)) (fun _ _ _ _ _ => (pg_name (i := 8) nd rfl (Or.inl rfl))) (fun _ _ _ _ _ => pts_nil) (fun _ _ _ _ _ => (pe_callC c__law_sum.calmZ hr rfl (pa_cons (pe_ix (ix_seqK K) (pe_ix (ix_seqK K) (pe_ix (ix_seqK K) (pv 5) (pv 8) (fun _ _ => rfl)) pe_int (fun _ _ => rfl)) (pe_ix (ix_seqK K) (pv 7) (pv 8) (fun _ _ => rfl)) (fun _ _ => rfl)) (pa_cons (pv 6) pa_nil))))))))
      (pss_one (ps_expr (pe_bmK K PySem.F.plainAttrs_list PySem.F.slot_list_append PySem.F.type_list_append mt_append (pv 4) (pa_cons (pe_callX c__law_sum (L2N.takes_of rfl rfl rfl rfl) hr rfl (pa_cons (pv 1) (pa_cons (pv 6) pa_nil))) pa_nil)))))))
      (pss_one (ps_ret (pv 4))))), ?_⟩
  exact (sim_seq (sim_own (sim_lstF sim_nil))
    (sim_seq (sim_for (sim_iS sim_V) simG_N (sim_seq (sim_asg (sim_L (sim_lc (W' := fun _ _ _ _ => False) (sim_rng1 (sim_cons (sim_cb r_len (sim_cons sim_V sim_nil)) sim_nil)) simG_N sim_yYes (sim_tup (sim_cons (sim_cb r_int (sim_cons (sim_op r_eq sim_V sim_V) sim_nil)) (sim_cons sim_int sim_nil))) (by decide))))
    (sim_seq (sim_for (sim_iS sim_V) simG_N (sim_asg (sim_L (sim_lc (W' := fun _ _ _ _ => False) (sim_rng1 (sim_cons (sim_cb r_len (sim_cons sim_V sim_nil)) sim_nil)) simG_N sim_yYes (sim_callC0 (sim_cons (sim_op r_ix (sim_op r_ix (sim_op r_ix sim_V sim_V) sim_int) (sim_op r_ix sim_V sim_V)) (sim_cons sim_V sim_nil))) (by decide)))))
    (sim_app (sim_call0 (sim_cons sim_V (sim_cons sim_V sim_nil)))))))
    sim_retO))

noncomputable def m__law_share : MS := (kRet (xF d__law_part (zCons (xOp zIx (xL (fLst (zCons (xC (.int 0)) (zCons (xC (.int 0)) (zCons (xC (.int 1)) (zCons (xC (.int 1)) (zCons (xC (.int 1)) (zCons (xC (.int 2)) (zCons (xC (.int 3)) (zCons (xC (.int 5)) zNil)))))))))) (xOp zMod (xV 0) (xC (.int 8)))) (zCons (xOp zIx (xL (fLst (zCons (xC (.int 1)) (zCons (xC (.int 2)) (zCons (xC (.int 3)) (zCons (xC (.int 4)) (zCons (xC (.int 6)) zNil))))))) (xOp zMod (xOp zFd (xV 0) (xC (.int 8))) (xC (.int 5)))) zNil))))
noncomputable def d__law_share : List PyData → Rz PyData := fnD 1 1 m__law_share
theorem ok__law_share {P : Program} {w : World} {K : PySem.W.Frag} {T : Tb} {mg : Str → Option Value} {base : Heap} {f : Addr} {fd : FuncData} {dvs : List V} {kws : List (Str × V)} (F : FnQ K "_law_share" s__law_share dvs kws f fd) (Z : Blt mg)
    (c__law_part : CalX P w K mg base 41 "_law_part" ["_law_up", "_law_down"] [] (spZ K T .no d__law_part)) :
    FnOk P w K mg base (L2N.CX P w) 42 f fd ["_law_number"] (spZ K T .no d__law_share) := by
  refine fnZ F sc__law_share rfl rfl (fun cdv A outer s H E hr => ?_)
  have nd := sc__law_share.nd
  refine ⟨_, (pss_one (ps_ret (pe_callX c__law_part (L2N.takes_of rfl rfl rfl rfl) hr rfl (pa_cons (pe_ix (ix_seqK K) (pe_lst (pa_cons pe_int (pa_cons pe_int (pa_cons pe_int (pa_cons pe_int (pa_cons pe_int (pa_cons pe_int (pa_cons pe_int (pa_cons pe_int pa_nil))))))))) (pe_op op_modN (pv 0) pe_int) (fun _ _ => rfl)) (pa_cons (pe_ix (ix_seqK K) (pe_lst (pa_cons pe_int (pa_cons pe_int (pa_cons pe_int (pa_cons pe_int (pa_cons pe_int pa_nil)))))) (pe_op op_modN (pe_op op_fdX (pv 0) pe_int) pe_int) (fun _ _ => rfl)) pa_nil))))), ?_⟩
  exact (sim_ret (sim_call0 (sim_cons (sim_op r_ix (sim_L (sim_lstF (sim_cons sim_int (sim_cons sim_int (sim_cons sim_int (sim_cons sim_int (sim_cons sim_int (sim_cons sim_int (sim_cons sim_int (sim_cons sim_int sim_nil)))))))))) (sim_op r_mod sim_V sim_int)) (sim_cons (sim_op r_ix (sim_L (sim_lstF (sim_cons sim_int (sim_cons sim_int (sim_cons sim_int (sim_cons sim_int (sim_cons sim_int sim_nil))))))) (sim_op r_mod (sim_op r_fd sim_V sim_int) sim_int)) sim_nil))))

noncomputable def b1__law_menus : MS := (kSeq (kAsg (xL (fLc [11] (iS (xSl zSlV (xV 6) (oAt (xOp zAddV (xC (.int 2)) (xOp zMulV (xC (.int 5)) (xV 8)))) (oAt (xOp zAddV (xOp zAddV (xC (.int 2)) (xOp zMulV (xC (.int 5)) (xV 8))) (xV 2))))) (gN 11) yYes (xFc d__law_share (zCons (xV 11) zNil)))) 9)
  (kSeq (kAsg (xL (fLc [12] (iA rng1 (zCons (xV 2) zNil)) (gN 12) yYes (xOp zIx (xL (fLst (zCons (xTup (zCons (xC (.int 1)) (zCons (xC (.int 2)) zNil))) (zCons (xTup (zCons (xC (.int 1)) (zCons (xC (.int 3)) zNil))) (zCons (xTup (zCons (xC (.int 0)) (zCons (xC (.int 1)) zNil))) zNil))))) (xOp zMod (xOp zAddV (xOp zFd (xOp zIx (xV 6) (xC (.int 1))) (xC (.int 3))) (xV 12)) (xC (.int 3)))))) 10)
  (kSeq (kIf (yV (xOp zEq (xV 3) (xC (.int 1)))) (kAsg (xL (fLc [11, 13] (iA (zipO false) (zCons (xV 9) (zCons (xV 10) zNil))) (gT 2 (gsC (gN 11) (gsC (gN 13) gs0))) yYes (xFc d__law_times (zCons (xV 11) (zCons (xV 13) zNil))))) 9) kNx)
  (kApp 7 (xCB zTuple (zCons (xV 9) zNil))))))
theorem b1__law_menus_a (ρ : List Slot) : b1__law_menus ρ = (kSeq (kAsg (xL (fLc [11] (iS (xSl zSlV (xV 6) (oAt (xOp zAddV (xC (.int 2)) (xOp zMulV (xC (.int 5)) (xV 8)))) (oAt (xOp zAddV (xOp zAddV (xC (.int 2)) (xOp zMulV (xC (.int 5)) (xV 8))) (xV 2))))) (gN 11) yYes (xFc d__law_share (zCons (xV 11) zNil)))) 9)
  (kSeq (kAsg (xL (fLc [12] (iA rng1 (zCons (xV 2) zNil)) (gN 12) yYes (xOp zIx (xL (fLst (zCons (xTup (zCons (xC (.int 1)) (zCons (xC (.int 2)) zNil))) (zCons (xTup (zCons (xC (.int 1)) (zCons (xC (.int 3)) zNil))) (zCons (xTup (zCons (xC (.int 0)) (zCons (xC (.int 1)) zNil))) zNil))))) (xOp zMod (xOp zAddV (xOp zFd (xOp zIx (xV 6) (xC (.int 1))) (xC (.int 3))) (xV 12)) (xC (.int 3)))))) 10)
  (kSeq (kIf (yV (xOp zEq (xV 3) (xC (.int 1)))) (kAsg (xL (fLc [11, 13] (iA (zipO false) (zCons (xV 9) (zCons (xV 10) zNil))) (gT 2 (gsC (gN 11) (gsC (gN 13) gs0))) yYes (xFc d__law_times (zCons (xV 11) (zCons (xV 13) zNil))))) 9) kNx)
  (kApp 7 (xCB zTuple (zCons (xV 9) zNil)))))) ρ := nr rfl
noncomputable def b2__law_menus : MS := (kSeq (kAsg (xSl zSlV (xV 0) (oAt (xOp zAddV (xC (.int 1)) (xOp zMulV (xC (.int 20)) (xV 5)))) (oAt (xOp zAddV (xC (.int 21)) (xOp zMulV (xC (.int 20)) (xV 5))))) 6)
  (kSeq (kOwn (fLst zNil) 7)
  (kSeq (kFor (iA rng1 (zCons (xOp zAddV (xC (.int 1)) (xOp zMod (xOp zIx (xV 6) (xC (.int 1))) (xC (.int 3)))) zNil)) (gN 8) [8, 9, 10] b1__law_menus)
  (kFrz 7 (kApp 4 (xTup (zCons (xOp zIx (xL (fLst (zCons (xC (.str "we")) (zCons (xC (.str "weather")) zNil)))) (xOp zMod (xOp zIx (xV 6) (xC (.int 0))) (xC (.int 2)))) (zCons (xCB zTuple (zCons (xV 7) zNil)) zNil))))))))
theorem b2__law_menus_a (ρ : List Slot) : b2__law_menus ρ = (kSeq (kAsg (xSl zSlV (xV 0) (oAt (xOp zAddV (xC (.int 1)) (xOp zMulV (xC (.int 20)) (xV 5)))) (oAt (xOp zAddV (xC (.int 21)) (xOp zMulV (xC (.int 20)) (xV 5))))) 6)
  (kSeq (kOwn (fLst zNil) 7)
  (kSeq (kFor (iA rng1 (zCons (xOp zAddV (xC (.int 1)) (xOp zMod (xOp zIx (xV 6) (xC (.int 1))) (xC (.int 3)))) zNil)) (gN 8) [8, 9, 10] b1__law_menus)
  (kFrz 7 (kApp 4 (xTup (zCons (xOp zIx (xL (fLst (zCons (xC (.str "we")) (zCons (xC (.str "weather")) zNil)))) (xOp zMod (xOp zIx (xV 6) (xC (.int 0))) (xC (.int 2)))) (zCons (xCB zTuple (zCons (xV 7) zNil)) zNil)))))))) ρ := nr rfl
noncomputable def m__law_menus : MS := (kSeq (kAsg (xOp zAddV (xC (.int 1)) (xOp zMod (xOp zIx (xV 0) (xC (.int 0))) (xV 1))) 2)
  (kSeq (kAsg (xOp zMod (xOp zFd (xOp zIx (xV 0) (xC (.int 0))) (xV 1)) (xC (.int 2))) 3)
  (kSeq (kOwn (fLst zNil) 4)
  (kSeq (kFor (iA rng1 (zCons (xV 2) zNil)) (gN 5) [5, 6, 7, 8, 9, 10] b2__law_menus)
  (kFrz 4 (kRet (xCB zTuple (zCons (xV 4) zNil))))))))
noncomputable def d__law_menus : List PyData → Rz PyData := fnD 2 14 m__law_menus
theorem ok__law_menus {P : Program} {w : World} {K : PySem.W.Frag} {T : Tb} {mg : Str → Option Value} {base : Heap} {f : Addr} {fd : FuncData} {dvs : List V} {kws : List (Str × V)} (F : FnQ K "_law_menus" s__law_menus dvs kws f fd) (Z : Blt mg)
    (c__law_share : CalX P w K mg base 42 "_law_share" ["_law_number"] [] (spZ K T .no d__law_share))
    (c__law_times : CalX P w K mg base 42 "_law_times" ["_law_this", "_law_that"] [] (spZ K T .no d__law_times)) :
    FnOk P w K mg base (L2N.CX P w) 43 f fd ["_law_d", "_law_upto"] (spZ K T .no d__law_menus) := by
  refine fnZ F sc__law_menus rfl rfl (fun cdv A outer s H E hr => ?_)
  have nd := sc__law_menus.nd
  refine ⟨_, (pss_cons (ps_set (i := 2) nd rfl (Or.inl rfl) (pe_op (op_addK K) pe_int (pe_op op_modN (pe_ix (ix_seqK K) (pv 0) pe_int (fun _ _ => rfl)) (pv 1))))
      (pss_cons (ps_set (i := 3) nd rfl (Or.inl rfl) (pe_op op_modN (pe_op op_fdX (pe_ix (ix_seqK K) (pv 0) pe_int (fun _ _ => rfl)) (pv 1)) pe_int))
      (pss_cons (ps_set (i := 4) nd rfl (Or.inl rfl) (pe_lst pa_nil))
      (pss_cons (ps_for (passes_of rfl) rfl (pi_range1 (by rfl) Z.range (pa_cons (pv 2) pa_nil)) (pg_name (i := 5) nd rfl (Or.inl rfl)) (pss_cons (ps_set (i := 6) nd rfl (Or.inr rfl) (pe_slice (sl_anyK K) (pv 0) (po_some (pe_op (op_addK K) pe_int (pe_op op_mulA pe_int (pv 5)))) (po_some (pe_op (op_addK K) pe_int (pe_op op_mulA pe_int (pv 5))))))
      (pss_cons (ps_set (i := 7) nd rfl (Or.inl rfl) (pe_lst pa_nil))
      (pss_cons (ps_for (passes_of rfl) rfl (pi_range1 (by rfl) Z.range (pa_cons (pe_op (op_addK K) pe_int (pe_op op_modN (pe_ix (ix_seqK K) (pv 6) pe_int (fun _ _ => rfl)) pe_int)) pa_nil)) (pg_name (i := 8) nd rfl (Or.inl rfl)) (pss_cons (ps_setLc (i := 9) (own := [("_law_this", 11)]) rfl nd rfl rfl (sw_true rfl rfl rfl (by decide +kernel)) (pi_seqK K (pe_slice (sl_anyK K) (pv 6) (po_some (pe_op (op_addK K) pe_int (pe_op op_mulA pe_int (pv 8)))) (po_some (pe_op (op_addK K) (pe_op (op_addK K) pe_int (pe_op op_mulA pe_int (pv 8))) (pv 2))))) (blkOk_by (own := [("_law_this", 11)]) (N := ["_law_d", "_law_upto", "_law_many", "_law_thin", "_law_found", "_law_k", "_law_own", "_law_lines", "_law_r", "_law_some", "_law_by", "_law_this", "_law_at", "_law_that"]) (sc := defScope s__law_menus) (by decide +kernel)) (fun _ _ _ _ _ => (pg_name (i := 11) nd rfl (Or.inl rfl))) (fun _ _ _ _ _ => pts_nil) (fun _ _ _ _ _ => (pe_callC c__law_share.calmZ hr rfl (pa_cons (pv 11) pa_nil))))
      (pss_cons (ps_setLc (i := 10) (own := [("_law_at", 12)]) rfl nd rfl rfl (sw_true rfl rfl rfl (by decide +kernel)) (pi_range1 (by rfl) Z.range (pa_cons (pv 2) pa_nil)) (blkOk_by (own := [("_law_at", 12)]) (N := ["_law_d", "_law_upto", "_law_many", "_law_thin", "_law_found", "_law_k", "_law_own", "_law_lines", "_law_r", "_law_some", "_law_by", "_law_this", "_law_at", "_law_that"]) (sc := defScope s__law_menus) (by decide +kernel)) (fun _ _ _ _ _ => (pg_name (i := 12) nd rfl (Or.inl rfl))) (fun _ _ _ _ _ => pts_nil) (fun _ _ _ _ _ => (pe_ix (ix_seqK K) (pe_lst (pa_cons (pe_tup (pa_cons pe_int (pa_cons pe_int pa_nil))) (pa_cons (pe_tup (pa_cons pe_int (pa_cons pe_int pa_nil))) (pa_cons (pe_tup (pa_cons pe_int (pa_cons pe_int pa_nil))) pa_nil)))) (pe_op op_modN (pe_op (op_addK K) (pe_op op_fdX (pe_ix (ix_seqK K) (pv 6) pe_int (fun _ _ => rfl)) pe_int) (pv 12)) pe_int) (fun _ _ => rfl))))
      (pss_cons (ps_if (pt_cmpR (op_eqK K hr.units) (pv 3) pe_int (nomark _)) (pss_one (ps_setLc (i := 9) (own := [("_law_this", 11), ("_law_that", 13)]) rfl nd rfl rfl (sw_true rfl rfl rfl (by decide +kernel)) (LwZ.pi_zipM K (by rfl) Z.zip (pa_cons (pv 9) (pa_cons (pv 10) pa_nil))) (blkOk_by (own := [("_law_this", 11), ("_law_that", 13)]) (N := ["_law_d", "_law_upto", "_law_many", "_law_thin", "_law_found", "_law_k", "_law_own", "_law_lines", "_law_r", "_law_some", "_law_by", "_law_this", "_law_at", "_law_that"]) (sc := defScope s__law_menus) (by decide +kernel)) (fun _ _ _ _ _ => (pg_tupK (n := 2) K rfl (pgs_cons (pg_name (i := 11) nd rfl (Or.inl rfl)) (pgs_cons (pg_name (i := 13) nd rfl (Or.inl rfl)) pgs_nil)))) (fun _ _ _ _ _ => pts_nil) (fun _ _ _ _ _ => (pe_callC c__law_times.calmZ hr rfl (pa_cons (pv 11) (pa_cons (pv 13) pa_nil)))))) pss_nil)
      (pss_one (ps_expr (pe_bmK K PySem.F.plainAttrs_list PySem.F.slot_list_append PySem.F.type_list_append mt_append (pv 7) (pa_cons (pe_callTy (call_tupleK K) (by rfl) Z.tuple (by decide +kernel) (pa_cons (pv 9) pa_nil)) pa_nil))))))))
      (pss_one (ps_expr (pe_bmK K PySem.F.plainAttrs_list PySem.F.slot_list_append PySem.F.type_list_append mt_append (pv 4) (pa_cons (pe_tup (pa_cons (pe_ix (ix_seqK K) (pe_lst (pa_cons pe_str (pa_cons pe_str pa_nil))) (pe_op op_modN (pe_ix (ix_seqK K) (pv 6) pe_int (fun _ _ => rfl)) pe_int) (fun _ _ => rfl)) (pa_cons (pe_callTy (call_tupleK K) (by rfl) Z.tuple (by decide +kernel) (pa_cons (pv 7) pa_nil)) pa_nil))) pa_nil))))))))
      (pss_one (ps_ret (pe_callTy (call_tupleK K) (by rfl) Z.tuple (by decide +kernel) (pa_cons (pv 4) pa_nil)))))))), ?_⟩
  exact (sim_seq (sim_asg (sim_op r_addV sim_int (sim_op r_mod (sim_op r_ix sim_V sim_int) sim_V)))
    (sim_seq (sim_asg (sim_op r_mod (sim_op r_fd (sim_op r_ix sim_V sim_int) sim_V) sim_int))
    (sim_seq (sim_own (sim_lstF sim_nil))
    (sim_seq (sim_for (sim_rng1 (sim_cons sim_V sim_nil)) simG_N (sim_seq (sim_asg (sim_sl r_slV sim_V (sim_oAt (sim_op r_addV sim_int (sim_op r_mulV sim_int sim_V))) (sim_oAt (sim_op r_addV sim_int (sim_op r_mulV sim_int sim_V)))))
    (sim_seq (sim_own (sim_lstF sim_nil))
    (sim_seq (sim_for (sim_rng1 (sim_cons (sim_op r_addV sim_int (sim_op r_mod (sim_op r_ix sim_V sim_int) sim_int)) sim_nil)) simG_N (sim_seq (sim_asg (sim_L (sim_lc (W' := fun _ _ _ _ => False) (sim_iS (sim_sl r_slV sim_V (sim_oAt (sim_op r_addV sim_int (sim_op r_mulV sim_int sim_V))) (sim_oAt (sim_op r_addV (sim_op r_addV sim_int (sim_op r_mulV sim_int sim_V)) sim_V)))) simG_N sim_yYes (sim_callC0 (sim_cons sim_V sim_nil)) (by decide))))
    (sim_seq (sim_asg (sim_L (sim_lc (W' := fun _ _ _ _ => False) (sim_rng1 (sim_cons sim_V sim_nil)) simG_N sim_yYes (sim_op r_ix (sim_L (sim_lstF (sim_cons (sim_tup (sim_cons sim_int (sim_cons sim_int sim_nil))) (sim_cons (sim_tup (sim_cons sim_int (sim_cons sim_int sim_nil))) (sim_cons (sim_tup (sim_cons sim_int (sim_cons sim_int sim_nil))) sim_nil))))) (sim_op r_mod (sim_op r_addV (sim_op r_fd (sim_op r_ix sim_V sim_int) sim_int) sim_V) sim_int)) (by decide))))
    (sim_seq (sim_kIf (sim_yT (sim_op r_eq sim_V sim_int)) (sim_asg (sim_L (sim_lc (W' := fun _ _ _ _ => False) (sim_zip (sim_cons sim_V (sim_cons sim_V sim_nil))) (simG_T (simG_C simG_N (simG_C simG_N simG_0))) sim_yYes (sim_callC0 (sim_cons sim_V (sim_cons sim_V sim_nil))) (by decide)))) sim_kNx)
    (sim_app (sim_cb r_tuple (sim_cons sim_V sim_nil)))))))
    (sim_frz (sim_app (sim_tup (sim_cons (sim_op r_ix (sim_L (sim_lstF (sim_cons sim_str (sim_cons sim_str sim_nil)))) (sim_op r_mod (sim_op r_ix sim_V sim_int) sim_int)) (sim_cons (sim_cb r_tuple (sim_cons sim_V sim_nil)) sim_nil)))))))))
    (sim_frz (sim_ret (sim_cb r_tuple (sim_cons sim_V sim_nil))))))))

noncomputable def m__law_lone_ones : MS := (kSeq (kAsg (xF d__law_menus (zCons (xOp zAddV (xL (fLst (zCons (xOp zAddV (xC (.int 3)) (xOp zMod (xOp zIx (xV 0) (xC (.int 0))) (xC (.int 2)))) zNil))) (xSl zSlV (xV 0) (oAt (xC (.int 1))) oNo)) (zCons (xC (.int 5)) zNil))) 1)
  (kRet (xCB zTuple (zCons (xL (fLc [2, 3, 4] (iA enO (zCons (xV 1) zNil)) (gT 2 (gsC (gN 2) (gsC (gT 2 (gsC (gN 3) (gsC (gN 4) gs0))) gs0))) yYes (xTup (zCons (xV 3) (zCons (xSl zSlV (xV 4) oNo (oAt (xOp zAddV (xC (.int 1)) (xCB zInt (zCons (xOp zEq (xV 2) (xC (.int 0))) zNil))))) zNil))))) zNil))))
noncomputable def d__law_lone_ones : List PyData → Rz PyData := fnD 1 5 m__law_lone_ones
theorem ok__law_lone_ones {P : Program} {w : World} {K : PySem.W.Frag} {T : Tb} {mg : Str → Option Value} {base : Heap} {f : Addr} {fd : FuncData} {dvs : List V} {kws : List (Str × V)} (F : FnQ K "_law_lone_ones" s__law_lone_ones dvs kws f fd) (Z : Blt mg)
    (c__law_menus : CalX P w K mg base 43 "_law_menus" ["_law_d", "_law_upto"] [] (spZ K T .no d__law_menus)) :
    FnOk P w K mg base (L2N.CX P w) 44 f fd ["_law_d"] (spZ K T .no d__law_lone_ones) := by
  refine fnZ F sc__law_lone_ones rfl rfl (fun cdv A outer s H E hr => ?_)
  have nd := sc__law_lone_ones.nd
  refine ⟨_, (pss_cons (ps_set (i := 1) nd rfl (Or.inl rfl) (pe_callX c__law_menus (L2N.takes_of rfl rfl rfl rfl) hr rfl (pa_cons (pe_op (op_addK K) (pe_lst (pa_cons (pe_op (op_addK K) pe_int (pe_op op_modN (pe_ix (ix_seqK K) (pv 0) pe_int (fun _ _ => rfl)) pe_int)) pa_nil)) (pe_slice (sl_anyK K) (pv 0) (po_some pe_int) po_none)) (pa_cons pe_int pa_nil))))
      (pss_one (ps_ret (pe_callTy (call_tupleK K) (by rfl) Z.tuple (by decide +kernel) (pa_cons (pe_lc (own := [("_law_k", 2), ("_law_whose", 3), ("_law_lines", 4)]) rfl nd (LwZ.pi_enumA K (by rfl) Z.enumerate (pa_cons (pv 1) pa_nil)) (blkOk_by (own := [("_law_k", 2), ("_law_whose", 3), ("_law_lines", 4)]) (N := ["_law_d", "_law_full", "_law_k", "_law_whose", "_law_lines"]) (sc := defScope s__law_lone_ones) (by decide +kernel)) (fun _ _ _ _ _ => (pg_tupK (n := 2) K rfl (pgs_cons (pg_name (i := 2) nd rfl (Or.inl rfl)) (pgs_cons (pg_tupK (n := 2) K rfl (pgs_cons (pg_name (i := 3) nd rfl (Or.inl rfl)) (pgs_cons (pg_name (i := 4) nd rfl (Or.inl rfl)) pgs_nil))) pgs_nil)))) (fun _ _ _ _ _ => pts_nil) (fun _ _ _ _ _ => (pe_tup (pa_cons (pv 3) (pa_cons (pe_slice (sl_anyK K) (pv 4) po_none (po_some (pe_op (op_addK K) pe_int (pe_callTy call_int1 (by rfl) Z.int (by decide +kernel) (pa_cons (pe_cmpR (op_eqK K hr.units) (pv 2) pe_int (nomark _)) pa_nil))))) pa_nil))))) pa_nil))))), ?_⟩
  exact (sim_seq (sim_asg (sim_call0 (sim_cons (sim_op r_addV (sim_L (sim_lstF (sim_cons (sim_op r_addV sim_int (sim_op r_mod (sim_op r_ix sim_V sim_int) sim_int)) sim_nil))) (sim_sl r_slV sim_V (sim_oAt sim_int) sim_oNo)) (sim_cons sim_int sim_nil))))
    (sim_ret (sim_cb r_tuple (sim_cons (sim_L (sim_lc (W' := fun _ _ _ _ => False) (sim_en (sim_cons sim_V sim_nil)) (simG_T (simG_C simG_N (simG_C (simG_T (simG_C simG_N (simG_C simG_N simG_0))) simG_0))) sim_yYes (sim_tup (sim_cons sim_V (sim_cons (sim_sl r_slV sim_V sim_oNo (sim_oAt (sim_op r_addV sim_int (sim_cb r_int (sim_cons (sim_op r_eq sim_V sim_int) sim_nil))))) sim_nil))) (by decide))) sim_nil))))

noncomputable def m__law_beside : MS := (kSeq (kAsg (xOp zMod (xOp zIx (xV 0) (xC (.int 0))) (xCB zLen (zCons (xV 1) zNil))) 2)
  (kSeq (kTg (xOp zIx (xV 1) (xV 2)) (gT 2 (gsC (gN 3) (gsC (gN 4) gs0))))
  (kSeq (kPar (zCons (xOp zMod (xOp zIx (xV 0) (xC (.int 1))) (xCB zLen (zCons (xV 4) zNil))) (zCons (xOp zMod (xOp zIx (xV 0) (xC (.int 2))) (xCB zLen (zCons (xV 1) zNil))) zNil)) 5 6)
  (kSeq (kAsg (xOp zIx (xV 4) (xV 5)) 7)
  (kSeq (kAsg (xOp zAddV (xOp zAddV (xSl zSlV (xV 7) oNo (oAt (xV 6))) (xTup (zCons (xF d__law_share (zCons (xOp zIx (xV 0) (xC (.int 3))) zNil)) zNil))) (xSl zSlV (xV 7) (oAt (xOp zAddV (xV 6) (xC (.int 1)))) oNo)) 7)
  (kSeq (kAsg (xOp zAddV (xOp zAddV (xSl zSlV (xV 4) oNo (oAt (xV 5))) (xTup (zCons (xV 7) zNil))) (xSl zSlV (xV 4) (oAt (xOp zAddV (xV 5) (xC (.int 1)))) oNo)) 4)
  (kRet (xOp zAddV (xOp zAddV (xSl zSlV (xV 1) oNo (oAt (xV 2))) (xTup (zCons (xTup (zCons (xV 3) (zCons (xV 4) zNil))) zNil))) (xSl zSlV (xV 1) (oAt (xOp zAddV (xV 2) (xC (.int 1)))) oNo)))))))))
noncomputable def d__law_beside : List PyData → Rz PyData := fnD 2 8 m__law_beside
theorem ok__law_beside {P : Program} {w : World} {K : PySem.W.Frag} {T : Tb} {mg : Str → Option Value} {base : Heap} {f : Addr} {fd : FuncData} {dvs : List V} {kws : List (Str × V)} (F : FnQ K "_law_beside" s__law_beside dvs kws f fd) (Z : Blt mg)
    (c__law_share : CalX P w K mg base 42 "_law_share" ["_law_number"] [] (spZ K T .no d__law_share)) :
    FnOk P w K mg base (L2N.CX P w) 43 f fd ["_law_d", "_law_book"] (spZ K T .no d__law_beside) := by
  refine fnZ F sc__law_beside rfl rfl (fun cdv A outer s H E hr => ?_)
  have nd := sc__law_beside.nd
  refine ⟨_, (pss_cons (ps_set (i := 2) nd rfl (Or.inl rfl) (pe_op op_modN (pe_ix (ix_seqK K) (pv 0) pe_int (fun _ _ => rfl)) (pe_callB (call_lenK K) (by rfl) Z.len PySem.boot_len (pa_cons (pv 1) pa_nil))))
      (pss_cons (ps_asg (pe_ix (ix_seqK K) (pv 1) (pv 2) (fun _ _ => rfl)) (pg_tupK (n := 2) K rfl (pgs_cons (pg_name (i := 3) nd rfl (Or.inl rfl)) (pgs_cons (pg_name (i := 4) nd rfl (Or.inl rfl)) pgs_nil))))
      (pss_cons (ps_par (i := 5) (j := 6) (by rfl) nd rfl rfl (by decide) rfl rfl (pa_cons (pe_op op_modN (pe_ix (ix_seqK K) (pv 0) pe_int (fun _ _ => rfl)) (pe_callB (call_lenK K) (by rfl) Z.len PySem.boot_len (pa_cons (pv 4) pa_nil))) (pa_cons (pe_op op_modN (pe_ix (ix_seqK K) (pv 0) pe_int (fun _ _ => rfl)) (pe_callB (call_lenK K) (by rfl) Z.len PySem.boot_len (pa_cons (pv 1) pa_nil))) pa_nil)) (by rfl))
      (pss_cons (ps_set (i := 7) nd rfl (Or.inl rfl) (pe_ix (ix_seqK K) (pv 4) (pv 5) (fun _ _ => rfl)))
      (pss_cons (ps_set (i := 7) nd rfl (Or.inl rfl) (pe_op (op_addK K) (pe_op (op_addK K) (pe_slice (sl_anyK K) (pv 7) po_none (po_some (pv 6))) (pe_tup (pa_cons (pe_callX c__law_share (L2N.takes_of rfl rfl rfl rfl) hr rfl (pa_cons (pe_ix (ix_seqK K) (pv 0) pe_int (fun _ _ => rfl)) pa_nil)) pa_nil))) (pe_slice (sl_anyK K) (pv 7) (po_some (pe_op (op_addK K) (pv 6) pe_int)) po_none)))
      (pss_cons (ps_set (i := 4) nd rfl (Or.inl rfl) (pe_op (op_addK K) (pe_op (op_addK K) (pe_slice (sl_anyK K) (pv 4) po_none (po_some (pv 5))) (pe_tup (pa_cons (pv 7) pa_nil))) (pe_slice (sl_anyK K) (pv 4) (po_some (pe_op (op_addK K) (pv 5) pe_int)) po_none)))
      (pss_one (ps_ret (pe_op (op_addK K) (pe_op (op_addK K) (pe_slice (sl_anyK K) (pv 1) po_none (po_some (pv 2))) (pe_tup (pa_cons (pe_tup (pa_cons (pv 3) (pa_cons (pv 4) pa_nil))) pa_nil))) (pe_slice (sl_anyK K) (pv 1) (po_some (pe_op (op_addK K) (pv 2) pe_int)) po_none)))))))))), ?_⟩
  exact (sim_seq (sim_asg (sim_op r_mod (sim_op r_ix sim_V sim_int) (sim_cb r_len (sim_cons sim_V sim_nil))))
    (sim_seq (sim_tg (sim_op r_ix sim_V sim_V) (simG_T (simG_C simG_N (simG_C simG_N simG_0))))
    (sim_seq (sim_par (sim_cons (sim_op r_mod (sim_op r_ix sim_V sim_int) (sim_cb r_len (sim_cons sim_V sim_nil))) (sim_cons (sim_op r_mod (sim_op r_ix sim_V sim_int) (sim_cb r_len (sim_cons sim_V sim_nil))) sim_nil)))
    (sim_seq (sim_asg (sim_op r_ix sim_V sim_V))
    (sim_seq (sim_asg (sim_op r_addV (sim_op r_addV (sim_sl r_slV sim_V sim_oNo (sim_oAt sim_V)) (sim_tup (sim_cons (sim_call0 (sim_cons (sim_op r_ix sim_V sim_int) sim_nil)) sim_nil))) (sim_sl r_slV sim_V (sim_oAt (sim_op r_addV sim_V sim_int)) sim_oNo)))
    (sim_seq (sim_asg (sim_op r_addV (sim_op r_addV (sim_sl r_slV sim_V sim_oNo (sim_oAt sim_V)) (sim_tup (sim_cons sim_V sim_nil))) (sim_sl r_slV sim_V (sim_oAt (sim_op r_addV sim_V sim_int)) sim_oNo)))
    (sim_ret (sim_op r_addV (sim_op r_addV (sim_sl r_slV sim_V sim_oNo (sim_oAt sim_V)) (sim_tup (sim_cons (sim_tup (sim_cons sim_V (sim_cons sim_V sim_nil))) sim_nil))) (sim_sl r_slV sim_V (sim_oAt (sim_op r_addV sim_V sim_int)) sim_oNo)))))))))

noncomputable def b1__law_filling : MS := (kApp 2 (xF d__law_part (zCons (xOp zIx (xL (fLst (zCons (xC (.int 0)) (zCons (xC (.int 0)) (zCons (xC (.int 1)) (zCons (xC (.int 2)) (zCons (xC (.int 5)) (zCons (xC (.int 9)) (zCons (xC (.int 40)) zNil))))))))) (xOp zMod (xOp zIx (xV 0) (xV 3)) (xC (.int 7)))) (zCons (xOp zIx (xL (fLst (zCons (xC (.int 1)) (zCons (xC (.int 1)) (zCons (xC (.int 2)) (zCons (xC (.int 3)) (zCons (xC (.int 12)) zNil))))))) (xOp zMod (xOp zFd (xOp zIx (xV 0) (xV 3)) (xC (.int 7))) (xC (.int 5)))) zNil))))
theorem b1__law_filling_a (ρ : List Slot) : b1__law_filling ρ = (kApp 2 (xF d__law_part (zCons (xOp zIx (xL (fLst (zCons (xC (.int 0)) (zCons (xC (.int 0)) (zCons (xC (.int 1)) (zCons (xC (.int 2)) (zCons (xC (.int 5)) (zCons (xC (.int 9)) (zCons (xC (.int 40)) zNil))))))))) (xOp zMod (xOp zIx (xV 0) (xV 3)) (xC (.int 7)))) (zCons (xOp zIx (xL (fLst (zCons (xC (.int 1)) (zCons (xC (.int 1)) (zCons (xC (.int 2)) (zCons (xC (.int 3)) (zCons (xC (.int 12)) zNil))))))) (xOp zMod (xOp zFd (xOp zIx (xV 0) (xV 3)) (xC (.int 7))) (xC (.int 5)))) zNil)))) ρ := nr rfl
noncomputable def m__law_filling : MS := (kSeq (kOwn (fLst zNil) 2)
  (kSeq (kFor (iA rng1 (zCons (xV 1) zNil)) (gN 3) [3] b1__law_filling)
  (kRetO 2)))
noncomputable def d__law_filling : List PyData → Rz PyData := fnD 2 4 m__law_filling
theorem ok__law_filling {P : Program} {w : World} {K : PySem.W.Frag} {T : Tb} {mg : Str → Option Value} {base : Heap} {f : Addr} {fd : FuncData} {dvs : List V} {kws : List (Str × V)} (F : FnQ K "_law_filling" s__law_filling dvs kws f fd) (Z : Blt mg)
    (c__law_part : CalX P w K mg base 41 "_law_part" ["_law_up", "_law_down"] [] (spZ K T .no d__law_part)) :
    FnOk P w K mg base (L2N.CX P w) 42 f fd ["_law_d", "_law_many"] (spZ K T .yes d__law_filling) := by
  refine fnZ F sc__law_filling rfl rfl (fun cdv A outer s H E hr => ?_)
  have nd := sc__law_filling.nd
  refine ⟨_, (pss_cons (ps_set (i := 2) nd rfl (Or.inl rfl) (pe_lst pa_nil))
      (pss_cons (ps_for (passes_of rfl) rfl (pi_range1 (by rfl) Z.range (pa_cons (pv 1) pa_nil)) (pg_name (i := 3) nd rfl (Or.inl rfl)) (pss_one (ps_expr (pe_bmK K PySem.F.plainAttrs_list PySem.F.slot_list_append PySem.F.type_list_append mt_append (pv 2) (pa_cons (pe_callX c__law_part (L2N.takes_of rfl rfl rfl rfl) hr rfl (pa_cons (pe_ix (ix_seqK K) (pe_lst (pa_cons pe_int (pa_cons pe_int (pa_cons pe_int (pa_cons pe_int (pa_cons pe_int (pa_cons pe_int (pa_cons pe_int pa_nil)))))))) (pe_op op_modN (pe_ix (ix_seqK K) (pv 0) (pv 3) (fun _ _ => rfl)) pe_int) (fun _ _ => rfl)) (pa_cons (pe_ix (ix_seqK K) (pe_lst (pa_cons pe_int (pa_cons pe_int (pa_cons pe_int (pa_cons pe_int (pa_cons pe_int pa_nil)))))) (pe_op op_modN (pe_op op_fdX (pe_ix (ix_seqK K) (pv 0) (pv 3) (fun _ _ => rfl)) pe_int) pe_int) (fun _ _ => rfl)) pa_nil))) pa_nil)))))
      (pss_one (ps_ret (pv 2))))), ?_⟩
  exact (sim_seq (sim_own (sim_lstF sim_nil))
    (sim_seq (sim_for (sim_rng1 (sim_cons sim_V sim_nil)) simG_N (sim_app (sim_call0 (sim_cons (sim_op r_ix (sim_L (sim_lstF (sim_cons sim_int (sim_cons sim_int (sim_cons sim_int (sim_cons sim_int (sim_cons sim_int (sim_cons sim_int (sim_cons sim_int sim_nil))))))))) (sim_op r_mod (sim_op r_ix sim_V sim_V) sim_int)) (sim_cons (sim_op r_ix (sim_L (sim_lstF (sim_cons sim_int (sim_cons sim_int (sim_cons sim_int (sim_cons sim_int (sim_cons sim_int sim_nil))))))) (sim_op r_mod (sim_op r_fd (sim_op r_ix sim_V sim_V) sim_int) sim_int)) sim_nil)))))
    sim_retO))

noncomputable def b1__law_choices : MS := (kAsg (xOp zAddV (xV 4) (xL (fLc [6] (iA rng1 (zCons (xCB zLen (zCons (xV 3) zNil)) zNil)) (gN 6) yYes (xOp zAddV (xV 5) (xTup (zCons (xV 6) zNil)))))) 4)
theorem b1__law_choices_a (ρ : List Slot) : b1__law_choices ρ = (kAsg (xOp zAddV (xV 4) (xL (fLc [6] (iA rng1 (zCons (xCB zLen (zCons (xV 3) zNil)) zNil)) (gN 6) yYes (xOp zAddV (xV 5) (xTup (zCons (xV 6) zNil)))))) 4) ρ := nr rfl
noncomputable def b2__law_choices : MS := (kSeq (kAsg (xL (fLst zNil)) 4)
  (kSeq (kFor (iS (xV 1)) (gN 5) [5] b1__law_choices)
  (kAsg (xV 4) 1)))
theorem b2__law_choices_a (ρ : List Slot) : b2__law_choices ρ = (kSeq (kAsg (xL (fLst zNil)) 4)
  (kSeq (kFor (iS (xV 1)) (gN 5) [5] b1__law_choices)
  (kAsg (xV 4) 1))) ρ := nr rfl
noncomputable def m__law_choices : MS := (kSeq (kAsg (xL (fLst (zCons (xTup zNil) zNil))) 1)
  (kSeq (kFor (iS (xV 0)) (gT 2 (gsC (gN 2) (gsC (gN 3) gs0))) [2, 3, 4, 5] b2__law_choices)
  (kRet (xV 1))))
noncomputable def d__law_choices : List PyData → Rz PyData := fnD 1 7 m__law_choices
theorem ok__law_choices {P : Program} {w : World} {K : PySem.W.Frag} {T : Tb} {mg : Str → Option Value} {base : Heap} {f : Addr} {fd : FuncData} {dvs : List V} {kws : List (Str × V)} (F : FnQ K "_law_choices" s__law_choices dvs kws f fd) (Z : Blt mg) :
    FnOk P w K mg base (L2N.CX P w) 41 f fd ["_law_book"] (spZ K T .no d__law_choices) := by
  refine fnZ F sc__law_choices rfl rfl (fun cdv A outer s H E hr => ?_)
  have nd := sc__law_choices.nd
  refine ⟨_, (pss_cons (ps_set (i := 1) nd rfl (Or.inl rfl) (pe_lst (pa_cons (pe_tup pa_nil) pa_nil)))
      (pss_cons (ps_for (passes_of rfl) rfl (pi_seqK K (pv 0)) (pg_tupK (n := 2) K rfl (pgs_cons (pg_name (i := 2) nd rfl (Or.inl rfl)) (pgs_cons (pg_name (i := 3) nd rfl (Or.inl rfl)) pgs_nil))) (pss_cons (ps_set (i := 4) nd rfl (Or.inl rfl) (pe_lst pa_nil))
      (pss_cons (ps_for (passes_of rfl) rfl (pi_seqK K (pv 1)) (pg_name (i := 5) nd rfl (Or.inr rfl)) (pss_one (ps_set (i := 4) nd rfl (Or.inl rfl) (pe_op (op_addK K) (pv 4) (pe_lc (own := [("_law_at", 6)]) rfl nd (pi_range1 (by rfl) Z.range (pa_cons (pe_callB (call_lenK K) (by rfl) Z.len PySem.boot_len (pa_cons (pv 3) pa_nil)) pa_nil)) (blkOk_by (own := [("_law_at", 6)]) (N := ["_law_book", "_law_found", "_law_whose", "_law_lines", "_law_later", "_law_way", "_law_at"]) (sc := defScope s__law_choices) (by decide +kernel)) (fun _ _ _ _ _ => (pg_name (i := 6) nd rfl (Or.inl rfl))) (fun _ _ _ _ _ => pts_nil) (fun _ _ _ _ _ => (pe_op (op_addK K) (pv 5) (pe_tup (pa_cons (pv 6) pa_nil)))))))))
      (pss_one (ps_set (i := 1) nd rfl (Or.inl rfl) (pv 4))))))
      (pss_one (ps_ret (pv 1))))), ?_⟩
  exact (sim_seq (sim_asg (sim_L (sim_lstF (sim_cons (sim_tup sim_nil) sim_nil))))
    (sim_seq (sim_for (sim_iS sim_V) (simG_T (simG_C simG_N (simG_C simG_N simG_0))) (sim_seq (sim_asg (sim_L (sim_lstF sim_nil)))
    (sim_seq (sim_for (sim_iS sim_V) simG_N (sim_asg (sim_op r_addV sim_V (sim_L (sim_lc (W' := fun _ _ _ _ => False) (sim_rng1 (sim_cons (sim_cb r_len (sim_cons sim_V sim_nil)) sim_nil)) simG_N sim_yYes (sim_op r_addV sim_V (sim_tup (sim_cons sim_V sim_nil))) (by decide))))))
    (sim_asg sim_V))))
    (sim_ret sim_V)))

noncomputable def b1__law_untold_alike : MS := (kApp 3 (xTup (zCons (xV 4) (zCons (xCB zTuple (zCons (xL (fLc [9] (iS (xV 5)) (gN 9) yYes (xOp zAddV (xV 9) (xTup (zCons (xTup (zCons (xC (.int 0)) (zCons (xC (.int 1)) zNil))) zNil))))) zNil)) zNil))))
theorem b1__law_untold_alike_a (ρ : List Slot) : b1__law_untold_alike ρ = (kApp 3 (xTup (zCons (xV 4) (zCons (xCB zTuple (zCons (xL (fLc [9] (iS (xV 5)) (gN 9) yYes (xOp zAddV (xV 9) (xTup (zCons (xTup (zCons (xC (.int 0)) (zCons (xC (.int 1)) zNil))) zNil))))) zNil)) zNil)))) ρ := nr rfl
noncomputable def b2__law_untold_alike : MS := (kApp 6 (xOp zAddV (xCB zTuple (zCons (xV 3) zNil)) (xTup (zCons (xTup (zCons (xC (.str "weather")) (zCons (xTup (zCons (xV 7) zNil)) zNil))) zNil))))
theorem b2__law_untold_alike_a (ρ : List Slot) : b2__law_untold_alike ρ = (kApp 6 (xOp zAddV (xCB zTuple (zCons (xV 3) zNil)) (xTup (zCons (xTup (zCons (xC (.str "weather")) (zCons (xTup (zCons (xV 7) zNil)) zNil))) zNil)))) ρ := nr rfl
noncomputable def m__law_untold_alike : MS := (kSeq (kOwn (fLst zNil) 3)
  (kSeq (kFor (iS (xV 0)) (gT 2 (gsC (gN 4) (gsC (gN 5) gs0))) [4, 5] b1__law_untold_alike)
  (kSeq (kOwn (fLst zNil) 6)
  (kFrz 3 (kSeq (kFor (iS (xL (fLst (zCons (xCB zTuple (zCons (xV 2) zNil)) (zCons (xCB zTuple (zCons (xL (fLc [8] (iS (xV 2)) (gN 8) yYes (xTup (zCons (xC (.int 1)) (zCons (xC (.int 3)) zNil))))) zNil)) zNil))))) (gN 7) [7] b2__law_untold_alike)
  (kRet (xOp zEq (xOp zIx (xF d_alike (zCons (xIxO 6 (xC (.int 0))) (zCons (xIxO 6 (xC (.int 1))) (zCons (xOp zAddV (xV 1) (xL (fLst (zCons (xTup (zCons (xC (.int 0)) (zCons (xC (.int 1)) zNil))) zNil)))) zNil)))) (xC (.int 0))) (xC (.str "alike")))))))))
noncomputable def d__law_untold_alike : List PyData → Rz PyData := fnD 3 10 m__law_untold_alike
theorem ok__law_untold_alike {P : Program} {w : World} {K : PySem.W.Frag} {T : Tb} {mg : Str → Option Value} {base : Heap} {f : Addr} {fd : FuncData} {dvs : List V} {kws : List (Str × V)} (F : FnQ K "_law_untold_alike" s__law_untold_alike dvs kws f fd) (Z : Blt mg)
    (c_alike : CalX P w K mg base 46 "alike" ["one", "other", "counts"] [] (spZ K T .no d_alike)) :
    FnOk P w K mg base (L2N.CX P w) 47 f fd ["_law_book", "_law_counts_now", "_law_shares_now"] (spZ K T .no d__law_untold_alike) := by
  refine fnZ F sc__law_untold_alike rfl rfl (fun cdv A outer s H E hr => ?_)
  have nd := sc__law_untold_alike.nd
  refine ⟨_, (pss_cons (ps_set (i := 3) nd rfl (Or.inl rfl) (pe_lst pa_nil))
      (pss_cons (ps_for (passes_of rfl) rfl (pi_seqK K (pv 0)) (pg_tupK (n := 2) K rfl (pgs_cons (pg_name (i := 4) nd rfl (Or.inl rfl)) (pgs_cons (pg_name (i := 5) nd rfl (Or.inl rfl)) pgs_nil))) (pss_one (ps_expr (pe_bmK K PySem.F.plainAttrs_list PySem.F.slot_list_append PySem.F.type_list_append mt_append (pv 3) (pa_cons (pe_tup (pa_cons (pv 4) (pa_cons (pe_callTy (call_tupleK K) (by rfl) Z.tuple (by decide +kernel) (pa_cons (pe_lc (own := [("_law_line", 9)]) rfl nd (pi_seqK K (pv 5)) (blkOk_by (own := [("_law_line", 9)]) (N := ["_law_book", "_law_counts_now", "_law_shares_now", "_law_lone", "_law_whose", "_law_lines", "_law_two_books", "_law_last", "_law_this", "_law_line"]) (sc := defScope s__law_untold_alike) (by decide +kernel)) (fun _ _ _ _ _ => (pg_name (i := 9) nd rfl (Or.inl rfl))) (fun _ _ _ _ _ => pts_nil) (fun _ _ _ _ _ => (pe_op (op_addK K) (pv 9) (pe_tup (pa_cons (pe_tup (pa_cons pe_int (pa_cons pe_int pa_nil))) pa_nil))))) pa_nil)) pa_nil))) pa_nil)))))
      (pss_cons (ps_set (i := 6) nd rfl (Or.inl rfl) (pe_lst pa_nil))
      (pss_cons (ps_for (passes_of rfl) rfl (pi_seqK K (pe_lst (pa_cons (pe_callTy (call_tupleK K) (by rfl) Z.tuple (by decide +kernel) (pa_cons (pv 2) pa_nil)) (pa_cons (pe_callTy (call_tupleK K) (by rfl) Z.tuple (by decide +kernel) (pa_cons (pe_lc (own := [("_law_this", 8)]) rfl nd (pi_seqK K (pv 2)) (blkOk_by (own := [("_law_this", 8)]) (N := ["_law_book", "_law_counts_now", "_law_shares_now", "_law_lone", "_law_whose", "_law_lines", "_law_two_books", "_law_last", "_law_this", "_law_line"]) (sc := defScope s__law_untold_alike) (by decide +kernel)) (fun _ _ _ _ _ => (pg_name (i := 8) nd rfl (Or.inl rfl))) (fun _ _ _ _ _ => pts_nil) (fun _ _ _ _ _ => (pe_tup (pa_cons pe_int (pa_cons pe_int pa_nil))))) pa_nil)) pa_nil)))) (pg_name (i := 7) nd rfl (Or.inl rfl)) (pss_one (ps_expr (pe_bmK K PySem.F.plainAttrs_list PySem.F.slot_list_append PySem.F.type_list_append mt_append (pv 6) (pa_cons (pe_op (op_addK K) (pe_callTy (call_tupleK K) (by rfl) Z.tuple (by decide +kernel) (pa_cons (pv 3) pa_nil)) (pe_tup (pa_cons (pe_tup (pa_cons pe_str (pa_cons (pe_tup (pa_cons (pv 7) pa_nil)) pa_nil))) pa_nil))) pa_nil)))))
      (pss_one (ps_ret (pe_cmpR (op_eqK K hr.units) (pe_ix (ix_seqK K) (pe_callX c_alike (L2N.takes_of rfl rfl rfl rfl) hr rfl (pa_cons (pe_ix (ix_seqK K) (pv 6) pe_int (fun _ _ => rfl)) (pa_cons (pe_ix (ix_seqK K) (pv 6) pe_int (fun _ _ => rfl)) (pa_cons (pe_op (op_addK K) (pv 1) (pe_lst (pa_cons (pe_tup (pa_cons pe_int (pa_cons pe_int pa_nil))) pa_nil))) pa_nil)))) pe_int (fun _ _ => rfl)) pe_str (nomark _)))))))), ?_⟩
  exact (sim_seq (sim_own (sim_lstF sim_nil))
    (sim_seq (sim_for (sim_iS sim_V) (simG_T (simG_C simG_N (simG_C simG_N simG_0))) (sim_app (sim_tup (sim_cons sim_V (sim_cons (sim_cb r_tuple (sim_cons (sim_L (sim_lc (W' := fun _ _ _ _ => False) (sim_iS sim_V) simG_N sim_yYes (sim_op r_addV sim_V (sim_tup (sim_cons (sim_tup (sim_cons sim_int (sim_cons sim_int sim_nil))) sim_nil))) (by decide))) sim_nil)) sim_nil)))))
    (sim_seq (sim_own (sim_lstF sim_nil))
    (sim_frz (sim_seq (sim_for (sim_iS (sim_L (sim_lstF (sim_cons (sim_cb r_tuple (sim_cons sim_V sim_nil)) (sim_cons (sim_cb r_tuple (sim_cons (sim_L (sim_lc (W' := fun _ _ _ _ => False) (sim_iS sim_V) simG_N sim_yYes (sim_tup (sim_cons sim_int (sim_cons sim_int sim_nil))) (by decide))) sim_nil)) sim_nil))))) simG_N (sim_app (sim_op r_addV (sim_cb r_tuple (sim_cons sim_V sim_nil)) (sim_tup (sim_cons (sim_tup (sim_cons sim_str (sim_cons (sim_tup (sim_cons sim_V sim_nil)) sim_nil))) sim_nil)))))
    (sim_ret (sim_op r_eq (sim_op r_ix (sim_call0 (sim_cons (sim_ixO sim_int) (sim_cons (sim_ixO sim_int) (sim_cons (sim_op r_addV sim_V (sim_L (sim_lstF (sim_cons (sim_tup (sim_cons sim_int (sim_cons sim_int sim_nil))) sim_nil)))) sim_nil)))) sim_int) sim_str)))))))

noncomputable def b1__law_none_shorter : MS := (kSeq (kAsg (xF d__law_told_sums (zCons (xV 0) (zCons (xV 1) (zCons (xV 7) (zCons (xV 8) zNil))))) 9)
  (kIf (yV (xOp zNe (xOp zIx (xV 9) (xC (.int 0))) (xOp zIx (xV 9) (xC (.int 1))))) (kRet (xC (.bool false))) kNx))
theorem b1__law_none_shorter_a (ρ : List Slot) : b1__law_none_shorter ρ = (kSeq (kAsg (xF d__law_told_sums (zCons (xV 0) (zCons (xV 1) (zCons (xV 7) (zCons (xV 8) zNil))))) 9)
  (kIf (yV (xOp zNe (xOp zIx (xV 9) (xC (.int 0))) (xOp zIx (xV 9) (xC (.int 1))))) (kRet (xC (.bool false))) kNx)) ρ := nr rfl
noncomputable def b2__law_none_shorter : MS := (kSeq (kFor (iA rng1 (zCons (xCB zLen (zCons (xOp zIx (xV 0) (xC (.int 0))) zNil)) zNil)) (gN 8) [8, 9] b1__law_none_shorter)
  (kAsg (xOp zAddV (xV 6) (xL (fLc [10] (iS (xV 3)) (gN 10) yYes (xOp zAddV (xV 7) (xL (fLst (zCons (xV 10) zNil))))))) 6))
theorem b2__law_none_shorter_a (ρ : List Slot) : b2__law_none_shorter ρ = (kSeq (kFor (iA rng1 (zCons (xCB zLen (zCons (xOp zIx (xV 0) (xC (.int 0))) zNil)) zNil)) (gN 8) [8, 9] b1__law_none_shorter)
  (kAsg (xOp zAddV (xV 6) (xL (fLc [10] (iS (xV 3)) (gN 10) yYes (xOp zAddV (xV 7) (xL (fLst (zCons (xV 10) zNil))))))) 6)) ρ := nr rfl
noncomputable def b3__law_none_shorter : MS := (kSeq (kAsg (xL (fLst zNil)) 6)
  (kSeq (kFor (iS (xV 4)) (gN 7) [7, 8, 9] b2__law_none_shorter)
  (kAsg (xV 6) 4)))
theorem b3__law_none_shorter_a (ρ : List Slot) : b3__law_none_shorter ρ = (kSeq (kAsg (xL (fLst zNil)) 6)
  (kSeq (kFor (iS (xV 4)) (gN 7) [7, 8, 9] b2__law_none_shorter)
  (kAsg (xV 6) 4))) ρ := nr rfl
noncomputable def m__law_none_shorter : MS := (kSeq (kAsg (xL (fLst (zCons (xL (fLst zNil)) zNil))) 4)
  (kSeq (kFor (iA rng1 (zCons (xCB zMin (zCons (xV 2) (zCons (xOp zIx (xL (fLst (zCons (xC (.int 2)) (zCons (xC (.int 3)) (zCons (xC (.int 5)) zNil))))) (xOp zAddV (xCB zInt (zCons (xOp zLt (xCB zLen (zCons (xV 3) zNil)) (xC (.int 10))) zNil)) (xCB zInt (zCons (xOp zLt (xCB zLen (zCons (xV 3) zNil)) (xC (.int 3))) zNil)))) zNil))) zNil)) (gN 5) [5, 6, 7, 8, 9] b3__law_none_shorter)
  (kRet (xC (.bool true)))))
noncomputable def d__law_none_shorter : List PyData → Rz PyData := fnD 4 11 m__law_none_shorter
theorem ok__law_none_shorter {P : Program} {w : World} {K : PySem.W.Frag} {T : Tb} {mg : Str → Option Value} {base : Heap} {f : Addr} {fd : FuncData} {dvs : List V} {kws : List (Str × V)} (F : FnQ K "_law_none_shorter" s__law_none_shorter dvs kws f fd) (Z : Blt mg)
    (c__law_told_sums : CalX P w K mg base 44 "_law_told_sums" ["_law_books", "_law_counts_now", "_law_ways", "_law_store"] [] (spZ K T .yes d__law_told_sums)) :
    FnOk P w K mg base (L2N.CX P w) 45 f fd ["_law_books", "_law_counts_now", "_law_many", "_law_all_ways"] (spZ K T .no d__law_none_shorter) := by
  refine fnZ F sc__law_none_shorter rfl rfl (fun cdv A outer s H E hr => ?_)
  have nd := sc__law_none_shorter.nd
  refine ⟨_, (pss_cons (ps_set (i := 4) nd rfl (Or.inl rfl) (pe_lst (pa_cons (pe_lst pa_nil) pa_nil)))
      (pss_cons (ps_for (passes_of rfl) rfl (pi_range1 (by rfl) Z.range (pa_cons (pe_callB (call_min2 rfl) (by rfl) Z.min (by decide +kernel) (pa_cons (pv 2) (pa_cons (pe_ix (ix_seqK K) (pe_lst (pa_cons pe_int (pa_cons pe_int (pa_cons pe_int pa_nil)))) (pe_op (op_addK K) (pe_callTy call_int1 (by rfl) Z.int (by decide +kernel) (pa_cons (pe_cmpR op_lt (pe_callB (call_lenK K) (by rfl) Z.len PySem.boot_len (pa_cons (pv 3) pa_nil)) pe_int (nomark _)) pa_nil)) (pe_callTy call_int1 (by rfl) Z.int (by decide +kernel) (pa_cons (pe_cmpR op_lt (pe_callB (call_lenK K) (by rfl) Z.len PySem.boot_len (pa_cons (pv 3) pa_nil)) pe_int (nomark _)) pa_nil))) (fun _ _ => rfl)) pa_nil))) pa_nil)) (pg_name (i := 5) nd rfl (Or.inl rfl)) (pss_cons (ps_set (i := 6) nd rfl (Or.inl rfl) (pe_lst pa_nil))
      (pss_cons (ps_for (passes_of rfl) rfl (pi_seqK K (pv 4)) (pg_name (i := 7) nd rfl (Or.inr rfl)) (pss_cons (ps_for (passes_of rfl) rfl (pi_range1 (by rfl) Z.range (pa_cons (pe_callB (call_lenK K) (by rfl) Z.len PySem.boot_len (pa_cons (pe_ix (ix_seqK K) (pv 0) pe_int (fun _ _ => rfl)) pa_nil)) pa_nil)) (pg_name (i := 8) nd rfl (Or.inl rfl)) (pss_cons (ps_set (i := 9) nd rfl (Or.inl rfl) (pe_callX c__law_told_sums (L2N.takes_of rfl rfl rfl rfl) hr rfl (pa_cons (pv 0) (pa_cons (pv 1) (pa_cons (pv 7) (pa_cons (pv 8) pa_nil))))))
      (pss_one (ps_if (pt_cmpR (op_neK K hr.units) (pe_ix (ix_seqK K) (pv 9) pe_int (fun _ _ => rfl)) (pe_ix (ix_seqK K) (pv 9) pe_int (fun _ _ => rfl)) (nomark _)) (pss_one (ps_ret pe_bl)) pss_nil))))
      (pss_one (ps_set (i := 6) nd rfl (Or.inl rfl) (pe_op (op_addK K) (pv 6) (pe_lc (own := [("_law_way", 10)]) rfl nd (pi_seqK K (pv 3)) (blkOk_by (own := [("_law_way", 10)]) (N := ["_law_books", "_law_counts_now", "_law_many", "_law_all_ways", "_law_shorter", "_law_turn", "_law_later", "_law_ways", "_law_store", "_law_sums", "_law_way"]) (sc := defScope s__law_none_shorter) (by decide +kernel)) (fun _ _ _ _ _ => (pg_name (i := 10) nd rfl (Or.inl rfl))) (fun _ _ _ _ _ => pts_nil) (fun _ _ _ _ _ => (pe_op (op_addK K) (pv 7) (pe_lst (pa_cons (pv 10) pa_nil))))))))))
      (pss_one (ps_set (i := 4) nd rfl (Or.inl rfl) (pv 6))))))
      (pss_one (ps_ret pe_bl)))), ?_⟩
  exact (sim_seq (sim_asg (sim_L (sim_lstF (sim_cons (sim_L (sim_lstF sim_nil)) sim_nil))))
    (sim_seq (sim_for (sim_rng1 (sim_cons (sim_cb r_min (sim_cons sim_V (sim_cons (sim_op r_ix (sim_L (sim_lstF (sim_cons sim_int (sim_cons sim_int (sim_cons sim_int sim_nil))))) (sim_op r_addV (sim_cb r_int (sim_cons (sim_op r_lt (sim_cb r_len (sim_cons sim_V sim_nil)) sim_int) sim_nil)) (sim_cb r_int (sim_cons (sim_op r_lt (sim_cb r_len (sim_cons sim_V sim_nil)) sim_int) sim_nil)))) sim_nil))) sim_nil)) simG_N (sim_seq (sim_asg (sim_L (sim_lstF sim_nil)))
    (sim_seq (sim_for (sim_iS sim_V) simG_N (sim_seq (sim_for (sim_rng1 (sim_cons (sim_cb r_len (sim_cons (sim_op r_ix sim_V sim_int) sim_nil)) sim_nil)) simG_N (sim_seq (sim_asg (sim_call0 (sim_cons sim_V (sim_cons sim_V (sim_cons sim_V (sim_cons sim_V sim_nil))))))
    (sim_kIf (sim_yT (sim_op r_ne (sim_op r_ix sim_V sim_int) (sim_op r_ix sim_V sim_int))) (sim_ret sim_bl) sim_kNx)))
    (sim_asg (sim_op r_addV sim_V (sim_L (sim_lc (W' := fun _ _ _ _ => False) (sim_iS sim_V) simG_N sim_yYes (sim_op r_addV sim_V (sim_L (sim_lstF (sim_cons sim_V sim_nil)))) (by decide)))))))
    (sim_asg sim_V))))
    (sim_ret sim_bl)))

noncomputable def b1_law : MS := (kSeq (kAsg (xL (fLc [11] (iA rng1 (zCons (xOp zMod (xOp zIx (xV 1) (xC (.int 89))) (xC (.int 10))) zNil)) (gN 11) yYes (xOp zIx (xV 7) (xOp zMod (xOp zIx (xV 1) (xOp zAddV (xOp zAddV (xC (.int 90)) (xOp zMulV (xC (.int 10)) (xV 8))) (xV 11))) (xCB zLen (zCons (xV 7) zNil)))))) 9)
  (kSeq (kAsg (xFc d__law_told_sums (zCons (xL (fLst (zCons (xV 2) (zCons (xV 3) zNil)))) (zCons (xV 4) (zCons (xV 9) (zCons (xOp zMod (xOp zIx (xV 1) (xOp zAddV (xC (.int 130)) (xV 8))) (xCB zLen (zCons (xV 2) zNil))) zNil))))) 10)
  (kIf (yV (xOp zNe (xOp zIx (xV 10) (xC (.int 0))) (xOp zIx (xV 10) (xC (.int 1))))) (kRet (xC (.bool false))) kNx)))
theorem b1_law_a (ρ : List Slot) : b1_law ρ = (kSeq (kAsg (xL (fLc [11] (iA rng1 (zCons (xOp zMod (xOp zIx (xV 1) (xC (.int 89))) (xC (.int 10))) zNil)) (gN 11) yYes (xOp zIx (xV 7) (xOp zMod (xOp zIx (xV 1) (xOp zAddV (xOp zAddV (xC (.int 90)) (xOp zMulV (xC (.int 10)) (xV 8))) (xV 11))) (xCB zLen (zCons (xV 7) zNil)))))) 9)
  (kSeq (kAsg (xFc d__law_told_sums (zCons (xL (fLst (zCons (xV 2) (zCons (xV 3) zNil)))) (zCons (xV 4) (zCons (xV 9) (zCons (xOp zMod (xOp zIx (xV 1) (xOp zAddV (xC (.int 130)) (xV 8))) (xCB zLen (zCons (xV 2) zNil))) zNil))))) 10)
  (kIf (yV (xOp zNe (xOp zIx (xV 10) (xC (.int 0))) (xOp zIx (xV 10) (xC (.int 1))))) (kRet (xC (.bool false))) kNx))) ρ := nr rfl
noncomputable def m_law : MS := (kSeq (kAsg (xIf (yV (xOp zGt (xOp zMod (xOp zIx (xV 1) (xC (.int 62))) (xC (.int 3))) (xC (.int 0)))) (xFc d__law_menus (zCons (xV 1) (zCons (xC (.int 3)) zNil))) (xFc d__law_lone_ones (zCons (xSl zSlV (xV 1) (oAt (xC (.int 170))) oNo) zNil))) 2)
  (kSeq (kAsg (xFc d__law_beside (zCons (xSl zSlV (xV 1) (oAt (xC (.int 64))) oNo) (zCons (xV 2) zNil))) 3)
  (kSeq (kIf (yV (xOp zEq (xOp zMod (xOp zIx (xV 1) (xC (.int 70))) (xC (.int 2))) (xC (.int 0)))) (kAsg (xFc d__law_beside (zCons (xSl zSlV (xV 1) (oAt (xC (.int 71))) oNo) (zCons (xV 3) zNil))) 3) kNx)
  (kSeq (kAsg (xFc d__law_filling (zCons (xSl zSlV (xV 1) (oAt (xC (.int 80))) oNo) (zCons (xCB zLen (zCons (xV 2) zNil)) zNil))) 4)
  (kSeq (kAsg (xL (fLc [11, 12] (iA enO (zCons (xV 4) zNil)) (gT 2 (gsC (gN 11) (gsC (gN 12) gs0))) yYes (xIf (yV (xOp zGt (xOp zMod (xOp zIx (xV 1) (xOp zAddV (xC (.int 76)) (xV 11))) (xC (.int 3))) (xC (.int 0)))) (xV 12) (xTup (zCons (xC (.int 0)) (zCons (xC (.int 1)) zNil)))))) 4)
  (kSeq (kPar (zCons (xFc d_alike (zCons (xV 2) (zCons (xV 3) (zCons (xV 4) zNil)))) (zCons (xFc d_alike (zCons (xV 3) (zCons (xV 2) (zCons (xV 4) zNil)))) zNil)) 5 6)
  (kSeq (kIf (yV (xOp zNe (xOp zIx (xV 5) (xC (.int 0))) (xOp zIx (xV 6) (xC (.int 0))))) (kRet (xC (.bool false))) kNx)
  (kSeq (kAsg (xFc d__law_choices (zCons (xV 2) zNil)) 7)
  (kSeq (kIf (yV (xOp zEq (xOp zIx (xV 5) (xC (.int 0))) (xC (.str "alike")))) (kFor (iA rng1 (zCons (xC (.int 4)) zNil)) (gN 8) [8, 9, 10] b1_law) (kSeq (kIf (yV (xOp zNe (xCB zLen (zCons (xOp zIx (xV 6) (xC (.int 1))) zNil)) (xCB zLen (zCons (xOp zIx (xV 5) (xC (.int 1))) zNil)))) (kRet (xC (.bool false))) kNx)
  (kIf (yNot (yV (xFc d__law_none_shorter (zCons (xL (fLst (zCons (xV 2) (zCons (xV 3) zNil)))) (zCons (xV 4) (zCons (xCB zLen (zCons (xOp zIx (xV 5) (xC (.int 1))) zNil)) (zCons (xV 7) zNil))))))) (kRet (xC (.bool false))) kNx)))
  (kSeq (kIf (yV (xOp zGt (xCB zLen (zCons (xV 2) zNil)) (xC (.int 4)))) (kRet (xC (.bool true))) kNx)
  (kRet (xFc d__law_untold_alike (zCons (xV 2) (zCons (xV 4) (zCons (xL (fLc [12] (iS (xSl zSlV (xV 1) (oAt (xC (.int 140))) (oAt (xOp zAddV (xC (.int 141)) (xCB zLen (zCons (xV 2) zNil)))))) (gN 12) yYes (xFc d__law_share (zCons (xV 12) zNil)))) zNil)))))))))))))))
theorem z_common_loop : ∀ (n : Nat) (a b : Int), 0 ≤ a → 0 ≤ b → b.toNat ≤ n → kWhile (yV (xOp zGt (xV 1) (xC (.int 0)))) [] b1_common [.dat (.int a), .dat (.int b)] = .nx [.dat (.int (Int.gcd a b)), .dat (.int 0)]
  | n, a, b, ha, hb, hn => by
    by_cases h0 : b = 0
    · subst h0
      rw [kWhile_stop (by simp only [zR0, zR1, zR2, zR3, zR4, zR5, zR6, zR7, slotsM, kFor_a, Rz.bind_ok, Rz.of_some, Rz.calm_ok, Option.bind_some, Option.bind_none, slots, sel, Arg.get, List.filterMap_cons, List.filterMap_nil, List.length_cons, List.length_nil, List.map_cons, List.map_nil, List.cons_append, List.nil_append, List.append_nil, List.getElem?_cons_succ, List.getElem?_cons_zero, List.getElem?_nil, List.set_cons_zero, List.set_cons_succ, List.set_nil, List.replicate_succ, List.replicate_zero, if_true, Nat.sub_self, Nat.reduceAdd, Nat.reduceSub, Nat.reduceLeDiff, Nat.reduceEqDiff, Nat.reduceLT, Int.reduceLT, Int.reduceLE, Int.reduceNeg, Int.reduceEq, Nat.zero_add, and_self, if_false, Bool.not_true, Bool.not_false, Bool.false_eq_true, Nat.zero_le, decide_true, decide_false, reduceCtorEq])]
      rw [Int.gcd_zero_right, Int.natAbs_of_nonneg ha]
    · have hpos : 0 < b := by omega
      have hm := fmod_in (a := a) (b := b) hpos
      cases n with
      | zero => omega
      | succ n =>
        have ih := z_common_loop n b (a.fmod b) (by omega) hm.1 (by omega)
        rw [gcd_step ha hpos] at ih
        refine kWhile_go (ρ' := [.dat (.int b), .dat (.int (a.fmod b))]) ?_ ?_ ih nofun
        · simp only [zR0, zR1, zR2, zR3, zR4, zR5, zR6, zR7, slotsM, kFor_a, Rz.bind_ok, Rz.of_some, Rz.calm_ok, Option.bind_some, Option.bind_none, slots, sel, Arg.get, List.filterMap_cons, List.filterMap_nil, List.length_cons, List.length_nil, List.map_cons, List.map_nil, List.cons_append, List.nil_append, List.append_nil, List.getElem?_cons_succ, List.getElem?_cons_zero, List.getElem?_nil, List.set_cons_zero, List.set_cons_succ, List.set_nil, List.replicate_succ, List.replicate_zero, if_true, Nat.sub_self, Nat.reduceAdd, Nat.reduceSub, Nat.reduceLeDiff, Nat.reduceEqDiff, Nat.reduceLT, Int.reduceLT, Int.reduceLE, Int.reduceNeg, Int.reduceEq, Nat.zero_add, and_self, if_false, Bool.not_true, Bool.not_false, Bool.false_eq_true, Nat.zero_le, decide_true, decide_false, reduceCtorEq, decide_eq_true hpos]
        · simp only [zR0, zR1, zR2, zR3, zR4, zR5, zR6, zR7, slotsM, kFor_a, Rz.bind_ok, Rz.of_some, Rz.calm_ok, Option.bind_some, Option.bind_none, slots, sel, Arg.get, List.filterMap_cons, List.filterMap_nil, List.length_cons, List.length_nil, List.map_cons, List.map_nil, List.cons_append, List.nil_append, List.append_nil, List.getElem?_cons_succ, List.getElem?_cons_zero, List.getElem?_nil, List.set_cons_zero, List.set_cons_succ, List.set_nil, List.replicate_succ, List.replicate_zero, if_true, Nat.sub_self, Nat.reduceAdd, Nat.reduceSub, Nat.reduceLeDiff, Nat.reduceEqDiff, Nat.reduceLT, Int.reduceLT, Int.reduceLE, Int.reduceNeg, Int.reduceEq, Nat.zero_add, and_self, if_false, Bool.not_true, Bool.not_false, Bool.false_eq_true, Nat.zero_le, decide_true, decide_false, reduceCtorEq, b1_common_a, zMod_i h0]
theorem z_common {a b : Int} (ha : 0 ≤ a) (hb : 0 ≤ b) : d_common [.int a, .int b] = .ok (.int (Int.gcd a b)) := by
  simp only [zR0, zR1, zR2, zR3, zR4, zR5, zR6, zR7, slotsM, kFor_a, Rz.bind_ok, Rz.of_some, Rz.calm_ok, Option.bind_some, Option.bind_none, slots, sel, Arg.get, List.filterMap_cons, List.filterMap_nil, List.length_cons, List.length_nil, List.map_cons, List.map_nil, List.cons_append, List.nil_append, List.append_nil, List.getElem?_cons_succ, List.getElem?_cons_zero, List.getElem?_nil, List.set_cons_zero, List.set_cons_succ, List.set_nil, List.replicate_succ, List.replicate_zero, if_true, Nat.sub_self, Nat.reduceAdd, Nat.reduceSub, Nat.reduceLeDiff, Nat.reduceEqDiff, Nat.reduceLT, Int.reduceLT, Int.reduceLE, Int.reduceNeg, Int.reduceEq, Nat.zero_add, and_self, if_false, Bool.not_true, Bool.not_false, Bool.false_eq_true, Nat.zero_le, decide_true, decide_false, reduceCtorEq, d_common, m_common, z_common_loop _ a b ha hb (Nat.le_refl _)]
theorem abs_i (i : Int) : (if i < 0 then -i else i) = (i.natAbs : Int) := by split <;> omega
theorem z_part {u l : Int} (hl : l ≠ 0) : d_part [.int u, .int l] = .ok (encR (Rat.divInt u l)) := by
  have hn := part_num (u := u) hl
  have hd := part_den (u := u) hl
  have hg := gcd_ne (u := u) hl
  by_cases neg : l < 0
  · rw [if_pos neg] at hn hd
    have hc := z_common (a := (((0 - u).natAbs : Nat) : Int)) (b := 0 - l) (by omega) (by omega)
    have eg : ((Int.gcd (((0 - u).natAbs : Nat) : Int) (0 - l) : Nat) : Int) = ((Int.gcd u l : Nat) : Int) := by
      congr 1
      unfold Int.gcd
      simp
    rw [eg] at hc
    simp only [zR0, zR1, zR2, zR3, zR4, zR5, zR6, zR7, slotsM, kFor_a, Rz.bind_ok, Rz.of_some, Rz.calm_ok, Option.bind_some, Option.bind_none, slots, sel, Arg.get, List.filterMap_cons, List.filterMap_nil, List.length_cons, List.length_nil, List.map_cons, List.map_nil, List.cons_append, List.nil_append, List.append_nil, List.getElem?_cons_succ, List.getElem?_cons_zero, List.getElem?_nil, List.set_cons_zero, List.set_cons_succ, List.set_nil, List.replicate_succ, List.replicate_zero, if_true, Nat.sub_self, Nat.reduceAdd, Nat.reduceSub, Nat.reduceLeDiff, Nat.reduceEqDiff, Nat.reduceLT, Int.reduceLT, Int.reduceLE, Int.reduceNeg, Int.reduceEq, Nat.zero_add, and_self, if_false, Bool.not_true, Bool.not_false, Bool.false_eq_true, Nat.zero_le, decide_true, decide_false, reduceCtorEq, d_part, m_part, decide_eq_false hl, decide_eq_true neg, abs_i, hc, zFdB_i hg]
    rw [show (0 : Int) - u = -u from by omega, show (0 : Int) - l = -l from by omega, hn, hd]
    rfl
  · rw [if_neg neg] at hn hd
    have hc := z_common (a := ((u.natAbs : Nat) : Int)) (b := l) (by omega) (by omega)
    have eg : ((Int.gcd ((u.natAbs : Nat) : Int) l : Nat) : Int) = ((Int.gcd u l : Nat) : Int) := by
      congr 1
    rw [eg] at hc
    simp only [zR0, zR1, zR2, zR3, zR4, zR5, zR6, zR7, slotsM, kFor_a, Rz.bind_ok, Rz.of_some, Rz.calm_ok, Option.bind_some, Option.bind_none, slots, sel, Arg.get, List.filterMap_cons, List.filterMap_nil, List.length_cons, List.length_nil, List.map_cons, List.map_nil, List.cons_append, List.nil_append, List.append_nil, List.getElem?_cons_succ, List.getElem?_cons_zero, List.getElem?_nil, List.set_cons_zero, List.set_cons_succ, List.set_nil, List.replicate_succ, List.replicate_zero, if_true, Nat.sub_self, Nat.reduceAdd, Nat.reduceSub, Nat.reduceLeDiff, Nat.reduceEqDiff, Nat.reduceLT, Int.reduceLT, Int.reduceLE, Int.reduceNeg, Int.reduceEq, Nat.zero_add, and_self, if_false, Bool.not_true, Bool.not_false, Bool.false_eq_true, Nat.zero_le, decide_true, decide_false, reduceCtorEq, d_part, m_part, decide_eq_false hl, decide_eq_false neg, abs_i, hc, zFdB_i hg]
    rw [hn, hd]
    rfl
abbrev Menu := Bool × List (List Rat)
def whoD (b : Bool) : PyData := .str (if b then "weather" else "we")
def encRow (r : List Rat) : PyData := .tuple (r.map encR)
def encMenu (m : Menu) : PyData := .tuple [whoD m.1, .tuple (m.2.map encRow)]
def encBook (ms : List Menu) : PyData := .tuple (ms.map encMenu)
def natD (n : Nat) : PyData := .int (n : Int)
def planD (p : List Int) : PyData := .tuple (p.map PyData.int)
def okS (q : Rat) : Prop := 0 ≤ q ∧ q.num ≤ 999 ∧ q.den ≤ 20
structure okRow (n : Nat) (r : List Rat) : Prop where
  len : r.length = n
  all : ∀ q ∈ r, okS q
structure okMenu (n : Nat) (m : Menu) : Prop where
  lo : 1 ≤ m.2.length
  hi : m.2.length ≤ 3
  all : ∀ r ∈ m.2, okRow n r
structure okBook (ms : List Menu) : Prop where
  lo : 1 ≤ ms.length
  hi : ms.length ≤ 5
  all : ∀ m ∈ ms, okMenu ms.length m
theorem okS.num_nn {q : Rat} (h : okS q) : 0 ≤ q.num := Rat.num_nonneg.mpr h.1
theorem okS.sz {q : Rat} (h : okS q) : Sz 10 q := ⟨by have := h.num_nn; have := h.2.1; omega, by have := h.2.2; omega⟩
theorem whoD_in (a : Bool) : zNotIn (whoD a) (.tuple [.str "we", .str "weather"]) = some (.bool false) := by cases a <;> kernel_rfl
theorem atI_nat {α : Type} {xs : List α} {i : Nat} (h : i < xs.length) : atI xs (i : Int) = some xs[i] := by
  rw [atI_in (by omega) (by omega)]
  simp [h]
theorem atI_int {α : Type} {xs : List α} {i : Int} (h0 : 0 ≤ i) (h : i < xs.length) : ∃ hi : i.toNat < xs.length, atI xs i = some xs[i.toNat] := by
  refine ⟨by omega, ?_⟩
  rw [atI_in h0 h, List.getElem?_eq_getElem]
def rowsAt (ms : List Menu) (s : Nat) : Nat := match ms[s]? with
  | some m => m.2.length
  | none => 0
def goodChoice : List Menu → List Int → Prop
  | [], [] => True
  | m :: ms, a :: c => 0 ≤ a ∧ a < (m.2.length : Int) ∧ goodChoice ms c
  | _, _ => False
def takenL : List Menu → List Int → List (List Rat)
  | m :: ms, a :: c => m.2.getD a.toNat [] :: takenL ms c
  | _, _ => []
theorem goodChoice.len : ∀ {ms : List Menu} {c : List Int}, goodChoice ms c → c.length = ms.length
  | [], [], _ => rfl
  | m :: ms, a :: c, h => by rw [List.length_cons, List.length_cons, goodChoice.len h.2.2]
  | [], _ :: _, h => h.elim
  | _ :: _, [], h => h.elim
theorem goodChoice.get : ∀ {ms : List Menu} {c : List Int}, goodChoice ms c → ∀ {i : Nat} {m : Menu} {a : Int}, ms[i]? = some m → c[i]? = some a → 0 ≤ a ∧ a < (m.2.length : Int)
  | m :: ms, a :: c, h, 0, _, _, e1, e2 => by cases e1; cases e2; exact ⟨h.1, h.2.1⟩
  | m :: ms, a :: c, h, i + 1, _, _, e1, e2 => goodChoice.get h.2.2 (i := i) e1 e2
  | [], [], _, _, _, _, e1, _ => by simp at e1
  | [], _ :: _, h, _, _, _, _, _ => h.elim
  | _ :: _, [], h, _, _, _, _, _ => h.elim
theorem z_plus {a b : Rat} {n m : Nat} (ha : Sz n a) (hb : Sz m b) (l : n + m ≤ 99999998) : d_plus [encR a, encR b] = .ok (encR (a + b)) := by
  have l' : m + n ≤ 99999998 := by omega
  have hp := z_part (u := a.num * (b.den : Int) + b.num * (a.den : Int)) (l := (a.den : Int) * (b.den : Int)) (dens_ne a b)
  simp only [zR0, zR1, zR2, zR3, zR4, zR5, zR6, zR7, slotsM, kFor_a, Rz.bind_ok, Rz.of_some, Rz.calm_ok, Option.bind_some, Option.bind_none, slots, sel, Arg.get, List.filterMap_cons, List.filterMap_nil, List.length_cons, List.length_nil, List.map_cons, List.map_nil, List.cons_append, List.nil_append, List.append_nil, List.getElem?_cons_succ, List.getElem?_cons_zero, List.getElem?_nil, List.set_cons_zero, List.set_cons_succ, List.set_nil, List.replicate_succ, List.replicate_zero, if_true, Nat.sub_self, Nat.reduceAdd, Nat.reduceSub, Nat.reduceLeDiff, Nat.reduceEqDiff, Nat.reduceLT, Int.reduceLT, Int.reduceLE, Int.reduceNeg, Int.reduceEq, Nat.zero_add, and_self, if_false, Bool.not_true, Bool.not_false, Bool.false_eq_true, Nat.zero_le, decide_true, decide_false, reduceCtorEq, d_plus, m_plus, zMulV_b ha.num hb.num l, zMulV_b ha.num hb.den l, zMulV_b ha.den hb.den l, zMulV_b ha.den hb.num l, zMulV_b hb.num ha.den l', hp]
  rw [add_divInt]
theorem z_times {a b : Rat} {n m : Nat} (ha : Sz n a) (hb : Sz m b) (l : n + m ≤ 99999998) : d_times [encR a, encR b] = .ok (encR (a * b)) := by
  have l' : m + n ≤ 99999998 := by omega
  have hp := z_part (u := a.num * b.num) (l := (a.den : Int) * (b.den : Int)) (dens_ne a b)
  simp only [zR0, zR1, zR2, zR3, zR4, zR5, zR6, zR7, slotsM, kFor_a, Rz.bind_ok, Rz.of_some, Rz.calm_ok, Option.bind_some, Option.bind_none, slots, sel, Arg.get, List.filterMap_cons, List.filterMap_nil, List.length_cons, List.length_nil, List.map_cons, List.map_nil, List.cons_append, List.nil_append, List.append_nil, List.getElem?_cons_succ, List.getElem?_cons_zero, List.getElem?_nil, List.set_cons_zero, List.set_cons_succ, List.set_nil, List.replicate_succ, List.replicate_zero, if_true, Nat.sub_self, Nat.reduceAdd, Nat.reduceSub, Nat.reduceLeDiff, Nat.reduceEqDiff, Nat.reduceLT, Int.reduceLT, Int.reduceLE, Int.reduceNeg, Int.reduceEq, Nat.zero_add, and_self, if_false, Bool.not_true, Bool.not_false, Bool.false_eq_true, Nat.zero_le, decide_true, decide_false, reduceCtorEq, d_times, m_times, zMulV_b ha.num hb.num l, zMulV_b ha.num hb.den l, zMulV_b ha.den hb.den l, zMulV_b ha.den hb.num l, zMulV_b hb.num ha.den l', hp]
  rw [mul_divInt]
theorem z_less {a b : Rat} {n m : Nat} (ha : Sz n a) (hb : Sz m b) (l : n + m ≤ 99999998) : d_less [encR a, encR b] = .ok (encR (a - b)) := by
  have l' : m + n ≤ 99999998 := by omega
  have hp := z_part (u := a.num * (b.den : Int) - b.num * (a.den : Int)) (l := (a.den : Int) * (b.den : Int)) (dens_ne a b)
  simp only [zR0, zR1, zR2, zR3, zR4, zR5, zR6, zR7, slotsM, kFor_a, Rz.bind_ok, Rz.of_some, Rz.calm_ok, Option.bind_some, Option.bind_none, slots, sel, Arg.get, List.filterMap_cons, List.filterMap_nil, List.length_cons, List.length_nil, List.map_cons, List.map_nil, List.cons_append, List.nil_append, List.append_nil, List.getElem?_cons_succ, List.getElem?_cons_zero, List.getElem?_nil, List.set_cons_zero, List.set_cons_succ, List.set_nil, List.replicate_succ, List.replicate_zero, if_true, Nat.sub_self, Nat.reduceAdd, Nat.reduceSub, Nat.reduceLeDiff, Nat.reduceEqDiff, Nat.reduceLT, Int.reduceLT, Int.reduceLE, Int.reduceNeg, Int.reduceEq, Nat.zero_add, and_self, if_false, Bool.not_true, Bool.not_false, Bool.false_eq_true, Nat.zero_le, decide_true, decide_false, reduceCtorEq, d_less, m_less, zMulV_b ha.num hb.num l, zMulV_b ha.num hb.den l, zMulV_b ha.den hb.den l, zMulV_b ha.den hb.num l, zMulV_b hb.num ha.den l', hp]
  rw [sub_divInt]
theorem z_over {a b : Rat} {n m : Nat} (ha : Sz n a) (hb : Sz m b) (l : n + m ≤ 99999998) (h0 : b ≠ 0) : d_over [encR a, encR b] = .ok (encR (a / b)) := by
  have l' : m + n ≤ 99999998 := by omega
  have hp := z_part (u := a.num * (b.den : Int)) (l := (a.den : Int) * b.num) (Int.mul_ne_zero (den_ne a) (num_ne h0))
  simp only [zR0, zR1, zR2, zR3, zR4, zR5, zR6, zR7, slotsM, kFor_a, Rz.bind_ok, Rz.of_some, Rz.calm_ok, Option.bind_some, Option.bind_none, slots, sel, Arg.get, List.filterMap_cons, List.filterMap_nil, List.length_cons, List.length_nil, List.map_cons, List.map_nil, List.cons_append, List.nil_append, List.append_nil, List.getElem?_cons_succ, List.getElem?_cons_zero, List.getElem?_nil, List.set_cons_zero, List.set_cons_succ, List.set_nil, List.replicate_succ, List.replicate_zero, if_true, Nat.sub_self, Nat.reduceAdd, Nat.reduceSub, Nat.reduceLeDiff, Nat.reduceEqDiff, Nat.reduceLT, Int.reduceLT, Int.reduceLE, Int.reduceNeg, Int.reduceEq, Nat.zero_add, and_self, if_false, Bool.not_true, Bool.not_false, Bool.false_eq_true, Nat.zero_le, decide_true, decide_false, reduceCtorEq, d_over, m_over, zMulV_b ha.num hb.num l, zMulV_b ha.num hb.den l, zMulV_b ha.den hb.den l, zMulV_b ha.den hb.num l, zMulV_b hb.num ha.den l', hp, decide_eq_false (num_ne h0)]
  rw [div_divInt]
theorem zero_sz : Sz 1 0 := ⟨by decide, by decide⟩
theorem zipD_cons (a b : PyData) (as bs : List PyData) : zipD (a :: as) (b :: bs) = .tuple [a, b] :: zipD as bs := rfl
theorem z_is_share (q : Rat) : d_is_share [encR q] = .ok (.bool (decide (0 ≤ q.num) && decide (q.num ≤ 999) && decide ((q.den : Int) ≤ 20))) := by
  by_cases h1 : 0 ≤ q.num
  · by_cases h2 : q.num ≤ 999
    · simp only [zR0, zR1, zR2, zR3, zR4, zR5, zR6, zR7, slotsM, kFor_a, Rz.bind_ok, Rz.of_some, Rz.calm_ok, Option.bind_some, Option.bind_none, slots, sel, Arg.get, List.filterMap_cons, List.filterMap_nil, List.length_cons, List.length_nil, List.map_cons, List.map_nil, List.cons_append, List.nil_append, List.append_nil, List.getElem?_cons_succ, List.getElem?_cons_zero, List.getElem?_nil, List.set_cons_zero, List.set_cons_succ, List.set_nil, List.replicate_succ, List.replicate_zero, if_true, Nat.sub_self, Nat.reduceAdd, Nat.reduceSub, Nat.reduceLeDiff, Nat.reduceEqDiff, Nat.reduceLT, Int.reduceLT, Int.reduceLE, Int.reduceNeg, Int.reduceEq, Nat.zero_add, and_self, if_false, Bool.not_true, Bool.not_false, Bool.false_eq_true, Nat.zero_le, decide_true, decide_false, reduceCtorEq, d_is_share, m_is_share, decide_eq_true h1, decide_eq_true h2, Bool.true_and]
    · simp only [zR0, zR1, zR2, zR3, zR4, zR5, zR6, zR7, slotsM, kFor_a, Rz.bind_ok, Rz.of_some, Rz.calm_ok, Option.bind_some, Option.bind_none, slots, sel, Arg.get, List.filterMap_cons, List.filterMap_nil, List.length_cons, List.length_nil, List.map_cons, List.map_nil, List.cons_append, List.nil_append, List.append_nil, List.getElem?_cons_succ, List.getElem?_cons_zero, List.getElem?_nil, List.set_cons_zero, List.set_cons_succ, List.set_nil, List.replicate_succ, List.replicate_zero, if_true, Nat.sub_self, Nat.reduceAdd, Nat.reduceSub, Nat.reduceLeDiff, Nat.reduceEqDiff, Nat.reduceLT, Int.reduceLT, Int.reduceLE, Int.reduceNeg, Int.reduceEq, Nat.zero_add, and_self, if_false, Bool.not_true, Bool.not_false, Bool.false_eq_true, Nat.zero_le, decide_true, decide_false, reduceCtorEq, d_is_share, m_is_share, decide_eq_true h1, decide_eq_false h2, Bool.false_and, Bool.and_false]
  · simp only [zR0, zR1, zR2, zR3, zR4, zR5, zR6, zR7, slotsM, kFor_a, Rz.bind_ok, Rz.of_some, Rz.calm_ok, Option.bind_some, Option.bind_none, slots, sel, Arg.get, List.filterMap_cons, List.filterMap_nil, List.length_cons, List.length_nil, List.map_cons, List.map_nil, List.cons_append, List.nil_append, List.append_nil, List.getElem?_cons_succ, List.getElem?_cons_zero, List.getElem?_nil, List.set_cons_zero, List.set_cons_succ, List.set_nil, List.replicate_succ, List.replicate_zero, if_true, Nat.sub_self, Nat.reduceAdd, Nat.reduceSub, Nat.reduceLeDiff, Nat.reduceEqDiff, Nat.reduceLT, Int.reduceLT, Int.reduceLE, Int.reduceNeg, Int.reduceEq, Nat.zero_add, and_self, if_false, Bool.not_true, Bool.not_false, Bool.false_eq_true, Nat.zero_le, decide_true, decide_false, reduceCtorEq, d_is_share, m_is_share, decide_eq_false h1, Bool.false_and]
theorem z_need_hand (b : Bool) : d_need_hand [whoD b] = .ok .none := by
  simp only [zR0, zR1, zR2, zR3, zR4, zR5, zR6, zR7, slotsM, kFor_a, Rz.bind_ok, Rz.of_some, Rz.calm_ok, Option.bind_some, Option.bind_none, slots, sel, Arg.get, List.filterMap_cons, List.filterMap_nil, List.length_cons, List.length_nil, List.map_cons, List.map_nil, List.cons_append, List.nil_append, List.append_nil, List.getElem?_cons_succ, List.getElem?_cons_zero, List.getElem?_nil, List.set_cons_zero, List.set_cons_succ, List.set_nil, List.replicate_succ, List.replicate_zero, if_true, Nat.sub_self, Nat.reduceAdd, Nat.reduceSub, Nat.reduceLeDiff, Nat.reduceEqDiff, Nat.reduceLT, Int.reduceLT, Int.reduceLE, Int.reduceNeg, Int.reduceEq, Nat.zero_add, and_self, if_false, Bool.not_true, Bool.not_false, Bool.false_eq_true, Nat.zero_le, decide_true, decide_false, reduceCtorEq, d_need_hand, m_need_hand, whoD_in]
theorem z_look {ms : List Menu} (h : okBook ms) : d_look [encBook ms] = .ok .none := by
  have h1 : decide ((1 : Int) ≤ ((ms.map encMenu).length : Nat)) = true := decide_eq_true (by have := h.lo; rw [List.length_map]; omega)
  have h2 : decide ((((ms.map encMenu).length : Nat) : Int) ≤ 5) = true := decide_eq_true (by have := h.hi; rw [List.length_map]; omega)
  have loop : forL (gT 2 (gsC (gN 1) (gsC (gN 2) gs0))) [1, 2, 3] b2_look (ms.map encMenu) [.dat (.tuple (ms.map encMenu)), .no, .no, .no, .no] = .nx [.dat (.tuple (ms.map encMenu)), .no, .no, .no, .no] := by
    refine forL_id (F := fun m ρ => (ρ.set 1 (.dat (whoD m.1))).set 2 (.dat (.tuple (m.2.map encRow)))) (fun m _ => rfl) fun m hm => ?_
    have om := h.all m hm
    have h3 : decide ((1 : Int) ≤ ((m.2.map encRow).length : Nat)) = true := decide_eq_true (by have := om.lo; rw [List.length_map]; omega)
    have h4 : decide ((((m.2.map encRow).length : Nat) : Int) ≤ 3) = true := decide_eq_true (by have := om.hi; rw [List.length_map]; omega)
    have inner : forL (gN 3) [3] b1_look (m.2.map encRow) [.dat (.tuple (ms.map encMenu)), .dat (whoD m.1), .dat (.tuple (m.2.map encRow)), .no, .no] = .nx [.dat (.tuple (ms.map encMenu)), .dat (whoD m.1), .dat (.tuple (m.2.map encRow)), .no, .no] := by
      refine forL_id (F := fun r ρ => ρ.set 3 (.dat (.tuple (r.map encR)))) (fun r _ => rfl) fun r hr => ?_
      have or := om.all r hr
      have hl : decide ((((r.map encR).length : Nat) : Int) = ((ms.map encMenu).length : Nat)) = true := decide_eq_true (by rw [List.length_map, List.length_map, or.len])
      have hlc : (r.map encR).length ≤ 1000000 := by rw [List.length_map, or.len]; have := h.hi; omega
      have lc : lcL (gN 4) yYes (xFc d_is_share (zCons (xV 4) zNil)) [.dat (.tuple (ms.map encMenu)), .dat (whoD m.1), .dat (.tuple (m.2.map encRow)), .dat (.tuple (r.map encR)), .no] (r.map encR) = .ok (r.map fun q => .bool (decide (0 ≤ q.num) && decide (q.num ≤ 999) && decide ((q.den : Int) ≤ 20))) :=
        lcL_map (F := fun q ρ => ρ.set 4 (.dat (encR q))) (fun q _ => rfl) (fun q _ => rfl) (fun q _ => by simp only [zR0, zR1, zR2, zR3, zR4, zR5, zR6, zR7, slotsM, kFor_a, Rz.bind_ok, Rz.of_some, Rz.calm_ok, Option.bind_some, Option.bind_none, slots, sel, Arg.get, List.filterMap_cons, List.filterMap_nil, List.length_cons, List.length_nil, List.map_cons, List.map_nil, List.cons_append, List.nil_append, List.append_nil, List.getElem?_cons_succ, List.getElem?_cons_zero, List.getElem?_nil, List.set_cons_zero, List.set_cons_succ, List.set_nil, List.replicate_succ, List.replicate_zero, if_true, Nat.sub_self, Nat.reduceAdd, Nat.reduceSub, Nat.reduceLeDiff, Nat.reduceEqDiff, Nat.reduceLT, Int.reduceLT, Int.reduceLE, Int.reduceNeg, Int.reduceEq, Nat.zero_add, and_self, if_false, Bool.not_true, Bool.not_false, Bool.false_eq_true, Nat.zero_le, decide_true, decide_false, reduceCtorEq, z_is_share])
      have al : (r.all fun q => decide (0 ≤ q.num) && decide (q.num ≤ 999) && decide ((q.den : Int) ≤ 20)) = true := by
        rw [List.all_eq_true]
        intro q hq
        have := or.all q hq
        rw [decide_eq_true this.num_nn, decide_eq_true this.2.1, decide_eq_true (by have := this.2.2; omega)]
        rfl
      refine ⟨_, by simp only [zR0, zR1, zR2, zR3, zR4, zR5, zR6, zR7, slotsM, kFor_a, Rz.bind_ok, Rz.of_some, Rz.calm_ok, Option.bind_some, Option.bind_none, slots, sel, Arg.get, List.filterMap_cons, List.filterMap_nil, List.length_cons, List.length_nil, List.map_cons, List.map_nil, List.cons_append, List.nil_append, List.append_nil, List.getElem?_cons_succ, List.getElem?_cons_zero, List.getElem?_nil, List.set_cons_zero, List.set_cons_succ, List.set_nil, List.replicate_succ, List.replicate_zero, if_true, Nat.sub_self, Nat.reduceAdd, Nat.reduceSub, Nat.reduceLeDiff, Nat.reduceEqDiff, Nat.reduceLT, Int.reduceLT, Int.reduceLE, Int.reduceNeg, Int.reduceEq, Nat.zero_add, and_self, if_false, Bool.not_true, Bool.not_false, Bool.false_eq_true, Nat.zero_le, decide_true, decide_false, reduceCtorEq, b1_look_a, hl, if_pos hlc, lc, zAll_m, al]; rfl, rfl⟩
    refine ⟨_, by simp only [zR0, zR1, zR2, zR3, zR4, zR5, zR6, zR7, slotsM, kFor_a, Rz.bind_ok, Rz.of_some, Rz.calm_ok, Option.bind_some, Option.bind_none, slots, sel, Arg.get, List.filterMap_cons, List.filterMap_nil, List.length_cons, List.length_nil, List.map_cons, List.map_nil, List.cons_append, List.nil_append, List.append_nil, List.getElem?_cons_succ, List.getElem?_cons_zero, List.getElem?_nil, List.set_cons_zero, List.set_cons_succ, List.set_nil, List.replicate_succ, List.replicate_zero, if_true, Nat.sub_self, Nat.reduceAdd, Nat.reduceSub, Nat.reduceLeDiff, Nat.reduceEqDiff, Nat.reduceLT, Int.reduceLT, Int.reduceLE, Int.reduceNeg, Int.reduceEq, Nat.zero_add, and_self, if_false, Bool.not_true, Bool.not_false, Bool.false_eq_true, Nat.zero_le, decide_true, decide_false, reduceCtorEq, b2_look_a, z_need_hand, h3, h4, inner]; rfl, rfl⟩
  simp only [zR0, zR1, zR2, zR3, zR4, zR5, zR6, zR7, slotsM, kFor_a, Rz.bind_ok, Rz.of_some, Rz.calm_ok, Option.bind_some, Option.bind_none, slots, sel, Arg.get, List.filterMap_cons, List.filterMap_nil, List.length_cons, List.length_nil, List.map_cons, List.map_nil, List.cons_append, List.nil_append, List.append_nil, List.getElem?_cons_succ, List.getElem?_cons_zero, List.getElem?_nil, List.set_cons_zero, List.set_cons_succ, List.set_nil, List.replicate_succ, List.replicate_zero, if_true, Nat.sub_self, Nat.reduceAdd, Nat.reduceSub, Nat.reduceLeDiff, Nat.reduceEqDiff, Nat.reduceLT, Int.reduceLT, Int.reduceLE, Int.reduceNeg, Int.reduceEq, Nat.zero_add, and_self, if_false, Bool.not_true, Bool.not_false, Bool.false_eq_true, Nat.zero_le, decide_true, decide_false, reduceCtorEq, d_look, m_look, encBook, h1, h2, loop]
theorem len_le {α : Type} {f : α → PyData} {xs : List α} {n : Nat} (h : xs.length ≤ n) (hn : n ≤ 1000000) : (xs.map f).length ≤ 1000000 := by rw [List.length_map]; omega
theorem ix_menu {ms : List Menu} {s : Nat} {m : Menu} (h : ms[s]? = some m) : zIx (encBook ms) (.int (s : Nat)) = some (encMenu m) := by
  unfold encBook
  rw [zIx_t, atI_in (by omega) (by rw [List.length_map]; have := (List.getElem?_eq_some_iff.mp h).1; omega)]
  simp [h]
theorem ix_rows (m : Menu) : zIx (encMenu m) (.int 1) = some (.tuple (m.2.map encRow)) := rfl
theorem ix_row {rs : List (List Rat)} {a : Int} (h0 : 0 ≤ a) (h : a < (rs.length : Int)) : zIx (.tuple (rs.map encRow)) (.int a) = some (encRow (rs.getD a.toNat [])) := by
  rw [zIx_t, atI_in h0 (by rw [List.length_map]; exact h), List.getElem?_map, List.getD_eq_getElem?_getD, List.getElem?_eq_getElem (by omega)]
  rfl
def dkey (j : Nat) : Key := .inl (j : Int)
theorem taken_zip : ∀ (ms all : List Menu) (c : List Int) (k : Nat), (∀ j, all[k + j]? = ms[j]?) → goodChoice ms c → ((c.zipIdx k).map fun p => encRow (((all[p.2]?).map (·.2)).getD [] |>.getD p.1.toNat [])) = (takenL ms c).map encRow
  | [], all, [], k, _, _ => rfl
  | m :: ms, all, a :: c, k, ha, h => by
    have h0 : all[k]? = some m := by have := ha 0; simpa using this
    rw [List.zipIdx_cons, List.map_cons, taken_zip ms all c (k + 1) (fun j => by have := ha (j + 1); rw [show k + 1 + j = k + (j + 1) from by omega, this]; rfl) h.2.2]
    simp only [h0]
    rfl
  | [], all, _ :: _, k, _, h => h.elim
  | _ :: _, all, [], k, _, h => h.elim
theorem z_taken {ms : List Menu} {c : List Int} (hl : ms.length ≤ 1000) (h : goodChoice ms c) : d_taken [encBook ms, planD c] = .ok (.list ((takenL ms c).map encRow)) := by
  have he : enO [planD c] = some ((c.zipIdx 0).map fun p => .tuple [.int (p.2 : Nat), .int p.1]) := by rw [enO_a (ds := c.map .int) rfl, enD_map]
  have hz : ((c.zipIdx 0).map fun p : Int × Nat => PyData.tuple [.int (p.2 : Nat), .int p.1]).length ≤ 1000000 := by rw [List.length_map, List.length_zipIdx, h.len]; omega
  have lc : lcL (gT 2 (gsC (gN 2) (gsC (gN 3) gs0))) yYes (xOp zIx (xOp zIx (xOp zIx (xV 0) (xV 2)) (xC (.int 1))) (xV 3)) [.dat (encBook ms), .dat (planD c), .no, .no] ((c.zipIdx 0).map fun p => .tuple [.int (p.2 : Nat), .int p.1]) = .ok ((c.zipIdx 0).map fun p => encRow (((ms[p.2]?).map (·.2)).getD [] |>.getD p.1.toNat [])) :=
    lcL_map (F := fun p ρ => (ρ.set 2 (.dat (.int (p.2 : Nat)))).set 3 (.dat (.int p.1))) (fun p _ => rfl) (fun p _ => rfl) (fun p hp => by
      obtain ⟨x, k⟩ := p
      have hk := List.mem_zipIdx' hp
      have hc : c[k]? = some x := by rw [List.getElem?_eq_getElem hk.1]; exact congrArg some hk.2.symm
      have hlt : k < ms.length := by rw [← h.len]; exact hk.1
      have hm : ms[k]? = some ms[k] := List.getElem?_eq_getElem hlt
      have hg := h.get hm hc
      simp only [zR0, zR1, zR2, zR3, zR4, zR5, zR6, zR7, slotsM, kFor_a, Rz.bind_ok, Rz.of_some, Rz.calm_ok, Option.bind_some, Option.bind_none, slots, sel, Arg.get, List.filterMap_cons, List.filterMap_nil, List.length_cons, List.length_nil, List.map_cons, List.map_nil, List.cons_append, List.nil_append, List.append_nil, List.getElem?_cons_succ, List.getElem?_cons_zero, List.getElem?_nil, List.set_cons_zero, List.set_cons_succ, List.set_nil, List.replicate_succ, List.replicate_zero, if_true, Nat.sub_self, Nat.reduceAdd, Nat.reduceSub, Nat.reduceLeDiff, Nat.reduceEqDiff, Nat.reduceLT, Int.reduceLT, Int.reduceLE, Int.reduceNeg, Int.reduceEq, Nat.zero_add, and_self, if_false, Bool.not_true, Bool.not_false, Bool.false_eq_true, Nat.zero_le, decide_true, decide_false, reduceCtorEq, ix_menu hm, ix_rows, ix_row hg.1 hg.2, hm]
      rfl)
  rw [taken_zip ms ms c 0 (fun j => by rw [Nat.zero_add]) h] at lc
  simp only [zR0, zR1, zR2, zR3, zR4, zR5, zR6, zR7, slotsM, kFor_a, Rz.bind_ok, Rz.of_some, Rz.calm_ok, Option.bind_some, Option.bind_none, slots, sel, Arg.get, List.filterMap_cons, List.filterMap_nil, List.length_cons, List.length_nil, List.map_cons, List.map_nil, List.cons_append, List.nil_append, List.append_nil, List.getElem?_cons_succ, List.getElem?_cons_zero, List.getElem?_nil, List.set_cons_zero, List.set_cons_succ, List.set_nil, List.replicate_succ, List.replicate_zero, if_true, Nat.sub_self, Nat.reduceAdd, Nat.reduceSub, Nat.reduceLeDiff, Nat.reduceEqDiff, Nat.reduceLT, Int.reduceLT, Int.reduceLE, Int.reduceNeg, Int.reduceEq, Nat.zero_add, and_self, if_false, Bool.not_true, Bool.not_false, Bool.false_eq_true, Nat.zero_le, decide_true, decide_false, reduceCtorEq, d_taken, m_taken, he, if_pos hz, lc]
def badFill (n : Nat) (qs : List Rat) : Bool := decide (qs.length ≠ n) || qs.any fun q => decide (q.num < 0)
theorem badFill_no {n : Nat} {qs : List Rat} (hl : qs.length = n) (h : ∀ q ∈ qs, 0 ≤ q) : badFill n qs = false := by
  unfold badFill
  rw [decide_eq_false (by omega), Bool.false_or]
  rw [List.any_eq_false]
  intro q hq
  have := Rat.num_nonneg.mpr (h q hq)
  rw [decide_eq_true_eq]
  omega
theorem z_need_filling {qs : List Rat} {df : PyData} {n : Nat} (hl : qs.length ≤ 1000) (hd : df = .list (qs.map encR) ∨ df = .tuple (qs.map encR)) : d_need_filling [.int (n : Int), df] = if badFill n qs then .ex ⟨"BadFilling", []⟩ else .ok .none := by
  have hlen : zLen [df] = some (.int ((qs.map encR).length : Nat)) := by rcases hd with rfl | rfl <;> rfl
  have hs : seqOf df = some (qs.map encR) := by rcases hd with rfl | rfl <;> rfl
  have hlc : (qs.map encR).length ≤ 1000000 := by rw [List.length_map]; omega
  have lc : lcL (gN 2) yYes (xOp zLt (xOp zIx (xV 2) (xC (.int 0))) (xC (.int 0))) [.dat (.int (n : Int)), .dat df, .no] (qs.map encR) = .ok (qs.map fun q => .bool (decide (q.num < 0))) :=
    lcL_map (F := fun q ρ => ρ.set 2 (.dat (encR q))) (fun q _ => rfl) (fun q _ => rfl) (fun q _ => by simp only [zR0, zR1, zR2, zR3, zR4, zR5, zR6, zR7, slotsM, kFor_a, Rz.bind_ok, Rz.of_some, Rz.calm_ok, Option.bind_some, Option.bind_none, slots, sel, Arg.get, List.filterMap_cons, List.filterMap_nil, List.length_cons, List.length_nil, List.map_cons, List.map_nil, List.cons_append, List.nil_append, List.append_nil, List.getElem?_cons_succ, List.getElem?_cons_zero, List.getElem?_nil, List.set_cons_zero, List.set_cons_succ, List.set_nil, List.replicate_succ, List.replicate_zero, if_true, Nat.sub_self, Nat.reduceAdd, Nat.reduceSub, Nat.reduceLeDiff, Nat.reduceEqDiff, Nat.reduceLT, Int.reduceLT, Int.reduceLE, Int.reduceNeg, Int.reduceEq, Nat.zero_add, and_self, if_false, Bool.not_true, Bool.not_false, Bool.false_eq_true, Nat.zero_le, decide_true, decide_false, reduceCtorEq])
  unfold badFill
  by_cases e : qs.length = n
  · have he : decide ((((qs.map encR).length : Nat) : Int) = (n : Int)) = true := decide_eq_true (by rw [List.length_map, e])
    rw [decide_eq_false (by omega), Bool.false_or]
    cases ha : qs.any fun q => decide (q.num < 0) with
    | true => simp only [zR0, zR1, zR2, zR3, zR4, zR5, zR6, zR7, slotsM, kFor_a, Rz.bind_ok, Rz.of_some, Rz.calm_ok, Option.bind_some, Option.bind_none, slots, sel, Arg.get, List.filterMap_cons, List.filterMap_nil, List.length_cons, List.length_nil, List.map_cons, List.map_nil, List.cons_append, List.nil_append, List.append_nil, List.getElem?_cons_succ, List.getElem?_cons_zero, List.getElem?_nil, List.set_cons_zero, List.set_cons_succ, List.set_nil, List.replicate_succ, List.replicate_zero, if_true, Nat.sub_self, Nat.reduceAdd, Nat.reduceSub, Nat.reduceLeDiff, Nat.reduceEqDiff, Nat.reduceLT, Int.reduceLT, Int.reduceLE, Int.reduceNeg, Int.reduceEq, Nat.zero_add, and_self, if_false, Bool.not_true, Bool.not_false, Bool.false_eq_true, Nat.zero_le, decide_true, decide_false, reduceCtorEq, d_need_filling, m_need_filling, hlen, he, hs, if_pos hlc, lc, zAny_m, ha]
    | false => simp only [zR0, zR1, zR2, zR3, zR4, zR5, zR6, zR7, slotsM, kFor_a, Rz.bind_ok, Rz.of_some, Rz.calm_ok, Option.bind_some, Option.bind_none, slots, sel, Arg.get, List.filterMap_cons, List.filterMap_nil, List.length_cons, List.length_nil, List.map_cons, List.map_nil, List.cons_append, List.nil_append, List.append_nil, List.getElem?_cons_succ, List.getElem?_cons_zero, List.getElem?_nil, List.set_cons_zero, List.set_cons_succ, List.set_nil, List.replicate_succ, List.replicate_zero, if_true, Nat.sub_self, Nat.reduceAdd, Nat.reduceSub, Nat.reduceLeDiff, Nat.reduceEqDiff, Nat.reduceLT, Int.reduceLT, Int.reduceLE, Int.reduceNeg, Int.reduceEq, Nat.zero_add, and_self, if_false, Bool.not_true, Bool.not_false, Bool.false_eq_true, Nat.zero_le, decide_true, decide_false, reduceCtorEq, d_need_filling, m_need_filling, hlen, he, hs, if_pos hlc, lc, zAny_m, ha]
  · have he : decide ((((qs.map encR).length : Nat) : Int) = (n : Int)) = false := decide_eq_false (by rw [List.length_map]; omega)
    rw [decide_eq_true e, Bool.true_or]
    simp only [zR0, zR1, zR2, zR3, zR4, zR5, zR6, zR7, slotsM, kFor_a, Rz.bind_ok, Rz.of_some, Rz.calm_ok, Option.bind_some, Option.bind_none, slots, sel, Arg.get, List.filterMap_cons, List.filterMap_nil, List.length_cons, List.length_nil, List.map_cons, List.map_nil, List.cons_append, List.nil_append, List.append_nil, List.getElem?_cons_succ, List.getElem?_cons_zero, List.getElem?_nil, List.set_cons_zero, List.set_cons_succ, List.set_nil, List.replicate_succ, List.replicate_zero, if_true, Nat.sub_self, Nat.reduceAdd, Nat.reduceSub, Nat.reduceLeDiff, Nat.reduceEqDiff, Nat.reduceLT, Int.reduceLT, Int.reduceLE, Int.reduceNeg, Int.reduceEq, Nat.zero_add, and_self, if_false, Bool.not_true, Bool.not_false, Bool.false_eq_true, Nat.zero_le, decide_true, decide_false, reduceCtorEq, d_need_filling, m_need_filling, hlen, he]
def stepQ (rows : List (List Rat)) (fill : List Rat) : List Rat := rows.map fun r => dotQ r fill
structure okTs (n t : Nat) (rows : List (List Rat)) : Prop where
  len : rows.length = n
  all : ∀ r ∈ rows, r.length = n ∧ ∀ q ∈ r, 0 ≤ q ∧ Sz t q
theorem okTs.mono {n t u : Nat} {rows : List (List Rat)} (h : okTs n t rows) (l : t ≤ u) : okTs n u rows := ⟨h.len, fun r hr => ⟨(h.all r hr).1, fun q hq => ⟨((h.all r hr).2 q hq).1, ((h.all r hr).2 q hq).2.mono l⟩⟩⟩
abbrev okTab (n : Nat) (rows : List (List Rat)) : Prop := okTs n 10 rows
structure okFill (n : Nat) (fill : List Rat) : Prop where
  len : fill.length = n
  all : ∀ q ∈ fill, 0 ≤ q ∧ Sz 30000 q
theorem okTab_taken {ms : List Menu} (n : Nat) : ∀ {c : List Int}, goodChoice ms c → (∀ m ∈ ms, okMenu n m) → (takenL ms c).length = ms.length ∧ ∀ r ∈ takenL ms c, okRow n r := by
  induction ms with
  | nil => intro c h _; cases c with
    | nil => exact ⟨rfl, fun r hr => by cases hr⟩
    | cons a c => exact h.elim
  | cons m ms ih =>
    intro c h hm
    cases c with
    | nil => exact h.elim
    | cons a c =>
      obtain ⟨i1, i2⟩ := ih h.2.2 fun x hx => hm x (List.mem_cons_of_mem _ hx)
      refine ⟨by unfold takenL; rw [List.length_cons, List.length_cons, i1], fun r hr => ?_⟩
      rcases List.mem_cons.mp (show r ∈ m.2.getD a.toNat [] :: takenL ms c from hr) with z | z
      · rw [z]
        have hlt : a.toNat < m.2.length := by have := h.1; have := h.2.1; omega
        rw [List.getD_eq_getElem?_getD, List.getElem?_eq_getElem hlt]
        exact (hm m (List.mem_cons_self ..)).all _ (List.getElem_mem hlt)
      · exact i2 r z
theorem okRow.tab {n : Nat} {r : List Rat} (h : okRow n r) : r.length = n ∧ ∀ q ∈ r, 0 ≤ q ∧ Sz 10 q := ⟨h.len, fun q hq => ⟨(h.all q hq).1, (h.all q hq).sz⟩⟩
theorem okBook.taken {ms : List Menu} {c : List Int} (h : okBook ms) (hc : goodChoice ms c) : okTab ms.length (takenL ms c) := by
  obtain ⟨h1, h2⟩ := okTab_taken ms.length hc h.all
  exact ⟨h1, fun r hr => (h2 r hr).tab⟩
theorem z_lawpart_loop {u l : Int} : ∀ (n : Nat) (a b : Int), 0 ≤ a → 0 ≤ b → b.toNat ≤ n → kWhile (yV (xOp zGt (xV 3) (xC (.int 0)))) [] b1__law_part [.dat (.int u), .dat (.int l), .dat (.int a), .dat (.int b), .no] = .nx [.dat (.int u), .dat (.int l), .dat (.int (Int.gcd a b)), .dat (.int 0), .no]
  | n, a, b, ha, hb, hn => by
    by_cases h0 : b = 0
    · subst h0
      rw [kWhile_stop (by simp only [zR0, zR1, zR2, zR3, zR4, zR5, zR6, zR7, slotsM, kFor_a, Rz.bind_ok, Rz.of_some, Rz.calm_ok, Option.bind_some, Option.bind_none, slots, sel, Arg.get, List.filterMap_cons, List.filterMap_nil, List.length_cons, List.length_nil, List.map_cons, List.map_nil, List.cons_append, List.nil_append, List.append_nil, List.getElem?_cons_succ, List.getElem?_cons_zero, List.getElem?_nil, List.set_cons_zero, List.set_cons_succ, List.set_nil, List.replicate_succ, List.replicate_zero, if_true, Nat.sub_self, Nat.reduceAdd, Nat.reduceSub, Nat.reduceLeDiff, Nat.reduceEqDiff, Nat.reduceLT, Int.reduceLT, Int.reduceLE, Int.reduceNeg, Int.reduceEq, Nat.zero_add, and_self, if_false, Bool.not_true, Bool.not_false, Bool.false_eq_true, Nat.zero_le, decide_true, decide_false, reduceCtorEq])]
      rw [Int.gcd_zero_right, Int.natAbs_of_nonneg ha]
    · have hpos : 0 < b := by omega
      have hm := fmod_in (a := a) (b := b) hpos
      cases n with
      | zero => omega
      | succ n =>
        have ih := z_lawpart_loop (u := u) (l := l) n b (a.fmod b) (by omega) hm.1 (by omega)
        rw [gcd_step ha hpos] at ih
        refine kWhile_go (ρ' := [.dat (.int u), .dat (.int l), .dat (.int b), .dat (.int (a.fmod b)), .no]) ?_ ?_ ih nofun
        · simp only [zR0, zR1, zR2, zR3, zR4, zR5, zR6, zR7, slotsM, kFor_a, Rz.bind_ok, Rz.of_some, Rz.calm_ok, Option.bind_some, Option.bind_none, slots, sel, Arg.get, List.filterMap_cons, List.filterMap_nil, List.length_cons, List.length_nil, List.map_cons, List.map_nil, List.cons_append, List.nil_append, List.append_nil, List.getElem?_cons_succ, List.getElem?_cons_zero, List.getElem?_nil, List.set_cons_zero, List.set_cons_succ, List.set_nil, List.replicate_succ, List.replicate_zero, if_true, Nat.sub_self, Nat.reduceAdd, Nat.reduceSub, Nat.reduceLeDiff, Nat.reduceEqDiff, Nat.reduceLT, Int.reduceLT, Int.reduceLE, Int.reduceNeg, Int.reduceEq, Nat.zero_add, and_self, if_false, Bool.not_true, Bool.not_false, Bool.false_eq_true, Nat.zero_le, decide_true, decide_false, reduceCtorEq, decide_eq_true hpos]
        · simp only [zR0, zR1, zR2, zR3, zR4, zR5, zR6, zR7, slotsM, kFor_a, Rz.bind_ok, Rz.of_some, Rz.calm_ok, Option.bind_some, Option.bind_none, slots, sel, Arg.get, List.filterMap_cons, List.filterMap_nil, List.length_cons, List.length_nil, List.map_cons, List.map_nil, List.cons_append, List.nil_append, List.append_nil, List.getElem?_cons_succ, List.getElem?_cons_zero, List.getElem?_nil, List.set_cons_zero, List.set_cons_succ, List.set_nil, List.replicate_succ, List.replicate_zero, if_true, Nat.sub_self, Nat.reduceAdd, Nat.reduceSub, Nat.reduceLeDiff, Nat.reduceEqDiff, Nat.reduceLT, Int.reduceLT, Int.reduceLE, Int.reduceNeg, Int.reduceEq, Nat.zero_add, and_self, if_false, Bool.not_true, Bool.not_false, Bool.false_eq_true, Nat.zero_le, decide_true, decide_false, reduceCtorEq, b1__law_part_a, zMod_i h0]
theorem z__law_part {u l : Int} (hl : l ≠ 0) : d__law_part [.int u, .int l] = .ok (encR (Rat.divInt u l)) := by
  have hn := part_num (u := u) hl
  have hd := part_den (u := u) hl
  have hg := gcd_ne (u := u) hl
  have hc := z_lawpart_loop (u := u) (l := l) _ ((u.natAbs : Nat) : Int) ((l.natAbs : Nat) : Int) (by omega) (by omega) (Nat.le_refl _)
  have eg : ((Int.gcd ((u.natAbs : Nat) : Int) ((l.natAbs : Nat) : Int) : Nat) : Int) = ((Int.gcd u l : Nat) : Int) := by
    congr 1
  rw [eg] at hc
  by_cases neg : l < 0
  · rw [if_pos neg] at hn hd
    have hng : (0 : Int) - ((Int.gcd u l : Nat) : Int) ≠ 0 := by omega
    have e1 : u.fdiv (0 - ((Int.gcd u l : Nat) : Int)) = (Rat.divInt u l).num := by
      rw [← hn, show (0 : Int) - ((Int.gcd u l : Nat) : Int) = -((Int.gcd u l : Nat) : Int) from by omega]
      rw [← Int.neg_fdiv_neg u, Int.neg_neg]
    have e2 : l.fdiv (0 - ((Int.gcd u l : Nat) : Int)) = ((Rat.divInt u l).den : Int) := by
      rw [← hd, show (0 : Int) - ((Int.gcd u l : Nat) : Int) = -((Int.gcd u l : Nat) : Int) from by omega]
      rw [← Int.neg_fdiv_neg l, Int.neg_neg]
    simp only [zR0, zR1, zR2, zR3, zR4, zR5, zR6, zR7, slotsM, kFor_a, Rz.bind_ok, Rz.of_some, Rz.calm_ok, Option.bind_some, Option.bind_none, slots, sel, Arg.get, List.filterMap_cons, List.filterMap_nil, List.length_cons, List.length_nil, List.map_cons, List.map_nil, List.cons_append, List.nil_append, List.append_nil, List.getElem?_cons_succ, List.getElem?_cons_zero, List.getElem?_nil, List.set_cons_zero, List.set_cons_succ, List.set_nil, List.replicate_succ, List.replicate_zero, if_true, Nat.sub_self, Nat.reduceAdd, Nat.reduceSub, Nat.reduceLeDiff, Nat.reduceEqDiff, Nat.reduceLT, Int.reduceLT, Int.reduceLE, Int.reduceNeg, Int.reduceEq, Nat.zero_add, and_self, if_false, Bool.not_true, Bool.not_false, Bool.false_eq_true, Nat.zero_le, decide_true, decide_false, reduceCtorEq, d__law_part, m__law_part, abs_i, hc, decide_eq_false (show ¬ 0 < l from by omega), zFdB_i hng, e1, e2]
    rfl
  · rw [if_neg neg] at hn hd
    simp only [zR0, zR1, zR2, zR3, zR4, zR5, zR6, zR7, slotsM, kFor_a, Rz.bind_ok, Rz.of_some, Rz.calm_ok, Option.bind_some, Option.bind_none, slots, sel, Arg.get, List.filterMap_cons, List.filterMap_nil, List.length_cons, List.length_nil, List.map_cons, List.map_nil, List.cons_append, List.nil_append, List.append_nil, List.getElem?_cons_succ, List.getElem?_cons_zero, List.getElem?_nil, List.set_cons_zero, List.set_cons_succ, List.set_nil, List.replicate_succ, List.replicate_zero, if_true, Nat.sub_self, Nat.reduceAdd, Nat.reduceSub, Nat.reduceLeDiff, Nat.reduceEqDiff, Nat.reduceLT, Int.reduceLT, Int.reduceLE, Int.reduceNeg, Int.reduceEq, Nat.zero_add, and_self, if_false, Bool.not_true, Bool.not_false, Bool.false_eq_true, Nat.zero_le, decide_true, decide_false, reduceCtorEq, d__law_part, m__law_part, abs_i, hc, decide_eq_true (show 0 < l from by omega), zFdB_i hg, hn, hd]
    rfl
theorem z__law_times {a b : Rat} {n m : Nat} (ha : Sz n a) (hb : Sz m b) (l : n + m ≤ 99999998) : d__law_times [encR a, encR b] = .ok (encR (a * b)) := by
  have l' : m + n ≤ 99999998 := by omega
  have hp := z__law_part (u := a.num * b.num) (l := (a.den : Int) * (b.den : Int)) (dens_ne a b)
  simp only [zR0, zR1, zR2, zR3, zR4, zR5, zR6, zR7, slotsM, kFor_a, Rz.bind_ok, Rz.of_some, Rz.calm_ok, Option.bind_some, Option.bind_none, slots, sel, Arg.get, List.filterMap_cons, List.filterMap_nil, List.length_cons, List.length_nil, List.map_cons, List.map_nil, List.cons_append, List.nil_append, List.append_nil, List.getElem?_cons_succ, List.getElem?_cons_zero, List.getElem?_nil, List.set_cons_zero, List.set_cons_succ, List.set_nil, List.replicate_succ, List.replicate_zero, if_true, Nat.sub_self, Nat.reduceAdd, Nat.reduceSub, Nat.reduceLeDiff, Nat.reduceEqDiff, Nat.reduceLT, Int.reduceLT, Int.reduceLE, Int.reduceNeg, Int.reduceEq, Nat.zero_add, and_self, if_false, Bool.not_true, Bool.not_false, Bool.false_eq_true, Nat.zero_le, decide_true, decide_false, reduceCtorEq, d__law_times, m__law_times, zMulV_b ha.num hb.num l, zMulV_b ha.num hb.den l, zMulV_b ha.den hb.den l, zMulV_b ha.den hb.num l, zMulV_b hb.num ha.den l', hp]
  rw [mul_divInt]
theorem z__law_plus {a b : Rat} {n m : Nat} (ha : Sz n a) (hb : Sz m b) (l : n + m ≤ 99999998) : d__law_plus [encR a, encR b] = .ok (encR (a + b)) := by
  have l' : m + n ≤ 99999998 := by omega
  have hp := z__law_part (u := a.num * (b.den : Int) + b.num * (a.den : Int)) (l := (a.den : Int) * (b.den : Int)) (dens_ne a b)
  simp only [zR0, zR1, zR2, zR3, zR4, zR5, zR6, zR7, slotsM, kFor_a, Rz.bind_ok, Rz.of_some, Rz.calm_ok, Option.bind_some, Option.bind_none, slots, sel, Arg.get, List.filterMap_cons, List.filterMap_nil, List.length_cons, List.length_nil, List.map_cons, List.map_nil, List.cons_append, List.nil_append, List.append_nil, List.getElem?_cons_succ, List.getElem?_cons_zero, List.getElem?_nil, List.set_cons_zero, List.set_cons_succ, List.set_nil, List.replicate_succ, List.replicate_zero, if_true, Nat.sub_self, Nat.reduceAdd, Nat.reduceSub, Nat.reduceLeDiff, Nat.reduceEqDiff, Nat.reduceLT, Int.reduceLT, Int.reduceLE, Int.reduceNeg, Int.reduceEq, Nat.zero_add, and_self, if_false, Bool.not_true, Bool.not_false, Bool.false_eq_true, Nat.zero_le, decide_true, decide_false, reduceCtorEq, d__law_plus, m__law_plus, zMulV_b ha.num hb.num l, zMulV_b ha.num hb.den l, zMulV_b ha.den hb.den l, zMulV_b ha.den hb.num l, zMulV_b hb.num ha.den l', hp]
  rw [add_divInt]
theorem z_lawsum_loop {n m : Nat} {dr df : PyData} : ∀ (row fill : List Rat) (x : Rat) (k : Nat), (∀ q ∈ row, Sz n q) → (∀ q ∈ fill, Sz m q) → Sz (1 + k * (n + m + 1)) x → (k + row.length + 1) * (n + m + 1) ≤ 90000000 →
    forL (gT 2 (gsC (gN 3) (gsC (gN 4) gs0))) [3, 4] b1__law_sum (zipD (row.map encR) (fill.map encR)) [.dat dr, .dat df, .dat (encR x), .no, .no] = .nx [.dat dr, .dat df, .dat (encR (x + dotQ row fill)), .no, .no]
  | [], fill, x, k, _, _, _, _ => by rw [show x + dotQ [] fill = x from Rat.add_zero x]; rfl
  | a :: row, [], x, k, _, _, _, _ => by rw [show x + dotQ (a :: row) [] = x from Rat.add_zero x]; rfl
  | a :: row, b :: fill, x, k, h1, h2, hx, hb => by
    have sa := h1 a (List.mem_cons_self ..)
    have sb := h2 b (List.mem_cons_self ..)
    have sab := sz_mul sa sb
    have e1 : (k + (row.length + 1) + 1) * (n + m + 1) = k * (n + m + 1) + (row.length + 2) * (n + m + 1) := by rw [← Nat.add_mul]; congr 1
    have e2 : 2 * (n + m + 1) ≤ (row.length + 2) * (n + m + 1) := Nat.mul_le_mul_right _ (by omega)
    rw [List.length_cons, e1] at hb
    have e3 : (k + 1) * (n + m + 1) = k * (n + m + 1) + (n + m + 1) := by rw [Nat.succ_mul]
    have hx2 : Sz (1 + (k + 1) * (n + m + 1)) (x + a * b) := (sz_add hx sab).mono (by omega)
    have ht := z__law_times sa sb (by omega)
    have hp := z__law_plus hx sab (by omega)
    rw [List.map_cons, List.map_cons, zipD_cons, forL_cons]
    have ih := z_lawsum_loop (dr := dr) (df := df) row fill (x + a * b) (k + 1) (fun q hq => h1 q (List.mem_cons_of_mem _ hq)) (fun q hq => h2 q (List.mem_cons_of_mem _ hq)) hx2 (by rw [← e1] at hb; exact Nat.le_trans (Nat.le_of_eq (by congr 1; omega)) hb)
    have fin : x + dotQ (a :: row) (b :: fill) = x + a * b + dotQ row fill := by
      show x + (a * b + dotQ row fill) = _
      grind
    rw [fin]
    simp only [zR0, zR1, zR2, zR3, zR4, zR5, zR6, zR7, slotsM, kFor_a, Rz.bind_ok, Rz.of_some, Rz.calm_ok, Option.bind_some, Option.bind_none, slots, sel, Arg.get, List.filterMap_cons, List.filterMap_nil, List.length_cons, List.length_nil, List.map_cons, List.map_nil, List.cons_append, List.nil_append, List.append_nil, List.getElem?_cons_succ, List.getElem?_cons_zero, List.getElem?_nil, List.set_cons_zero, List.set_cons_succ, List.set_nil, List.replicate_succ, List.replicate_zero, if_true, Nat.sub_self, Nat.reduceAdd, Nat.reduceSub, Nat.reduceLeDiff, Nat.reduceEqDiff, Nat.reduceLT, Int.reduceLT, Int.reduceLE, Int.reduceNeg, Int.reduceEq, Nat.zero_add, and_self, if_false, Bool.not_true, Bool.not_false, Bool.false_eq_true, Nat.zero_le, decide_true, decide_false, reduceCtorEq, b1__law_sum_a, ht, hp, ih]
theorem encR_zero : PyData.tuple [.int 0, .int 1] = encR 0 := nr rfl
theorem z__law_sum {row fill : List Rat} {n m : Nat} {dr df : PyData} (hr : seqOf dr = some (row.map encR)) (hf : seqOf df = some (fill.map encR)) (hn : ∀ q ∈ row, Sz n q) (hm : ∀ q ∈ fill, Sz m q) (hb : (row.length + 1) * (n + m + 1) ≤ 90000000) :
    d__law_sum [dr, df] = .ok (encR (dotQ row fill)) := by
  have h := z_lawsum_loop (dr := dr) (df := df) row fill 0 0 hn hm (by rw [Nat.zero_mul]; exact zero_sz) (by rw [Nat.zero_add]; exact hb)
  rw [Rat.zero_add] at h
  simp only [zR0, zR1, zR2, zR3, zR4, zR5, zR6, zR7, slotsM, kFor_a, Rz.bind_ok, Rz.of_some, Rz.calm_ok, Option.bind_some, Option.bind_none, slots, sel, Arg.get, List.filterMap_cons, List.filterMap_nil, List.length_cons, List.length_nil, List.map_cons, List.map_nil, List.cons_append, List.nil_append, List.append_nil, List.getElem?_cons_succ, List.getElem?_cons_zero, List.getElem?_nil, List.set_cons_zero, List.set_cons_succ, List.set_nil, List.replicate_succ, List.replicate_zero, if_true, Nat.sub_self, Nat.reduceAdd, Nat.reduceSub, Nat.reduceLeDiff, Nat.reduceEqDiff, Nat.reduceLT, Int.reduceLT, Int.reduceLE, Int.reduceNeg, Int.reduceEq, Nat.zero_add, and_self, if_false, Bool.not_true, Bool.not_false, Bool.false_eq_true, Nat.zero_le, decide_true, decide_false, reduceCtorEq, d__law_sum, m__law_sum, zipO_f hr hf, encR_zero, h]
theorem z_lsum_row {r fill : List Rat} {n : Nat} {df : PyData} (hn : n ≤ 5) (hr : r.length = n ∧ ∀ q ∈ r, 0 ≤ q ∧ Sz 10 q) (hf : okFill n fill) (hs : seqOf df = some (fill.map encR)) : d__law_sum [encRow r, df] = .ok (encR (dotQ r fill)) :=
  z__law_sum (n := 10) (m := 30000) rfl hs (fun q hq => (hr.2 q hq).2) (fun q hq => (hf.all q hq).2) (by rw [hr.1]; have : (n + 1) * 30011 ≤ 6 * 30011 := Nat.mul_le_mul_right _ (by omega); omega)
theorem atI_small {xs : List PyData} {i : Int} (h0 : 0 ≤ i) (h : i < xs.length) : ∃ d ∈ xs, atI xs i = some d := by
  obtain ⟨hi, e⟩ := atI_int h0 h
  exact ⟨_, List.getElem_mem hi, e⟩
theorem pick_int {ns : List Int} {i : Int} {P : Int → Prop} (h0 : 0 ≤ i) (h : i < ns.length) (hp : ∀ n ∈ ns, P n) : ∃ n, P n ∧ atI (ns.map PyData.int) i = some (.int n) := by
  obtain ⟨d, hd, e⟩ := atI_small (xs := ns.map PyData.int) h0 (by rw [List.length_map]; exact h)
  obtain ⟨n, hn, rfl⟩ := List.mem_map.mp hd
  exact ⟨n, hp n hn, e⟩
theorem divInt_mul {u l : Int} (hl : l ≠ 0) : Rat.divInt u l * (l : Rat) = (u : Rat) := by
  rw [Rat.divInt_eq_div, Rat.div_mul_cancel (by exact_mod_cast hl)]
theorem cut_map {xs : List Int} {i j : Int} (h0 : 0 ≤ i) (h1 : i ≤ j) (h : j ≤ xs.length) : ∃ ys : List Int, ys.length = (j - i).toNat ∧ (∀ y ∈ ys, y ∈ xs) ∧ cutD (xs.map .int) (some i) (some j) = ys.map .int := by
  refine ⟨_, ?_, ?_, cut_betweenI xs h0 h1 h⟩
  · rw [List.length_take, List.length_drop]; omega
  · intro y hy; exact List.mem_of_mem_drop (List.mem_of_mem_take hy)
theorem mem_app1 {α : Type} {P : α → Prop} {xs : List α} {y : α} (h : ∀ x ∈ xs, P x) (hy : P y) : ∀ x ∈ xs ++ [y], P x := fun x hx => by
  rcases List.mem_append.mp hx with z | z
  · exact h x z
  · rw [List.mem_singleton.mp z]; exact hy
theorem encR_div (u l : Int) (hl : l ≠ 0) (h : Int.gcd u l = 1) (hp : 0 < l) : encR (Rat.divInt u l) = .tuple [.int u, .int l] := by
  have hn := part_num (u := u) hl
  have hd := part_den (u := u) hl
  rw [if_neg (by omega), h] at hn hd
  unfold encR
  rw [← hn, ← hd]
  simp
theorem zip_mem2 {α β : Type} {P : α → Prop} {Q : β → Prop} {xs : List α} {ys : List β} (h1 : ∀ x ∈ xs, P x) (h2 : ∀ y ∈ ys, Q y) : ∀ p ∈ xs.zip ys, P p.1 ∧ Q p.2 := fun p hp => ⟨h1 _ (List.of_mem_zip hp).1, h2 _ (List.of_mem_zip hp).2⟩
theorem okS_divInt {u l : Int} (h0 : 0 ≤ u) (hu : u ≤ 999) (hl : 0 < l) (hl2 : l ≤ 20) : okS (Rat.divInt u l) := by
  have hd : (Rat.divInt u l).den ≤ l.toNat := by
    have := part_den (u := u) (l := l) (by omega)
    rw [if_neg (by omega)] at this
    have hg := gcd_ne (u := u) (l := l) (by omega)
    have hgp : (0 : Int) < ((Int.gcd u l : Nat) : Int) := by omega
    rw [Int.fdiv_eq_ediv_of_nonneg _ (by omega)] at this
    have h2 := Int.ediv_le_self (a := l) ((Int.gcd u l : Nat) : Int) (by omega)
    omega
  have hn : (Rat.divInt u l).num ≤ u := by
    have := part_num (u := u) (l := l) (by omega)
    rw [if_neg (by omega)] at this
    rw [Int.fdiv_eq_ediv_of_nonneg _ (by omega)] at this
    have h2 := Int.ediv_le_self (a := u) ((Int.gcd u l : Nat) : Int) h0
    omega
  refine ⟨?_, by omega, by omega⟩
  rw [← Rat.num_nonneg]
  have := part_num (u := u) (l := l) (by omega)
  rw [if_neg (by omega)] at this
  rw [← this, Int.fdiv_eq_ediv_of_nonneg _ (by omega)]
  exact Int.ediv_nonneg h0 (by omega)
def dr5 (l : Int) : Prop := l = 1 ∨ l = 2 ∨ l = 3 ∨ l = 4 ∨ l = 6
theorem z__law_shareD (x : Int) : ∃ u l : Int, 0 ≤ u ∧ u ≤ 5 ∧ dr5 l ∧ d__law_share [.int x] = .ok (encR (Rat.divInt u l)) := by
  have k1 := fmod_in (a := x) (b := 8) (by decide)
  have k2 := fmod_in (a := x.fdiv 8) (b := 5) (by decide)
  obtain ⟨u, hu, eu⟩ := pick_int (ns := [0, 0, 1, 1, 1, 2, 3, 5]) (P := fun n => 0 ≤ n ∧ n ≤ 5) k1.1 (by simpa using k1.2) (by decide)
  obtain ⟨l, hl, el⟩ := pick_int (ns := [1, 2, 3, 4, 6]) (P := dr5) k2.1 (by simpa using k2.2) (by unfold dr5; decide)
  simp only [List.map_cons, List.map_nil] at eu el
  have hp := z__law_part (u := u) (l := l) (by unfold dr5 at hl; omega)
  refine ⟨u, l, hu.1, hu.2, hl, ?_⟩
  simp only [zR0, zR1, zR2, zR3, zR4, zR5, zR6, zR7, slotsM, kFor_a, Rz.bind_ok, Rz.of_some, Rz.calm_ok, Option.bind_some, Option.bind_none, slots, sel, Arg.get, List.filterMap_cons, List.filterMap_nil, List.length_cons, List.length_nil, List.map_cons, List.map_nil, List.cons_append, List.nil_append, List.append_nil, List.getElem?_cons_succ, List.getElem?_cons_zero, List.getElem?_nil, List.set_cons_zero, List.set_cons_succ, List.set_nil, List.replicate_succ, List.replicate_zero, if_true, Nat.sub_self, Nat.reduceAdd, Nat.reduceSub, Nat.reduceLeDiff, Nat.reduceEqDiff, Nat.reduceLT, Int.reduceLT, Int.reduceLE, Int.reduceNeg, Int.reduceEq, Nat.zero_add, and_self, if_false, Bool.not_true, Bool.not_false, Bool.false_eq_true, Nat.zero_le, decide_true, decide_false, reduceCtorEq, d__law_share, m__law_share, zMod_i (show (8 : Int) ≠ 0 by decide), zMod_i (show (5 : Int) ≠ 0 by decide), zFd_i (show (0 : Int) < 8 by decide) (by decide), eu, el, hp]
theorem z__law_share (x : Int) : ∃ u l : Int, 0 ≤ u ∧ u ≤ 5 ∧ 1 ≤ l ∧ l ≤ 6 ∧ d__law_share [.int x] = .ok (encR (Rat.divInt u l)) := by
  obtain ⟨u, l, h1, h2, h3, h4⟩ := z__law_shareD x
  exact ⟨u, l, h1, h2, by unfold dr5 at h3; omega, by unfold dr5 at h3; omega, h4⟩
theorem z__law_filling {d : List Int} {many : Nat} (hl : many ≤ d.length) (hm : many ≤ 1000) : ∃ qs : List Rat, qs.length = many ∧ (∀ q ∈ qs, ∃ u l : Int, 0 ≤ u ∧ u ≤ 40 ∧ (l = 1 ∨ l = 2 ∨ l = 3 ∨ l = 12) ∧ q = Rat.divInt u l) ∧ d__law_filling [.list (d.map .int), .int (many : Int)] = .ok (.list (qs.map encR)) := by
  obtain ⟨ρ', h1, qs, h2, h3, h4⟩ := forL_ex (g := gN 3) (wp := [3]) (b := b1__law_filling) (enc := natD) (F := fun k ρ => ρ.set 3 (.dat (natD k)))
    (fun i ρ => ∃ qs : List Rat, qs.length = i ∧ (∀ q ∈ qs, ∃ u l : Int, 0 ≤ u ∧ u ≤ 40 ∧ (l = 1 ∨ l = 2 ∨ l = 3 ∨ l = 12) ∧ q = Rat.divInt u l) ∧ ρ = [.dat (.list (d.map .int)), .dat (.int (many : Int)), .own (.lst (qs.map encR)), .no]) (List.range many) 0
    [.dat (.list (d.map .int)), .dat (.int (many : Int)), .own (.lst []), .no] (fun k _ => rfl) ⟨[], rfl, (fun q hq => by cases hq), rfl⟩ (fun i k ρ hi hp => by
      obtain ⟨qs, q1, q2, rfl⟩ := hp
      rw [Nat.zero_add] at q1
      have hk := List.getElem?_eq_some_iff.mp hi
      obtain ⟨hk1, hk2⟩ := hk
      rw [List.getElem_range] at hk2
      rw [List.length_range] at hk1
      subst hk2
      have hx := at_nthI (xs := d) (i := (i : Int)) (by omega) (by omega)
      have k1 := fmod_in (a := nthI d i) (b := 7) (by decide)
      have k2 := fmod_in (a := (nthI d i).fdiv 7) (b := 5) (by decide)
      obtain ⟨u, hu, eu⟩ := pick_int (ns := [0, 0, 1, 2, 5, 9, 40]) (P := fun n => 0 ≤ n ∧ n ≤ 40) k1.1 (by simpa using k1.2) (by decide)
      obtain ⟨l, hl, el⟩ := pick_int (ns := [1, 1, 2, 3, 12]) (P := fun l => l = 1 ∨ l = 2 ∨ l = 3 ∨ l = 12) k2.1 (by simpa using k2.2) (by decide)
      simp only [List.map_cons, List.map_nil] at eu el
      have hp := z__law_part (u := u) (l := l) (by rcases hl with h | h | h | h <;> rw [h] <;> decide)
      have hlen : (qs.map encR).length < 1000000 := by rw [List.length_map]; omega
      refine ⟨[.dat (.list (d.map .int)), .dat (.int (many : Int)), .own (.lst (qs.map encR ++ [encR (Rat.divInt u l)])), .dat (natD i)], ?_, qs ++ [Rat.divInt u l], by simp [q1], ?_, ?_⟩
      · simp only [zR0, zR1, zR2, zR3, zR4, zR5, zR6, zR7, slotsM, kFor_a, Rz.bind_ok, Rz.of_some, Rz.calm_ok, Option.bind_some, Option.bind_none, slots, sel, Arg.get, List.filterMap_cons, List.filterMap_nil, List.length_cons, List.length_nil, List.map_cons, List.map_nil, List.cons_append, List.nil_append, List.append_nil, List.getElem?_cons_succ, List.getElem?_cons_zero, List.getElem?_nil, List.set_cons_zero, List.set_cons_succ, List.set_nil, List.replicate_succ, List.replicate_zero, if_true, Nat.sub_self, Nat.reduceAdd, Nat.reduceSub, Nat.reduceLeDiff, Nat.reduceEqDiff, Nat.reduceLT, Int.reduceLT, Int.reduceLE, Int.reduceNeg, Int.reduceEq, Nat.zero_add, and_self, if_false, Bool.not_true, Bool.not_false, Bool.false_eq_true, Nat.zero_le, decide_true, decide_false, reduceCtorEq, b1__law_filling_a, natD, hx, zMod_i (show (7 : Int) ≠ 0 by decide), zMod_i (show (5 : Int) ≠ 0 by decide), zFd_i (show (0 : Int) < 7 by decide) (by decide), eu, el, hp, if_pos hlen]
      · intro q hq
        rcases List.mem_append.mp hq with z | z
        · exact q2 q z
        · rw [List.mem_singleton.mp z]; exact ⟨u, l, hu.1, hu.2, hl, rfl⟩
      · rw [List.map_append]; rfl)
  subst h4
  rw [Nat.zero_add, List.length_range] at h2
  refine ⟨qs, h2, h3, ?_⟩
  have hr : rng1 [.int (many : Int)] = some ((List.range many).map natD) := by rw [rng1_n (by omega), rgD_map]; rfl
  simp only [zR0, zR1, zR2, zR3, zR4, zR5, zR6, zR7, slotsM, kFor_a, Rz.bind_ok, Rz.of_some, Rz.calm_ok, Option.bind_some, Option.bind_none, slots, sel, Arg.get, List.filterMap_cons, List.filterMap_nil, List.length_cons, List.length_nil, List.map_cons, List.map_nil, List.cons_append, List.nil_append, List.append_nil, List.getElem?_cons_succ, List.getElem?_cons_zero, List.getElem?_nil, List.set_cons_zero, List.set_cons_succ, List.set_nil, List.replicate_succ, List.replicate_zero, if_true, Nat.sub_self, Nat.reduceAdd, Nat.reduceSub, Nat.reduceLeDiff, Nat.reduceEqDiff, Nat.reduceLT, Int.reduceLT, Int.reduceLE, Int.reduceNeg, Int.reduceEq, Nat.zero_add, and_self, if_false, Bool.not_true, Bool.not_false, Bool.false_eq_true, Nat.zero_le, decide_true, decide_false, reduceCtorEq, d__law_filling, m__law_filling, hr, h1]
def okT (q : Rat) : Prop := ∃ u l : Int, 0 ≤ u ∧ u ≤ 5 ∧ dr5 l ∧ q = Rat.divInt u l
def drS (q : Rat) : Prop := ∃ u l : Int, 0 ≤ u ∧ u ≤ 5 ∧ 1 ≤ l ∧ l ≤ 18 ∧ (l % 2 = 1 → l ≤ 9) ∧ q = Rat.divInt u l
theorem drS.s {q : Rat} (h : drS q) : okS q := by
  obtain ⟨u, l, h1, h2, h3, h4, _, rfl⟩ := h
  exact okS_divInt h1 (by omega) (by omega) (by omega)
def drRow (n : Nat) (r : List Rat) : Prop := r.length = n ∧ ∀ q ∈ r, drS q
def drMenu (n : Nat) (m : Menu) : Prop := okMenu n m ∧ ∀ r ∈ m.2, drRow n r
def okB (q : Rat) : Prop := ∃ u l : Int, 0 ≤ u ∧ u ≤ 1 ∧ 1 ≤ l ∧ l ≤ 3 ∧ q = Rat.divInt u l
theorem okT.d {q : Rat} (h : okT q) : drS q := by
  obtain ⟨u, l, h1, h2, h3, rfl⟩ := h
  unfold dr5 at h3
  exact ⟨u, l, h1, h2, by omega, by omega, by omega, rfl⟩
theorem okT.s {q : Rat} (h : okT q) : okS q := h.d.s
theorem okB.s {q : Rat} (h : okB q) : okS q := by
  obtain ⟨u, l, h1, h2, h3, h4, rfl⟩ := h
  exact okS_divInt h1 (by omega) (by omega) (by omega)
theorem okTB {a b : Rat} (ha : okT a) (hb : okB b) : drS (a * b) := by
  obtain ⟨u, l, h1, h2, h3, rfl⟩ := ha
  obtain ⟨v, k, g1, g2, g3, g4, rfl⟩ := hb
  rw [Rat.divInt_mul_divInt]
  have hk : k = 1 ∨ k = 2 ∨ k = 3 := by omega
  have hv : v = 0 ∨ v = 1 := by omega
  unfold dr5 at h3
  refine ⟨u * v, l * k, ?_, ?_, ?_, ?_, ?_, rfl⟩
  · rcases hv with z | z <;> rw [z] <;> omega
  · rcases hv with z | z <;> rw [z] <;> omega
  · rcases hk with z | z | z <;> rw [z] <;> omega
  · rcases hk with z | z | z <;> rw [z] <;> omega
  · rcases hk with z | z | z <;> rw [z] <;> omega
theorem z_menus_row {own : List Int} {ds du dk : PyData} {s4 : Slot} {n r : Nat} {thin : Int} {rows : List (List Rat)} (hn : n ≤ 5) (ho : own.length = 20) (hr : r < 3) (hrl : rows.length ≤ 3) : ∃ row ρ', drRow n row ∧
    b1__law_menus [.dat ds, .dat du, .dat (.int (n : Int)), .dat (.int thin), s4, .dat dk, .dat (.list (own.map .int)), .own (.lst (rows.map encRow)), .dat (.int (r : Int)), .no, .no, .no, .no, .no] = .nx ρ' ∧
    wipeS ρ' [8, 9, 10] = [.dat ds, .dat du, .dat (.int (n : Int)), .dat (.int thin), s4, .dat dk, .dat (.list (own.map .int)), .own (.lst ((rows ++ [row]).map encRow)), .no, .no, .no, .no, .no, .no] := by
  obtain ⟨ys, y1, y2, y3⟩ := cut_map (xs := own) (i := 2 + 5 * (r : Int)) (j := 2 + 5 * (r : Int) + (n : Int)) (by omega) (by omega) (by omega)
  have y1 : ys.length = n := by omega
  obtain ⟨qs, a1, a2, a3⟩ := lcL_ex (g := gN 11) (mt := yYes) (me := xFc d__law_share (zCons (xV 11) zNil)) (ρ := [.dat ds, .dat du, .dat (.int (n : Int)), .dat (.int thin), s4, .dat dk, .dat (.list (own.map .int)), .own (.lst (rows.map encRow)), .dat (.int (r : Int)), .no, .no, .no, .no, .no]) (enc := PyData.int) (F := fun x ρ => ρ.set 11 (.dat (.int x))) (dec := encR) okT ys (fun x _ => rfl) (fun x _ => rfl) (fun x _ => by
    obtain ⟨u, l, h1, h2, h3, h5⟩ := z__law_shareD x
    exact ⟨_, ⟨u, l, h1, h2, h3, rfl⟩, by simp only [zR0, zR1, zR2, zR3, zR4, zR5, zR6, zR7, slotsM, kFor_a, Rz.bind_ok, Rz.of_some, Rz.calm_ok, Option.bind_some, Option.bind_none, slots, sel, Arg.get, List.filterMap_cons, List.filterMap_nil, List.length_cons, List.length_nil, List.map_cons, List.map_nil, List.cons_append, List.nil_append, List.append_nil, List.getElem?_cons_succ, List.getElem?_cons_zero, List.getElem?_nil, List.set_cons_zero, List.set_cons_succ, List.set_nil, List.replicate_succ, List.replicate_zero, if_true, Nat.sub_self, Nat.reduceAdd, Nat.reduceSub, Nat.reduceLeDiff, Nat.reduceEqDiff, Nat.reduceLT, Int.reduceLT, Int.reduceLE, Int.reduceNeg, Int.reduceEq, Nat.zero_add, and_self, if_false, Bool.not_true, Bool.not_false, Bool.false_eq_true, Nat.zero_le, decide_true, decide_false, reduceCtorEq, h5]⟩)
  have hrn : rng1 [.int (n : Int)] = some ((List.range n).map natD) := by rw [rng1_n (by omega), rgD_map]; rfl
  have i1 := at_nthI (xs := own) (i := 1) (by decide) (by omega)
  obtain ⟨bs, b1, b2, b3⟩ := lcL_ex (g := gN 12) (mt := yYes) (me := xOp zIx (xL (fLst (zCons (xTup (zCons (xC (.int 1)) (zCons (xC (.int 2)) zNil))) (zCons (xTup (zCons (xC (.int 1)) (zCons (xC (.int 3)) zNil))) (zCons (xTup (zCons (xC (.int 0)) (zCons (xC (.int 1)) zNil))) zNil))))) (xOp zMod (xOp zAddV (xOp zFd (xOp zIx (xV 6) (xC (.int 1))) (xC (.int 3))) (xV 12)) (xC (.int 3))))
    (ρ := [.dat ds, .dat du, .dat (.int (n : Int)), .dat (.int thin), s4, .dat dk, .dat (.list (own.map .int)), .own (.lst (rows.map encRow)), .dat (.int (r : Int)), .dat (.list (qs.map encR)), .no, .no, .no, .no]) (enc := natD) (F := fun k ρ => ρ.set 12 (.dat (natD k))) (dec := encR) okB (List.range n) (fun x _ => rfl) (fun x _ => rfl) (fun k _ => by
      have k3 := fmod_in (a := (nthI own 1).fdiv 3 + (k : Int)) (b := 3) (by decide)
      have hat : ∃ q, okB q ∧ atI [PyData.tuple [.int 1, .int 2], .tuple [.int 1, .int 3], .tuple [.int 0, .int 1]] (((nthI own 1).fdiv 3 + (k : Int)).fmod 3) = some (encR q) := by
        generalize ((nthI own 1).fdiv 3 + (k : Int)).fmod 3 = z at k3
        have hz : z = 0 ∨ z = 1 ∨ z = 2 := by omega
        rcases hz with rfl | rfl | rfl
        · exact ⟨Rat.divInt 1 2, ⟨1, 2, by decide, by decide, by decide, by decide, rfl⟩, by rw [encR_div 1 2 (by decide) (by decide) (by decide)]; rfl⟩
        · exact ⟨Rat.divInt 1 3, ⟨1, 3, by decide, by decide, by decide, by decide, rfl⟩, by rw [encR_div 1 3 (by decide) (by decide) (by decide)]; rfl⟩
        · exact ⟨Rat.divInt 0 1, ⟨0, 1, by decide, by decide, by decide, by decide, rfl⟩, by rw [encR_div 0 1 (by decide) (by decide) (by decide)]; rfl⟩
      obtain ⟨q, q1, q2⟩ := hat
      exact ⟨q, q1, by simp only [zR0, zR1, zR2, zR3, zR4, zR5, zR6, zR7, slotsM, kFor_a, Rz.bind_ok, Rz.of_some, Rz.calm_ok, Option.bind_some, Option.bind_none, slots, sel, Arg.get, List.filterMap_cons, List.filterMap_nil, List.length_cons, List.length_nil, List.map_cons, List.map_nil, List.cons_append, List.nil_append, List.append_nil, List.getElem?_cons_succ, List.getElem?_cons_zero, List.getElem?_nil, List.set_cons_zero, List.set_cons_succ, List.set_nil, List.replicate_succ, List.replicate_zero, if_true, Nat.sub_self, Nat.reduceAdd, Nat.reduceSub, Nat.reduceLeDiff, Nat.reduceEqDiff, Nat.reduceLT, Int.reduceLT, Int.reduceLE, Int.reduceNeg, Int.reduceEq, Nat.zero_add, and_self, if_false, Bool.not_true, Bool.not_false, Bool.false_eq_true, Nat.zero_le, decide_true, decide_false, reduceCtorEq, natD, i1, zMod_i (show (3 : Int) ≠ 0 by decide), zFd_i (show (0 : Int) < 3 by decide) (by decide), q2]⟩)
  have l1 : (ys.map PyData.int).length ≤ 1000000 := by rw [List.length_map]; omega
  have l2 : ((List.range n).map natD).length ≤ 1000000 := by rw [List.length_map, List.length_range]; omega
  have lr : (rows.map encRow).length < 1000000 := by rw [List.length_map]; omega
  have m5 : zMulV (.int 5) (.int (r : Int)) = some (.int (5 * (r : Int))) := zMulV_l (by decide)
  rw [List.length_range] at b1
  have st1 : (kAsg (xL (fLc [11] (iS (xSl zSlV (xV 6) (oAt (xOp zAddV (xC (.int 2)) (xOp zMulV (xC (.int 5)) (xV 8)))) (oAt (xOp zAddV (xOp zAddV (xC (.int 2)) (xOp zMulV (xC (.int 5)) (xV 8))) (xV 2))))) (gN 11) yYes (xFc d__law_share (zCons (xV 11) zNil)))) 9) [.dat ds, .dat du, .dat (.int (n : Int)), .dat (.int thin), s4, .dat dk, .dat (.list (own.map .int)), .own (.lst (rows.map encRow)), .dat (.int (r : Int)), .no, .no, .no, .no, .no] = .nx [.dat ds, .dat du, .dat (.int (n : Int)), .dat (.int thin), s4, .dat dk, .dat (.list (own.map .int)), .own (.lst (rows.map encRow)), .dat (.int (r : Int)), .dat (.list (qs.map encR)), .no, .no, .no, .no] := by
    simp only [zR0, zR1, zR2, zR3, zR4, zR5, zR6, zR7, slotsM, kFor_a, Rz.bind_ok, Rz.of_some, Rz.calm_ok, Option.bind_some, Option.bind_none, slots, sel, Arg.get, List.filterMap_cons, List.filterMap_nil, List.length_cons, List.length_nil, List.map_cons, List.map_nil, List.cons_append, List.nil_append, List.append_nil, List.getElem?_cons_succ, List.getElem?_cons_zero, List.getElem?_nil, List.set_cons_zero, List.set_cons_succ, List.set_nil, List.replicate_succ, List.replicate_zero, if_true, Nat.sub_self, Nat.reduceAdd, Nat.reduceSub, Nat.reduceLeDiff, Nat.reduceEqDiff, Nat.reduceLT, Int.reduceLT, Int.reduceLE, Int.reduceNeg, Int.reduceEq, Nat.zero_add, and_self, if_false, Bool.not_true, Bool.not_false, Bool.false_eq_true, Nat.zero_le, decide_true, decide_false, reduceCtorEq, m5, y3, if_pos l1, a3]
  have st2 : (kAsg (xL (fLc [12] (iA rng1 (zCons (xV 2) zNil)) (gN 12) yYes (xOp zIx (xL (fLst (zCons (xTup (zCons (xC (.int 1)) (zCons (xC (.int 2)) zNil))) (zCons (xTup (zCons (xC (.int 1)) (zCons (xC (.int 3)) zNil))) (zCons (xTup (zCons (xC (.int 0)) (zCons (xC (.int 1)) zNil))) zNil))))) (xOp zMod (xOp zAddV (xOp zFd (xOp zIx (xV 6) (xC (.int 1))) (xC (.int 3))) (xV 12)) (xC (.int 3)))))) 10) [.dat ds, .dat du, .dat (.int (n : Int)), .dat (.int thin), s4, .dat dk, .dat (.list (own.map .int)), .own (.lst (rows.map encRow)), .dat (.int (r : Int)), .dat (.list (qs.map encR)), .no, .no, .no, .no] = .nx [.dat ds, .dat du, .dat (.int (n : Int)), .dat (.int thin), s4, .dat dk, .dat (.list (own.map .int)), .own (.lst (rows.map encRow)), .dat (.int (r : Int)), .dat (.list (qs.map encR)), .dat (.list (bs.map encR)), .no, .no, .no] := by
    simp only [zR0, zR1, zR2, zR3, zR4, zR5, zR6, zR7, slotsM, kFor_a, Rz.bind_ok, Rz.of_some, Rz.calm_ok, Option.bind_some, Option.bind_none, slots, sel, Arg.get, List.filterMap_cons, List.filterMap_nil, List.length_cons, List.length_nil, List.map_cons, List.map_nil, List.cons_append, List.nil_append, List.append_nil, List.getElem?_cons_succ, List.getElem?_cons_zero, List.getElem?_nil, List.set_cons_zero, List.set_cons_succ, List.set_nil, List.replicate_succ, List.replicate_zero, if_true, Nat.sub_self, Nat.reduceAdd, Nat.reduceSub, Nat.reduceLeDiff, Nat.reduceEqDiff, Nat.reduceLT, Int.reduceLT, Int.reduceLE, Int.reduceNeg, Int.reduceEq, Nat.zero_add, and_self, if_false, Bool.not_true, Bool.not_false, Bool.false_eq_true, Nat.zero_le, decide_true, decide_false, reduceCtorEq, hrn, if_pos l2, b3]
  by_cases ht : thin = 1
  · obtain ⟨ps, c1, c2, c3⟩ := lcL_ex (g := gT 2 (gsC (gN 11) (gsC (gN 13) gs0))) (mt := yYes) (me := xFc d__law_times (zCons (xV 11) (zCons (xV 13) zNil))) (ρ := [.dat ds, .dat du, .dat (.int (n : Int)), .dat (.int thin), s4, .dat dk, .dat (.list (own.map .int)), .own (.lst (rows.map encRow)), .dat (.int (r : Int)), .dat (.list (qs.map encR)), .dat (.list (bs.map encR)), .no, .no, .no])
      (enc := fun p : Rat × Rat => PyData.tuple [encR p.1, encR p.2]) (F := fun p ρ => (ρ.set 11 (.dat (encR p.1))).set 13 (.dat (encR p.2))) (dec := encR) drS (qs.zip bs) (fun x _ => rfl) (fun x _ => rfl) (fun p hp => by
        have hpq := zip_mem2 a2 b2 p hp
        have := z__law_times (hpq.1.s.sz) (hpq.2.s.sz) (by omega)
        exact ⟨_, okTB hpq.1 hpq.2, by simp only [zR0, zR1, zR2, zR3, zR4, zR5, zR6, zR7, slotsM, kFor_a, Rz.bind_ok, Rz.of_some, Rz.calm_ok, Option.bind_some, Option.bind_none, slots, sel, Arg.get, List.filterMap_cons, List.filterMap_nil, List.length_cons, List.length_nil, List.map_cons, List.map_nil, List.cons_append, List.nil_append, List.append_nil, List.getElem?_cons_succ, List.getElem?_cons_zero, List.getElem?_nil, List.set_cons_zero, List.set_cons_succ, List.set_nil, List.replicate_succ, List.replicate_zero, if_true, Nat.sub_self, Nat.reduceAdd, Nat.reduceSub, Nat.reduceLeDiff, Nat.reduceEqDiff, Nat.reduceLT, Int.reduceLT, Int.reduceLE, Int.reduceNeg, Int.reduceEq, Nat.zero_add, and_self, if_false, Bool.not_true, Bool.not_false, Bool.false_eq_true, Nat.zero_le, decide_true, decide_false, reduceCtorEq, this]⟩)
    have hz : zipO false [.list (qs.map encR), .list (bs.map encR)] = some ((qs.zip bs).map fun p => .tuple [encR p.1, encR p.2]) := by
      rw [zipO_f (ds := qs.map encR) (es := bs.map encR) rfl rfl, zipD_map]
    have l3 : ((qs.zip bs).map fun p : Rat × Rat => PyData.tuple [encR p.1, encR p.2]).length ≤ 1000000 := by rw [List.length_map, List.length_zip]; omega
    refine ⟨ps, [.dat ds, .dat du, .dat (.int (n : Int)), .dat (.int thin), s4, .dat dk, .dat (.list (own.map .int)), .own (.lst (rows.map encRow ++ [encRow ps])), .dat (.int (r : Int)), .dat (.list (ps.map encR)), .dat (.list (bs.map encR)), .no, .no, .no], ⟨by rw [c1, List.length_zip]; omega, c2⟩, ?_, ?_⟩
    · rw [b1__law_menus_a]
      refine seq_step st1 (seq_step st2 (seq_step (ρ' := [.dat ds, .dat du, .dat (.int (n : Int)), .dat (.int thin), s4, .dat dk, .dat (.list (own.map .int)), .own (.lst (rows.map encRow)), .dat (.int (r : Int)), .dat (.list (ps.map encR)), .dat (.list (bs.map encR)), .no, .no, .no]) ?_ ?_))
      · simp only [zR0, zR1, zR2, zR3, zR4, zR5, zR6, zR7, slotsM, kFor_a, Rz.bind_ok, Rz.of_some, Rz.calm_ok, Option.bind_some, Option.bind_none, slots, sel, Arg.get, List.filterMap_cons, List.filterMap_nil, List.length_cons, List.length_nil, List.map_cons, List.map_nil, List.cons_append, List.nil_append, List.append_nil, List.getElem?_cons_succ, List.getElem?_cons_zero, List.getElem?_nil, List.set_cons_zero, List.set_cons_succ, List.set_nil, List.replicate_succ, List.replicate_zero, if_true, Nat.sub_self, Nat.reduceAdd, Nat.reduceSub, Nat.reduceLeDiff, Nat.reduceEqDiff, Nat.reduceLT, Int.reduceLT, Int.reduceLE, Int.reduceNeg, Int.reduceEq, Nat.zero_add, and_self, if_false, Bool.not_true, Bool.not_false, Bool.false_eq_true, Nat.zero_le, decide_true, decide_false, reduceCtorEq, decide_eq_true ht, hz, if_pos l3, c3]
      · simp only [zR0, zR1, zR2, zR3, zR4, zR5, zR6, zR7, slotsM, kFor_a, Rz.bind_ok, Rz.of_some, Rz.calm_ok, Option.bind_some, Option.bind_none, slots, sel, Arg.get, List.filterMap_cons, List.filterMap_nil, List.length_cons, List.length_nil, List.map_cons, List.map_nil, List.cons_append, List.nil_append, List.append_nil, List.getElem?_cons_succ, List.getElem?_cons_zero, List.getElem?_nil, List.set_cons_zero, List.set_cons_succ, List.set_nil, List.replicate_succ, List.replicate_zero, if_true, Nat.sub_self, Nat.reduceAdd, Nat.reduceSub, Nat.reduceLeDiff, Nat.reduceEqDiff, Nat.reduceLT, Int.reduceLT, Int.reduceLE, Int.reduceNeg, Int.reduceEq, Nat.zero_add, and_self, if_false, Bool.not_true, Bool.not_false, Bool.false_eq_true, Nat.zero_le, decide_true, decide_false, reduceCtorEq, if_pos lr]
        rfl
    · rw [List.map_append]; rfl
  · refine ⟨qs, [.dat ds, .dat du, .dat (.int (n : Int)), .dat (.int thin), s4, .dat dk, .dat (.list (own.map .int)), .own (.lst (rows.map encRow ++ [encRow qs])), .dat (.int (r : Int)), .dat (.list (qs.map encR)), .dat (.list (bs.map encR)), .no, .no, .no], ⟨by rw [a1, y1], fun q hq => (a2 q hq).d⟩, ?_, ?_⟩
    · rw [b1__law_menus_a]
      refine seq_step st1 (seq_step st2 (seq_step (ρ' := [.dat ds, .dat du, .dat (.int (n : Int)), .dat (.int thin), s4, .dat dk, .dat (.list (own.map .int)), .own (.lst (rows.map encRow)), .dat (.int (r : Int)), .dat (.list (qs.map encR)), .dat (.list (bs.map encR)), .no, .no, .no]) ?_ ?_))
      · simp only [zR0, zR1, zR2, zR3, zR4, zR5, zR6, zR7, slotsM, kFor_a, Rz.bind_ok, Rz.of_some, Rz.calm_ok, Option.bind_some, Option.bind_none, slots, sel, Arg.get, List.filterMap_cons, List.filterMap_nil, List.length_cons, List.length_nil, List.map_cons, List.map_nil, List.cons_append, List.nil_append, List.append_nil, List.getElem?_cons_succ, List.getElem?_cons_zero, List.getElem?_nil, List.set_cons_zero, List.set_cons_succ, List.set_nil, List.replicate_succ, List.replicate_zero, if_true, Nat.sub_self, Nat.reduceAdd, Nat.reduceSub, Nat.reduceLeDiff, Nat.reduceEqDiff, Nat.reduceLT, Int.reduceLT, Int.reduceLE, Int.reduceNeg, Int.reduceEq, Nat.zero_add, and_self, if_false, Bool.not_true, Bool.not_false, Bool.false_eq_true, Nat.zero_le, decide_true, decide_false, reduceCtorEq, decide_eq_false ht]
      · simp only [zR0, zR1, zR2, zR3, zR4, zR5, zR6, zR7, slotsM, kFor_a, Rz.bind_ok, Rz.of_some, Rz.calm_ok, Option.bind_some, Option.bind_none, slots, sel, Arg.get, List.filterMap_cons, List.filterMap_nil, List.length_cons, List.length_nil, List.map_cons, List.map_nil, List.cons_append, List.nil_append, List.append_nil, List.getElem?_cons_succ, List.getElem?_cons_zero, List.getElem?_nil, List.set_cons_zero, List.set_cons_succ, List.set_nil, List.replicate_succ, List.replicate_zero, if_true, Nat.sub_self, Nat.reduceAdd, Nat.reduceSub, Nat.reduceLeDiff, Nat.reduceEqDiff, Nat.reduceLT, Int.reduceLT, Int.reduceLE, Int.reduceNeg, Int.reduceEq, Nat.zero_add, and_self, if_false, Bool.not_true, Bool.not_false, Bool.false_eq_true, Nat.zero_le, decide_true, decide_false, reduceCtorEq, if_pos lr]
        rfl
    · rw [List.map_append]; rfl
theorem z_menus_menu {d : List Int} {du : PyData} {n k : Nat} {thin : Int} {ms : List Menu} (hn : n ≤ 5) (hd : 21 + 20 * k ≤ d.length) (hms : ms.length ≤ 5) : ∃ m ρ', drMenu n m ∧
    b2__law_menus [.dat (.list (d.map .int)), .dat du, .dat (.int (n : Int)), .dat (.int thin), .own (.lst (ms.map encMenu)), .dat (.int (k : Int)), .no, .no, .no, .no, .no, .no, .no, .no] = .nx ρ' ∧
    wipeS ρ' [5, 6, 7, 8, 9, 10] = [.dat (.list (d.map .int)), .dat du, .dat (.int (n : Int)), .dat (.int thin), .own (.lst ((ms ++ [m]).map encMenu)), .no, .no, .no, .no, .no, .no, .no, .no, .no] := by
  obtain ⟨own, y1, y2, y3⟩ := cut_map (xs := d) (i := 1 + 20 * (k : Int)) (j := 21 + 20 * (k : Int)) (by omega) (by omega) (by omega)
  have y1 : own.length = 20 := by omega
  have m20 : zMulV (.int 20) (.int (k : Int)) = some (.int (20 * (k : Int))) := zMulV_l (by decide)
  have i0 := at_nthI (xs := own) (i := 0) (by decide) (by omega)
  have i1 := at_nthI (xs := own) (i := 1) (by decide) (by omega)
  have k0 := fmod_in (a := nthI own 0) (b := 2) (by decide)
  have k1 := fmod_in (a := nthI own 1) (b := 3) (by decide)
  obtain ⟨R, hR⟩ : ∃ R : Nat, 1 + (nthI own 1).fmod 3 = (R : Int) := ⟨(1 + (nthI own 1).fmod 3).toNat, by omega⟩
  have hr : rng1 [.int (R : Int)] = some ((List.range R).map natD) := by rw [rng1_n (by omega), rgD_map]; rfl
  obtain ⟨ρ', h1, rows, h2, h3, h4⟩ := forL_ex (g := gN 8) (wp := [8, 9, 10]) (b := b1__law_menus) (enc := natD) (F := fun k ρ => ρ.set 8 (.dat (natD k)))
    (fun i ρ => ∃ rows : List (List Rat), rows.length = i ∧ (∀ r ∈ rows, drRow n r) ∧ ρ = [.dat (.list (d.map .int)), .dat du, .dat (.int (n : Int)), .dat (.int thin), .own (.lst (ms.map encMenu)), .dat (.int (k : Int)), .dat (.list (own.map .int)), .own (.lst (rows.map encRow)), .no, .no, .no, .no, .no, .no]) (List.range R) 0
    [.dat (.list (d.map .int)), .dat du, .dat (.int (n : Int)), .dat (.int thin), .own (.lst (ms.map encMenu)), .dat (.int (k : Int)), .dat (.list (own.map .int)), .own (.lst []), .no, .no, .no, .no, .no, .no] (fun k _ => rfl) ⟨[], rfl, (fun q hq => by cases hq), rfl⟩ (fun i j ρ hi hp => by
      obtain ⟨rows, q1, q2, rfl⟩ := hp
      obtain ⟨hk1, hk2⟩ := List.getElem?_eq_some_iff.mp hi
      rw [List.getElem_range] at hk2
      rw [List.length_range] at hk1
      subst hk2
      obtain ⟨row, ρ', a1, a2, a3⟩ := z_menus_row (own := own) (ds := .list (d.map .int)) (du := du) (dk := .int (k : Int)) (s4 := .own (.lst (ms.map encMenu))) (thin := thin) (r := i) (rows := rows) hn y1 (by omega) (by omega)
      exact ⟨ρ', a2, rows ++ [row], by simp [q1], mem_app1 q2 a1, a3⟩)
  subst h4
  rw [Nat.zero_add, List.length_range] at h2
  have hb : ∃ b : Bool, atI [PyData.str "we", .str "weather"] ((nthI own 0).fmod 2) = some (whoD b) := by
    have hz : (nthI own 0).fmod 2 = 0 ∨ (nthI own 0).fmod 2 = 1 := by omega
    rcases hz with z | z <;> rw [z]
    · exact ⟨false, rfl⟩
    · exact ⟨true, rfl⟩
  obtain ⟨b, hb⟩ := hb
  have lm : (ms.map encMenu).length < 1000000 := by rw [List.length_map]; omega
  have f1 : kFor (iA rng1 (zCons (xOp zAddV (xC (.int 1)) (xOp zMod (xOp zIx (xV 6) (xC (.int 1))) (xC (.int 3)))) zNil)) (gN 8) [8, 9, 10] b1__law_menus [.dat (.list (d.map .int)), .dat du, .dat (.int (n : Int)), .dat (.int thin), .own (.lst (ms.map encMenu)), .dat (.int (k : Int)), .dat (.list (own.map .int)), .own (.lst []), .no, .no, .no, .no, .no, .no] = .nx [.dat (.list (d.map .int)), .dat du, .dat (.int (n : Int)), .dat (.int thin), .own (.lst (ms.map encMenu)), .dat (.int (k : Int)), .dat (.list (own.map .int)), .own (.lst (rows.map encRow)), .no, .no, .no, .no, .no, .no] := by
    simp only [zR0, zR1, zR2, zR3, zR4, zR5, zR6, zR7, slotsM, kFor_a, Rz.bind_ok, Rz.of_some, Rz.calm_ok, Option.bind_some, Option.bind_none, slots, sel, Arg.get, List.filterMap_cons, List.filterMap_nil, List.length_cons, List.length_nil, List.map_cons, List.map_nil, List.cons_append, List.nil_append, List.append_nil, List.getElem?_cons_succ, List.getElem?_cons_zero, List.getElem?_nil, List.set_cons_zero, List.set_cons_succ, List.set_nil, List.replicate_succ, List.replicate_zero, if_true, Nat.sub_self, Nat.reduceAdd, Nat.reduceSub, Nat.reduceLeDiff, Nat.reduceEqDiff, Nat.reduceLT, Int.reduceLT, Int.reduceLE, Int.reduceNeg, Int.reduceEq, Nat.zero_add, and_self, if_false, Bool.not_true, Bool.not_false, Bool.false_eq_true, Nat.zero_le, decide_true, decide_false, reduceCtorEq, i1, zMod_i (show (3 : Int) ≠ 0 by decide), hR, hr]
    exact h1
  refine ⟨(b, rows), [.dat (.list (d.map .int)), .dat du, .dat (.int (n : Int)), .dat (.int thin), .own (.lst (ms.map encMenu ++ [encMenu (b, rows)])), .dat (.int (k : Int)), .dat (.list (own.map .int)), .dat (.list (rows.map encRow)), .no, .no, .no, .no, .no, .no], ⟨⟨by show 1 ≤ rows.length; omega, by show rows.length ≤ 3; omega, fun r hr => ⟨(h3 r hr).1, fun q hq => ((h3 r hr).2 q hq).s⟩⟩, h3⟩, ?_, ?_⟩
  · simp only [zR0, zR1, zR2, zR3, zR4, zR5, zR6, zR7, slotsM, Rz.bind_ok, Rz.of_some, Rz.calm_ok, Option.bind_some, Option.bind_none, slots, sel, Arg.get, List.filterMap_cons, List.filterMap_nil, List.length_cons, List.length_nil, List.map_cons, List.map_nil, List.cons_append, List.nil_append, List.append_nil, List.getElem?_cons_succ, List.getElem?_cons_zero, List.getElem?_nil, List.set_cons_zero, List.set_cons_succ, List.set_nil, List.replicate_succ, List.replicate_zero, if_true, Nat.sub_self, Nat.reduceAdd, Nat.reduceSub, Nat.reduceLeDiff, Nat.reduceEqDiff, Nat.reduceLT, Int.reduceLT, Int.reduceLE, Int.reduceNeg, Int.reduceEq, Nat.zero_add, and_self, if_false, Bool.not_true, Bool.not_false, Bool.false_eq_true, Nat.zero_le, decide_true, decide_false, reduceCtorEq, b2__law_menus_a, m20, y3, f1, i0, zMod_i (show (2 : Int) ≠ 0 by decide), hb, if_pos lm]
    rfl
  · rw [List.map_append]; rfl
theorem z__law_menusD {d : List Int} {upto : Nat} (hu1 : 1 ≤ upto) (hu5 : upto ≤ 5) (hl : 1 + 20 * upto ≤ d.length) : ∃ ms : List Menu, (okBook ms ∧ ∀ m ∈ ms, drMenu ms.length m) ∧ ms.length ≤ upto ∧ d__law_menus [.list (d.map .int), .int (upto : Int)] = .ok (encBook ms) := by
  have i0 := at_nthI (xs := d) (i := 0) (by decide) (by omega)
  have k1 := fmod_in (a := nthI d 0) (b := (upto : Int)) (by omega)
  obtain ⟨n, hn⟩ : ∃ n : Nat, 1 + (nthI d 0).fmod (upto : Int) = (n : Int) := ⟨(1 + (nthI d 0).fmod (upto : Int)).toNat, by omega⟩
  generalize hthin : ((nthI d 0).fdiv (upto : Int)).fmod 2 = thin
  obtain ⟨ρ', h1, ms, h2, h3, h4⟩ := forL_ex (g := gN 5) (wp := [5, 6, 7, 8, 9, 10]) (b := b2__law_menus) (enc := natD) (F := fun k ρ => ρ.set 5 (.dat (natD k)))
    (fun i ρ => ∃ ms : List Menu, ms.length = i ∧ (∀ m ∈ ms, drMenu n m) ∧ ρ = [.dat (.list (d.map .int)), .dat (.int (upto : Int)), .dat (.int (n : Int)), .dat (.int thin), .own (.lst (ms.map encMenu)), .no, .no, .no, .no, .no, .no, .no, .no, .no]) (List.range n) 0
    [.dat (.list (d.map .int)), .dat (.int (upto : Int)), .dat (.int (n : Int)), .dat (.int thin), .own (.lst []), .no, .no, .no, .no, .no, .no, .no, .no, .no] (fun k _ => rfl) ⟨[], rfl, (fun q hq => by cases hq), rfl⟩ (fun i j ρ hi hp => by
      obtain ⟨ms, q1, q2, rfl⟩ := hp
      obtain ⟨hk1, hk2⟩ := List.getElem?_eq_some_iff.mp hi
      rw [List.getElem_range] at hk2
      rw [List.length_range] at hk1
      subst hk2
      obtain ⟨m, ρ', a1, a2, a3⟩ := z_menus_menu (d := d) (du := .int (upto : Int)) (n := n) (k := i) (thin := thin) (ms := ms) (by omega) (by omega) (by omega)
      exact ⟨ρ', a2, ms ++ [m], by simp [q1], mem_app1 q2 a1, a3⟩)
  subst h4
  rw [Nat.zero_add, List.length_range] at h2
  refine ⟨ms, ⟨⟨by omega, by omega, by rw [h2]; exact fun m hm => (h3 m hm).1⟩, by rw [h2]; exact h3⟩, by omega, ?_⟩
  have hr : rng1 [.int (n : Int)] = some ((List.range n).map natD) := by rw [rng1_n (by omega), rgD_map]; rfl
  have f1 : kFor (iA rng1 (zCons (xV 2) zNil)) (gN 5) [5, 6, 7, 8, 9, 10] b2__law_menus [.dat (.list (d.map .int)), .dat (.int (upto : Int)), .dat (.int (n : Int)), .dat (.int thin), .own (.lst []), .no, .no, .no, .no, .no, .no, .no, .no, .no] = .nx [.dat (.list (d.map .int)), .dat (.int (upto : Int)), .dat (.int (n : Int)), .dat (.int thin), .own (.lst (ms.map encMenu)), .no, .no, .no, .no, .no, .no, .no, .no, .no] := by
    simp only [zR0, zR1, zR2, zR3, zR4, zR5, zR6, zR7, slotsM, kFor_a, Rz.bind_ok, Rz.of_some, Rz.calm_ok, Option.bind_some, Option.bind_none, slots, sel, Arg.get, List.filterMap_cons, List.filterMap_nil, List.length_cons, List.length_nil, List.map_cons, List.map_nil, List.cons_append, List.nil_append, List.append_nil, List.getElem?_cons_succ, List.getElem?_cons_zero, List.getElem?_nil, List.set_cons_zero, List.set_cons_succ, List.set_nil, List.replicate_succ, List.replicate_zero, if_true, Nat.sub_self, Nat.reduceAdd, Nat.reduceSub, Nat.reduceLeDiff, Nat.reduceEqDiff, Nat.reduceLT, Int.reduceLT, Int.reduceLE, Int.reduceNeg, Int.reduceEq, Nat.zero_add, and_self, if_false, Bool.not_true, Bool.not_false, Bool.false_eq_true, Nat.zero_le, decide_true, decide_false, reduceCtorEq, hr]
    exact h1
  simp only [zR0, zR1, zR2, zR3, zR4, zR5, zR6, zR7, slotsM, Rz.bind_ok, Rz.of_some, Rz.calm_ok, Option.bind_some, Option.bind_none, slots, sel, Arg.get, List.filterMap_cons, List.filterMap_nil, List.length_cons, List.length_nil, List.map_cons, List.map_nil, List.cons_append, List.nil_append, List.append_nil, List.getElem?_cons_succ, List.getElem?_cons_zero, List.getElem?_nil, List.set_cons_zero, List.set_cons_succ, List.set_nil, List.replicate_succ, List.replicate_zero, if_true, Nat.sub_self, Nat.reduceAdd, Nat.reduceSub, Nat.reduceLeDiff, Nat.reduceEqDiff, Nat.reduceLT, Int.reduceLT, Int.reduceLE, Int.reduceNeg, Int.reduceEq, Nat.zero_add, and_self, if_false, Bool.not_true, Bool.not_false, Bool.false_eq_true, Nat.zero_le, decide_true, decide_false, reduceCtorEq, d__law_menus, m__law_menus, i0, zMod_i (show (upto : Int) ≠ 0 by omega), zMod_i (show (2 : Int) ≠ 0 by decide), zFd_i (show (0 : Int) < (upto : Int) by omega) (by omega), hn, hthin, f1]
  rfl
theorem z__law_menus {d : List Int} {upto : Nat} (hu1 : 1 ≤ upto) (hu5 : upto ≤ 5) (hl : 1 + 20 * upto ≤ d.length) : ∃ ms : List Menu, okBook ms ∧ ms.length ≤ upto ∧ d__law_menus [.list (d.map .int), .int (upto : Int)] = .ok (encBook ms) := by
  obtain ⟨ms, h1, h2, h3⟩ := z__law_menusD hu1 hu5 hl
  exact ⟨ms, h1.1, h2, h3⟩
theorem cut_upto (ds : List PyData) (k : Nat) (h : k ≤ ds.length) : cutD ds none (some (k : Int)) = ds.take k := by
  unfold cutD
  rw [HT.sIx_nat, HT.sIx_none, Nat.min_eq_left h, List.drop_zero, Nat.sub_zero]
theorem cut_uptoM {α : Type} {f : α → PyData} {xs : List α} {i : Int} (h0 : 0 ≤ i) (h : i ≤ xs.length) : cutD (xs.map f) none (some i) = (xs.take i.toNat).map f := by
  obtain ⟨k, rfl⟩ := Int.eq_ofNat_of_zero_le h0
  rw [cut_upto _ k (by rw [List.length_map]; omega), List.map_take]
  rfl
theorem cut_fromM {α : Type} {f : α → PyData} {xs : List α} {i : Int} (h0 : 0 ≤ i) (h : i ≤ xs.length) : cutD (xs.map f) (some i) none = (xs.drop i.toNat).map f := by
  obtain ⟨k, rfl⟩ := Int.eq_ofNat_of_zero_le h0
  rw [cut_from _ k (by rw [List.length_map]; omega), List.map_drop]
  rfl
theorem cut_takeM {α : Type} {f : α → PyData} (xs : List α) (k : Nat) : cutD (xs.map f) none (some (k : Int)) = (xs.take k).map f := by
  unfold cutD
  rw [HT.sIx_nat, HT.sIx_none, List.length_map, List.drop_zero, Nat.sub_zero, List.map_take]
  by_cases h : k ≤ xs.length
  · rw [Nat.min_eq_left h]
  · rw [Nat.min_eq_right (by omega), List.take_of_length_le (by rw [List.length_map]; exact Nat.le_refl _), List.take_of_length_le (by rw [List.length_map]; omega)]
theorem range_getD {α β : Type} (f : α → β) (d : α) : ∀ (xs : List α), (List.range xs.length).map (fun i => f (xs.getD i d)) = xs.map f
  | [] => rfl
  | x :: xs => by
    rw [List.length_cons, List.range_succ_eq_map, List.map_cons, List.map_map, List.map_cons]
    congr 1
    exact range_getD f d xs
theorem forL_app {α β : Type} {g : MG} {wp : List Nat} {b : MS} {enc : α → PyData} {F : α → List Slot → List Slot} {R : List β → List Slot} {out : α → β} {N : Nat} : ∀ {xs : List α} {acc : List β}, acc.length + xs.length ≤ N → (∀ x ∈ xs, g (enc x) = some (F x)) →
    (∀ x ∈ xs, ∀ acc : List β, acc.length ≤ N → ∃ ρ', b (F x (R acc)) = .nx ρ' ∧ wipeS ρ' wp = R (acc ++ [out x])) → forL g wp b (xs.map enc) (R acc) = .nx (R (acc ++ xs.map out))
  | [], acc, _, _, _ => by rw [List.map_nil, List.map_nil, List.append_nil]; rfl
  | x :: xs, acc, hl, h1, h2 => by
    rw [List.length_cons] at hl
    obtain ⟨ρ', e1, e2⟩ := h2 x (List.mem_cons_self ..) acc (by omega)
    have ih := forL_app (xs := xs) (acc := acc ++ [out x]) (by rw [List.length_append]; simp only [List.length_cons, List.length_nil]; omega) (fun y hy => h1 y (List.mem_cons_of_mem _ hy)) (fun y hy => h2 y (List.mem_cons_of_mem _ hy))
    rw [List.map_cons, forL_cons, h1 x (List.mem_cons_self ..)]
    simp only [e1, e2, ih]
    rw [List.append_assoc]
    rfl
def walkQ (ms : List Menu) (fill : List Rat) : List (List Int) → List Rat
  | [] => fill
  | c :: cs => walkQ ms (stepQ (takenL ms c) fill) cs
theorem getD_mem {α : Type} {xs : List α} {i : Nat} {d : α} (h : i < xs.length) : xs.getD i d ∈ xs := by
  rw [List.getD_eq_getElem?_getD, List.getElem?_eq_getElem h]
  exact List.getElem_mem h
def addAll (acc : List (List Int)) (n : Nat) : List (List Int) := acc.flatMap fun p => (List.range n).map fun (a : Nat) => p ++ [(a : Int)]
def plansQ (ns : List Nat) : List (List Int) := ns.foldl addAll [[]]
theorem addAll_len (acc : List (List Int)) (n : Nat) : (addAll acc n).length = acc.length * n := by
  unfold addAll
  induction acc with
  | nil => simp
  | cons p acc ih => rw [List.flatMap_cons, List.length_append, ih, List.length_map, List.length_range, List.length_cons, Nat.succ_mul]; omega
theorem addAll_all {acc : List (List Int)} {n : Nat} {P Q : List Int → Prop} (h : ∀ p ∈ acc, P p) (hs : ∀ p a, P p → a < n → Q (p ++ [((a : Nat) : Int)])) : ∀ p ∈ addAll acc n, Q p := by
  intro p hp
  unfold addAll at hp
  obtain ⟨x, hx, hp⟩ := List.mem_flatMap.mp hp
  obtain ⟨a, ha, rfl⟩ := List.mem_map.mp hp
  exact hs x a (h x hx) (List.mem_range.mp ha)
theorem plansQ_len : ∀ (ns : List Nat) (acc : List (List Int)) (b : Nat), (∀ n ∈ ns, n ≤ 3) → acc.length ≤ b → (ns.foldl addAll acc).length ≤ b * 3 ^ ns.length
  | [], acc, b, _, h => by simpa using h
  | n :: ns, acc, b, hn, h => by
    have := plansQ_len ns (addAll acc n) (b * 3) (fun x hx => hn x (List.mem_cons_of_mem _ hx)) (by
      rw [addAll_len]
      exact Nat.mul_le_mul h (hn n (List.mem_cons_self ..)))
    rw [List.foldl_cons, List.length_cons, Nat.pow_succ, Nat.mul_comm (3 ^ ns.length) 3, ← Nat.mul_assoc]
    exact this
theorem rowsAt_eq {ms : List Menu} {s : Nat} {m : Menu} (h : ms[s]? = some m) : rowsAt ms s = m.2.length := by unfold rowsAt; rw [h]
theorem pow3_le {n : Nat} (h : n ≤ 5) : 3 ^ n ≤ 243 := Nat.pow_le_pow_right (by decide) h
def VG (D N : Nat) (fill : List Rat) : Prop := ∀ q ∈ fill, ∃ z : Nat, q * (D : Rat) = (z : Rat) ∧ z ≤ N
def VB (d e : Nat) (fill : List Rat) : Prop := ∃ D N : Nat, 0 < D ∧ D < 2 ^ d ∧ N < 2 ^ e ∧ VG D N fill
theorem natR_ne {D : Nat} (h : 0 < D) : (D : Rat) ≠ 0 := by
  intro z
  have : (D : Rat) = ((0 : Nat) : Rat) := by simpa using z
  have := Rat.natCast_inj.mp this
  omega
theorem g_eq {q : Rat} {D z : Nat} (hD : 0 < D) (h : q * (D : Rat) = (z : Rat)) : q = Rat.divInt (z : Int) (D : Int) := by
  rw [Rat.divInt_eq_div]
  have hd := natR_ne hD
  have : q = (z : Rat) / (D : Rat) := by
    rw [← h, Rat.mul_div_cancel hd]
  rw [Rat.intCast_natCast, Rat.intCast_natCast]
  exact this
theorem g_sz {q : Rat} {D z d e n : Nat} (hD : 0 < D) (h : q * (D : Rat) = (z : Rat)) (hd : D < 2 ^ d) (hz : z < 2 ^ e) (h1 : d ≤ n) (h2 : e ≤ n) : Sz n q := by
  rw [g_eq hD h]
  refine sz_divInt (by omega) ?_ ?_
  · show ((z : Int)).natAbs < 2 ^ n
    rw [Int.natAbs_natCast]
    exact Nat.lt_of_lt_of_le hz (Nat.pow_le_pow_right (by decide) h2)
  · show ((D : Int)).natAbs < 2 ^ n
    rw [Int.natAbs_natCast]
    exact Nat.lt_of_lt_of_le hd (Nat.pow_le_pow_right (by decide) h1)
theorem g_nn {q : Rat} {D z : Nat} (hD : 0 < D) (h : q * (D : Rat) = (z : Rat)) : 0 ≤ q := by
  rw [g_eq hD h, Rat.divInt_nonneg_iff_of_pos_right (by omega)]
  omega
theorem VB.fill {d e n : Nat} {fill : List Rat} (h : VB d e fill) (hl : fill.length = n) (hd : d ≤ 30000) (he : e ≤ 30000) : okFill n fill := by
  obtain ⟨D, N, h1, h2, h3, h4⟩ := h
  refine ⟨hl, fun q hq => ?_⟩
  obtain ⟨z, a, b⟩ := h4 q hq
  exact ⟨g_nn h1 a, g_sz h1 a h2 (Nat.lt_of_le_of_lt b h3) hd he⟩
theorem VB.mono {d e d' e' : Nat} {fill : List Rat} (h : VB d e fill) (h1 : d ≤ d') (h2 : e ≤ e') : VB d' e' fill := by
  obtain ⟨D, N, a, b, c, g⟩ := h
  exact ⟨D, N, a, Nat.lt_of_lt_of_le b (Nat.pow_le_pow_right (by decide) h1), Nat.lt_of_lt_of_le c (Nat.pow_le_pow_right (by decide) h2), g⟩
theorem dot_VG {D1 N1 D N : Nat} : ∀ (r f : List Rat), VG D1 N1 r → VG D N f → ∃ z : Nat, dotQ r f * ((D1 * D : Nat) : Rat) = (z : Rat) ∧ z ≤ r.length * (N1 * N)
  | [], f, _, _ => ⟨0, by rw [show dotQ [] f = 0 from rfl, Rat.zero_mul]; rfl, Nat.zero_le _⟩
  | a :: r, [], _, _ => ⟨0, by rw [show dotQ (a :: r) [] = 0 from rfl, Rat.zero_mul]; rfl, Nat.zero_le _⟩
  | a :: r, b :: f, h1, h2 => by
    obtain ⟨x, x1, x2⟩ := h1 a (List.mem_cons_self ..)
    obtain ⟨y, y1, y2⟩ := h2 b (List.mem_cons_self ..)
    obtain ⟨z, z1, z2⟩ := dot_VG r f (fun q hq => h1 q (List.mem_cons_of_mem _ hq)) (fun q hq => h2 q (List.mem_cons_of_mem _ hq))
    refine ⟨x * y + z, ?_, ?_⟩
    · show (a * b + dotQ r f) * ((D1 * D : Nat) : Rat) = _
      rw [Rat.natCast_mul] at z1 ⊢
      rw [Rat.natCast_add, Rat.natCast_mul, ← x1, ← y1, ← z1]
      grind
    · rw [List.length_cons, Nat.succ_mul]
      have := Nat.mul_le_mul x2 y2
      omega
theorem okS_VG {q : Rat} (h : okS q) : ∃ z : Nat, q * ((232792560 : Nat) : Rat) = (z : Rat) ∧ z ≤ 232559767440 := by
  have hd : q.den ∣ 232792560 := by
    have h1 := h.2.2
    have h2 : 0 < q.den := q.den_pos
    have : q.den = 1 ∨ q.den = 2 ∨ q.den = 3 ∨ q.den = 4 ∨ q.den = 5 ∨ q.den = 6 ∨ q.den = 7 ∨ q.den = 8 ∨ q.den = 9 ∨ q.den = 10 ∨ q.den = 11 ∨ q.den = 12 ∨ q.den = 13 ∨ q.den = 14 ∨ q.den = 15 ∨ q.den = 16 ∨ q.den = 17 ∨ q.den = 18 ∨ q.den = 19 ∨ q.den = 20 := by omega
    rcases this with e | e | e | e | e | e | e | e | e | e | e | e | e | e | e | e | e | e | e | e <;> rw [e] <;> decide
  obtain ⟨c, hc⟩ := hd
  have hq : q * (q.den : Rat) = (q.num : Rat) := by
    have := divInt_mul (u := q.num) (l := (q.den : Int)) (by have := q.den_pos; omega)
    rw [Rat.num_divInt_den, Rat.intCast_natCast] at this
    exact this
  have hn := h.num_nn
  refine ⟨q.num.toNat * c, ?_, ?_⟩
  · rw [hc, Rat.natCast_mul, ← Rat.mul_assoc, hq, Rat.natCast_mul]
    congr 1
    rw [← Rat.intCast_natCast, Int.toNat_of_nonneg hn]
  · have h1 : q.num.toNat ≤ 999 := by have := h.2.1; omega
    have h2 : c ≤ 232792560 := by
      have := q.den_pos
      rw [hc]
      exact Nat.le_mul_of_pos_left _ this
    calc q.num.toNat * c ≤ 999 * 232792560 := Nat.mul_le_mul h1 h2
      _ = 232559767440 := by decide
theorem step_VB {n d e : Nat} {rows : List (List Rat)} {fill : List Rat} (hn : n ≤ 5) (hr : ∀ r ∈ rows, okRow n r) (h : VB d e fill) : VB (d + 28) (e + 41) (stepQ rows fill) := by
  obtain ⟨D, N, h1, h2, h3, h4⟩ := h
  refine ⟨232792560 * D, 5 * (232559767440 * N), by omega, ?_, ?_, ?_⟩
  · rw [Nat.pow_add, Nat.mul_comm]
    generalize 2 ^ d = A at h2
    have h9 : (2 : Nat) ^ 28 = 268435456 := by decide
    rw [h9]
    omega
  · rw [Nat.pow_add]
    generalize 2 ^ e = A at h3
    have h9 : (2 : Nat) ^ 41 = 2199023255552 := by decide
    rw [h9]
    omega
  · intro q hq
    obtain ⟨r, hr1, rfl⟩ := List.mem_map.mp hq
    have or := hr r hr1
    obtain ⟨z, z1, z2⟩ := dot_VG (D1 := 232792560) (N1 := 232559767440) r fill (fun q hq => okS_VG (or.all q hq)) h4
    refine ⟨z, z1, Nat.le_trans z2 ?_⟩
    rw [or.len]
    exact Nat.mul_le_mul_right _ hn
theorem law_fill_VB {qs : List Rat} (h : ∀ q ∈ qs, ∃ u l : Int, 0 ≤ u ∧ u ≤ 40 ∧ (l = 1 ∨ l = 2 ∨ l = 3 ∨ l = 12) ∧ q = Rat.divInt u l) : VB 4 9 qs := by
  refine ⟨12, 480, by decide, by decide, by decide, fun q hq => ?_⟩
  obtain ⟨u, l, h1, h2, h3, rfl⟩ := h q hq
  have key : ∀ c : Nat, (l : Int) * (c : Int) = 12 → c ≤ 12 → ∃ z : Nat, Rat.divInt u l * ((12 : Nat) : Rat) = (z : Rat) ∧ z ≤ 480 := fun c hc hc2 => by
    refine ⟨u.toNat * c, ?_, ?_⟩
    · have hl : l ≠ 0 := by intro z; rw [z] at hc; omega
      have e : ((12 : Nat) : Rat) = (l : Rat) * (c : Rat) := by
        have : (((12 : Nat) : Int) : Rat) = ((l * (c : Int) : Int) : Rat) := by rw [hc]; rfl
        rw [Rat.intCast_mul, Rat.intCast_natCast, Rat.intCast_natCast] at this
        exact this
      rw [e, ← Rat.mul_assoc, divInt_mul hl, Rat.natCast_mul]
      congr 1
      rw [← Rat.intCast_natCast, Int.toNat_of_nonneg h1]
    · have : u.toNat ≤ 40 := by omega
      calc u.toNat * c ≤ 40 * 12 := Nat.mul_le_mul this hc2
        _ = 480 := by decide
  rcases h3 with e | e | e | e
  · exact key 12 (by rw [e]; decide) (by decide)
  · exact key 6 (by rw [e]; decide) (by decide)
  · exact key 4 (by rw [e]; decide) (by decide)
  · exact key 1 (by rw [e]; decide) (by decide)
theorem walk_VB {ms : List Menu} {d e : Nat} (h : okBook ms) : ∀ {cs : List (List Int)} {fill : List Rat}, (∀ c ∈ cs, goodChoice ms c) → VB d e fill → VB (d + 28 * cs.length) (e + 41 * cs.length) (walkQ ms fill cs) := fun {cs} => by
  induction cs generalizing d e with
  | nil => intro fill _ hv; exact hv
  | cons c cs ih =>
    intro fill hc hv
    have := ih (fun x hx => hc x (List.mem_cons_of_mem _ hx)) (step_VB h.hi (okTab_taken ms.length (hc c (List.mem_cons_self ..)) h.all).2 hv)
    rw [List.length_cons, show d + 28 * (cs.length + 1) = d + 28 + 28 * cs.length from by omega, show e + 41 * (cs.length + 1) = e + 41 + 41 * cs.length from by omega]
    exact this
theorem walk_len {ms : List Menu} (h : okBook ms) : ∀ {cs : List (List Int)} {fill : List Rat}, (∀ c ∈ cs, goodChoice ms c) → fill.length = ms.length → (walkQ ms fill cs).length = ms.length
  | [], _, _, hl => hl
  | c :: cs, fill, hc, _ => walk_len h (cs := cs) (fun x hx => hc x (List.mem_cons_of_mem _ hx)) (by unfold stepQ; rw [List.length_map]; exact (okTab_taken ms.length (hc c (List.mem_cons_self ..)) h.all).1)
theorem walk_ok {ms : List Menu} {fill : List Rat} {d e : Nat} {cs : List (List Int)} (h : okBook ms) (hc : ∀ c ∈ cs, goodChoice ms c) (hl : fill.length = ms.length) (hv : VB d e fill) (hd : d + 28 * cs.length ≤ 30000) (he : e + 41 * cs.length ≤ 30000) : okFill ms.length (walkQ ms fill cs) :=
  (walk_VB h hc hv).fill (walk_len h hc hl) hd he
theorem good_range : ∀ {ms : List Menu} {f : Nat → Int}, (∀ i, i < ms.length → 0 ≤ f i ∧ f i < (rowsAt ms i : Int)) → goodChoice ms ((List.range ms.length).map f)
  | [], _, _ => trivial
  | m :: ms, f, h => by
    rw [List.length_cons, List.range_succ_eq_map, List.map_cons, List.map_map]
    have h0 := h 0 (by simp)
    rw [show rowsAt (m :: ms) 0 = m.2.length from rfl] at h0
    exact ⟨h0.1, h0.2, good_range (f := f ∘ Nat.succ) fun i hi => h (i + 1) (by simpa using hi)⟩
theorem taken_get : ∀ {ms : List Menu} {c : List Int} {i : Nat} {m : Menu}, c.length = ms.length → ms[i]? = some m → (takenL ms c).getD i [] = m.2.getD (c.getD i 0).toNat []
  | [], _, _, _, _, h => by simp at h
  | m :: ms, [], _, _, hl, _ => by simp at hl
  | m :: ms, a :: c, 0, m', _, h => by cases h; rfl
  | m :: ms, a :: c, i + 1, m', hl, h => taken_get (ms := ms) (c := c) (i := i) (by simpa using hl) (by simpa using h)
theorem zipIdx_mem1 {α : Type} {xs : List α} {q : α × Nat} (h : q ∈ xs.zipIdx 0) : q.1 ∈ xs := by
  obtain ⟨_, h2, h3⟩ := List.mem_zipIdx h
  rw [h3]
  exact List.getElem_mem _
theorem lc2L_map {α : Type} {vs1 : List Nat} {i0 i1 : Nat} {mi1 : MA} {me : ME} {ρ : List Slot} {enc : α → PyData} {out : α → List PyData} : ∀ {xs : List α}, (∀ x ∈ xs, lc2F vs1 i0 i1 mi1 me ρ (enc x) = .ok (out x)) → lc2L vs1 i0 i1 mi1 me ρ (xs.map enc) = .ok (xs.flatMap out)
  | [], _ => rfl
  | x :: xs, h => by
    have ih := lc2L_map (xs := xs) fun y hy => h y (List.mem_cons_of_mem _ hy)
    rw [List.map_cons, List.flatMap_cons]
    show (lc2F vs1 i0 i1 mi1 me ρ (enc x)).calm.bind _ = _
    rw [h x (List.mem_cons_self ..), ih]
    rfl
theorem z_all_turn {ms : List Menu} {ds : PyData} {s : Nat} {m : Menu} {acc : List (List Int)} (hm : ms[s]? = some m) (hn : m.2.length ≤ 1000) (ha : ∀ p ∈ acc, p.length ≤ 1000) (hl : (addAll acc m.2.length).length ≤ 1000000) :
    b1_all_plans [.dat (encBook ms), .dat ds, .own (.lst (acc.map planD)), .dat (natD s), .no, .no] = .nx [.dat (encBook ms), .dat ds, .own (.lst ((addAll acc m.2.length).map planD)), .dat (natD s), .no, .no] := by
  have hx := ix_menu hm
  have hln : zLen [PyData.tuple (m.2.map encRow)] = some (.int (m.2.length : Nat)) := by rw [zLen_t, List.length_map]
  have hr : rng1 [.int (m.2.length : Nat)] = some ((List.range m.2.length).map natD) := by rw [rng1_n (by omega), rgD_map]; rfl
  have l2 := lc2L_map (vs1 := [5]) (i0 := 4) (i1 := 5) (mi1 := iA rng1 (zCons (xCB zLen (zCons (xOp zIx (xOp zIx (xV 0) (xV 3)) (xC (.int 1))) zNil)) zNil)) (me := xOp zAddV (xV 4) (xTup (zCons (xV 5) zNil))) (ρ := [.dat (encBook ms), .dat ds, .dat (.list (acc.map planD)), .dat (natD s), .no, .no]) (enc := planD) (out := fun p => (List.range m.2.length).map fun a : Nat => planD (p ++ [(a : Int)])) (xs := acc) (fun p hp => by
    have lc : lcL (gN 5) yYes (xOp zAddV (xV 4) (xTup (zCons (xV 5) zNil))) [.dat (encBook ms), .dat ds, .dat (.list (acc.map planD)), .dat (natD s), .dat (planD p), .no] ((List.range m.2.length).map natD) = .ok ((List.range m.2.length).map fun a : Nat => planD (p ++ [(a : Int)])) :=
      lcL_map (F := fun a ρ => ρ.set 5 (.dat (natD a))) (fun a _ => rfl) (fun a _ => rfl) (fun a _ => by
        have hz : zAddV (planD p) (.tuple [.int (a : Int)]) = some (planD (p ++ [(a : Int)])) := by
          unfold planD
          rw [zAddV_t (by rw [List.length_map]; have := ha p hp; simp; omega), List.map_append]
          rfl
        simp only [zR0, zR1, zR2, zR3, zR4, zR5, zR6, zR7, slotsM, kFor_a, Rz.bind_ok, Rz.of_some, Rz.calm_ok, Option.bind_some, Option.bind_none, slots, sel, Arg.get, List.filterMap_cons, List.filterMap_nil, List.length_cons, List.length_nil, List.map_cons, List.map_nil, List.cons_append, List.nil_append, List.append_nil, List.getElem?_cons_succ, List.getElem?_cons_zero, List.getElem?_nil, List.set_cons_zero, List.set_cons_succ, List.set_nil, List.replicate_succ, List.replicate_zero, if_true, Nat.sub_self, Nat.reduceAdd, Nat.reduceSub, Nat.reduceLeDiff, Nat.reduceEqDiff, Nat.reduceLT, Int.reduceLT, Int.reduceLE, Int.reduceNeg, Int.reduceEq, Nat.zero_add, and_self, if_false, Bool.not_true, Bool.not_false, Bool.false_eq_true, Nat.zero_le, decide_true, decide_false, reduceCtorEq, natD, hz])
    unfold lc2F
    simp only [zR0, zR1, zR2, zR3, zR4, zR5, zR6, zR7, slotsM, kFor_a, Rz.bind_ok, Rz.of_some, Rz.calm_ok, Option.bind_some, Option.bind_none, slots, sel, Arg.get, List.filterMap_cons, List.filterMap_nil, List.length_cons, List.length_nil, List.map_cons, List.map_nil, List.cons_append, List.nil_append, List.append_nil, List.getElem?_cons_succ, List.getElem?_cons_zero, List.getElem?_nil, List.set_cons_zero, List.set_cons_succ, List.set_nil, List.replicate_succ, List.replicate_zero, if_true, Nat.sub_self, Nat.reduceAdd, Nat.reduceSub, Nat.reduceLeDiff, Nat.reduceEqDiff, Nat.reduceLT, Int.reduceLT, Int.reduceLE, Int.reduceNeg, Int.reduceEq, Nat.zero_add, and_self, if_false, Bool.not_true, Bool.not_false, Bool.false_eq_true, Nat.zero_le, decide_true, decide_false, reduceCtorEq, natD, hx, ix_rows, hln, hr]
    exact lc)
  have eo : acc.flatMap (fun p => (List.range m.2.length).map fun a : Nat => planD (p ++ [(a : Int)])) = (addAll acc m.2.length).map planD := by
    unfold addAll
    rw [List.map_flatMap]
    congr 1
    funext p
    rw [List.map_map]
    rfl
  rw [eo] at l2
  have hl2 : ((addAll acc m.2.length).map planD).length ≤ 1000000 := by rw [List.length_map]; exact hl
  simp only [zR0, zR1, zR2, zR3, zR4, zR5, zR6, zR7, slotsM, kFor_a, Rz.bind_ok, Rz.of_some, Rz.calm_ok, Option.bind_some, Option.bind_none, slots, sel, Arg.get, List.filterMap_cons, List.filterMap_nil, List.length_cons, List.length_nil, List.map_cons, List.map_nil, List.cons_append, List.nil_append, List.append_nil, List.getElem?_cons_succ, List.getElem?_cons_zero, List.getElem?_nil, List.set_cons_zero, List.set_cons_succ, List.set_nil, List.replicate_succ, List.replicate_zero, if_true, Nat.sub_self, Nat.reduceAdd, Nat.reduceSub, Nat.reduceLeDiff, Nat.reduceEqDiff, Nat.reduceLT, Int.reduceLT, Int.reduceLE, Int.reduceNeg, Int.reduceEq, Nat.zero_add, and_self, if_false, Bool.not_true, Bool.not_false, Bool.false_eq_true, Nat.zero_le, decide_true, decide_false, reduceCtorEq, b1_all_plans_a, l2, if_pos hl2]
theorem z_all_loop {ms : List Menu} {ds : PyData} (hms : ∀ m ∈ ms, m.2.length ≤ 3) : ∀ (ss : List Nat) (acc : List (List Int)) (k : Nat), (∀ s ∈ ss, s < ms.length) → acc.length * 3 ^ ss.length ≤ 1000000 → (∀ p ∈ acc, p.length ≤ k) → k + ss.length ≤ 1000 →
    forL (gN 3) [3] b1_all_plans (ss.map natD) [.dat (encBook ms), .dat ds, .own (.lst (acc.map planD)), .no, .no, .no] = .nx [.dat (encBook ms), .dat ds, .own (.lst (((ss.map (rowsAt ms)).foldl addAll acc).map planD)), .no, .no, .no]
  | [], acc, k, _, _, _, _ => rfl
  | s :: ss, acc, k, hs, hl, hp, hk => by
    have hsl := hs s (List.mem_cons_self ..)
    have hm : ms[s]? = some ms[s] := List.getElem?_eq_getElem hsl
    have h3 := hms _ (List.getElem_mem hsl)
    rw [List.length_cons] at hk hl
    have e3 : acc.length * 3 ^ (ss.length + 1) = (acc.length * 3) * 3 ^ ss.length := by rw [Nat.pow_succ, Nat.mul_comm (3 ^ ss.length) 3, Nat.mul_assoc]
    have hll : (addAll acc ms[s].2.length).length ≤ acc.length * 3 := by rw [addAll_len]; exact Nat.mul_le_mul_left _ h3
    have hb : (addAll acc ms[s].2.length).length * 3 ^ ss.length ≤ 1000000 := Nat.le_trans (Nat.mul_le_mul_right _ hll) (by omega)
    have hb2 : (addAll acc ms[s].2.length).length ≤ 1000000 := Nat.le_trans (Nat.le_mul_of_pos_right _ (Nat.pow_pos (by decide))) hb
    have ht := z_all_turn (ds := ds) (acc := acc) hm (by omega) (fun p hp' => by have := hp p hp'; omega) hb2
    have ih := z_all_loop (ds := ds) hms ss (addAll acc ms[s].2.length) (k + 1) (fun x hx => hs x (List.mem_cons_of_mem _ hx)) hb (addAll_all (P := fun p => p.length ≤ k) hp fun p a h _ => by simp; omega) (by omega)
    rw [List.map_cons, forL_cons]
    simp only [gN_a, List.set_cons_zero, List.set_cons_succ, ht, wipeS_cons, wipeS_nil]
    rw [List.map_cons, List.foldl_cons, rowsAt_eq hm]
    exact ih
def vv (l : List Rat) (j : Nat) : Rat := l.getD j 0
def lookL : List (Nat × List Rat) → Nat → Option (List Rat)
  | [], _ => none
  | p :: ps, k => if p.1 = k then some p.2 else lookL ps k
theorem lookL_mem : ∀ {ls : List (Nat × List Rat)} {k : Nat} {l : List Rat}, lookL ls k = some l → (k, l) ∈ ls
  | [], _, _, h => by cases h
  | p :: ps, k, l, h => by
    unfold lookL at h
    by_cases z : p.1 = k
    · rw [if_pos z] at h; cases h; subst z; exact List.mem_cons_self ..
    · rw [if_neg z] at h; exact List.mem_cons_of_mem _ (lookL_mem h)
theorem lookL_some : ∀ {ls : List (Nat × List Rat)} {p : Nat × List Rat}, (ls.map (·.1)).Nodup → p ∈ ls → lookL ls p.1 = some p.2
  | q :: ps, p, hn, hp => by
    rw [List.map_cons, List.nodup_cons] at hn
    unfold lookL
    rcases List.mem_cons.mp hp with y | y
    · subst y; rw [if_pos rfl]
    · rw [if_neg (fun z => hn.1 (by rw [z]; exact List.mem_map_of_mem y))]
      exact lookL_some hn.2 y
def spF (ls : List (Nat × List Rat)) (k : Nat) (f : Nat → Rat) : Nat → Rat := match lookL ls k with
  | some l => fun j => f j - f k * vv l j
  | none => f
theorem spF_some {ls : List (Nat × List Rat)} {k : Nat} {l : List Rat} (e : lookL ls k = some l) (f : Nat → Rat) : spF ls k f = fun j => f j - f k * vv l j := by unfold spF; rw [e]
theorem spF_none {ls : List (Nat × List Rat)} {k : Nat} (e : lookL ls k = none) (f : Nat → Rat) : spF ls k f = f := by unfold spF; rw [e]
def rsF (ls : List (Nat × List Rat)) : Nat → (Nat → Rat) → Nat → Rat
  | 0, f => f
  | k + 1, f => spF ls k (rsF ls k f)
def stQ (ls : List (Nat × List Rat)) (k : Nat) (f : List Rat) : List Rat := match lookL ls k with
  | some l => if f.getD k 0 = 0 then f else List.zipWith (fun a b => a - f.getD k 0 * b) f l
  | none => f
theorem stQ_some {ls : List (Nat × List Rat)} {k : Nat} {l : List Rat} (e : lookL ls k = some l) (f : List Rat) : stQ ls k f = if f.getD k 0 = 0 then f else List.zipWith (fun a b => a - f.getD k 0 * b) f l := by unfold stQ; rw [e]
theorem stQ_none {ls : List (Nat × List Rat)} {k : Nat} (e : lookL ls k = none) (f : List Rat) : stQ ls k f = f := by unfold stQ; rw [e]
def restQ (ls : List (Nat × List Rat)) : Nat → List Rat → List Rat
  | 0, f => f
  | k + 1, f => stQ ls k (restQ ls k f)
structure LOk (n : Nat) (ls : List (Nat × List Rat)) : Prop where
  nd : (ls.map (·.1)).Nodup
  lt : ∀ p ∈ ls, p.1 < n
  len : ∀ p ∈ ls, p.2.length = n
  one : ∀ p ∈ ls, vv p.2 p.1 = 1
  low : ∀ p ∈ ls, ∀ j < p.1, vv p.2 j = 0
theorem LOk.nil (n : Nat) : LOk n [] := ⟨List.nodup_nil, nofun, nofun, nofun, nofun⟩
theorem zipWith_get {f l : List Rat} {g : Rat → Rat → Rat} (hl : f.length = l.length) (h0 : g 0 0 = 0) (j : Nat) : vv (List.zipWith g f l) j = g (vv f j) (vv l j) := by
  unfold vv
  rw [List.getD_eq_getElem?_getD, List.getD_eq_getElem?_getD, List.getD_eq_getElem?_getD, List.getElem?_zipWith]
  by_cases h : j < f.length
  · rw [List.getElem?_eq_getElem h, List.getElem?_eq_getElem (by omega)]; rfl
  · rw [List.getElem?_eq_none (by omega), List.getElem?_eq_none (by omega)]; exact h0.symm
theorem stQ_len {n : Nat} {ls : List (Nat × List Rat)} {k : Nat} {f : List Rat} (h : LOk n ls) (hf : f.length = n) : (stQ ls k f).length = n := by
  unfold stQ
  split
  · rename_i l e
    split
    · exact hf
    · rw [List.length_zipWith, hf, h.len _ (lookL_mem e), Nat.min_self]
  · exact hf
theorem restQ_len {n : Nat} {ls : List (Nat × List Rat)} {f : List Rat} (h : LOk n ls) (hf : f.length = n) : ∀ k, (restQ ls k f).length = n
  | 0 => hf
  | k + 1 => stQ_len h (restQ_len h hf k)
theorem vv_stQ {n : Nat} {ls : List (Nat × List Rat)} {k : Nat} {f : List Rat} (h : LOk n ls) (hf : f.length = n) : vv (stQ ls k f) = spF ls k (vv f) := by
  unfold stQ spF
  split
  · rename_i l e
    funext j
    split
    · rename_i z
      show vv f j = vv f j - vv f k * vv l j
      rw [show vv f k = 0 from z]; grind
    · rw [zipWith_get (by rw [hf, h.len _ (lookL_mem e)]) (by grind)]
      rfl
  · rfl
theorem vv_restQ {n : Nat} {ls : List (Nat × List Rat)} {f : List Rat} (h : LOk n ls) (hf : f.length = n) : ∀ k, vv (restQ ls k f) = rsF ls k (vv f)
  | 0 => rfl
  | k + 1 => by
    show vv (stQ ls k (restQ ls k f)) = spF ls k (rsF ls k (vv f))
    rw [vv_stQ h (restQ_len h hf k), vv_restQ h hf k]
theorem spF_lin (ls : List (Nat × List Rat)) (k : Nat) (a b : Nat → Rat) (c : Rat) : spF ls k (fun j => a j + c * b j) = fun j => spF ls k a j + c * spF ls k b j := by
  cases e : lookL ls k with
  | none => rw [spF_none e, spF_none e, spF_none e]
  | some l =>
    rw [spF_some e, spF_some e, spF_some e]
    funext j
    show a j + c * b j - (a k + c * b k) * vv l j = a j - a k * vv l j + c * (b j - b k * vv l j)
    grind
theorem rsF_lin (ls : List (Nat × List Rat)) (a b : Nat → Rat) (c : Rat) : ∀ k, rsF ls k (fun j => a j + c * b j) = fun j => rsF ls k a j + c * rsF ls k b j
  | 0 => rfl
  | k + 1 => by
    show spF ls k (rsF ls k _) = _
    rw [rsF_lin ls a b c k, spF_lin]
    rfl
theorem spF_zero (ls : List (Nat × List Rat)) (k : Nat) : spF ls k (fun _ => 0) = fun _ => 0 := by
  cases e : lookL ls k with
  | none => rw [spF_none e]
  | some l => rw [spF_some e]; funext j; grind
theorem rsF_zero (ls : List (Nat × List Rat)) : ∀ k, rsF ls k (fun _ => 0) = fun _ => 0
  | 0 => rfl
  | k + 1 => by
    show spF ls k (rsF ls k _) = _
    rw [rsF_zero ls k, spF_zero]
theorem rsF_lead {n : Nat} {ls : List (Nat × List Rat)} (h : LOk n ls) {p : Nat × List Rat} (hp : p ∈ ls) : ∀ k, rsF ls k (vv p.2) = if k ≤ p.1 then vv p.2 else fun _ => 0
  | 0 => by rw [if_pos (Nat.zero_le _)]; rfl
  | k + 1 => by
    show spF ls k (rsF ls k _) = _
    rw [rsF_lead h hp k]
    by_cases h1 : k + 1 ≤ p.1
    · rw [if_pos (by omega), if_pos h1]
      cases e : lookL ls k with
      | none => rw [spF_none e]
      | some l => rw [spF_some e]; funext j; rw [h.low p hp k (by omega)]; grind
    · rw [if_neg h1]
      by_cases h2 : k ≤ p.1
      · have e : k = p.1 := by omega
        subst e
        rw [if_pos h2, spF_some (lookL_some h.nd hp)]
        funext j
        rw [h.one p hp]; grind
      · rw [if_neg h2, spF_zero]
inductive Spn (P : (Nat → Rat) → Prop) : (Nat → Rat) → Prop
  | zero : Spn P (fun _ => 0)
  | step {v w : Nat → Rat} (c : Rat) : P v → Spn P w → Spn P (fun j => w j + c * v j)
theorem Spn.addm {P : (Nat → Rat) → Prop} {a b : Nat → Rat} (ha : Spn P a) (hb : Spn P b) (c : Rat) : Spn P (fun j => a j + c * b j) := by
  induction hb with
  | zero => rw [show (fun j => a j + c * (0 : Rat)) = a from funext fun j => by grind]; exact ha
  | @step v w d hv hw ih =>
    have := Spn.step (c * d) hv ih
    rw [show (fun j => a j + c * (w j + d * v j)) = (fun j => (a j + c * w j) + c * d * v j) from funext fun j => by grind]
    exact this
theorem Spn.of {P : (Nat → Rat) → Prop} {v : Nat → Rat} (h : P v) : Spn P v := by
  have := Spn.step 1 h Spn.zero
  rw [show (fun j => (0 : Rat) + 1 * v j) = v from funext fun j => by grind] at this
  exact this
theorem Spn.trans {P Q : (Nat → Rat) → Prop} {v : Nat → Rat} (h : Spn P v) (k : ∀ u, P u → Spn Q u) : Spn Q v := by
  induction h with
  | zero => exact .zero
  | step c hv hw ih => exact ih.addm (k _ hv) c
theorem Spn.mono {P Q : (Nat → Rat) → Prop} {v : Nat → Rat} (h : Spn P v) (k : ∀ u, P u → Q u) : Spn Q v := h.trans fun u hu => .of (k u hu)
theorem Spn.smul {P : (Nat → Rat) → Prop} {v : Nat → Rat} (h : Spn P v) (c : Rat) : Spn P (fun j => c * v j) := by
  have := Spn.addm .zero h c
  rw [show (fun j => (0 : Rat) + c * v j) = fun j => c * v j from funext fun j => by grind] at this
  exact this
theorem Spn.agree {P : (Nat → Rat) → Prop} {L M : (Nat → Rat) → Nat → Rat} (l0 : L (fun _ => 0) = M fun _ => 0) (l1 : ∀ a b c, L (fun j => a j + c * b j) = fun j => L a j + c * L b j) (m1 : ∀ a b c, M (fun j => a j + c * b j) = fun j => M a j + c * M b j)
    (h : ∀ v, P v → L v = M v) {v : Nat → Rat} (hv : Spn P v) : L v = M v := by
  induction hv with
  | zero => exact l0
  | step c hv hw ih => rw [l1, m1, ih, h _ hv]
theorem Spn.image {P Q : (Nat → Rat) → Prop} {L : (Nat → Rat) → Nat → Rat} (l0 : L (fun _ => 0) = fun _ => 0) (l1 : ∀ a b c, L (fun j => a j + c * b j) = fun j => L a j + c * L b j) (h : ∀ v, P v → Spn Q (L v)) {v : Nat → Rat} (hv : Spn P v) : Spn Q (L v) := by
  induction hv with
  | zero => rw [l0]; exact .zero
  | step c hv hw ih => rw [l1]; exact ih.addm (h _ hv) c
def LP (ls : List (Nat × List Rat)) (v : Nat → Rat) : Prop := ∃ p ∈ ls, v = vv p.2
theorem rsF_kill {n : Nat} {ls : List (Nat × List Rat)} (h : LOk n ls) {v : Nat → Rat} (hv : Spn (LP ls) v) : rsF ls n v = fun _ => 0 := by
  refine Spn.agree (L := rsF ls n) (M := fun _ _ => 0) (rsF_zero ls n) (fun a b c => rsF_lin ls a b c n) (fun a b c => by funext j; grind) (fun v hv => ?_) hv
  obtain ⟨p, hp, rfl⟩ := hv
  rw [rsF_lead h hp, if_neg (by have := h.lt p hp; omega)]
theorem rsF_diff (ls : List (Nat × List Rat)) (v : Nat → Rat) : ∀ k, Spn (LP ls) (fun j => v j - rsF ls k v j)
  | 0 => by rw [show (fun j => v j - rsF ls 0 v j) = fun _ => 0 from funext fun j => by show v j - v j = 0; grind]; exact .zero
  | k + 1 => by
    have ih := rsF_diff ls v k
    cases e : lookL ls k with
    | none =>
      have : rsF ls (k + 1) v = rsF ls k v := by show spF ls k _ = _; unfold spF; rw [e]
      rw [this]; exact ih
    | some l =>
      have e2 : rsF ls (k + 1) v = fun j => rsF ls k v j - rsF ls k v k * vv l j := by show spF ls k _ = _; unfold spF; rw [e]
      have := Spn.step (rsF ls k v k) ⟨_, lookL_mem e, rfl⟩ ih
      rw [e2, show (fun j => v j - (rsF ls k v j - rsF ls k v k * vv l j)) = fun j => (v j - rsF ls k v j) + rsF ls k v k * vv l j from funext fun j => by grind]
      exact this
theorem rest_iff {n : Nat} {ls : List (Nat × List Rat)} (h : LOk n ls) {v : Nat → Rat} : (rsF ls n v = fun _ => 0) ↔ Spn (LP ls) v := by
  refine ⟨fun e => ?_, rsF_kill h⟩
  have := rsF_diff ls v n
  rw [e, show (fun j => v j - (0 : Rat)) = v from funext fun j => by grind] at this
  exact this
theorem rsF_piv {n : Nat} {ls : List (Nat × List Rat)} (h : LOk n ls) (v : Nat → Rat) {p : Nat × List Rat} (hp : p ∈ ls) : ∀ k, p.1 < k → rsF ls k v p.1 = 0
  | 0, hk => by omega
  | k + 1, hk => by
    show spF ls k (rsF ls k v) p.1 = 0
    by_cases e : p.1 = k
    · subst e
      rw [spF_some (lookL_some h.nd hp)]
      show rsF ls p.1 v p.1 - rsF ls p.1 v p.1 * vv p.2 p.1 = 0
      rw [h.one p hp]; grind
    · have ih := rsF_piv h v hp k (by omega)
      cases el : lookL ls k with
      | none => rw [spF_none el]; exact ih
      | some l =>
        rw [spF_some el]
        show rsF ls k v p.1 - rsF ls k v k * vv l p.1 = 0
        rw [ih, h.low _ (lookL_mem el) p.1 (by show p.1 < k; omega)]; grind
def firstNZ : List Rat → Nat → Option Nat
  | [], _ => none
  | q :: r, k => if q = 0 then firstNZ r (k + 1) else some k
theorem firstNZ_none : ∀ {f : List Rat} {k : Nat}, firstNZ f k = none → ∀ q ∈ f, q = 0
  | [], _, _, q, hq => by cases hq
  | a :: f, k, h, q, hq => by
    unfold firstNZ at h
    by_cases z : a = 0
    · rw [if_pos z] at h
      rcases List.mem_cons.mp hq with y | y
      · rw [y]; exact z
      · exact firstNZ_none h q y
    · rw [if_neg z] at h; cases h
theorem firstNZ_some : ∀ {f : List Rat} {k e : Nat}, firstNZ f k = some e → k ≤ e ∧ e < k + f.length ∧ vv f (e - k) ≠ 0 ∧ ∀ j < e - k, vv f j = 0
  | [], _, _, h => by cases h
  | a :: f, k, e, h => by
    unfold firstNZ at h
    by_cases z : a = 0
    · rw [if_pos z] at h
      obtain ⟨h1, h2, h3, h4⟩ := firstNZ_some h
      have s : e - k = (e - (k + 1)) + 1 := by omega
      refine ⟨by omega, by rw [List.length_cons]; omega, by rw [s]; exact h3, fun j hj => ?_⟩
      cases j with
      | zero => exact z
      | succ j => exact h4 j (by omega)
    · rw [if_neg z] at h
      cases h
      rw [Nat.sub_self]
      exact ⟨Nat.le_refl _, by rw [List.length_cons]; omega, z, fun j hj => by omega⟩
theorem vv_zero {f : List Rat} (h : ∀ q ∈ f, q = 0) : vv f = fun _ => 0 := by
  funext j
  unfold vv
  rw [List.getD_eq_getElem?_getD]
  cases e : f[j]? with
  | none => rfl
  | some q => exact h q (List.mem_of_getElem? e)
def putQ (n : Nat) (ls : List (Nat × List Rat)) (row : List Rat) : List (Nat × List Rat) := match firstNZ (restQ ls n row) 0 with
  | some e => ls ++ [(e, (restQ ls n row).map fun q => q / vv (restQ ls n row) e)]
  | none => ls
def newQ (n : Nat) (ls : List (Nat × List Rat)) (row : List Rat) : Bool := (firstNZ (restQ ls n row) 0).isSome
theorem vv_map (f : List Rat) (c : Rat) (j : Nat) : vv (f.map fun q => q / c) j = vv f j / c := by
  unfold vv
  rw [List.getD_eq_getElem?_getD, List.getD_eq_getElem?_getD, List.getElem?_map]
  cases f[j]? with
  | none => show (0 : Rat) = 0 / c; grind
  | some q => rfl
theorem put_ok {n : Nat} {ls : List (Nat × List Rat)} {row : List Rat} (h : LOk n ls) (hr : row.length = n) : LOk n (putQ n ls row) := by
  unfold putQ
  split
  · rename_i e he
    obtain ⟨_, h2, h3, h4⟩ := firstNZ_some he
    rw [Nat.sub_zero] at h3 h4
    rw [restQ_len h hr] at h2
    have hv := vv_restQ h hr n
    have fresh : ∀ p ∈ ls, p.1 ≠ e := fun p hp z => by
      have := rsF_piv h (vv row) hp n (h.lt p hp)
      rw [← hv, z] at this
      exact h3 this
    refine ⟨?_, fun p hp => ?_, fun p hp => ?_, fun p hp => ?_, fun p hp j hj => ?_⟩
    · rw [List.map_append, List.nodup_append]
      refine ⟨h.nd, by simp, fun a ha b hb => ?_⟩
      obtain ⟨p, hp, rfl⟩ := List.mem_map.mp ha
      have : b = e := by simpa using hb
      rw [this]; exact fresh p hp
    all_goals
      rcases List.mem_append.mp hp with z | z
    · exact h.lt p z
    · rw [List.mem_singleton.mp z]; show e < n; omega
    · exact h.len p z
    · rw [List.mem_singleton.mp z]; show (List.map _ _).length = n; rw [List.length_map, restQ_len h hr]
    · exact h.one p z
    · rw [List.mem_singleton.mp z]; show vv (List.map _ _) e = 1; rw [vv_map, Rat.div_def]; exact Rat.mul_inv_cancel _ h3
    · exact h.low p z j hj
    · rw [List.mem_singleton.mp z] at hj ⊢; show vv (List.map _ _) j = 0; rw [vv_map, h4 j hj]; grind
  · exact h
theorem new_iff {n : Nat} {ls : List (Nat × List Rat)} {row : List Rat} (h : LOk n ls) (hr : row.length = n) : newQ n ls row = false ↔ Spn (LP ls) (vv row) := by
  unfold newQ
  rw [← rest_iff h, ← vv_restQ h hr n]
  constructor
  · intro e
    refine vv_zero (firstNZ_none (k := 0) ?_)
    cases hf : firstNZ (restQ ls n row) 0 with
    | none => rfl
    | some x => rw [hf] at e; cases e
  · intro e
    cases hf : firstNZ (restQ ls n row) 0 with
    | none => rfl
    | some x =>
      have := (firstNZ_some hf).2.2.1
      rw [e] at this
      exact (this rfl).elim
theorem put_old {n : Nat} {ls : List (Nat × List Rat)} {row : List Rat} (e : newQ n ls row = false) : putQ n ls row = ls := by
  unfold newQ at e
  unfold putQ
  split
  · rename_i x hx; rw [hx] at e; cases e
  · rfl
theorem put_len {n : Nat} {ls : List (Nat × List Rat)} {row : List Rat} : (putQ n ls row).length = ls.length + (if newQ n ls row then 1 else 0) := by
  unfold newQ putQ
  split
  · rename_i x hx; rw [hx]; simp
  · rename_i hx; rw [hx]; simp
theorem put_sub {n : Nat} {ls : List (Nat × List Rat)} {row : List Rat} {v : Nat → Rat} (h : Spn (LP ls) v) : Spn (LP (putQ n ls row)) v := h.mono fun u ⟨p, hp, e⟩ => by
  refine ⟨p, ?_, e⟩
  unfold putQ
  split
  · exact List.mem_append_left _ hp
  · exact hp
theorem put_row {n : Nat} {ls : List (Nat × List Rat)} {row : List Rat} (h : LOk n ls) (hr : row.length = n) : Spn (LP (putQ n ls row)) (vv row) := by
  have d := put_sub (n := n) (row := row) (rsF_diff ls (vv row) n)
  cases e : newQ n ls row with
  | false => exact put_sub ((new_iff h hr).mp e)
  | true =>
    unfold newQ at e
    cases hf : firstNZ (restQ ls n row) 0 with
    | none => rw [hf] at e; cases e
    | some x =>
      have h3 := (firstNZ_some hf).2.2.1
      rw [Nat.sub_zero] at h3
      have := Spn.step (P := LP (putQ n ls row)) (v := vv ((restQ ls n row).map fun q => q / vv (restQ ls n row) x)) (vv (restQ ls n row) x) ⟨(x, _), by unfold putQ; rw [hf]; exact List.mem_append_right _ (List.mem_singleton.mpr rfl), rfl⟩ d
      refine (?_ : _ = vv row) ▸ this
      funext j
      rw [vv_map, ← vv_restQ h hr n]
      grind
theorem put_lead {n : Nat} {ls : List (Nat × List Rat)} {row : List Rat} (h : LOk n ls) (hr : row.length = n) {P : (Nat → Rat) → Prop} (h1 : ∀ p ∈ ls, Spn P (vv p.2)) (h2 : Spn P (vv row)) : ∀ p ∈ putQ n ls row, Spn P (vv p.2) := fun p hp => by
  unfold putQ at hp
  split at hp
  · rename_i x hx
    rcases List.mem_append.mp hp with z | z
    · exact h1 p z
    · rw [List.mem_singleton.mp z]
      have d : Spn P (fun j => vv row j - rsF ls n (vv row) j) := (rsF_diff ls (vv row) n).trans fun u ⟨q, hq, e⟩ => e ▸ h1 q hq
      have f := (h2.addm d (-1)).smul (1 / vv (restQ ls n row) x)
      refine (?_ : _ = vv ((restQ ls n row).map fun q => q / vv (restQ ls n row) x)) ▸ f
      funext j
      rw [vv_map, ← vv_restQ h hr n]
      grind
  · exact h1 p hp
theorem nodup_lt : ∀ (n : Nat) (xs : List Nat), xs.Nodup → (∀ x ∈ xs, x < n) → xs.length ≤ n
  | 0, [], _, _ => Nat.le_refl _
  | 0, x :: xs, _, h => by have := h x (List.mem_cons_self ..); omega
  | n + 1, xs, hn, h => by
    by_cases c : n ∈ xs
    · have h1 := nodup_lt n (xs.erase n) (hn.erase n) fun x hx => by
        have h2 := (hn.mem_erase_iff).mp hx
        have := h x h2.2
        have := h2.1
        omega
      rw [List.length_erase_of_mem c] at h1
      omega
    · have h1 := nodup_lt n xs hn fun x hx => by
        have h3 := h x hx
        have : x ≠ n := fun z => c (z ▸ hx)
        omega
      omega
theorem LOk.len_le {n : Nat} {ls : List (Nat × List Rat)} (h : LOk n ls) : ls.length ≤ n := by
  have := nodup_lt n (ls.map (·.1)) h.nd fun x hx => by
    obtain ⟨p, hp, rfl⟩ := List.mem_map.mp hx
    exact h.lt p hp
  rwa [List.length_map] at this
theorem forL_rng' {g : MG} {wp : List Nat} {b : MS} {enc : Nat → PyData} {F : Nat → List Slot → List Slot} {R : Nat → List Slot} : ∀ {len s : Nat}, (∀ k, s ≤ k → k < s + len → g (enc k) = some (F k)) → (∀ k, s ≤ k → k < s + len → ∃ ρ', b (F k (R k)) = .nx ρ' ∧ wipeS ρ' wp = R (k + 1)) →
    forL g wp b ((List.range' s len).map enc) (R s) = .nx (R (s + len))
  | 0, s, _, _ => rfl
  | len + 1, s, h1, h2 => by
    obtain ⟨ρ', e1, e2⟩ := h2 s (Nat.le_refl _) (by omega)
    have ih := forL_rng' (len := len) (s := s + 1) (fun k a b => h1 k (by omega) (by omega)) (fun k a b => h2 k (by omega) (by omega))
    rw [List.range'_succ, List.map_cons, forL_cons, h1 s (Nat.le_refl _) (by omega)]
    simp only [e1, e2, ih]
    rw [show s + 1 + len = s + (len + 1) by omega]
theorem forL_rng {g : MG} {wp : List Nat} {b : MS} {enc : Nat → PyData} {F : Nat → List Slot → List Slot} (R : Nat → List Slot) {n : Nat} (h1 : ∀ k, k < n → g (enc k) = some (F k)) (h2 : ∀ k, k < n → ∃ ρ', b (F k (R k)) = .nx ρ' ∧ wipeS ρ' wp = R (k + 1)) :
    forL g wp b ((List.range n).map enc) (R 0) = .nx (R n) := by
  rw [List.range_eq_range']
  have := forL_rng' (R := R) (len := n) (s := 0) (fun k _ b => h1 k (by omega)) (fun k _ b => h2 k (by omega))
  rw [Nat.zero_add] at this
  exact this
def GV (d e : Nat) (l : List Rat) : Prop := ∃ D N : Nat, 0 < D ∧ D < 2 ^ d ∧ N < 2 ^ e ∧ ∀ q ∈ l, ∃ z : Int, q * (D : Rat) = (z : Rat) ∧ z.natAbs ≤ N
theorem gi_sz {q : Rat} {D : Nat} {z : Int} {d e n : Nat} (hD : 0 < D) (h : q * (D : Rat) = (z : Rat)) (hd : D < 2 ^ d) (hz : z.natAbs < 2 ^ e) (h1 : d ≤ n) (h2 : e ≤ n) : Sz n q := by
  have hd0 := natR_ne hD
  have eq : q = Rat.divInt z (D : Int) := by
    rw [Rat.divInt_eq_div, Rat.intCast_natCast, ← h, Rat.mul_div_cancel hd0]
  rw [eq]
  refine sz_divInt (by omega) ?_ ?_
  · exact Nat.lt_of_lt_of_le hz (Nat.pow_le_pow_right (by decide) h2)
  · show ((D : Int)).natAbs < 2 ^ n
    rw [Int.natAbs_natCast]
    exact Nat.lt_of_lt_of_le hd (Nat.pow_le_pow_right (by decide) h1)
theorem GV.sz {d e n : Nat} {l : List Rat} (h : GV d e l) (h1 : d ≤ n) (h2 : e ≤ n) : ∀ q ∈ l, Sz n q := fun q hq => by
  obtain ⟨D, N, a, b, c, g⟩ := h
  obtain ⟨z, g1, g2⟩ := g q hq
  exact gi_sz a g1 b (Nat.lt_of_le_of_lt g2 c) h1 h2
theorem GV.mono {d e d' e' : Nat} {l : List Rat} (h : GV d e l) (h1 : d ≤ d') (h2 : e ≤ e') : GV d' e' l := by
  obtain ⟨D, N, a, b, c, g⟩ := h
  exact ⟨D, N, a, Nat.lt_of_lt_of_le b (Nat.pow_le_pow_right (by decide) h1), Nat.lt_of_lt_of_le c (Nat.pow_le_pow_right (by decide) h2), g⟩
theorem VB.gv {d e : Nat} {l : List Rat} (h : VB d e l) : GV d e l := by
  obtain ⟨D, N, a, b, c, g⟩ := h
  refine ⟨D, N, a, b, c, fun q hq => ?_⟩
  obtain ⟨z, g1, g2⟩ := g q hq
  exact ⟨(z : Int), by rw [g1, Rat.intCast_natCast], by rw [Int.natAbs_natCast]; exact g2⟩
theorem vv_mem {l : List Rat} {k : Nat} (h : k < l.length) : vv l k ∈ l := by
  unfold vv
  rw [List.getD_eq_getElem?_getD, List.getElem?_eq_getElem h]
  exact List.getElem_mem h
theorem GV.sub {d e b : Nat} {f l : List Rat} {k : Nat} (hf : GV d e f) (hl : GV b b l) (hk : k < f.length) : GV (d + b) (e + b + 1) (List.zipWith (fun x y => x - f.getD k 0 * y) f l) := by
  obtain ⟨D, N, a1, a2, a3, a4⟩ := hf
  obtain ⟨D', N', b1, b2, b3, b4⟩ := hl
  have h2 : (2 : Nat) ^ (b + 1) = 2 ^ b * 2 := Nat.pow_succ ..
  refine ⟨D * D', N * (D' + N'), Nat.mul_pos a1 b1, ?_, ?_, fun q hq => ?_⟩
  · rw [Nat.pow_add]; exact Nat.mul_lt_mul'' a2 b2
  · rw [show e + b + 1 = e + (b + 1) from rfl, Nat.pow_add]
    exact Nat.mul_lt_mul'' a3 (by omega)
  · obtain ⟨i, hi, rfl⟩ := List.getElem_of_mem hq
    rw [List.length_zipWith] at hi
    rw [List.getElem_zipWith]
    obtain ⟨x, x1, x2⟩ := a4 _ (List.getElem_mem (show i < f.length by omega))
    obtain ⟨y, y1, y2⟩ := b4 _ (List.getElem_mem (show i < l.length by omega))
    obtain ⟨z, z1, z2⟩ := a4 _ (vv_mem hk)
    refine ⟨x * (D' : Int) - z * y, ?_, ?_⟩
    · rw [Rat.natCast_mul, Rat.intCast_sub, Rat.intCast_mul, Rat.intCast_mul, Rat.intCast_natCast, ← x1, ← y1, ← z1]
      show (f[i] - vv f k * l[i]) * ((D : Rat) * (D' : Rat)) = _
      grind
    · have t1 : (x * (D' : Int) - z * y).natAbs ≤ (x * (D' : Int)).natAbs + (z * y).natAbs := by omega
      rw [Int.natAbs_mul, Int.natAbs_mul, Int.natAbs_natCast] at t1
      have t2 := Nat.mul_le_mul_right D' x2
      have t3 := Nat.mul_le_mul z2 y2
      rw [Nat.mul_add]
      omega
theorem GV.div {d e : Nat} {f : List Rat} {k : Nat} (hf : GV d e f) (hk : k < f.length) (h0 : vv f k ≠ 0) : GV e e (f.map fun q => q / vv f k) := by
  obtain ⟨D, N, a1, a2, a3, a4⟩ := hf
  obtain ⟨z, z1, z2⟩ := a4 _ (vv_mem hk)
  have hD := natR_ne a1
  have hz : z ≠ 0 := fun e => by
    rw [e, Rat.intCast_zero] at z1
    rcases Rat.mul_eq_zero.mp z1 with y | y
    · exact h0 y
    · exact hD y
  refine ⟨z.natAbs, N, by omega, by omega, a3, fun q hq => ?_⟩
  obtain ⟨x, hx, rfl⟩ := List.mem_map.mp hq
  obtain ⟨y, y1, y2⟩ := a4 x hx
  have key : x / vv f k * (z : Rat) = (y : Rat) := by
    rw [← z1, ← y1, Rat.div_def]
    have := Rat.mul_inv_cancel _ h0
    grind
  rcases Int.natAbs_eq z with e | e
  · refine ⟨y, ?_, y2⟩
    rw [← key]
    congr 1
    rw [← Rat.intCast_natCast]
    exact congrArg _ e.symm
  · refine ⟨-y, ?_, by rw [Int.natAbs_neg]; exact y2⟩
    rw [Rat.intCast_neg, ← key]
    have e2 : ((z.natAbs : Nat) : Rat) = -(z : Rat) := by
      rw [← Rat.intCast_natCast, ← Rat.intCast_neg]
      congr 1
      omega
    rw [e2]; grind
def LB (b : Nat) (ls : List (Nat × List Rat)) : Prop := ∀ p ∈ ls, GV b b p.2
theorem GV.st {n d e b : Nat} {ls : List (Nat × List Rat)} {f : List Rat} {k : Nat} (hf : GV d e f) (hl : LB b ls) (hk : k < f.length) : GV (d + b) (e + b + 1) (stQ ls k f) := by
  unfold stQ
  split
  · rename_i l el
    split
    · exact hf.mono (by omega) (by omega)
    · exact hf.sub (hl _ (lookL_mem el)) hk
  · exact hf.mono (by omega) (by omega)
theorem GV.rest {n d e b : Nat} {ls : List (Nat × List Rat)} {f : List Rat} (h : LOk n ls) (hn : f.length = n) (hf : GV d e f) (hl : LB b ls) : ∀ k, k ≤ n → GV (d + k * b) (e + k * (b + 1)) (restQ ls k f)
  | 0, _ => by rw [Nat.zero_mul, Nat.zero_mul]; exact hf
  | k + 1, hk => by
    have := (GV.rest h hn hf hl k (by omega)).st (n := n) hl (k := k) (by rw [restQ_len h hn]; omega)
    rw [Nat.succ_mul, Nat.succ_mul]
    exact this.mono (by omega) (by omega)
def be : Nat → Nat
  | 0 => 0
  | k + 1 => 1005 + 5 * be k
theorem be_le {k : Nat} (h : k ≤ 5) : be k ≤ 784905 := by
  have : k = 0 ∨ k = 1 ∨ k = 2 ∨ k = 3 ∨ k = 4 ∨ k = 5 := by omega
  rcases this with e | e | e | e | e | e <;> rw [e] <;> decide
structure SpanOk (n : Nat) (ls : List (Nat × List Rat)) : Prop where
  hn : n ≤ 5
  ok : LOk n ls
  lb : LB (be ls.length) ls
structure RowG (n : Nat) (row : List Rat) : Prop where
  len : row.length = n
  gv : GV 1000 1000 row
theorem SpanOk.nil {n : Nat} (h : n ≤ 5) : SpanOk n [] := ⟨h, .nil n, nofun⟩
theorem SpanOk.k5 {n : Nat} {ls : List (Nat × List Rat)} (h : SpanOk n ls) : ls.length ≤ 5 := Nat.le_trans h.ok.len_le h.hn
theorem SpanOk.rest {n : Nat} {ls : List (Nat × List Rat)} {row : List Rat} (h : SpanOk n ls) (hr : RowG n row) (k : Nat) (hk : k ≤ n) : GV (1000 + 5 * be ls.length) (1005 + 5 * be ls.length) (restQ ls k row) := by
  have := GV.rest h.ok hr.len hr.gv h.lb k hk
  have h5 := h.hn
  have m1 : k * be ls.length ≤ 5 * be ls.length := Nat.mul_le_mul_right _ (by omega)
  exact this.mono (by omega) (by rw [Nat.mul_add]; omega)
theorem SpanOk.rsz {n : Nat} {ls : List (Nat × List Rat)} {row : List Rat} (h : SpanOk n ls) (hr : RowG n row) (k : Nat) (hk : k ≤ n) : ∀ q ∈ restQ ls k row, Sz 4000000 q := by
  have := be_le h.k5
  exact (h.rest hr k hk).sz (by omega) (by omega)
theorem SpanOk.lsz {n : Nat} {ls : List (Nat × List Rat)} (h : SpanOk n ls) {p : Nat × List Rat} (hp : p ∈ ls) : ∀ q ∈ p.2, Sz 800000 q := by
  have := be_le h.k5
  exact (h.lb p hp).sz (by omega) (by omega)
theorem SpanOk.put {n : Nat} {ls : List (Nat × List Rat)} {row : List Rat} (h : SpanOk n ls) (hr : RowG n row) : SpanOk n (putQ n ls row) := by
  refine ⟨h.hn, put_ok h.ok hr.len, fun p hp => ?_⟩
  have hl := put_len (n := n) (ls := ls) (row := row)
  unfold newQ at hl
  unfold putQ at hp hl ⊢
  split at hp
  · rename_i x hx
    rw [hx] at hl
    simp only at hl ⊢
    rw [hl]
    show GV (1005 + 5 * be ls.length) (1005 + 5 * be ls.length) p.2
    rcases List.mem_append.mp hp with z | z
    · exact (h.lb p z).mono (by omega) (by omega)
    · rw [List.mem_singleton.mp z]
      obtain ⟨_, h2, h3, _⟩ := firstNZ_some hx
      rw [Nat.sub_zero] at h3
      rw [Nat.zero_add] at h2
      exact (h.rest hr n (Nat.le_refl _)).div h2 h3
  · rename_i hx
    exact h.lb p hp
def leadsE (ls : List (Nat × List Rat)) : List (Key × PyData) := ls.map fun p => (dkey p.1, .list (p.2.map encR))
theorem get_leads (k : Nat) : ∀ ls : List (Nat × List Rat), getD? (.inl (k : Int)) (leadsE ls) = (lookL ls k).map fun l => .list (l.map encR)
  | [] => rfl
  | p :: ls => by
    show (if dkey p.1 = .inl (k : Int) then some (PyData.list (p.2.map encR)) else getD? (.inl (k : Int)) (leadsE ls)) = _
    unfold lookL
    by_cases z : p.1 = k
    · rw [if_pos (by unfold dkey; rw [z]), if_pos z]; rfl
    · rw [if_neg (fun w => z (by unfold dkey at w; have := Sum.inl.inj w; omega)), if_neg z]
      exact get_leads k ls
theorem at_vv {f : List Rat} {k : Nat} (h : k < f.length) : atI (f.map encR) (k : Int) = some (encR (vv f k)) := by
  rw [atI_nat (by rw [List.length_map]; exact h), List.getElem_map]
  unfold vv
  rw [List.getD_eq_getElem?_getD, List.getElem?_eq_getElem h]
  rfl
theorem zip_sub (g : Rat → Rat → Rat) : ∀ (f l : List Rat), ((f.zip l).map fun p => encR (g p.1 p.2)) = (List.zipWith g f l).map encR
  | [], _ => rfl
  | _ :: _, [] => rfl
  | a :: f, b :: l => by
    rw [List.zip_cons_cons, List.map_cons, List.zipWith_cons_cons, List.map_cons, zip_sub g f l]
abbrev spanF (ls : List (Nat × List Rat)) : List Fd := [.own (.dct (leadsE ls))]
theorem z_rest_turn {n k : Nat} {ls : List (Nat × List Rat)} {f : List Rat} {df : PyData} (h : LOk n ls) (hf : f.length = n) (hn : n ≤ 5) (hk : k < n) (s1 : ∀ q ∈ f, Sz 4000000 q) (s2 : ∀ p ∈ ls, ∀ q ∈ p.2, Sz 800000 q) :
    ∃ ρ', b1_Span_rest [.rob ⟨1, none, spanF ls⟩, .dat df, .own (.lst (f.map encR)), .dat (natD k), .no, .no, .no] = .nx ρ' ∧ wipeS ρ' [3, 4] = [.rob ⟨1, none, spanF ls⟩, .dat df, .own (.lst ((stQ ls k f).map encR)), .no, .no, .no, .no] := by
  have ha := at_vv (f := f) (k := k) (by omega)
  have gl := get_leads k ls
  cases e : lookL ls k with
  | none =>
    rw [stQ_none e]
    rw [e] at gl
    have gl : getD? (.inl (k : Int)) (leadsE ls) = none := gl
    by_cases z : vv f k = 0
    · refine ⟨_, by simp only [zR0, zR1, zR2, zR3, zR4, zR5, zR6, zR7, slotsM, kFor_a, Rz.bind_ok, Rz.of_some, Rz.calm_ok, Option.bind_some, Option.bind_none, slots, sel, Arg.get, List.filterMap_cons, List.filterMap_nil, List.length_cons, List.length_nil, List.map_cons, List.map_nil, List.cons_append, List.nil_append, List.append_nil, List.getElem?_cons_succ, List.getElem?_cons_zero, List.getElem?_nil, List.set_cons_zero, List.set_cons_succ, List.set_nil, List.replicate_succ, List.replicate_zero, if_true, Nat.sub_self, Nat.reduceAdd, Nat.reduceSub, Nat.reduceLeDiff, Nat.reduceEqDiff, Nat.reduceLT, Int.reduceLT, Int.reduceLE, Int.reduceNeg, Int.reduceEq, Nat.zero_add, and_self, if_false, Bool.not_true, Bool.not_false, Bool.false_eq_true, Nat.zero_le, decide_true, decide_false, reduceCtorEq, b1_Span_rest_a, natD, ha, decide_eq_true z, gl, Option.isSome_none]; rfl, rfl⟩
    · refine ⟨_, by simp only [zR0, zR1, zR2, zR3, zR4, zR5, zR6, zR7, slotsM, kFor_a, Rz.bind_ok, Rz.of_some, Rz.calm_ok, Option.bind_some, Option.bind_none, slots, sel, Arg.get, List.filterMap_cons, List.filterMap_nil, List.length_cons, List.length_nil, List.map_cons, List.map_nil, List.cons_append, List.nil_append, List.append_nil, List.getElem?_cons_succ, List.getElem?_cons_zero, List.getElem?_nil, List.set_cons_zero, List.set_cons_succ, List.set_nil, List.replicate_succ, List.replicate_zero, if_true, Nat.sub_self, Nat.reduceAdd, Nat.reduceSub, Nat.reduceLeDiff, Nat.reduceEqDiff, Nat.reduceLT, Int.reduceLT, Int.reduceLE, Int.reduceNeg, Int.reduceEq, Nat.zero_add, and_self, if_false, Bool.not_true, Bool.not_false, Bool.false_eq_true, Nat.zero_le, decide_true, decide_false, reduceCtorEq, b1_Span_rest_a, natD, ha, decide_eq_false z, gl, Option.isSome_none]; rfl, rfl⟩
  | some l =>
    rw [stQ_some e]
    rw [e] at gl
    have gl : getD? (.inl (k : Int)) (leadsE ls) = some (.list (l.map encR)) := gl
    by_cases z : vv f k = 0
    · rw [if_pos (show f.getD k 0 = 0 from z)]
      refine ⟨_, by simp only [zR0, zR1, zR2, zR3, zR4, zR5, zR6, zR7, slotsM, kFor_a, Rz.bind_ok, Rz.of_some, Rz.calm_ok, Option.bind_some, Option.bind_none, slots, sel, Arg.get, List.filterMap_cons, List.filterMap_nil, List.length_cons, List.length_nil, List.map_cons, List.map_nil, List.cons_append, List.nil_append, List.append_nil, List.getElem?_cons_succ, List.getElem?_cons_zero, List.getElem?_nil, List.set_cons_zero, List.set_cons_succ, List.set_nil, List.replicate_succ, List.replicate_zero, if_true, Nat.sub_self, Nat.reduceAdd, Nat.reduceSub, Nat.reduceLeDiff, Nat.reduceEqDiff, Nat.reduceLT, Int.reduceLT, Int.reduceLE, Int.reduceNeg, Int.reduceEq, Nat.zero_add, and_self, if_false, Bool.not_true, Bool.not_false, Bool.false_eq_true, Nat.zero_le, decide_true, decide_false, reduceCtorEq, b1_Span_rest_a, natD, ha, decide_eq_true z, gl, Option.isSome_some]; rfl, rfl⟩
    · rw [if_neg (show ¬ f.getD k 0 = 0 from z)]
      have ll : l.length = n := h.len _ (lookL_mem e)
      have sl := s2 _ (lookL_mem e)
      have sk := s1 _ (vv_mem (show k < f.length by omega))
      have hz : zipO true [.list (f.map encR), .list (l.map encR)] = some ((f.zip l).map fun p => .tuple [encR p.1, encR p.2]) := by
        rw [zipO_t (ds := f.map encR) (es := l.map encR) rfl rfl (by rw [List.length_map, List.length_map]; omega), zipD_map]
      have hlc : ((f.zip l).map fun p : Rat × Rat => PyData.tuple [encR p.1, encR p.2]).length ≤ 1000000 := by rw [List.length_map, List.length_zip]; omega
      have lc : ∀ a : Slot, lcL (gT 2 (gsC (gN 5) (gsC (gN 6) gs0))) yYes (xFc d_less (zCons (xV 5) (zCons (xFc d_times (zCons (xV 4) (zCons (xV 6) zNil))) zNil))) [.rob ⟨1, none, spanF ls⟩, .dat df, .dat (.list (f.map encR)), a, .dat (encR (vv f k)), .no, .no] ((f.zip l).map fun p => .tuple [encR p.1, encR p.2]) = .ok ((List.zipWith (fun a b => a - f.getD k 0 * b) f l).map encR) := fun a => by
        rw [← zip_sub]
        exact lcL_map (F := fun p ρ => (ρ.set 5 (.dat (encR p.1))).set 6 (.dat (encR p.2))) (fun p _ => rfl) (fun p _ => rfl) (fun p hp => by
          have t1 := z_times sk (sl _ (List.of_mem_zip hp).2) (by decide)
          have t2 := z_less (s1 _ (List.of_mem_zip hp).1) (sz_mul sk (sl _ (List.of_mem_zip hp).2)) (by decide)
          simp only [zR0, zR1, zR2, zR3, zR4, zR5, zR6, zR7, slotsM, kFor_a, Rz.bind_ok, Rz.of_some, Rz.calm_ok, Option.bind_some, Option.bind_none, slots, sel, Arg.get, List.filterMap_cons, List.filterMap_nil, List.length_cons, List.length_nil, List.map_cons, List.map_nil, List.cons_append, List.nil_append, List.append_nil, List.getElem?_cons_succ, List.getElem?_cons_zero, List.getElem?_nil, List.set_cons_zero, List.set_cons_succ, List.set_nil, List.replicate_succ, List.replicate_zero, if_true, Nat.sub_self, Nat.reduceAdd, Nat.reduceSub, Nat.reduceLeDiff, Nat.reduceEqDiff, Nat.reduceLT, Int.reduceLT, Int.reduceLE, Int.reduceNeg, Int.reduceEq, Nat.zero_add, and_self, if_false, Bool.not_true, Bool.not_false, Bool.false_eq_true, Nat.zero_le, decide_true, decide_false, reduceCtorEq, t1, t2]
          rfl)
      refine ⟨_, by simp only [zR0, zR1, zR2, zR3, zR4, zR5, zR6, zR7, slotsM, kFor_a, Rz.bind_ok, Rz.of_some, Rz.calm_ok, Option.bind_some, Option.bind_none, slots, sel, Arg.get, List.filterMap_cons, List.filterMap_nil, List.length_cons, List.length_nil, List.map_cons, List.map_nil, List.cons_append, List.nil_append, List.append_nil, List.getElem?_cons_succ, List.getElem?_cons_zero, List.getElem?_nil, List.set_cons_zero, List.set_cons_succ, List.set_nil, List.replicate_succ, List.replicate_zero, if_true, Nat.sub_self, Nat.reduceAdd, Nat.reduceSub, Nat.reduceLeDiff, Nat.reduceEqDiff, Nat.reduceLT, Int.reduceLT, Int.reduceLE, Int.reduceNeg, Int.reduceEq, Nat.zero_add, and_self, if_false, Bool.not_true, Bool.not_false, Bool.false_eq_true, Nat.zero_le, decide_true, decide_false, reduceCtorEq, b1_Span_rest_a, natD, ha, decide_eq_false z, gl, Option.isSome_some, hz, if_pos hlc, lc]; rfl, rfl⟩
theorem z_rest {n : Nat} {ls : List (Nat × List Rat)} {row : List Rat} {df : PyData} (h : SpanOk n ls) (hr : RowG n row) (hd : df = .list (row.map encR) ∨ df = .tuple (row.map encR)) : d_Span_rest (spanF ls) [df] = .ok (.list ((restQ ls n row).map encR)) := by
  have h5 := h.hn
  have hl : zList [df] = some (row.map encR) := by rcases hd with rfl | rfl <;> rfl
  have loop := forL_rng (g := gN 3) (wp := [3, 4]) (b := b1_Span_rest) (enc := natD) (F := fun k ρ => ρ.set 3 (.dat (natD k))) (fun k => [.rob ⟨1, none, spanF ls⟩, .dat df, .own (.lst ((restQ ls k row).map encR)), .no, .no, .no, .no]) (n := n) (fun k _ => rfl)
    (fun k hk => z_rest_turn h.ok (restQ_len h.ok hr.len k) h5 hk (h.rsz hr k (by omega)) (fun p hp => h.lsz hp))
  have loop : forL (gN 3) [3, 4] b1_Span_rest ((List.range n).map natD) [.rob ⟨1, none, spanF ls⟩, .dat df, .own (.lst (row.map encR)), .no, .no, .no, .no] = _ := loop
  have hrn : rng1 [.int ((row.map encR).length : Nat)] = some ((List.range n).map natD) := by rw [List.length_map, hr.len, rng1_n (by omega), rgD_map]; rfl
  simp only [zR0, zR1, zR2, zR3, zR4, zR5, zR6, zR7, slotsM, kFor_a, Rz.bind_ok, Rz.of_some, Rz.calm_ok, Option.bind_some, Option.bind_none, slots, sel, Arg.get, List.filterMap_cons, List.filterMap_nil, List.length_cons, List.length_nil, List.map_cons, List.map_nil, List.cons_append, List.nil_append, List.append_nil, List.getElem?_cons_succ, List.getElem?_cons_zero, List.getElem?_nil, List.set_cons_zero, List.set_cons_succ, List.set_nil, List.replicate_succ, List.replicate_zero, if_true, Nat.sub_self, Nat.reduceAdd, Nat.reduceSub, Nat.reduceLeDiff, Nat.reduceEqDiff, Nat.reduceLT, Int.reduceLT, Int.reduceLE, Int.reduceNeg, Int.reduceEq, Nat.zero_add, and_self, if_false, Bool.not_true, Bool.not_false, Bool.false_eq_true, Nat.zero_le, decide_true, decide_false, reduceCtorEq, d_Span_rest, m_Span_rest, hl, hrn, loop]
theorem noL_rats (f : List Rat) : noLs (f.map encR) = true := noLs_map (fun _ => rfl) f
theorem view_span (es : List (Key × PyData)) : (Fd.own (.dct es)).view = .own (.dct es) := nr rfl
theorem put_append : ∀ (ls : List (Nat × List Rat)) (e : Nat) (d : PyData), (∀ p ∈ ls, p.1 ≠ e) → putD (leadsE ls) (.inl (e : Int)) d = leadsE ls ++ [(.inl (e : Int), d)] := fun ls e d h => by
  unfold putD
  rw [if_neg]
  rw [List.any_eq_true]
  rintro ⟨x, hx, hx2⟩
  obtain ⟨p, hp, rfl⟩ := List.mem_map.mp hx
  have := of_decide_eq_true hx2
  unfold dkey at this
  have := Sum.inl.inj this
  exact h p hp (by omega)
theorem z_put_loop {n : Nat} {ls : List (Nat × List Rat)} {f : List Rat} {df : PyData} {p : Addr} (hf : f.length = n) (hn : n ≤ 5) (hl : ls.length ≤ 5) (s1 : ∀ q ∈ f, Sz 4000000 q) (fresh : ∀ e, firstNZ f 0 = some e → ∀ p ∈ ls, p.1 ≠ e) : ∀ (t u : List Rat), u ++ t = f → (∀ q ∈ u, q = 0) →
    (match firstNZ t u.length with
    | none => forL (gT 2 (gsC (gN 3) (gsC (gN 4) gs0))) [3, 4] b1_Span_put ((t.zipIdx u.length).map fun x => .tuple [.int (x.2 : Nat), encR x.1]) [.obj ⟨1, some p, spanF ls⟩, .dat df, .dat (.list (f.map encR)), .no, .no, .no] = .nx [.obj ⟨1, some p, spanF ls⟩, .dat df, .dat (.list (f.map encR)), .no, .no, .no]
    | some e => ∃ ρ', forL (gT 2 (gsC (gN 3) (gsC (gN 4) gs0))) [3, 4] b1_Span_put ((t.zipIdx u.length).map fun x => .tuple [.int (x.2 : Nat), encR x.1]) [.obj ⟨1, some p, spanF ls⟩, .dat df, .dat (.list (f.map encR)), .no, .no, .no] = .rs (.bool true) (.obj ⟨1, some p, spanF (ls ++ [(e, f.map fun q => q / vv f e)])⟩ :: ρ'))
  | [], u, hu, h0 => rfl
  | a :: t, u, hu, h0 => by
    rw [List.zipIdx_cons, List.map_cons]
    unfold firstNZ
    by_cases z : a = 0
    · rw [if_pos z]
      have ih := z_put_loop (df := df) (p := p) hf hn hl s1 fresh t (u ++ [a]) (by rw [List.append_assoc]; exact hu) (fun q hq => by
        rcases List.mem_append.mp hq with y | y
        · exact h0 q y
        · rw [List.mem_singleton.mp y]; exact z)
      rw [List.length_append, List.length_singleton] at ih
      have turn : b1_Span_put [.obj ⟨1, some p, spanF ls⟩, .dat df, .dat (.list (f.map encR)), .dat (.int (u.length : Nat)), .dat (encR a), .no] = .nx [.obj ⟨1, some p, spanF ls⟩, .dat df, .dat (.list (f.map encR)), .dat (.int (u.length : Nat)), .dat (encR a), .no] := by
        simp only [zR0, zR1, zR2, zR3, zR4, zR5, zR6, zR7, slotsM, kFor_a, Rz.bind_ok, Rz.of_some, Rz.calm_ok, Option.bind_some, Option.bind_none, slots, sel, Arg.get, List.filterMap_cons, List.filterMap_nil, List.length_cons, List.length_nil, List.map_cons, List.map_nil, List.cons_append, List.nil_append, List.append_nil, List.getElem?_cons_succ, List.getElem?_cons_zero, List.getElem?_nil, List.set_cons_zero, List.set_cons_succ, List.set_nil, List.replicate_succ, List.replicate_zero, if_true, Nat.sub_self, Nat.reduceAdd, Nat.reduceSub, Nat.reduceLeDiff, Nat.reduceEqDiff, Nat.reduceLT, Int.reduceLT, Int.reduceLE, Int.reduceNeg, Int.reduceEq, Nat.zero_add, and_self, if_false, Bool.not_true, Bool.not_false, Bool.false_eq_true, Nat.zero_le, decide_true, decide_false, reduceCtorEq, b1_Span_put_a, decide_eq_true z]
      cases e : firstNZ t (u.length + 1) with
      | none =>
        rw [e] at ih
        rw [forL_cons]
        simp only [zR0, zR1, zR2, zR3, zR4, zR5, zR6, zR7, slotsM, kFor_a, Rz.bind_ok, Rz.of_some, Rz.calm_ok, Option.bind_some, Option.bind_none, slots, sel, Arg.get, List.filterMap_cons, List.filterMap_nil, List.length_cons, List.length_nil, List.map_cons, List.map_nil, List.cons_append, List.nil_append, List.append_nil, List.getElem?_cons_succ, List.getElem?_cons_zero, List.getElem?_nil, List.set_cons_zero, List.set_cons_succ, List.set_nil, List.replicate_succ, List.replicate_zero, if_true, Nat.sub_self, Nat.reduceAdd, Nat.reduceSub, Nat.reduceLeDiff, Nat.reduceEqDiff, Nat.reduceLT, Int.reduceLT, Int.reduceLE, Int.reduceNeg, Int.reduceEq, Nat.zero_add, and_self, if_false, Bool.not_true, Bool.not_false, Bool.false_eq_true, Nat.zero_le, decide_true, decide_false, reduceCtorEq, turn]
        exact ih
      | some x =>
        rw [e] at ih
        obtain ⟨ρ', ih⟩ := ih
        refine ⟨ρ', ?_⟩
        rw [forL_cons]
        simp only [zR0, zR1, zR2, zR3, zR4, zR5, zR6, zR7, slotsM, kFor_a, Rz.bind_ok, Rz.of_some, Rz.calm_ok, Option.bind_some, Option.bind_none, slots, sel, Arg.get, List.filterMap_cons, List.filterMap_nil, List.length_cons, List.length_nil, List.map_cons, List.map_nil, List.cons_append, List.nil_append, List.append_nil, List.getElem?_cons_succ, List.getElem?_cons_zero, List.getElem?_nil, List.set_cons_zero, List.set_cons_succ, List.set_nil, List.replicate_succ, List.replicate_zero, if_true, Nat.sub_self, Nat.reduceAdd, Nat.reduceSub, Nat.reduceLeDiff, Nat.reduceEqDiff, Nat.reduceLT, Int.reduceLT, Int.reduceLE, Int.reduceNeg, Int.reduceEq, Nat.zero_add, and_self, if_false, Bool.not_true, Bool.not_false, Bool.false_eq_true, Nat.zero_le, decide_true, decide_false, reduceCtorEq, turn]
        exact ih
    · rw [if_neg z]
      have hv : vv f u.length = a := by
        unfold vv
        rw [← hu, List.getD_eq_getElem?_getD, List.getElem?_append_right (Nat.le_refl _), Nat.sub_self]
        rfl
      have hfz : firstNZ f 0 = some u.length := by
        have key : ∀ (w : List Rat) (k : Nat), (∀ q ∈ w, q = 0) → firstNZ (w ++ a :: t) k = some (k + w.length) := fun w => by
          induction w with
          | nil => intro k _; show firstNZ (a :: t) k = _; unfold firstNZ; rw [if_neg z]; rfl
          | cons b w ih =>
            intro k hw
            show firstNZ (b :: (w ++ a :: t)) k = _
            unfold firstNZ
            rw [if_pos (hw b (List.mem_cons_self ..)), ih (k + 1) fun q hq => hw q (List.mem_cons_of_mem _ hq), List.length_cons]
            congr 1; omega
        rw [← hu, key u 0 h0, Nat.zero_add]
      have sa : Sz 4000000 a := s1 a (by rw [← hu]; simp)
      have hlc : (f.map encR).length ≤ 1000000 := by rw [List.length_map]; omega
      have lc : ∀ b : Slot, lcL (gN 5) yYes (xFc d_over (zCons (xV 5) (zCons (xV 4) zNil))) [.obj ⟨1, some p, spanF ls⟩, .dat df, .dat (.list (f.map encR)), b, .dat (encR a), .no] (f.map encR) = .ok (f.map fun q => encR (q / a)) := fun b =>
        lcL_map (F := fun q ρ => ρ.set 5 (.dat (encR q))) (fun q _ => rfl) (fun q _ => rfl) (fun q hq => by
          have := z_over (s1 q hq) sa (by decide) z
          simp only [zR0, zR1, zR2, zR3, zR4, zR5, zR6, zR7, slotsM, kFor_a, Rz.bind_ok, Rz.of_some, Rz.calm_ok, Option.bind_some, Option.bind_none, slots, sel, Arg.get, List.filterMap_cons, List.filterMap_nil, List.length_cons, List.length_nil, List.map_cons, List.map_nil, List.cons_append, List.nil_append, List.append_nil, List.getElem?_cons_succ, List.getElem?_cons_zero, List.getElem?_nil, List.set_cons_zero, List.set_cons_succ, List.set_nil, List.replicate_succ, List.replicate_zero, if_true, Nat.sub_self, Nat.reduceAdd, Nat.reduceSub, Nat.reduceLeDiff, Nat.reduceEqDiff, Nat.reduceLT, Int.reduceLT, Int.reduceLE, Int.reduceNeg, Int.reduceEq, Nat.zero_add, and_self, if_false, Bool.not_true, Bool.not_false, Bool.false_eq_true, Nat.zero_le, decide_true, decide_false, reduceCtorEq, this])
      have hle : (leadsE ls).length < 1000000 := by unfold leadsE; rw [List.length_map]; omega
      have hpu := put_append ls u.length (.list (f.map fun q => encR (q / a))) (fresh _ hfz)
      have he : leadsE ls ++ [((.inl (u.length : Int) : Key), .list (f.map fun q => encR (q / a)))] = leadsE (ls ++ [(u.length, f.map fun q => q / vv f u.length)]) := by
        unfold leadsE
        rw [List.map_append, hv]
        simp only [List.map_cons, List.map_nil, List.map_map]
        rfl
      refine ⟨[.dat df, .dat (.list (f.map encR)), .dat (.int (u.length : Nat)), .dat (encR a), .no], ?_⟩
      rw [forL_cons]
      simp only [zR0, zR1, zR2, zR3, zR4, zR5, zR6, zR7, slotsM, kFor_a, Rz.bind_ok, Rz.of_some, Rz.calm_ok, Option.bind_some, Option.bind_none, slots, sel, Arg.get, List.filterMap_cons, List.filterMap_nil, List.length_cons, List.length_nil, List.map_cons, List.map_nil, List.cons_append, List.nil_append, List.append_nil, List.getElem?_cons_succ, List.getElem?_cons_zero, List.getElem?_nil, List.set_cons_zero, List.set_cons_succ, List.set_nil, List.replicate_succ, List.replicate_zero, if_true, Nat.sub_self, Nat.reduceAdd, Nat.reduceSub, Nat.reduceLeDiff, Nat.reduceEqDiff, Nat.reduceLT, Int.reduceLT, Int.reduceLE, Int.reduceNeg, Int.reduceEq, Nat.zero_add, and_self, if_false, Bool.not_true, Bool.not_false, Bool.false_eq_true, Nat.zero_le, decide_true, decide_false, reduceCtorEq, b1_Span_put_a, decide_eq_false z, if_pos hlc, lc, if_pos hle, hpu, he]
theorem z_putW {n : Nat} {ls : List (Nat × List Rat)} {row : List Rat} {df : PyData} (h : SpanOk n ls) (hr : RowG n row) (hd : df = .list (row.map encR) ∨ df = .tuple (row.map encR)) (p : Addr) : f_Span_put p (spanF ls) [df] = .ok (.bool (newQ n ls row)) (spanF (putQ n ls row)) := by
  have h5 := h.hn
  have r := z_rest h hr hd
  have rl := restQ_len h.ok hr.len n
  have hen : enO [.list ((restQ ls n row).map encR)] = some (((restQ ls n row).zipIdx 0).map fun x => .tuple [.int (x.2 : Nat), encR x.1]) := by rw [enO_a (ds := (restQ ls n row).map encR) rfl, enD_map]
  have loop := z_put_loop (df := df) (p := p) rl h5 h.k5 (h.rsz hr n (Nat.le_refl _)) (fun e he q hq z => by
    have h3 := (firstNZ_some he).2.2.1
    rw [Nat.sub_zero, vv_restQ h.ok hr.len n, ← z] at h3
    exact h3 (rsF_piv h.ok _ hq n (h.ok.lt q hq))) (restQ ls n row) [] rfl nofun
  unfold newQ putQ
  rw [List.length_nil] at loop
  cases e : firstNZ (restQ ls n row) 0 with
  | none =>
    rw [e] at loop
    simp only at loop
    simp only [zR0, zR1, zR2, zR3, zR4, zR5, zR6, zR7, slotsM, kFor_a, Rz.bind_ok, Rz.of_some, Rz.calm_ok, Option.bind_some, Option.bind_none, slots, sel, Arg.get, List.filterMap_cons, List.filterMap_nil, List.length_cons, List.length_nil, List.map_cons, List.map_nil, List.cons_append, List.nil_append, List.append_nil, List.getElem?_cons_succ, List.getElem?_cons_zero, List.getElem?_nil, List.set_cons_zero, List.set_cons_succ, List.set_nil, List.replicate_succ, List.replicate_zero, if_true, Nat.sub_self, Nat.reduceAdd, Nat.reduceSub, Nat.reduceLeDiff, Nat.reduceEqDiff, Nat.reduceLT, Int.reduceLT, Int.reduceLE, Int.reduceNeg, Int.reduceEq, Nat.zero_add, and_self, if_false, Bool.not_true, Bool.not_false, Bool.false_eq_true, Nat.zero_le, decide_true, decide_false, reduceCtorEq, f_Span_put, m_Span_put, view_span, r, noL_rats, hen, loop]
    rfl
  | some x =>
    rw [e] at loop
    obtain ⟨ρ', loop⟩ := loop
    simp only [zR0, zR1, zR2, zR3, zR4, zR5, zR6, zR7, slotsM, kFor_a, Rz.bind_ok, Rz.of_some, Rz.calm_ok, Option.bind_some, Option.bind_none, slots, sel, Arg.get, List.filterMap_cons, List.filterMap_nil, List.length_cons, List.length_nil, List.map_cons, List.map_nil, List.cons_append, List.nil_append, List.append_nil, List.getElem?_cons_succ, List.getElem?_cons_zero, List.getElem?_nil, List.set_cons_zero, List.set_cons_succ, List.set_nil, List.replicate_succ, List.replicate_zero, if_true, Nat.sub_self, Nat.reduceAdd, Nat.reduceSub, Nat.reduceLeDiff, Nat.reduceEqDiff, Nat.reduceLT, Int.reduceLT, Int.reduceLE, Int.reduceNeg, Int.reduceEq, Nat.zero_add, and_self, if_false, Bool.not_true, Bool.not_false, Bool.false_eq_true, Nat.zero_le, decide_true, decide_false, reduceCtorEq, f_Span_put, m_Span_put, view_span, r, noL_rats, hen, loop]
    rfl
theorem z_put {n : Nat} {ls : List (Nat × List Rat)} {row : List Rat} {df : PyData} (h : SpanOk n ls) (hr : RowG n row) (hd : df = .list (row.map encR) ∨ df = .tuple (row.map encR)) : Fall f_Span_put (spanF ls) [df] = .ok (.bool (newQ n ls row)) (spanF (putQ n ls row)) := Fall_eq (z_putW h hr hd)
theorem z_span0 : Fall f_Span___init__ [] [] = .ok .none (spanF []) := Fall_eq fun p => by
  simp only [zR0, zR1, zR2, zR3, zR4, zR5, zR6, zR7, slotsM, kFor_a, Rz.bind_ok, Rz.of_some, Rz.calm_ok, Option.bind_some, Option.bind_none, slots, sel, Arg.get, List.filterMap_cons, List.filterMap_nil, List.length_cons, List.length_nil, List.map_cons, List.map_nil, List.cons_append, List.nil_append, List.append_nil, List.getElem?_cons_succ, List.getElem?_cons_zero, List.getElem?_nil, List.set_cons_zero, List.set_cons_succ, List.set_nil, List.replicate_succ, List.replicate_zero, if_true, Nat.sub_self, Nat.reduceAdd, Nat.reduceSub, Nat.reduceLeDiff, Nat.reduceEqDiff, Nat.reduceLT, Int.reduceLT, Int.reduceLE, Int.reduceNeg, Int.reduceEq, Nat.zero_add, and_self, if_false, Bool.not_true, Bool.not_false, Bool.false_eq_true, Nat.zero_le, decide_true, decide_false, reduceCtorEq, f_Span___init__, m_Span___init__]
  rfl
theorem eqvAll_enc {α : Type} [DecidableEq α] (f : α → PyData) (h : ∀ a b, PyData.eqv (f a) (f b) = decide (a = b)) : ∀ (xs ys : List α), PyData.eqvAll (xs.map f) (ys.map f) = decide (xs = ys)
  | [], [] => rfl
  | [], _ :: _ => rfl
  | _ :: _, [] => rfl
  | x :: a, y :: b => by
    rw [List.map_cons, List.map_cons]
    show (PyData.eqv (f x) (f y) && PyData.eqvAll (a.map f) (b.map f)) = _
    rw [eqvAll_enc f h a b, h, ← Bool.decide_and]
    simp only [List.cons.injEq]
theorem eqv_row (a b : List Rat) : PyData.eqv (encRow a) (encRow b) = decide (a = b) := eqvAll_enc encR eqv_encR a b
theorem zNe_row (a b : List Rat) : zNe (encRow a) (encRow b) = some (.bool (!decide (a = b))) := by
  rw [zNe_sh (x := encRow a) (y := encRow b) ((shd_encRt a).shaped (by decide)) ((shd_encRt b).shaped (by decide)), eqv_row]
def shapeQ (ms : List Menu) : List (Bool × Nat) := ms.map fun m => (m.1, m.2.length)
def shpD (p : Bool × Nat) : PyData := .tuple [whoD p.1, natD p.2]
theorem eqv_who (a b : Bool) : PyData.eqv (whoD a) (whoD b) = decide (a = b) := by cases a <;> cases b <;> kernel_rfl
theorem eqv_shp (p q : Bool × Nat) : PyData.eqv (shpD p) (shpD q) = decide (p = q) := by
  show (PyData.eqv (whoD p.1) (whoD q.1) && (PyData.eqv (natD p.2) (natD q.2) && true)) = _
  rw [eqv_who, show PyData.eqv (natD p.2) (natD q.2) = _ from eqv_int _ _, Bool.and_true, ← Bool.decide_and]
  congr 1
  rw [Prod.ext_iff]
  simp only [Int.natCast_inj]
theorem shd_who (b : Bool) : ShD 0 (whoD b) := ⟨by cases b <;> kernel_rfl, by cases b <;> simp only [whoD, PyData.depth, Nat.le_refl]⟩
theorem shd_shape (xs : List (Bool × Nat)) : ShD 2 (.list (xs.map shpD)) := shd_list fun d hd => by
  obtain ⟨p, _, rfl⟩ := List.mem_map.mp hd
  exact shd_tuple fun d hd => by
    rcases List.mem_cons.mp hd with z | z
    · rw [z]; exact shd_who _
    · rw [List.mem_singleton.mp z]; exact shd_int _
theorem zNe_shape (xs ys : List (Bool × Nat)) : zNe (.list (xs.map shpD)) (.list (ys.map shpD)) = some (.bool (!decide (xs = ys))) := by
  rw [zNe_sh ((shd_shape xs).shaped (by decide)) ((shd_shape ys).shaped (by decide)), show PyData.eqv (.list (xs.map shpD)) (.list (ys.map shpD)) = _ from eqvAll_enc shpD eqv_shp xs ys]
theorem shape_len {a b : List Menu} (h : shapeQ a = shapeQ b) : a.length = b.length := by
  have := congrArg List.length h
  unfold shapeQ at this
  rwa [List.length_map, List.length_map] at this
theorem shape_good : ∀ {a b : List Menu} {c : List Int}, shapeQ a = shapeQ b → goodChoice a c → goodChoice b c
  | [], [], c, _, h => h
  | [], _ :: _, _, h, _ => by cases h
  | _ :: _, [], _, h, _ => by cases h
  | m :: a, m' :: b, [], _, h => h.elim
  | m :: a, m' :: b, x :: c, h, g => by
    have h1 : (m.1, m.2.length) = (m'.1, m'.2.length) := (List.cons.inj h).1
    have h2 : shapeQ a = shapeQ b := (List.cons.inj h).2
    have h3 : m.2.length = m'.2.length := (Prod.mk.inj h1).2
    exact ⟨g.1, by rw [← h3]; exact g.2.1, shape_good h2 g.2.2⟩
def choicesQ (ms : List Menu) : List (List Int) := plansQ (ms.map fun m => m.2.length)
theorem mem_addAll {acc : List (List Int)} {n : Nat} {c : List Int} : c ∈ addAll acc n ↔ ∃ p ∈ acc, ∃ a : Nat, a < n ∧ c = p ++ [(a : Int)] := by
  unfold addAll
  rw [List.mem_flatMap]
  constructor
  · rintro ⟨p, hp, h⟩
    obtain ⟨a, ha, rfl⟩ := List.mem_map.mp h
    exact ⟨p, hp, a, List.mem_range.mp ha, rfl⟩
  · rintro ⟨p, hp, a, ha, rfl⟩
    exact ⟨p, hp, List.mem_map.mpr ⟨a, List.mem_range.mpr ha, rfl⟩⟩
theorem mem_choices' : ∀ (ms : List Menu) (acc : List (List Int)) (c : List Int), c ∈ (ms.map fun m => m.2.length).foldl addAll acc ↔ ∃ p ∈ acc, ∃ t, goodChoice ms t ∧ c = p ++ t
  | [], acc, c => by
    constructor
    · intro h; exact ⟨c, h, [], True.intro, by simp⟩
    · rintro ⟨p, hp, t, ht, rfl⟩
      cases t with
      | nil => simpa using hp
      | cons _ _ => exact ht.elim
  | m :: ms, acc, c => by
    rw [List.map_cons, List.foldl_cons, mem_choices' ms]
    constructor
    · rintro ⟨p, hp, t, ht, rfl⟩
      obtain ⟨q, hq, a, ha, rfl⟩ := mem_addAll.mp hp
      exact ⟨q, hq, (a : Int) :: t, ⟨by omega, by omega, ht⟩, by simp⟩
    · rintro ⟨p, hp, t, ht, rfl⟩
      cases t with
      | nil => exact ht.elim
      | cons a t =>
        refine ⟨p ++ [a], mem_addAll.mpr ⟨p, hp, a.toNat, by have := ht.1; have := ht.2.1; omega, by rw [Int.toNat_of_nonneg ht.1]⟩, t, ht.2.2, by simp⟩
theorem mem_choices {ms : List Menu} {c : List Int} : c ∈ choicesQ ms ↔ goodChoice ms c := by
  unfold choicesQ plansQ
  rw [mem_choices']
  constructor
  · rintro ⟨p, hp, t, ht, rfl⟩
    rw [List.mem_singleton.mp hp]; exact ht
  · intro h; exact ⟨[], List.mem_singleton.mpr rfl, c, h, rfl⟩
theorem choices_len {ms : List Menu} (h : okBook ms) : (choicesQ ms).length ≤ 243 := by
  have := plansQ_len (ms.map fun m => m.2.length) [[]] 1 (fun n hn => by obtain ⟨m, hm, rfl⟩ := List.mem_map.mp hn; exact (h.all m hm).hi) (by simp)
  have h3 := pow3_le (n := (ms.map fun m : Menu => m.2.length).length) (by rw [List.length_map]; exact h.hi)
  unfold choicesQ plansQ
  omega
theorem rowsAt_range (ms : List Menu) : (List.range ms.length).map (rowsAt ms) = ms.map fun m => m.2.length := by
  refine List.ext_getElem (by simp) fun i h1 h2 => ?_
  rw [List.getElem_map, List.getElem_range, List.getElem_map]
  exact rowsAt_eq (List.getElem?_eq_getElem (by simpa using h1))
theorem z_all_choices {ms : List Menu} (h : okBook ms) : d_all_plans [encBook ms, .list ((List.range ms.length).map natD)] = .ok (.list ((choicesQ ms).map planD)) := by
  have h5 := h.hi
  have loop := z_all_loop (ds := .list ((List.range ms.length).map natD)) (fun m hm => (h.all m hm).hi) (List.range ms.length) [[]] 0 (fun s hs => List.mem_range.mp hs) (by have := pow3_le (n := (List.range ms.length).length) (by rw [List.length_range]; omega); simp only [List.length_singleton]; omega) (fun p hp => by rw [List.mem_singleton.mp hp]; simp) (by rw [List.length_range]; omega)
  have loop : forL (gN 3) [3] b1_all_plans ((List.range ms.length).map natD) [.dat (encBook ms), .dat (.list ((List.range ms.length).map natD)), .own (.lst [.tuple []]), .no, .no, .no] = _ := loop
  rw [rowsAt_range] at loop
  simp only [zR0, zR1, zR2, zR3, zR4, zR5, zR6, zR7, slotsM, kFor_a, Rz.bind_ok, Rz.of_some, Rz.calm_ok, Option.bind_some, Option.bind_none, slots, sel, Arg.get, List.filterMap_cons, List.filterMap_nil, List.length_cons, List.length_nil, List.map_cons, List.map_nil, List.cons_append, List.nil_append, List.append_nil, List.getElem?_cons_succ, List.getElem?_cons_zero, List.getElem?_nil, List.set_cons_zero, List.set_cons_succ, List.set_nil, List.replicate_succ, List.replicate_zero, if_true, Nat.sub_self, Nat.reduceAdd, Nat.reduceSub, Nat.reduceLeDiff, Nat.reduceEqDiff, Nat.reduceLT, Int.reduceLT, Int.reduceLE, Int.reduceNeg, Int.reduceEq, Nat.zero_add, and_self, if_false, Bool.not_true, Bool.not_false, Bool.false_eq_true, Nat.zero_le, decide_true, decide_false, reduceCtorEq, d_all_plans, m_all_plans, loop]
  rfl
theorem zRep_a {d : PyData} {n : Nat} (h : n ≤ 1000) : zMulV (.list [d]) (.int (n : Int)) = some (.list (List.replicate n d)) := by
  unfold zMulV zMul zRep
  simp only
  rw [if_pos (by rw [Bool.and_eq_true]; exact ⟨Nat.ble_eq_true_of_le (by omega), Nat.ble_eq_true_of_le (by simp; omega)⟩), Int.toNat_natCast]
  simp only [Option.map_some]
  congr 2
  clear h
  induction n with
  | zero => rfl
  | succ n ih => rw [List.replicate_succ, List.flatten_cons, ih]; rfl
def rowBy (row : List Rat) (T : List (List Rat)) : List Rat := (List.range row.length).map fun j => dotQ row (T.map fun r => vv r j)
theorem rowBy_len (row : List Rat) (T : List (List Rat)) : (rowBy row T).length = row.length := by unfold rowBy; rw [List.length_map, List.length_range]
theorem map_vv {l : List Rat} {n : Nat} (h : l.length = n) : (List.range n).map (vv l) = l := by
  refine List.ext_getElem (by rw [List.length_map, List.length_range, h]) fun i h1 h2 => ?_
  rw [List.getElem_map, List.getElem_range]
  unfold vv
  rw [List.getD_eq_getElem?_getD, List.getElem?_eq_getElem h2]
  rfl
theorem z_row_loop {n m : Nat} {dr dt : PyData} (hn : n ≤ 5) : ∀ (row : List Rat) (T : List (List Rat)) (g : Nat → Rat) (k : Nat), row.length = T.length → (∀ q ∈ row, Sz m q) → (∀ r ∈ T, r.length = n ∧ ∀ q ∈ r, Sz 10 q) → (∀ j, Sz (1 + k * (m + 11)) (g j)) → (k + row.length + 1) * (m + 11) ≤ 90000000 →
    forL (gT 2 (gsC (gN 3) (gsC (gN 4) gs0))) [3, 4] b1_row_by (zipD (row.map encR) (T.map encRow)) [.dat dr, .dat dt, .dat (.list (((List.range n).map g).map encR)), .no, .no, .no, .no] = .nx [.dat dr, .dat dt, .dat (.list (((List.range n).map fun j => g j + dotQ row (T.map fun r => vv r j)).map encR)), .no, .no, .no, .no]
  | [], [], g, k, _, _, _, _, _ => by
    rw [show (fun j => g j + dotQ [] (List.map (fun r => vv r j) [])) = g from funext fun j => Rat.add_zero _]
    rfl
  | [], _ :: _, _, _, h, _, _, _, _ => by cases h
  | _ :: _, [], _, _, h, _, _, _, _ => by cases h
  | a :: row, r :: T, g, k, h, h1, h2, h3, hb => by
    have sa := h1 a (List.mem_cons_self ..)
    obtain ⟨rl, sr⟩ := h2 r (List.mem_cons_self ..)
    rw [List.length_cons] at hb
    have e1 : (k + (row.length + 1) + 1) * (m + 11) = k * (m + 11) + (row.length + 2) * (m + 11) := by rw [← Nat.add_mul]; congr 1
    have e2 : 2 * (m + 11) ≤ (row.length + 2) * (m + 11) := Nat.mul_le_mul_right _ (by omega)
    rw [e1] at hb
    have e3 : (k + 1) * (m + 11) = k * (m + 11) + (m + 11) := by rw [Nat.succ_mul]
    have sv : ∀ j, Sz 10 (vv r j) := fun j => by
      by_cases hj : j < r.length
      · exact sr _ (vv_mem hj)
      · unfold vv
        rw [List.getD_eq_getElem?_getD, List.getElem?_eq_none (by omega)]
        exact zero_sz.mono (by decide)
    have s3 : ∀ j, Sz (1 + (k + 1) * (m + 11)) (g j + a * vv r j) := fun j => (sz_add (h3 j) (sz_mul sa (sv j))).mono (by omega)
    have fin : (fun j => g j + dotQ (a :: row) ((r :: T).map fun r => vv r j)) = fun j => (g j + a * vv r j) + dotQ row (T.map fun r => vv r j) := funext fun j => by
      show g j + (a * vv r j + dotQ row (T.map fun r => vv r j)) = _
      grind
    have ih := z_row_loop (dr := dr) (dt := dt) hn row T (fun j => g j + a * vv r j) (k + 1) (Nat.succ.inj h) (fun q hq => h1 q (List.mem_cons_of_mem _ hq)) (fun q hq => h2 q (List.mem_cons_of_mem _ hq)) s3 (by rw [← e1] at hb; exact Nat.le_trans (Nat.le_of_eq (by congr 1; omega)) hb)
    rw [fin, List.map_cons, List.map_cons, zipD_cons, forL_cons]
    by_cases z : a = 0
    · have eg : (fun j => g j + a * vv r j) = g := funext fun j => by rw [z]; grind
      rw [eg] at ih
      simp only [zR0, zR1, zR2, zR3, zR4, zR5, zR6, zR7, slotsM, kFor_a, Rz.bind_ok, Rz.of_some, Rz.calm_ok, Option.bind_some, Option.bind_none, slots, sel, Arg.get, List.filterMap_cons, List.filterMap_nil, List.length_cons, List.length_nil, List.map_cons, List.map_nil, List.cons_append, List.nil_append, List.append_nil, List.getElem?_cons_succ, List.getElem?_cons_zero, List.getElem?_nil, List.set_cons_zero, List.set_cons_succ, List.set_nil, List.replicate_succ, List.replicate_zero, if_true, Nat.sub_self, Nat.reduceAdd, Nat.reduceSub, Nat.reduceLeDiff, Nat.reduceEqDiff, Nat.reduceLT, Int.reduceLT, Int.reduceLE, Int.reduceNeg, Int.reduceEq, Nat.zero_add, and_self, if_false, Bool.not_true, Bool.not_false, Bool.false_eq_true, Nat.zero_le, decide_true, decide_false, reduceCtorEq, b1_row_by_a, decide_eq_true z, ih, eg]
    · have er : encRow r = .tuple (((List.range n).map (vv r)).map encR) := by rw [map_vv rl]; rfl
      have hz : zipO true [.list (((List.range n).map g).map encR), encRow r] = some ((List.range n).map fun j => .tuple [encR (g j), encR (vv r j)]) := by
        rw [er, zipO_t (ds := ((List.range n).map g).map encR) (es := ((List.range n).map (vv r)).map encR) rfl rfl (by simp only [List.length_map, List.length_range]), zipD_map, List.zip_map', List.map_map]
        rfl
      have hlc : ((List.range n).map fun j => PyData.tuple [encR (g j), encR (vv r j)]).length ≤ 1000000 := by rw [List.length_map, List.length_range]; omega
      have lc : ∀ s0 s1 s2 : Slot, lcL (gT 2 (gsC (gN 5) (gsC (gN 6) gs0))) yYes (xFc d_plus (zCons (xV 5) (zCons (xFc d_times (zCons (xV 3) (zCons (xV 6) zNil))) zNil))) [s0, s1, s2, .dat (encR a), .dat (encRow r), .no, .no] ((List.range n).map fun j => .tuple [encR (g j), encR (vv r j)]) = .ok ((List.range n).map fun j => encR (g j + a * vv r j)) := fun s0 s1 s2 =>
        lcL_map (F := fun j ρ => (ρ.set 5 (.dat (encR (g j)))).set 6 (.dat (encR (vv r j)))) (fun j _ => rfl) (fun j _ => rfl) (fun j _ => by
          have t1 := z_times sa (sv j) (by omega)
          have t2 := z_plus (h3 j) (sz_mul sa (sv j)) (by omega)
          simp only [zR0, zR1, zR2, zR3, zR4, zR5, zR6, zR7, slotsM, kFor_a, Rz.bind_ok, Rz.of_some, Rz.calm_ok, Option.bind_some, Option.bind_none, slots, sel, Arg.get, List.filterMap_cons, List.filterMap_nil, List.length_cons, List.length_nil, List.map_cons, List.map_nil, List.cons_append, List.nil_append, List.append_nil, List.getElem?_cons_succ, List.getElem?_cons_zero, List.getElem?_nil, List.set_cons_zero, List.set_cons_succ, List.set_nil, List.replicate_succ, List.replicate_zero, if_true, Nat.sub_self, Nat.reduceAdd, Nat.reduceSub, Nat.reduceLeDiff, Nat.reduceEqDiff, Nat.reduceLT, Int.reduceLT, Int.reduceLE, Int.reduceNeg, Int.reduceEq, Nat.zero_add, and_self, if_false, Bool.not_true, Bool.not_false, Bool.false_eq_true, Nat.zero_le, decide_true, decide_false, reduceCtorEq, t1, t2])
      have eo : ((List.range n).map fun j => encR (g j + a * vv r j)) = ((List.range n).map fun j => g j + a * vv r j).map encR := by rw [List.map_map]; rfl
      rw [eo] at lc
      simp only [zR0, zR1, zR2, zR3, zR4, zR5, zR6, zR7, slotsM, kFor_a, Rz.bind_ok, Rz.of_some, Rz.calm_ok, Option.bind_some, Option.bind_none, slots, sel, Arg.get, List.filterMap_cons, List.filterMap_nil, List.length_cons, List.length_nil, List.map_cons, List.map_nil, List.cons_append, List.nil_append, List.append_nil, List.getElem?_cons_succ, List.getElem?_cons_zero, List.getElem?_nil, List.set_cons_zero, List.set_cons_succ, List.set_nil, List.replicate_succ, List.replicate_zero, if_true, Nat.sub_self, Nat.reduceAdd, Nat.reduceSub, Nat.reduceLeDiff, Nat.reduceEqDiff, Nat.reduceLT, Int.reduceLT, Int.reduceLE, Int.reduceNeg, Int.reduceEq, Nat.zero_add, and_self, if_false, Bool.not_true, Bool.not_false, Bool.false_eq_true, Nat.zero_le, decide_true, decide_false, reduceCtorEq, b1_row_by_a, decide_eq_false z, hz, if_pos hlc, lc]
      exact ih
theorem z_row_by {n : Nat} {row : List Rat} {T : List (List Rat)} (hn : n ≤ 5) (hr : RowG n row) (hT : okTab n T) : d_row_by [encRow row, .list (T.map encRow)] = .ok (encRow (rowBy row T)) := by
  have loop := z_row_loop (m := 1000) (dr := encRow row) (dt := .list (T.map encRow)) hn row T (fun _ => 0) 0 (by rw [hr.len, hT.len]) (hr.gv.sz (by decide) (by decide)) (fun r h => ⟨(hT.all r h).1, fun q hq => ((hT.all r h).2 q hq).2⟩) (fun j => zero_sz.mono (by omega)) (by rw [hr.len]; omega)
  have e0 : (List.range n).map (fun _ => (0 : Rat)) = List.replicate n 0 := by rw [List.map_const', List.length_range]
  rw [e0, List.map_replicate] at loop
  have hz := zRep_a (d := encR 0) (n := n) (by omega)
  have hl : zLen [encRow row] = some (.int (n : Nat)) := by unfold encRow; rw [zLen_t, List.length_map, hr.len]
  have hzp : zipO true [encRow row, .list (T.map encRow)] = some (zipD (row.map encR) (T.map encRow)) := zipO_t (ds := row.map encR) (es := T.map encRow) rfl rfl (by rw [List.length_map, List.length_map, hr.len, hT.len])
  have ef : (List.range n).map (fun j => (0 : Rat) + dotQ row (T.map fun r => vv r j)) = rowBy row T := by
    unfold rowBy
    rw [hr.len]
    refine List.map_congr_left fun j _ => Rat.zero_add _
  rw [ef] at loop
  simp only [zR0, zR1, zR2, zR3, zR4, zR5, zR6, zR7, slotsM, kFor_a, Rz.bind_ok, Rz.of_some, Rz.calm_ok, Option.bind_some, Option.bind_none, slots, sel, Arg.get, List.filterMap_cons, List.filterMap_nil, List.length_cons, List.length_nil, List.map_cons, List.map_nil, List.cons_append, List.nil_append, List.append_nil, List.getElem?_cons_succ, List.getElem?_cons_zero, List.getElem?_nil, List.set_cons_zero, List.set_cons_succ, List.set_nil, List.replicate_succ, List.replicate_zero, if_true, Nat.sub_self, Nat.reduceAdd, Nat.reduceSub, Nat.reduceLeDiff, Nat.reduceEqDiff, Nat.reduceLT, Int.reduceLT, Int.reduceLE, Int.reduceNeg, Int.reduceEq, Nat.zero_add, and_self, if_false, Bool.not_true, Bool.not_false, Bool.false_eq_true, Nat.zero_le, decide_true, decide_false, reduceCtorEq, d_row_by, m_row_by, hl, hz, hzp, loop]
  rfl
def rowF : List (List Rat) → (Nat → Rat) → Nat → Rat
  | [], _ => fun _ => 0
  | r :: T, v => fun j => v 0 * vv r j + rowF T (fun i => v (i + 1)) j
theorem rowF_lin : ∀ (T : List (List Rat)) (a b : Nat → Rat) (c : Rat), rowF T (fun j => a j + c * b j) = fun j => rowF T a j + c * rowF T b j
  | [], a, b, c => by funext j; show (0 : Rat) = 0 + c * 0; grind
  | r :: T, a, b, c => by
    funext j
    show (a 0 + c * b 0) * vv r j + rowF T (fun i => a (i + 1) + c * b (i + 1)) j = _
    rw [rowF_lin T (fun i => a (i + 1)) (fun i => b (i + 1)) c]
    show _ = a 0 * vv r j + rowF T (fun i => a (i + 1)) j + c * (b 0 * vv r j + rowF T (fun i => b (i + 1)) j)
    grind
theorem rowF_zero : ∀ T : List (List Rat), rowF T (fun _ => 0) = fun _ => 0
  | [] => rfl
  | r :: T => by
    funext j
    show 0 * vv r j + rowF T (fun _ => 0) j = 0
    rw [rowF_zero T]; grind
theorem rowF_dot : ∀ (row : List Rat) (T : List (List Rat)) (j : Nat), row.length = T.length → rowF T (vv row) j = dotQ row (T.map fun r => vv r j)
  | [], [], j, _ => rfl
  | [], _ :: _, _, h => by cases h
  | _ :: _, [], _, h => by cases h
  | a :: row, r :: T, j, h => by
    show a * vv r j + rowF T (vv row) j = a * vv r j + dotQ row (T.map fun r => vv r j)
    rw [rowF_dot row T j (Nat.succ.inj h)]
theorem vv_out {l : List Rat} {j : Nat} (h : l.length ≤ j) : vv l j = 0 := by
  unfold vv
  rw [List.getD_eq_getElem?_getD, List.getElem?_eq_none h]
  rfl
theorem rowF_out {n : Nat} : ∀ (T : List (List Rat)) (v : Nat → Rat) (j : Nat), (∀ r ∈ T, r.length = n) → n ≤ j → rowF T v j = 0
  | [], _, _, _, _ => rfl
  | r :: T, v, j, h, hj => by
    show v 0 * vv r j + rowF T _ j = 0
    rw [vv_out (by rw [h r (List.mem_cons_self ..)]; exact hj), rowF_out T _ j (fun r hr => h r (List.mem_cons_of_mem _ hr)) hj]; grind
theorem vv_rowBy {n : Nat} {row : List Rat} {T : List (List Rat)} (hr : row.length = n) (hT : T.length = n) (hT2 : ∀ r ∈ T, r.length = n) : vv (rowBy row T) = rowF T (vv row) := by
  funext j
  by_cases hj : j < n
  · rw [rowF_dot row T j (by omega)]
    unfold vv rowBy
    rw [List.getD_eq_getElem?_getD, List.getElem?_map, List.getElem?_range (by omega)]
    rfl
  · rw [vv_out (by rw [rowBy_len]; omega), rowF_out T _ j hT2 (by omega)]
theorem vv_ext {a b : List Rat} (hl : a.length = b.length) (h : vv a = vv b) : a = b := by
  rw [← map_vv (l := a) rfl, ← map_vv (l := b) hl.symm, h]
theorem dot_step : ∀ (row : List Rat) (T : List (List Rat)) (f : List Rat), row.length = T.length → dotQ row (stepQ T f) = dotQ ((List.range f.length).map (rowF T (vv row))) f
  | [], [], f, _ => by
    show (0 : Rat) = dotQ ((List.range f.length).map fun _ => 0) f
    have : ∀ (n : Nat) (f : List Rat), dotQ (List.replicate n 0) f = 0 := fun n => by
      induction n with
      | zero => intro f; rfl
      | succ n ih =>
        intro f
        cases f with
        | nil => rfl
        | cons a f => show 0 * a + dotQ (List.replicate n 0) f = 0; rw [ih f]; grind
    rw [show (List.range f.length).map (fun _ => (0 : Rat)) = List.replicate f.length 0 from by rw [List.map_const', List.length_range], this]
  | [], _ :: _, _, h => by cases h
  | _ :: _, [], _, h => by cases h
  | a :: row, r :: T, f, h => by
    show a * dotQ r f + dotQ row (stepQ T f) = _
    rw [dot_step row T f (Nat.succ.inj h)]
    have key : ∀ (f : List Rat) (g h : Nat → Rat) (k : Nat), dotQ ((List.range' k f.length).map fun j => a * g j + h j) f = a * dotQ ((List.range' k f.length).map g) f + dotQ ((List.range' k f.length).map h) f := fun f => by
      induction f with
      | nil => intro g h k; show (0 : Rat) = a * 0 + 0; grind
      | cons x f ih =>
        intro g h k
        rw [List.length_cons, List.range'_succ, List.map_cons, List.map_cons, List.map_cons]
        show (a * g k + h k) * x + dotQ _ f = a * (g k * x + dotQ _ f) + (h k * x + dotQ _ f)
        rw [ih g h (k + 1)]; grind
    have kv : ∀ (f r : List Rat) (k : Nat), dotQ ((List.range' 0 f.length).map fun j => vv r (j + k)) f = dotQ (r.drop k) f := fun f => by
      induction f with
      | nil => intro r k; cases r.drop k <;> rfl
      | cons x f ih =>
        intro r k
        rw [List.length_cons, List.range'_succ, List.map_cons]
        have e : (List.range' (0 + 1) f.length).map (fun j => vv r (j + k)) = (List.range' 0 f.length).map fun j => vv r (j + (k + 1)) := by
          have hh : List.range' (0 + 1) f.length = (List.range' 0 f.length).map (fun x => 1 + x) := (List.map_add_range' (a := 1) 0 f.length 1).symm
          rw [hh, List.map_map]
          refine List.map_congr_left fun j _ => ?_
          show vv r (1 + j + k) = vv r (j + (k + 1))
          congr 1; omega
        by_cases hk : k < r.length
        · rw [List.drop_eq_getElem_cons hk]
          show vv r (0 + k) * x + dotQ _ f = r[k] * x + dotQ (r.drop (k + 1)) f
          rw [e, ih r (k + 1)]
          congr 2
          unfold vv
          rw [Nat.zero_add, List.getD_eq_getElem?_getD, List.getElem?_eq_getElem hk]
          rfl
        · rw [List.drop_eq_nil_of_le (by omega)]
          show vv r (0 + k) * x + dotQ _ f = 0
          rw [e, ih r (k + 1), List.drop_eq_nil_of_le (by omega), vv_out (by omega)]
          show 0 * x + 0 = (0 : Rat)
          grind
    have := key f (vv r) (rowF T (vv row)) 0
    rw [List.range_eq_range']
    have e2 : (List.range' 0 f.length).map (rowF (r :: T) (vv (a :: row))) = (List.range' 0 f.length).map fun j => a * vv r j + rowF T (vv row) j := rfl
    rw [e2, this]
    have := kv f r 0
    rw [List.drop_zero] at this
    simp only [Nat.add_zero] at this
    rw [this]
theorem shape_lc {ms : List Menu} {a b c d : Slot} : lcL (gT 2 (gsC (gN 5) (gsC (gN 6) gs0))) yYes (xTup (zCons (xV 5) (zCons (xCB zLen (zCons (xV 6) zNil)) zNil))) [a, b, c, d, .dat (encBook ms), .no, .no] (ms.map encMenu) = .ok ((shapeQ ms).map shpD) := by
  have : (shapeQ ms).map shpD = ms.map fun m => shpD (m.1, m.2.length) := by unfold shapeQ; rw [List.map_map]; rfl
  rw [this]
  exact lcL_map (F := fun m ρ => (ρ.set 5 (.dat (whoD m.1))).set 6 (.dat (.tuple (m.2.map encRow)))) (fun m _ => rfl) (fun m _ => rfl) (fun m _ => by simp only [zR0, zR1, zR2, zR3, zR4, zR5, zR6, zR7, slotsM, kFor_a, Rz.bind_ok, Rz.of_some, Rz.calm_ok, Option.bind_some, Option.bind_none, slots, sel, Arg.get, List.filterMap_cons, List.filterMap_nil, List.length_cons, List.length_nil, List.map_cons, List.map_nil, List.cons_append, List.nil_append, List.append_nil, List.getElem?_cons_succ, List.getElem?_cons_zero, List.getElem?_nil, List.set_cons_zero, List.set_cons_succ, List.set_nil, List.replicate_succ, List.replicate_zero, if_true, Nat.sub_self, Nat.reduceAdd, Nat.reduceSub, Nat.reduceLeDiff, Nat.reduceEqDiff, Nat.reduceLT, Int.reduceLT, Int.reduceLE, Int.reduceNeg, Int.reduceEq, Nat.zero_add, and_self, if_false, Bool.not_true, Bool.not_false, Bool.false_eq_true, Nat.zero_le, decide_true, decide_false, reduceCtorEq, List.length_map]; rfl)
theorem z_need_both {A B : List Menu} {f : List Rat} {df : PyData} (hA : okBook A) (hB : okBook B) (hl : f.length ≤ 1000) (hd : df = .list (f.map encR) ∨ df = .tuple (f.map encR)) :
    d_need_both [encBook A, encBook B, df] = if shapeQ A = shapeQ B then (if badFill A.length f then .ex ⟨"BadFilling", []⟩ else .ok .none) else .ex ⟨"Unlike", []⟩ := by
  have a5 := hA.hi
  have b5 := hB.hi
  have l1 := z_look hA
  have l2 := z_look hB
  have nf := z_need_filling (n := A.length) hl hd
  have c1 : (A.map encMenu).length ≤ 1000000 := by rw [List.length_map]; omega
  have c2 : (B.map encMenu).length ≤ 1000000 := by rw [List.length_map]; omega
  have s1 : seqOf (encBook A) = some (A.map encMenu) := rfl
  have s2 : seqOf (encBook B) = some (B.map encMenu) := rfl
  have lc : ∀ a b c : Slot, lcL (gN 4) yYes (xL (fLc [5, 6] (iS (xV 4)) (gT 2 (gsC (gN 5) (gsC (gN 6) gs0))) yYes (xTup (zCons (xV 5) (zCons (xCB zLen (zCons (xV 6) zNil)) zNil))))) [a, b, c, .no, .no, .no, .no] [encBook A, encBook B] = .ok [.list ((shapeQ A).map shpD), .list ((shapeQ B).map shpD)] := fun a b c => by
    simp only [zR0, zR1, zR2, zR3, zR4, zR5, zR6, zR7, slotsM, kFor_a, Rz.bind_ok, Rz.of_some, Rz.calm_ok, Option.bind_some, Option.bind_none, slots, sel, Arg.get, List.filterMap_cons, List.filterMap_nil, List.length_cons, List.length_nil, List.map_cons, List.map_nil, List.cons_append, List.nil_append, List.append_nil, List.getElem?_cons_succ, List.getElem?_cons_zero, List.getElem?_nil, List.set_cons_zero, List.set_cons_succ, List.set_nil, List.replicate_succ, List.replicate_zero, if_true, Nat.sub_self, Nat.reduceAdd, Nat.reduceSub, Nat.reduceLeDiff, Nat.reduceEqDiff, Nat.reduceLT, Int.reduceLT, Int.reduceLE, Int.reduceNeg, Int.reduceEq, Nat.zero_add, and_self, if_false, Bool.not_true, Bool.not_false, Bool.false_eq_true, Nat.zero_le, decide_true, decide_false, reduceCtorEq, lcL_cons, lcL_nil, s1, s2, if_pos c1, if_pos c2, shape_lc]
  have at0 : atI [PyData.list ((shapeQ A).map shpD), .list ((shapeQ B).map shpD)] 0 = some (.list ((shapeQ A).map shpD)) := rfl
  have at1 : atI [PyData.list ((shapeQ A).map shpD), .list ((shapeQ B).map shpD)] 1 = some (.list ((shapeQ B).map shpD)) := rfl
  have lb : zLen [encBook A] = some (.int (A.length : Nat)) := by unfold encBook; rw [zLen_t, List.length_map]
  by_cases e : shapeQ A = shapeQ B
  · rw [if_pos e]
    cases eb : badFill A.length f with
    | true =>
      rw [eb] at nf
      simp only [if_true] at nf ⊢
      simp only [zR0, zR1, zR2, zR3, zR4, zR5, zR6, zR7, slotsM, kFor_a, Rz.bind_ok, Rz.of_some, Rz.calm_ok, Option.bind_some, Option.bind_none, slots, sel, Arg.get, List.filterMap_cons, List.filterMap_nil, List.length_cons, List.length_nil, List.map_cons, List.map_nil, List.cons_append, List.nil_append, List.append_nil, List.getElem?_cons_succ, List.getElem?_cons_zero, List.getElem?_nil, List.set_cons_zero, List.set_cons_succ, List.set_nil, List.replicate_succ, List.replicate_zero, if_true, Nat.sub_self, Nat.reduceAdd, Nat.reduceSub, Nat.reduceLeDiff, Nat.reduceEqDiff, Nat.reduceLT, Int.reduceLT, Int.reduceLE, Int.reduceNeg, Int.reduceEq, Nat.zero_add, and_self, if_false, Bool.not_true, Bool.not_false, Bool.false_eq_true, Nat.zero_le, decide_true, decide_false, reduceCtorEq, d_need_both, m_need_both, l1, l2, lc, at0, at1, zNe_shape, decide_eq_true e, lb, nf]
    | false =>
      rw [eb] at nf
      simp only [Bool.false_eq_true, if_false] at nf ⊢
      simp only [zR0, zR1, zR2, zR3, zR4, zR5, zR6, zR7, slotsM, kFor_a, Rz.bind_ok, Rz.of_some, Rz.calm_ok, Option.bind_some, Option.bind_none, slots, sel, Arg.get, List.filterMap_cons, List.filterMap_nil, List.length_cons, List.length_nil, List.map_cons, List.map_nil, List.cons_append, List.nil_append, List.append_nil, List.getElem?_cons_succ, List.getElem?_cons_zero, List.getElem?_nil, List.set_cons_zero, List.set_cons_succ, List.set_nil, List.replicate_succ, List.replicate_zero, if_true, Nat.sub_self, Nat.reduceAdd, Nat.reduceSub, Nat.reduceLeDiff, Nat.reduceEqDiff, Nat.reduceLT, Int.reduceLT, Int.reduceLE, Int.reduceNeg, Int.reduceEq, Nat.zero_add, and_self, if_false, Bool.not_true, Bool.not_false, Bool.false_eq_true, Nat.zero_le, decide_true, decide_false, reduceCtorEq, d_need_both, m_need_both, l1, l2, lc, at0, at1, zNe_shape, decide_eq_true e, lb, nf]
  · rw [if_neg e]
    simp only [zR0, zR1, zR2, zR3, zR4, zR5, zR6, zR7, slotsM, kFor_a, Rz.bind_ok, Rz.of_some, Rz.calm_ok, Option.bind_some, Option.bind_none, slots, sel, Arg.get, List.filterMap_cons, List.filterMap_nil, List.length_cons, List.length_nil, List.map_cons, List.map_nil, List.cons_append, List.nil_append, List.append_nil, List.getElem?_cons_succ, List.getElem?_cons_zero, List.getElem?_nil, List.set_cons_zero, List.set_cons_succ, List.set_nil, List.replicate_succ, List.replicate_zero, if_true, Nat.sub_self, Nat.reduceAdd, Nat.reduceSub, Nat.reduceLeDiff, Nat.reduceEqDiff, Nat.reduceLT, Int.reduceLT, Int.reduceLE, Int.reduceNeg, Int.reduceEq, Nat.zero_add, and_self, if_false, Bool.not_true, Bool.not_false, Bool.false_eq_true, Nat.zero_le, decide_true, decide_false, reduceCtorEq, d_need_both, m_need_both, l1, l2, lc, at0, at1, zNe_shape, decide_eq_false e]
structure RowV (n k : Nat) (r : List Rat) : Prop where
  len : r.length = n
  vb : VB (100 + 28 * k) (100 + 41 * k) r
theorem RowV.g {n k : Nat} {r : List Rat} (h : RowV n k r) (hk : k ≤ 20) : RowG n r := ⟨h.len, h.vb.gv.mono (by omega) (by omega)⟩
theorem rowBy_VB {n d e : Nat} {r : List Rat} {T : List (List Rat)} (hn : n ≤ 5) (hl : r.length = n) (h : VB d e r) (hT : ∀ t ∈ T, okRow n t) : VB (d + 28) (e + 41) (rowBy r T) := by
  obtain ⟨D, N, h1, h2, h3, h4⟩ := h
  refine ⟨D * 232792560, 5 * (N * 232559767440), by omega, ?_, ?_, ?_⟩
  · rw [Nat.pow_add]
    generalize 2 ^ d = A at h2
    have h9 : (2 : Nat) ^ 28 = 268435456 := by decide
    rw [h9]
    omega
  · rw [Nat.pow_add]
    generalize 2 ^ e = A at h3
    have h9 : (2 : Nat) ^ 41 = 2199023255552 := by decide
    rw [h9]
    omega
  · intro q hq
    unfold rowBy at hq
    obtain ⟨j, hj, rfl⟩ := List.mem_map.mp hq
    have hj := List.mem_range.mp hj
    rw [hl] at hj
    obtain ⟨z, z1, z2⟩ := dot_VG (D1 := D) (N1 := N) (D := 232792560) (N := 232559767440) r (T.map fun t => vv t j) h4 (fun q hq => by
      obtain ⟨t, ht, rfl⟩ := List.mem_map.mp hq
      exact okS_VG ((hT t ht).all _ (vv_mem (by rw [(hT t ht).len]; exact hj))))
    refine ⟨z, z1, Nat.le_trans z2 ?_⟩
    rw [hl]
    exact Nat.mul_le_mul_right _ hn
theorem rowBy_V {n k : Nat} {r : List Rat} {T : List (List Rat)} (hn : n ≤ 5) (h : RowV n k r) (hT : ∀ t ∈ T, okRow n t) : RowV n (k + 1) (rowBy r T) :=
  ⟨by rw [rowBy_len, h.len], (rowBy_VB hn h.len h.vb hT).mono (by omega) (by omega)⟩
abbrev It := List Rat × List (List Int)
def itD (x : It) : PyData := .tuple [encRow x.1, .list (x.2.map planD)]
def apartD (cs : List (List Int)) (st : Nat) : PyData := .tuple [.str "apart", .list (cs.map planD), natD st]
abbrev S_al (A B : List Menu) (dc : PyData) (ls : List (Nat × List Rat)) (bs : List (List Rat)) (ws : List It) (a6 a7 a8 a9 a10 a11 a12 : Slot) : List Slot :=
  [.dat (encBook A), .dat (encBook B), .dat dc, .obj ⟨1, none, spanF ls⟩, .own (.lst (bs.map encRow)), .own (.lst (ws.map itD)), a6, a7, a8, a9, a10, a11, a12]
def addW (n : Nat) (ls : List (Nat × List Rat)) (h : List Rat) (cs : List (List Int)) (ws : List It) : List It := if newQ n ls h then ws ++ [(h, cs)] else ws
section
variable {A B : List Menu} {dc : PyData} {ls : List (Nat × List Rat)} {bs : List (List Rat)} {ws : List It} {r : List Rat} {cs : List (List Int)} {c : List Int} {k : Nat}
theorem okT_good (hA : okBook A) (h : goodChoice A c) : (takenL A c).length = A.length ∧ ∀ t ∈ takenL A c, okRow A.length t := okTab_taken A.length h hA.all
theorem al_same (hA : okBook A) (hB : okBook B) (hs : shapeQ A = shapeQ B) (hc : goodChoice A c) (hr : RowV A.length k r) (hk : k ≤ 10) (h : SpanOk A.length ls) (e : rowBy r (takenL A c) = rowBy r (takenL B c)) (hw : ws.length ≤ 1000) (hcs : cs.length ≤ 1000) :
    b1_alike (S_al A B dc ls bs ws (.dat (encRow r)) (.dat (.list (cs.map planD))) (.dat (planD c)) .no .no .no .no) = .nx (S_al A B dc (putQ A.length ls (rowBy r (takenL A c))) bs (addW A.length ls (rowBy r (takenL A c)) (c :: cs) ws) (.dat (encRow r)) (.dat (.list (cs.map planD))) (.dat (planD c)) (.dat (encRow (rowBy r (takenL A c)))) (.dat (encRow (rowBy r (takenL A c)))) .no .no) := by
  have hl := shape_len hs
  have t1 := z_taken (by have := hA.hi; omega) hc
  have t2 := z_taken (by have := hB.hi; omega) (shape_good hs hc)
  have r1 := z_row_by hA.hi (hr.g (by omega)) (hA.taken hc)
  have r2 := z_row_by hA.hi (hr.g (by omega)) (hl ▸ hB.taken (shape_good hs hc))
  rw [← e] at r2
  have hv := rowBy_V hA.hi hr (okT_good hA hc).2
  have pt := z_put (df := encRow (rowBy r (takenL A c))) h (hv.g (by omega)) (.inr rfl)
  have hne := zNe_row (rowBy r (takenL A c)) (rowBy r (takenL A c))
  have l1 := zAddV_l (a := [planD c]) (b := cs.map planD) (by rw [List.length_map]; simp; omega)
  have hlw : (ws.map itD).length < 1000000 := by rw [List.length_map]; omega
  unfold addW
  cases en : newQ A.length ls (rowBy r (takenL A c)) with
  | true =>
    rw [en] at pt
    rw [if_pos rfl]
    simp only [zR0, zR1, zR2, zR3, zR4, zR5, zR6, zR7, slotsM, kFor_a, Rz.bind_ok, Rz.of_some, Rz.calm_ok, Option.bind_some, Option.bind_none, slots, sel, Arg.get, List.filterMap_cons, List.filterMap_nil, List.length_cons, List.length_nil, List.map_cons, List.map_nil, List.cons_append, List.nil_append, List.append_nil, List.getElem?_cons_succ, List.getElem?_cons_zero, List.getElem?_nil, List.set_cons_zero, List.set_cons_succ, List.set_nil, List.replicate_succ, List.replicate_zero, if_true, Nat.sub_self, Nat.reduceAdd, Nat.reduceSub, Nat.reduceLeDiff, Nat.reduceEqDiff, Nat.reduceLT, Int.reduceLT, Int.reduceLE, Int.reduceNeg, Int.reduceEq, Nat.zero_add, and_self, if_false, Bool.not_true, Bool.not_false, Bool.false_eq_true, Nat.zero_le, decide_true, decide_false, reduceCtorEq, b1_alike_a, t1, t2, r1, r2, hne, decide_true, pt, l1, if_pos hlw]
    unfold S_al
    rw [List.map_append]
    rfl
  | false =>
    rw [en] at pt
    rw [if_neg Bool.false_ne_true]
    simp only [zR0, zR1, zR2, zR3, zR4, zR5, zR6, zR7, slotsM, kFor_a, Rz.bind_ok, Rz.of_some, Rz.calm_ok, Option.bind_some, Option.bind_none, slots, sel, Arg.get, List.filterMap_cons, List.filterMap_nil, List.length_cons, List.length_nil, List.map_cons, List.map_nil, List.cons_append, List.nil_append, List.append_nil, List.getElem?_cons_succ, List.getElem?_cons_zero, List.getElem?_nil, List.set_cons_zero, List.set_cons_succ, List.set_nil, List.replicate_succ, List.replicate_zero, if_true, Nat.sub_self, Nat.reduceAdd, Nat.reduceSub, Nat.reduceLeDiff, Nat.reduceEqDiff, Nat.reduceLT, Int.reduceLT, Int.reduceLE, Int.reduceNeg, Int.reduceEq, Nat.zero_add, and_self, if_false, Bool.not_true, Bool.not_false, Bool.false_eq_true, Nat.zero_le, decide_true, decide_false, reduceCtorEq, b1_alike_a, t1, t2, r1, r2, hne, decide_true, pt]
theorem al_diff (hA : okBook A) (hB : okBook B) (hs : shapeQ A = shapeQ B) (hc : goodChoice A c) (hr : RowV A.length k r) (hk : k ≤ 10) (e : rowBy r (takenL A c) ≠ rowBy r (takenL B c)) (hcs : cs.length ≤ 1000) :
    ∃ st, st < A.length ∧ vv (rowBy r (takenL A c)) st ≠ vv (rowBy r (takenL B c)) st ∧ b1_alike (S_al A B dc ls bs ws (.dat (encRow r)) (.dat (.list (cs.map planD))) (.dat (planD c)) .no .no .no .no) = .rt (apartD (c :: cs) st) := by
  have hl := shape_len hs
  have h5 := hA.hi
  have t1 := z_taken (by have := hA.hi; omega) hc
  have t2 := z_taken (by have := hB.hi; omega) (shape_good hs hc)
  have r1 := z_row_by hA.hi (hr.g (by omega)) (hA.taken hc)
  have r2 := z_row_by hA.hi (hr.g (by omega)) (hl ▸ hB.taken (shape_good hs hc))
  have n1 : (rowBy r (takenL A c)).length = A.length := by rw [rowBy_len, hr.len]
  have n2 : (rowBy r (takenL B c)).length = A.length := by rw [rowBy_len, hr.len]
  generalize rowBy r (takenL A c) = x at *
  generalize rowBy r (takenL B c) = y at *
  have hne := zNe_row x y
  rw [decide_eq_false e] at hne
  have l1 := zAddV_l (a := [planD c]) (b := cs.map planD) (by rw [List.length_map]; simp; omega)
  have hrn : rng1 [.int (A.length : Nat)] = some ((List.range A.length).map natD) := by rw [rng1_n (by omega), rgD_map]; rfl
  have hlx : zLen [encRow x] = some (.int (A.length : Nat)) := by unfold encRow; rw [zLen_t, List.length_map, n1]
  have hlc : ((List.range A.length).map natD).length ≤ 1000000 := by rw [List.length_map, List.length_range]; omega
  have hix : ∀ (w : List Rat) (j : Nat), w.length = A.length → j < A.length → zIx (encRow w) (.int (j : Int)) = some (encR (vv w j)) := fun w j hw hj => by
    unfold encRow
    rw [zIx_t]
    exact at_vv (by omega)
  have lc : ∀ a0 a1 a2 a3 a4 a5 a6 a7 a8 a11 : Slot, lcL (gN 12) (yV (xOp zNe (xOp zIx (xV 9) (xV 12)) (xOp zIx (xV 10) (xV 12)))) (xV 12) [a0, a1, a2, a3, a4, a5, a6, a7, a8, .dat (encRow x), .dat (encRow y), a11, .no] ((List.range A.length).map natD) = .ok (((List.range A.length).filter fun j => !decide (vv x j = vv y j)).map natD) := fun a0 a1 a2 a3 a4 a5 a6 a7 a8 a11 =>
    lcL_filter (F := fun j ρ => ρ.set 12 (.dat (natD j))) (fun j _ => rfl) (fun j hj => by
      have hj := List.mem_range.mp hj
      simp only [zR0, zR1, zR2, zR3, zR4, zR5, zR6, zR7, slotsM, kFor_a, Rz.bind_ok, Rz.of_some, Rz.calm_ok, Option.bind_some, Option.bind_none, slots, sel, Arg.get, List.filterMap_cons, List.filterMap_nil, List.length_cons, List.length_nil, List.map_cons, List.map_nil, List.cons_append, List.nil_append, List.append_nil, List.getElem?_cons_succ, List.getElem?_cons_zero, List.getElem?_nil, List.set_cons_zero, List.set_cons_succ, List.set_nil, List.replicate_succ, List.replicate_zero, if_true, Nat.sub_self, Nat.reduceAdd, Nat.reduceSub, Nat.reduceLeDiff, Nat.reduceEqDiff, Nat.reduceLT, Int.reduceLT, Int.reduceLE, Int.reduceNeg, Int.reduceEq, Nat.zero_add, and_self, if_false, Bool.not_true, Bool.not_false, Bool.false_eq_true, Nat.zero_le, decide_true, decide_false, reduceCtorEq, natD, hix x j n1 hj, hix y j n2 hj]) (fun j _ _ => rfl)
  cases hL : (List.range A.length).filter fun j => !decide (vv x j = vv y j) with
  | nil =>
    refine (e (vv_ext (by omega) (funext fun j => ?_))).elim
    by_cases hj : j < A.length
    · have := List.filter_eq_nil_iff.mp hL j (List.mem_range.mpr hj)
      simpa using this
    · rw [vv_out (by omega), vv_out (by omega)]
  | cons st t =>
    have hm : st ∈ (List.range A.length).filter fun j => !decide (vv x j = vv y j) := by rw [hL]; exact List.mem_cons_self ..
    obtain ⟨m1, m2⟩ := List.mem_filter.mp hm
    rw [hL] at lc
    refine ⟨st, List.mem_range.mp m1, by simpa using m2, ?_⟩
    have at0 : atI (natD st :: t.map natD) 0 = some (natD st) := by
      rw [← List.map_cons]
      rw [show (0 : Int) = ((0 : Nat) : Int) from rfl, atI_nat (by rw [List.length_map, List.length_cons]; omega)]
      rfl
    simp only [zR0, zR1, zR2, zR3, zR4, zR5, zR6, zR7, slotsM, kFor_a, Rz.bind_ok, Rz.of_some, Rz.calm_ok, Option.bind_some, Option.bind_none, slots, sel, Arg.get, List.filterMap_cons, List.filterMap_nil, List.length_cons, List.length_nil, List.map_cons, List.map_nil, List.cons_append, List.nil_append, List.append_nil, List.getElem?_cons_succ, List.getElem?_cons_zero, List.getElem?_nil, List.set_cons_zero, List.set_cons_succ, List.set_nil, List.replicate_succ, List.replicate_zero, if_true, Nat.sub_self, Nat.reduceAdd, Nat.reduceSub, Nat.reduceLeDiff, Nat.reduceEqDiff, Nat.reduceLT, Int.reduceLT, Int.reduceLE, Int.reduceNeg, Int.reduceEq, Nat.zero_add, and_self, if_false, Bool.not_true, Bool.not_false, Bool.false_eq_true, Nat.zero_le, decide_true, decide_false, reduceCtorEq, b1_alike_a, t1, t2, r1, r2, hne, hlx, hrn, if_pos hlc, lc, at0, l1]
    rfl
end
def rowP (ms : List Menu) (f : List Rat) : List (List Int) → List Rat
  | [] => f
  | c :: cs => rowBy (rowP ms f cs) (takenL ms c)
def innerQ (A : List Menu) (r : List Rat) (cs : List (List Int)) : List (List Int) → List (Nat × List Rat) → List It → List (Nat × List Rat) × List It
  | [], ls, ws => (ls, ws)
  | c :: t, ls, ws => innerQ A r cs t (putQ A.length ls (rowBy r (takenL A c))) (addW A.length ls (rowBy r (takenL A c)) (c :: cs) ws)
structure InnerOk (A : List Menu) (r : List Rat) (cs : List (List Int)) (todo : List (List Int)) (ls ls' : List (Nat × List Rat)) (add : List It) : Prop where
  sp : SpanOk A.length ls'
  ln : ls'.length = ls.length + add.length
  it : ∀ x ∈ add, ∃ c ∈ todo, x = (rowBy r (takenL A c), c :: cs)
  sub : ∀ v, Spn (LP ls) v → Spn (LP ls') v
  all : ∀ c ∈ todo, Spn (LP ls') (vv (rowBy r (takenL A c)))
  ld : ∀ P : (Nat → Rat) → Prop, (∀ p ∈ ls, Spn P (vv p.2)) → (∀ x ∈ add, Spn P (vv x.1)) → ∀ p ∈ ls', Spn P (vv p.2)
theorem inner_ok {A : List Menu} {r : List Rat} {cs : List (List Int)} {k : Nat} (hA : okBook A) (hr : RowV A.length k r) (hk : k ≤ 10) : ∀ (todo : List (List Int)) (ls : List (Nat × List Rat)) (ws : List It), (∀ c ∈ todo, goodChoice A c) → SpanOk A.length ls →
    ∃ add, (innerQ A r cs todo ls ws).2 = ws ++ add ∧ InnerOk A r cs todo ls (innerQ A r cs todo ls ws).1 add
  | [], ls, ws, _, h => ⟨[], (List.append_nil _).symm, h, rfl, nofun, fun v hv => hv, nofun, fun P h1 _ => h1⟩
  | c :: t, ls, ws, hg, h => by
    have hc := hg c (List.mem_cons_self ..)
    have hv := (rowBy_V hA.hi hr (okT_good hA hc).2).g (by omega)
    have h2 := h.put hv
    obtain ⟨add, e, o⟩ := inner_ok hA hr hk t (putQ A.length ls (rowBy r (takenL A c))) (addW A.length ls (rowBy r (takenL A c)) (c :: cs) ws) (fun x hx => hg x (List.mem_cons_of_mem _ hx)) h2
    have pl := put_len (n := A.length) (ls := ls) (row := rowBy r (takenL A c))
    have pr := put_row h.ok hv.len
    show ∃ add', (innerQ A r cs t (putQ A.length ls (rowBy r (takenL A c))) (addW A.length ls (rowBy r (takenL A c)) (c :: cs) ws)).2 = ws ++ add' ∧ InnerOk A r cs (c :: t) ls (innerQ A r cs t (putQ A.length ls (rowBy r (takenL A c))) (addW A.length ls (rowBy r (takenL A c)) (c :: cs) ws)).1 add'
    have all' : ∀ x ∈ c :: t, Spn (LP (innerQ A r cs t (putQ A.length ls (rowBy r (takenL A c))) (addW A.length ls (rowBy r (takenL A c)) (c :: cs) ws)).1) (vv (rowBy r (takenL A x))) := fun x hx => by
      rcases List.mem_cons.mp hx with z | z
      · rw [z]; exact o.sub _ pr
      · exact o.all x z
    cases en : newQ A.length ls (rowBy r (takenL A c)) with
    | true =>
      refine ⟨(rowBy r (takenL A c), c :: cs) :: add, ?_, o.sp, ?_, ?_, fun v hv => o.sub v (put_sub hv), all', fun P p1 p2 => o.ld P (put_lead h.ok hv.len p1 (p2 _ (List.mem_cons_self ..))) fun x hx => p2 x (List.mem_cons_of_mem _ hx)⟩
      · rw [e]; unfold addW; rw [if_pos en, List.append_assoc]; rfl
      · rw [o.ln, pl, if_pos en, List.length_cons]; omega
      · intro x hx
        rcases List.mem_cons.mp hx with z | z
        · exact ⟨c, List.mem_cons_self .., z⟩
        · obtain ⟨d, hd, he⟩ := o.it x z
          exact ⟨d, List.mem_cons_of_mem _ hd, he⟩
    | false =>
      refine ⟨add, ?_, o.sp, ?_, ?_, fun v hv => o.sub v (put_sub hv), all', fun P p1 p2 => o.ld P (by rw [put_old en]; exact p1) p2⟩
      · rw [e]; unfold addW; rw [if_neg (by rw [en]; exact Bool.false_ne_true)]
      · rw [o.ln, pl, if_neg (by rw [en]; exact Bool.false_ne_true)]; omega
      · intro x hx
        obtain ⟨d, hd, he⟩ := o.it x hx
        exact ⟨d, List.mem_cons_of_mem _ hd, he⟩
section
variable {A B : List Menu} {dc : PyData} {bs : List (List Rat)} {r : List Rat} {cs : List (List Int)} {k : Nat}
theorem z_inner (hA : okBook A) (hB : okBook B) (hs : shapeQ A = shapeQ B) (hr : RowV A.length k r) (hk : k ≤ 10) (hcs : cs.length ≤ 1000) : ∀ (todo : List (List Int)) (ls : List (Nat × List Rat)) (ws : List It), (∀ c ∈ todo, goodChoice A c) → SpanOk A.length ls → ws.length + todo.length ≤ 1000 →
    ((∀ c ∈ todo, rowBy r (takenL A c) = rowBy r (takenL B c)) ∧ forL (gN 8) [8, 9, 10, 11] b1_alike (todo.map planD) (S_al A B dc ls bs ws (.dat (encRow r)) (.dat (.list (cs.map planD))) .no .no .no .no .no) = .nx (S_al A B dc (innerQ A r cs todo ls ws).1 bs (innerQ A r cs todo ls ws).2 (.dat (encRow r)) (.dat (.list (cs.map planD))) .no .no .no .no .no)) ∨
    (∃ c ∈ todo, ∃ st, st < A.length ∧ vv (rowBy r (takenL A c)) st ≠ vv (rowBy r (takenL B c)) st ∧ forL (gN 8) [8, 9, 10, 11] b1_alike (todo.map planD) (S_al A B dc ls bs ws (.dat (encRow r)) (.dat (.list (cs.map planD))) .no .no .no .no .no) = .rt (apartD (c :: cs) st))
  | [], ls, ws, _, _, _ => .inl ⟨nofun, rfl⟩
  | c :: t, ls, ws, hg, h, hw => by
    have hc := hg c (List.mem_cons_self ..)
    rw [List.length_cons] at hw
    by_cases e : rowBy r (takenL A c) = rowBy r (takenL B c)
    · have hv := (rowBy_V hA.hi hr (okT_good hA hc).2).g (by omega)
      have turn := al_same (dc := dc) (bs := bs) (ws := ws) hA hB hs hc hr hk h e (by omega) hcs
      have hl2 : (addW A.length ls (rowBy r (takenL A c)) (c :: cs) ws).length ≤ ws.length + 1 := by
        unfold addW
        split
        · rw [List.length_append]; exact Nat.le_refl _
        · omega
      have step : forL (gN 8) [8, 9, 10, 11] b1_alike ((c :: t).map planD) (S_al A B dc ls bs ws (.dat (encRow r)) (.dat (.list (cs.map planD))) .no .no .no .no .no) = forL (gN 8) [8, 9, 10, 11] b1_alike (t.map planD) (S_al A B dc (putQ A.length ls (rowBy r (takenL A c))) bs (addW A.length ls (rowBy r (takenL A c)) (c :: cs) ws) (.dat (encRow r)) (.dat (.list (cs.map planD))) .no .no .no .no .no) := by
        rw [List.map_cons, forL_cons]
        simp only [gN_a, S_al, List.set_cons_succ, List.set_cons_zero] at turn ⊢
        rw [turn]
        rfl
      rw [step]
      rcases z_inner hA hB hs hr hk hcs t (putQ A.length ls (rowBy r (takenL A c))) (addW A.length ls (rowBy r (takenL A c)) (c :: cs) ws) (fun x hx => hg x (List.mem_cons_of_mem _ hx)) (h.put hv) (by omega) with ⟨i1, i2⟩ | ⟨d, hd, st, i1, i2, i3⟩
      · refine .inl ⟨fun x hx => ?_, i2⟩
        rcases List.mem_cons.mp hx with z | z
        · rw [z]; exact e
        · exact i1 x z
      · exact .inr ⟨d, List.mem_cons_of_mem _ hd, st, i1, i2, i3⟩
    · obtain ⟨st, s1, s2, turn⟩ := al_diff (dc := dc) (ls := ls) (bs := bs) (ws := ws) hA hB hs hc hr hk e hcs
      refine .inr ⟨c, List.mem_cons_self .., st, s1, s2, ?_⟩
      rw [List.map_cons, forL_cons]
      simp only [gN_a, S_al, List.set_cons_succ, List.set_cons_zero] at turn ⊢
      rw [turn]
end
theorem pw_all {α : Type} {R : α → α → Prop} : ∀ l : List α, (∀ a ∈ l, ∀ b ∈ l, R a b) → l.Pairwise R
  | [], _ => .nil
  | a :: l, h => .cons (fun b hb => h a (List.mem_cons_self ..) b (List.mem_cons_of_mem _ hb)) (pw_all l fun x hx y hy => h x (List.mem_cons_of_mem _ hx) y (List.mem_cons_of_mem _ hy))
def RPd (L : List It) (k : Nat) (v : Nat → Rat) : Prop := ∃ x ∈ L, x.2.length ≤ k ∧ v = vv x.1
def RPa (L : List It) (v : Nat → Rat) : Prop := ∃ x ∈ L, v = vv x.1
structure InvA (A B : List Menu) (f : List Rat) (Bs Ws : List It) (ls : List (Nat × List Rat)) : Prop where
  sp : SpanOk A.length ls
  ln : ls.length = (Bs ++ Ws).length
  rw : ∀ x ∈ Bs ++ Ws, x.1 = rowP A f x.2 ∧ x.1 = rowP B f x.2 ∧ (∀ c ∈ x.2, goodChoice A c) ∧ RowV A.length x.2.length x.1
  ll : ∀ p ∈ ls, Spn (RPa (Bs ++ Ws)) (vv p.2)
  lr : ∀ x ∈ Bs ++ Ws, Spn (LP ls) (vv x.1)
  st : (Bs ++ Ws).Pairwise fun a b => a.2.length ≤ b.2.length
  hd : ∀ (w : It) (W' : List It), Ws = w :: W' → ∀ x ∈ Bs ++ Ws, x.2.length ≤ w.2.length + 1
  ix : ∀ (i : Nat) (x : It), (Bs ++ Ws)[i]? = some x → x.2.length ≤ i
  cl : ∀ b ∈ Bs, ∀ c, goodChoice A c → rowBy b.1 (takenL A c) = rowBy b.1 (takenL B c) ∧ Spn (RPd (Bs ++ Ws) (b.2.length + 1)) (vv (rowBy b.1 (takenL A c)))
  f0 : Spn (RPd (Bs ++ Ws) 0) (vv f)
theorem RPd.mono {L M : List It} {j k : Nat} {v : Nat → Rat} (h : RPd L j v) (hL : ∀ x ∈ L, x ∈ M) (hk : j ≤ k) : RPd M k v := by
  obtain ⟨x, h1, h2, h3⟩ := h
  exact ⟨x, hL x h1, Nat.le_trans h2 hk, h3⟩
theorem InvA.step {A B : List Menu} {f : List Rat} {Bs Ws : List It} {w : It} {ls ls' : List (Nat × List Rat)} {add : List It} (h : InvA A B f Bs (w :: Ws) ls) (hall : ∀ c, goodChoice A c → rowBy w.1 (takenL A c) = rowBy w.1 (takenL B c))
    (hA : okBook A) (o : InnerOk A w.1 w.2 (choicesQ A) ls ls' add) : InvA A B f (Bs ++ [w]) (Ws ++ add) ls' := by
  have hL : (Bs ++ [w]) ++ (Ws ++ add) = (Bs ++ w :: Ws) ++ add := by simp
  have hw : w ∈ Bs ++ w :: Ws := List.mem_append_right _ (List.mem_cons_self ..)
  have had : ∀ x ∈ add, ∃ c, goodChoice A c ∧ x = (rowBy w.1 (takenL A c), c :: w.2) := fun x hx => by
    obtain ⟨c, hc, e⟩ := o.it x hx
    exact ⟨c, mem_choices.mp hc, e⟩
  have dep : ∀ x ∈ (Bs ++ w :: Ws) ++ add, x.2.length ≤ w.2.length + 1 := fun x hx => by
    rcases List.mem_append.mp hx with z | z
    · exact h.hd w Ws rfl x z
    · obtain ⟨c, _, rfl⟩ := had x z
      exact Nat.le_refl _
  have hB : ∀ x ∈ Bs ++ w :: Ws, x ∈ (Bs ++ w :: Ws) ++ add := fun x hx => List.mem_append_left _ hx
  obtain ⟨w1, w2, w3, w4⟩ := h.rw w hw
  have ll' : ∀ p ∈ ls', Spn (RPa ((Bs ++ w :: Ws) ++ add)) (vv p.2) := o.ld _ (fun p hp => (h.ll p hp).mono fun u ⟨x, hx, e⟩ => ⟨x, hB x hx, e⟩) fun x hx => .of ⟨x, List.mem_append_right _ hx, rfl⟩
  have stk := List.pairwise_append.mp h.st
  have stw := List.pairwise_cons.mp stk.2.1
  have adds : add.Pairwise fun a b => a.2.length ≤ b.2.length := pw_all add fun a ha b hb => by
    obtain ⟨c, _, rfl⟩ := had a ha
    obtain ⟨d, _, rfl⟩ := had b hb
    exact Nat.le_refl _
  refine ⟨o.sp, ?_, ?_, ?_, ?_, ?_, ?_, ?_, ?_, ?_⟩
  · rw [hL, List.length_append, ← h.ln, o.ln]
  · rw [hL]
    intro x hx
    rcases List.mem_append.mp hx with z | z
    · exact h.rw x z
    · obtain ⟨c, hc, rfl⟩ := had x z
      refine ⟨?_, ?_, ?_, ?_⟩
      · show rowBy w.1 _ = rowBy (rowP A f w.2) _; rw [← w1]
      · show rowBy w.1 _ = rowBy (rowP B f w.2) _; rw [← w2, hall c hc]
      · intro d hd
        rcases List.mem_cons.mp hd with y | y
        · rw [y]; exact hc
        · exact w3 d y
      · exact rowBy_V hA.hi w4 (okT_good hA hc).2
  · rw [hL]; exact ll'
  · rw [hL]
    intro x hx
    rcases List.mem_append.mp hx with z | z
    · exact o.sub _ (h.lr x z)
    · obtain ⟨c, hc, e⟩ := o.it x z
      rw [e]; exact o.all c hc
  · rw [hL, List.pairwise_append]
    refine ⟨h.st, adds, fun a ha b hb => ?_⟩
    obtain ⟨c, _, rfl⟩ := had b hb
    exact dep a (hB a ha)
  · intro v V e
    rw [hL]
    intro x hx
    refine Nat.le_trans (dep x hx) (Nat.succ_le_succ ?_)
    cases Ws with
    | nil =>
      have : v ∈ add := by rw [List.nil_append] at e; rw [e]; exact List.mem_cons_self ..
      obtain ⟨c, _, rfl⟩ := had v this
      exact Nat.le_succ _
    | cons y Y =>
      have : v = y := by cases e; rfl
      rw [this]
      exact stw.1 y (List.mem_cons_self ..)
  · rw [hL]
    intro i x hx
    rw [List.getElem?_append] at hx
    split at hx
    · exact h.ix i x hx
    · have hi : ¬ i < (Bs ++ w :: Ws).length := by assumption
      obtain ⟨c, _, rfl⟩ := had x (List.mem_of_getElem? hx)
      have hb := h.ix Bs.length w (by rw [List.getElem?_append_right (Nat.le_refl _), Nat.sub_self]; rfl)
      rw [List.length_append, List.length_cons] at hi
      show w.2.length + 1 ≤ i
      omega
  · rw [hL]
    intro b hb c hc
    rcases List.mem_append.mp hb with z | z
    · obtain ⟨q1, q2⟩ := h.cl b z c hc
      exact ⟨q1, q2.mono fun u hu => hu.mono hB (Nat.le_refl _)⟩
    · rw [List.mem_singleton.mp z]
      refine ⟨hall c hc, ?_⟩
      have := o.all c (mem_choices.mpr hc)
      refine this.trans fun u ⟨p, hp, e⟩ => ?_
      rw [e]
      exact (ll' p hp).mono fun u ⟨x, hx, e⟩ => ⟨x, hx, dep x hx, e⟩
  · rw [hL]
    exact h.f0.mono fun u hu => hu.mono hB (Nat.le_refl _)
theorem InvA.same {A B : List Menu} {f : List Rat} {Bs Ws : List It} {ls : List (Nat × List Rat)} (h : InvA A B f Bs Ws ls) (hA : okBook A) (hB : okBook B) (hs : shapeQ A = shapeQ B) (hf : f.length = A.length) (d : Nat) (hd : ∀ w W', Ws = w :: W' → d ≤ w.2.length) : ∀ cs : List (List Int), (∀ c ∈ cs, goodChoice A c) → cs.length ≤ d →
    rowP A f cs = rowP B f cs ∧ (rowP A f cs).length = A.length ∧ Spn (RPd (Bs ++ Ws) cs.length) (vv (rowP A f cs))
  | [], _, _ => ⟨rfl, hf, h.f0⟩
  | c :: cs, hg, hl => by
    rw [List.length_cons] at hl
    obtain ⟨i1, i2, i3⟩ := InvA.same h hA hB hs hf d hd cs (fun x hx => hg x (List.mem_cons_of_mem _ hx)) (by omega)
    have hc := hg c (List.mem_cons_self ..)
    have hl2 := shape_len hs
    have tA := okT_good hA hc
    have tB := okT_good hB (shape_good hs hc)
    rw [← hl2] at tB
    have inB : ∀ x ∈ Bs ++ Ws, x.2.length ≤ cs.length → x ∈ Bs := fun x hx hk => by
      rcases List.mem_append.mp hx with z | z
      · exact z
      · cases Ws with
        | nil => cases z
        | cons w W =>
          have h1 := hd w W rfl
          have stk := (List.pairwise_append.mp h.st).2.1
          have stw := (List.pairwise_cons.mp stk).1
          rcases List.mem_cons.mp z with y | y
          · rw [y] at hk; omega
          · have := stw x y; omega
    have eA : vv (rowP A f (c :: cs)) = rowF (takenL A c) (vv (rowP A f cs)) := vv_rowBy i2 tA.1 fun r hr => (tA.2 r hr).len
    have eB : vv (rowP B f (c :: cs)) = rowF (takenL B c) (vv (rowP A f cs)) := by
      show vv (rowBy (rowP B f cs) _) = _
      rw [← i1]
      exact vv_rowBy i2 tB.1 fun r hr => (tB.2 r hr).len
    have lA : (rowP A f (c :: cs)).length = A.length := by show (rowBy _ _).length = _; rw [rowBy_len, i2]
    have lB : (rowP B f (c :: cs)).length = A.length := by show (rowBy _ _).length = _; rw [rowBy_len, ← i1, i2]
    refine ⟨vv_ext (lA.trans lB.symm) ?_, lA, ?_⟩
    · rw [eA, eB]
      refine Spn.agree (by rw [rowF_zero, rowF_zero]) (rowF_lin _) (rowF_lin _) (fun v ⟨x, hx, hk, e⟩ => ?_) i3
      obtain ⟨q1, _⟩ := h.cl x (inB x hx hk) c hc
      have xl := (h.rw x hx).2.2.2.len
      rw [e, ← vv_rowBy xl tA.1 (fun r hr => (tA.2 r hr).len), ← vv_rowBy xl tB.1 (fun r hr => (tB.2 r hr).len), q1]
    · rw [eA]
      refine Spn.image (rowF_zero _) (rowF_lin _) (fun v ⟨x, hx, hk, e⟩ => ?_) i3
      obtain ⟨_, q2⟩ := h.cl x (inB x hx hk) c hc
      have xl := (h.rw x hx).2.2.2.len
      rw [e, ← vv_rowBy xl tA.1 (fun r hr => (tA.2 r hr).len)]
      exact q2.mono fun u hu => hu.mono (fun y hy => hy) (by rw [List.length_cons]; omega)

def alikeD (bs : List (List Rat)) : PyData := .tuple [.str "alike", .list (bs.map encRow)]
structure BasisOk (A B : List Menu) (f : List Rat) (bs : List (List Rat)) : Prop where
  ln : bs.length ≤ A.length
  rg : ∀ r ∈ bs, RowV A.length 5 r
  f0 : Spn (fun v => ∃ r ∈ bs, v = vv r) (vv f)
  cl : ∀ r ∈ bs, ∀ c, goodChoice A c → rowBy r (takenL A c) = rowBy r (takenL B c) ∧ Spn (fun v => ∃ r ∈ bs, v = vv r) (vv (rowBy r (takenL A c)))
structure ApartOk (A B : List Menu) (f : List Rat) (cs : List (List Int)) (st : Nat) : Prop where
  lo : 1 ≤ cs.length
  hi : cs.length ≤ 5
  good : ∀ c ∈ cs, goodChoice A c
  sl : st < A.length
  ne : vv (rowP A f cs) st ≠ vv (rowP B f cs) st
  min : ∀ t : List (List Int), (∀ c ∈ t, goodChoice A c) → t.length < cs.length → rowP A f t = rowP B f t
theorem RowV.mono {n k j : Nat} {r : List Rat} (h : RowV n k r) (hk : k ≤ j) : RowV n j r := ⟨h.len, h.vb.mono (by omega) (by omega)⟩
theorem eqv_nilL (xs : List PyData) : PyData.eqv (.list xs) (.list []) = xs.isEmpty := by cases xs <;> rfl
theorem shd_it (x : It) : ShD 3 (itD x) := shd_tuple fun d hd => by
  rcases List.mem_cons.mp hd with z | z
  · rw [z]; exact shd_encRt _
  · rw [List.mem_singleton.mp z]
    exact shd_list fun d hd => by
      obtain ⟨p, _, rfl⟩ := List.mem_map.mp hd
      exact shd_tuple fun d hd => by
        obtain ⟨i, _, rfl⟩ := List.mem_map.mp hd
        exact shd_int i
theorem zNe_its (ws : List It) : zNe (.list (ws.map itD)) (.list []) = some (.bool (!ws.isEmpty)) := by
  rw [zNe_sh (x := .list (ws.map itD)) (y := .list []) ((shd_list (n := 3) fun d hd => by
    obtain ⟨x, _, rfl⟩ := List.mem_map.mp hd
    exact shd_it x).shaped (by decide)) (by kernel_rfl), eqv_nilL]
  cases ws <;> rfl
theorem al_basis {A B : List Menu} {f : List Rat} {Bs : List It} {ls : List (Nat × List Rat)} (hA : okBook A) (h : InvA A B f Bs [] ls) : BasisOk A B f (Bs.map (·.1)) := by
  have ln := h.ln
  have l5 := h.sp.ok.len_le
  have h5 := hA.hi
  rw [List.append_nil] at ln
  have key : ∀ {k : Nat} {v : Nat → Rat}, Spn (RPd (Bs ++ []) k) v → Spn (fun v => ∃ r ∈ Bs.map (·.1), v = vv r) v := fun hv => hv.mono fun u ⟨x, hx, _, e⟩ => by
    rw [List.append_nil] at hx
    exact ⟨x.1, List.mem_map_of_mem hx, e⟩
  refine ⟨by rw [List.length_map]; omega, fun r hr => ?_, key h.f0, fun r hr c hc => ?_⟩
  · obtain ⟨x, hx, rfl⟩ := List.mem_map.mp hr
    have hx2 : x ∈ Bs ++ [] := by rw [List.append_nil]; exact hx
    obtain ⟨i, hi, e⟩ := List.getElem_of_mem hx2
    have := h.ix i x (by rw [List.getElem?_eq_getElem hi, e])
    rw [List.append_nil] at hi
    exact (h.rw x hx2).2.2.2.mono (by omega)
  · obtain ⟨x, hx, rfl⟩ := List.mem_map.mp hr
    obtain ⟨q1, q2⟩ := h.cl x hx c hc
    exact ⟨q1, key q2⟩
section
variable {A B : List Menu} {f : List Rat} {dc : PyData}
theorem al_test {ls : List (Nat × List Rat)} {bs : List (List Rat)} {ws : List It} : yVw (yV (xOp zNe (xV 5) (xL (fLst zNil)))) (S_al A B dc ls bs ws .no .no .no .no .no .no .no) = .ok (!ws.isEmpty) := by
  rw [yVw_a]
  simp only [S_al, List.map_cons, List.map_nil]
  simp only [zR0, zR1, zR2, zR3, zR4, zR5, zR6, zR7, slotsM, kFor_a, Rz.bind_ok, Rz.of_some, Rz.calm_ok, Option.bind_some, Option.bind_none, slots, sel, Arg.get, List.filterMap_cons, List.filterMap_nil, List.length_cons, List.length_nil, List.map_cons, List.map_nil, List.cons_append, List.nil_append, List.append_nil, List.getElem?_cons_succ, List.getElem?_cons_zero, List.getElem?_nil, List.set_cons_zero, List.set_cons_succ, List.set_nil, List.replicate_succ, List.replicate_zero, if_true, Nat.sub_self, Nat.reduceAdd, Nat.reduceSub, Nat.reduceLeDiff, Nat.reduceEqDiff, Nat.reduceLT, Int.reduceLT, Int.reduceLE, Int.reduceNeg, Int.reduceEq, Nat.zero_add, and_self, if_false, Bool.not_true, Bool.not_false, Bool.false_eq_true, Nat.zero_le, decide_true, decide_false, reduceCtorEq, zNe_its]
theorem z_while (hA : okBook A) (hB : okBook B) (hs : shapeQ A = shapeQ B) (hf : f.length = A.length) : ∀ (m : Nat) (Bs Ws : List It) (ls : List (Nat × List Rat)), A.length ≤ m + Bs.length → InvA A B f Bs Ws ls →
    (∃ Bs' ls', InvA A B f Bs' [] ls' ∧ kWhile (yVw (yV (xOp zNe (xV 5) (xL (fLst zNil))))) [6, 7, 8, 9, 10, 11] b2_alike (S_al A B dc ls (Bs.map (·.1)) Ws .no .no .no .no .no .no .no) = .nx (S_al A B dc ls' (Bs'.map (·.1)) [] .no .no .no .no .no .no .no)) ∨
    (∃ cs st, ApartOk A B f cs st ∧ kWhile (yVw (yV (xOp zNe (xV 5) (xL (fLst zNil))))) [6, 7, 8, 9, 10, 11] b2_alike (S_al A B dc ls (Bs.map (·.1)) Ws .no .no .no .no .no .no .no) = .rt (apartD cs st))
  | m, Bs, [], ls, _, h => .inl ⟨Bs, ls, h, kWhile_stop al_test⟩
  | 0, Bs, w :: W, ls, hm, h => by
    have := h.ln
    have l5 := h.sp.ok.len_le
    rw [List.length_append, List.length_cons] at this
    omega
  | m + 1, Bs, w :: W, ls, hm, h => by
    have hln := h.ln
    have l5 := h.sp.ok.len_le
    have h5 := hA.hi
    rw [List.length_append, List.length_cons] at hln
    obtain ⟨w1, w2, w3, w4⟩ := h.rw w (List.mem_append_right _ (List.mem_cons_self ..))
    have wd : w.2.length ≤ 4 := by
      have := h.ix Bs.length w (by rw [List.getElem?_append_right (Nat.le_refl _), Nat.sub_self]; rfl)
      omega
    have hch := choices_len hA
    have hap := z_all_choices hA
    have hlr : zLen [encBook A] = some (.int (A.length : Nat)) := by unfold encBook; rw [zLen_t, List.length_map]
    have hble : Nat.ble (A.length : Int).natAbs 1000000 = true := Nat.ble_eq_true_of_le (by omega)
    have hlr2 : rgD 0 ((A.length : Int)).toNat = (List.range A.length).map natD := by rw [Int.toNat_natCast, rgD_map]; rfl
    have hbs : ((Bs.map (·.1)).map encRow).length < 1000000 := by rw [List.length_map, List.length_map]; omega
    have hwl : (W.map itD).length ≤ 1000 := by rw [List.length_map]; omega
    have body : b2_alike (S_al A B dc ls (Bs.map (·.1)) (w :: W) .no .no .no .no .no .no .no) = forL (gN 8) [8, 9, 10, 11] b1_alike ((choicesQ A).map planD) (S_al A B dc ls ((Bs ++ [w]).map (·.1)) W (.dat (encRow w.1)) (.dat (.list (w.2.map planD))) .no .no .no .no .no) := by
      simp only [S_al, List.map_cons, itD]
      simp only [zR0, zR1, zR2, zR3, zR4, zR5, zR6, zR7, slotsM, kFor_a, Rz.bind_ok, Rz.of_some, Rz.calm_ok, Option.bind_some, Option.bind_none, slots, sel, Arg.get, List.filterMap_cons, List.filterMap_nil, List.length_cons, List.length_nil, List.map_cons, List.map_nil, List.cons_append, List.nil_append, List.append_nil, List.getElem?_cons_succ, List.getElem?_cons_zero, List.getElem?_nil, List.set_cons_zero, List.set_cons_succ, List.set_nil, List.replicate_succ, List.replicate_zero, if_true, Nat.sub_self, Nat.reduceAdd, Nat.reduceSub, Nat.reduceLeDiff, Nat.reduceEqDiff, Nat.reduceLT, Int.reduceLT, Int.reduceLE, Int.reduceNeg, Int.reduceEq, Nat.zero_add, and_self, if_false, Bool.not_true, Bool.not_false, Bool.false_eq_true, Nat.zero_le, decide_true, decide_false, reduceCtorEq, b2_alike_a, if_pos hwl, if_pos hbs, hlr, if_pos hble, hlr2, hap]
      simp only [List.map_append, List.map_cons, List.map_nil]
    rcases z_inner (dc := dc) (bs := (Bs ++ [w]).map (·.1)) (cs := w.2) (k := w.2.length) hA hB hs w4 (by omega) (by omega) (choicesQ A) ls W (fun c hc => mem_choices.mp hc) h.sp (by omega) with ⟨i1, i2⟩ | ⟨c, hc, st, s1, s2, s3⟩
    · obtain ⟨add, ea, o⟩ := inner_ok hA w4 (by omega) (choicesQ A) ls W (fun c hc => mem_choices.mp hc) h.sp
      rw [ea] at i2
      have inv := h.step (fun c hc => i1 c (mem_choices.mpr hc)) hA o
      have wipe : wipeS (S_al A B dc (innerQ A w.1 w.2 (choicesQ A) ls W).1 ((Bs ++ [w]).map (·.1)) (W ++ add) (.dat (encRow w.1)) (.dat (.list (w.2.map planD))) .no .no .no .no .no) [6, 7, 8, 9, 10, 11] = S_al A B dc (innerQ A w.1 w.2 (choicesQ A) ls W).1 ((Bs ++ [w]).map (·.1)) (W ++ add) .no .no .no .no .no .no .no := rfl
      rcases z_while hA hB hs hf m (Bs ++ [w]) (W ++ add) _ (by rw [List.length_append, List.length_singleton]; omega) inv with ⟨Bs', ls', v1, v2⟩ | ⟨cs, st, v1, v2⟩
      · exact .inl ⟨Bs', ls', v1, kWhile_go (al_test.trans rfl) (body.trans i2) (by rw [wipe]; exact v2) nofun⟩
      · exact .inr ⟨cs, st, v1, kWhile_go (al_test.trans rfl) (body.trans i2) (by rw [wipe]; exact v2) nofun⟩
    · have gc := mem_choices.mp hc
      refine .inr ⟨c :: w.2, st, ⟨by rw [List.length_cons]; omega, by rw [List.length_cons]; omega, fun d hd => ?_, s1, ?_, fun t ht htl => ?_⟩, ?_⟩
      · rcases List.mem_cons.mp hd with z | z
        · rw [z]; exact gc
        · exact w3 d z
      · show vv (rowBy (rowP A f w.2) _) st ≠ vv (rowBy (rowP B f w.2) _) st
        rw [← w1, ← w2]; exact s2
      · rw [List.length_cons] at htl
        exact (h.same hA hB hs hf w.2.length (fun x X e => by cases e; exact Nat.le_refl _) t ht (by omega)).1
      · exact kWhile_of (n := 1) (by unfold whileN kE; rw [al_test]; simp only [List.isEmpty_cons, Bool.not_false]; rw [body.trans s3]) nofun
theorem z_alike (hA : okBook A) (hB : okBook B) (hs : shapeQ A = shapeQ B) (hf : f.length = A.length) (hv : VB 100 100 f) (hd : dc = .list (f.map encR) ∨ dc = .tuple (f.map encR)) :
    (∃ bs, BasisOk A B f bs ∧ d_alike [encBook A, encBook B, dc] = .ok (alikeD bs)) ∨ (∃ cs st, ApartOk A B f cs st ∧ d_alike [encBook A, encBook B, dc] = .ok (apartD cs st)) := by
  have h5 := hA.hi
  have hfv : RowV A.length 0 f := ⟨hf, hv⟩
  have nn : ∀ q ∈ f, 0 ≤ q := fun q hq => by
    obtain ⟨D, N, a, b, c, g⟩ := hv
    obtain ⟨z, g1, g2⟩ := g q hq
    exact g_nn a g1
  have nb := z_need_both (f := f) hA hB (by omega) hd
  rw [if_pos hs, badFill_no hf nn] at nb
  simp only [Bool.false_eq_true, if_false] at nb
  have pt := z_put (SpanOk.nil h5) (hfv.g (by omega)) hd
  have tup : zTuple [dc] = some (encRow f) := by rcases hd with rfl | rfl <;> rfl
  cases en : newQ A.length [] f with
  | true =>
    rw [en] at pt
    have inv : InvA A B f [] [(f, [])] (putQ A.length [] f) := by
      have sp := (SpanOk.nil h5).put (hfv.g (by omega))
      have pl := put_len (n := A.length) (ls := []) (row := f)
      rw [if_pos en] at pl
      have f1 : Spn (RPa [((f, []) : It)]) (vv f) := .of ⟨_, List.mem_cons_self .., rfl⟩
      refine ⟨sp, pl, fun x hx => ?_, put_lead (LOk.nil _) hf nofun f1, fun x hx => ?_, ?_, fun w W' e x hx => ?_, fun i x hx => ?_, nofun, .of ⟨(f, []), List.mem_cons_self .., Nat.le_refl _, rfl⟩⟩
      · rw [List.mem_singleton.mp hx]; exact ⟨rfl, rfl, nofun, hfv⟩
      · rw [List.mem_singleton.mp hx]; exact put_row (LOk.nil _) hf
      · exact .cons nofun .nil
      · rw [List.mem_singleton.mp hx]; exact Nat.zero_le _
      · have := List.mem_of_getElem? hx
        rw [List.mem_singleton.mp this]; exact Nat.zero_le _
    rcases z_while (dc := dc) hA hB hs hf A.length [] [(f, [])] _ (by omega) inv with ⟨Bs', ls', v1, v2⟩ | ⟨cs, st, v1, v2⟩
    · have v2 : kWhile (yVw (yV (xOp zNe (xV 5) (xL (fLst zNil))))) [6, 7, 8, 9, 10, 11] b2_alike [.dat (encBook A), .dat (encBook B), .dat dc, .obj ⟨1, none, spanF (putQ A.length [] f)⟩, .own (.lst []), .own (.lst [.tuple [encRow f, .list []]]), .no, .no, .no, .no, .no, .no, .no] = .nx [.dat (encBook A), .dat (encBook B), .dat dc, .obj ⟨1, none, spanF ls'⟩, .own (.lst ((Bs'.map (·.1)).map encRow)), .own (.lst []), .no, .no, .no, .no, .no, .no, .no] := v2
      refine .inl ⟨Bs'.map (·.1), al_basis hA v1, ?_⟩
      simp only [zR0, zR1, zR2, zR3, zR4, zR5, zR6, zR7, slotsM, kFor_a, Rz.bind_ok, Rz.of_some, Rz.calm_ok, Option.bind_some, Option.bind_none, slots, sel, Arg.get, List.filterMap_cons, List.filterMap_nil, List.length_cons, List.length_nil, List.map_cons, List.map_nil, List.cons_append, List.nil_append, List.append_nil, List.getElem?_cons_succ, List.getElem?_cons_zero, List.getElem?_nil, List.set_cons_zero, List.set_cons_succ, List.set_nil, List.replicate_succ, List.replicate_zero, if_true, Nat.sub_self, Nat.reduceAdd, Nat.reduceSub, Nat.reduceLeDiff, Nat.reduceEqDiff, Nat.reduceLT, Int.reduceLT, Int.reduceLE, Int.reduceNeg, Int.reduceEq, Nat.zero_add, and_self, if_false, Bool.not_true, Bool.not_false, Bool.false_eq_true, Nat.zero_le, decide_true, decide_false, reduceCtorEq, d_alike, m_alike, nb, z_span0, pt, tup, v2]
      rfl
    · have v2 : kWhile (yVw (yV (xOp zNe (xV 5) (xL (fLst zNil))))) [6, 7, 8, 9, 10, 11] b2_alike [.dat (encBook A), .dat (encBook B), .dat dc, .obj ⟨1, none, spanF (putQ A.length [] f)⟩, .own (.lst []), .own (.lst [.tuple [encRow f, .list []]]), .no, .no, .no, .no, .no, .no, .no] = .rt (apartD cs st) := v2
      refine .inr ⟨cs, st, v1, ?_⟩
      simp only [zR0, zR1, zR2, zR3, zR4, zR5, zR6, zR7, slotsM, kFor_a, Rz.bind_ok, Rz.of_some, Rz.calm_ok, Option.bind_some, Option.bind_none, slots, sel, Arg.get, List.filterMap_cons, List.filterMap_nil, List.length_cons, List.length_nil, List.map_cons, List.map_nil, List.cons_append, List.nil_append, List.append_nil, List.getElem?_cons_succ, List.getElem?_cons_zero, List.getElem?_nil, List.set_cons_zero, List.set_cons_succ, List.set_nil, List.replicate_succ, List.replicate_zero, if_true, Nat.sub_self, Nat.reduceAdd, Nat.reduceSub, Nat.reduceLeDiff, Nat.reduceEqDiff, Nat.reduceLT, Int.reduceLT, Int.reduceLE, Int.reduceNeg, Int.reduceEq, Nat.zero_add, and_self, if_false, Bool.not_true, Bool.not_false, Bool.false_eq_true, Nat.zero_le, decide_true, decide_false, reduceCtorEq, d_alike, m_alike, nb, z_span0, pt, tup, v2]
  | false =>
    rw [en] at pt
    rw [put_old en] at pt
    have f0 := (new_iff (LOk.nil _) hf).mp en
    have inv : InvA A B f [] [] [] := ⟨.nil h5, rfl, nofun, nofun, nofun, .nil, nofun, nofun, nofun, f0.mono fun u ⟨p, hp, _⟩ => by cases hp⟩
    rcases z_while (dc := dc) hA hB hs hf A.length [] [] _ (by omega) inv with ⟨Bs', ls', v1, v2⟩ | ⟨cs, st, v1, v2⟩
    · have v2 : kWhile (yVw (yV (xOp zNe (xV 5) (xL (fLst zNil))))) [6, 7, 8, 9, 10, 11] b2_alike [.dat (encBook A), .dat (encBook B), .dat dc, .obj ⟨1, none, spanF []⟩, .own (.lst []), .own (.lst []), .no, .no, .no, .no, .no, .no, .no] = .nx [.dat (encBook A), .dat (encBook B), .dat dc, .obj ⟨1, none, spanF ls'⟩, .own (.lst ((Bs'.map (·.1)).map encRow)), .own (.lst []), .no, .no, .no, .no, .no, .no, .no] := v2
      refine .inl ⟨Bs'.map (·.1), al_basis hA v1, ?_⟩
      simp only [zR0, zR1, zR2, zR3, zR4, zR5, zR6, zR7, slotsM, kFor_a, Rz.bind_ok, Rz.of_some, Rz.calm_ok, Option.bind_some, Option.bind_none, slots, sel, Arg.get, List.filterMap_cons, List.filterMap_nil, List.length_cons, List.length_nil, List.map_cons, List.map_nil, List.cons_append, List.nil_append, List.append_nil, List.getElem?_cons_succ, List.getElem?_cons_zero, List.getElem?_nil, List.set_cons_zero, List.set_cons_succ, List.set_nil, List.replicate_succ, List.replicate_zero, if_true, Nat.sub_self, Nat.reduceAdd, Nat.reduceSub, Nat.reduceLeDiff, Nat.reduceEqDiff, Nat.reduceLT, Int.reduceLT, Int.reduceLE, Int.reduceNeg, Int.reduceEq, Nat.zero_add, and_self, if_false, Bool.not_true, Bool.not_false, Bool.false_eq_true, Nat.zero_le, decide_true, decide_false, reduceCtorEq, d_alike, m_alike, nb, z_span0, pt, v2]
      rfl
    · have v2 : kWhile (yVw (yV (xOp zNe (xV 5) (xL (fLst zNil))))) [6, 7, 8, 9, 10, 11] b2_alike [.dat (encBook A), .dat (encBook B), .dat dc, .obj ⟨1, none, spanF []⟩, .own (.lst []), .own (.lst []), .no, .no, .no, .no, .no, .no, .no] = .rt (apartD cs st) := v2
      refine .inr ⟨cs, st, v1, ?_⟩
      simp only [zR0, zR1, zR2, zR3, zR4, zR5, zR6, zR7, slotsM, kFor_a, Rz.bind_ok, Rz.of_some, Rz.calm_ok, Option.bind_some, Option.bind_none, slots, sel, Arg.get, List.filterMap_cons, List.filterMap_nil, List.length_cons, List.length_nil, List.map_cons, List.map_nil, List.cons_append, List.nil_append, List.append_nil, List.getElem?_cons_succ, List.getElem?_cons_zero, List.getElem?_nil, List.set_cons_zero, List.set_cons_succ, List.set_nil, List.replicate_succ, List.replicate_zero, if_true, Nat.sub_self, Nat.reduceAdd, Nat.reduceSub, Nat.reduceLeDiff, Nat.reduceEqDiff, Nat.reduceLT, Int.reduceLT, Int.reduceLE, Int.reduceNeg, Int.reduceEq, Nat.zero_add, and_self, if_false, Bool.not_true, Bool.not_false, Bool.false_eq_true, Nat.zero_le, decide_true, decide_false, reduceCtorEq, d_alike, m_alike, nb, z_span0, pt, v2]
end
theorem BasisOk.same {A B : List Menu} {f : List Rat} {bs : List (List Rat)} (h : BasisOk A B f bs) (hA : okBook A) (hB : okBook B) (hs : shapeQ A = shapeQ B) (hf : f.length = A.length) : ∀ cs : List (List Int), (∀ c ∈ cs, goodChoice A c) →
    rowP A f cs = rowP B f cs ∧ (rowP A f cs).length = A.length ∧ Spn (fun v => ∃ r ∈ bs, v = vv r) (vv (rowP A f cs))
  | [], _ => ⟨rfl, hf, h.f0⟩
  | c :: cs, hg => by
    obtain ⟨i1, i2, i3⟩ := BasisOk.same h hA hB hs hf cs (fun x hx => hg x (List.mem_cons_of_mem _ hx))
    have hc := hg c (List.mem_cons_self ..)
    have tA := okT_good hA hc
    have tB := okT_good hB (shape_good hs hc)
    rw [← shape_len hs] at tB
    have eA : vv (rowP A f (c :: cs)) = rowF (takenL A c) (vv (rowP A f cs)) := vv_rowBy i2 tA.1 fun r hr => (tA.2 r hr).len
    have eB : vv (rowP B f (c :: cs)) = rowF (takenL B c) (vv (rowP A f cs)) := by
      show vv (rowBy (rowP B f cs) _) = _
      rw [← i1]
      exact vv_rowBy i2 tB.1 fun r hr => (tB.2 r hr).len
    have lA : (rowP A f (c :: cs)).length = A.length := by show (rowBy _ _).length = _; rw [rowBy_len, i2]
    have lB : (rowP B f (c :: cs)).length = A.length := by show (rowBy _ _).length = _; rw [rowBy_len, ← i1, i2]
    refine ⟨vv_ext (lA.trans lB.symm) ?_, lA, ?_⟩
    · rw [eA, eB]
      refine Spn.agree (by rw [rowF_zero, rowF_zero]) (rowF_lin _) (rowF_lin _) (fun v ⟨x, hx, e⟩ => ?_) i3
      have xl := (h.rg x hx).len
      rw [e, ← vv_rowBy xl tA.1 (fun r hr => (tA.2 r hr).len), ← vv_rowBy xl tB.1 (fun r hr => (tB.2 r hr).len), (h.cl x hx c hc).1]
    · rw [eA]
      refine Spn.image (rowF_zero _) (rowF_lin _) (fun v ⟨x, hx, e⟩ => ?_) i3
      have xl := (h.rg x hx).len
      rw [e, ← vv_rowBy xl tA.1 (fun r hr => (tA.2 r hr).len)]
      exact (h.cl x hx c hc).2
def AlikeQ (A B : List Menu) (f : List Rat) : Prop := ∀ cs : List (List Int), (∀ c ∈ cs, goodChoice A c) → rowP A f cs = rowP B f cs
theorem rowP_len {A : List Menu} {f : List Rat} : ∀ cs : List (List Int), (rowP A f cs).length = f.length
  | [] => rfl
  | c :: cs => by show (rowBy _ _).length = _; rw [rowBy_len, rowP_len cs]
theorem dot_walk {A : List Menu} {f : List Rat} (hA : okBook A) (hf : f.length = A.length) : ∀ (cs : List (List Int)) (e : List Rat), (∀ c ∈ cs, goodChoice A c) → e.length = A.length → dotQ f (walkQ A e cs) = dotQ (rowP A f cs) e := fun cs => by
  induction cs with
  | nil => intro e _ _; rfl
  | cons c cs ih =>
    intro e hg he
    have hc := hg c (List.mem_cons_self ..)
    have tA := okT_good hA hc
    have hl := rowP_len (A := A) (f := f) cs
    have sl : (stepQ (takenL A c) e).length = A.length := by unfold stepQ; rw [List.length_map, tA.1]
    show dotQ f (walkQ A (stepQ (takenL A c) e) cs) = _
    rw [ih _ (fun x hx => hg x (List.mem_cons_of_mem _ hx)) sl, dot_step _ _ _ (by rw [hl, hf, tA.1])]
    show _ = dotQ (rowBy (rowP A f cs) (takenL A c)) e
    congr 1
    rw [← vv_rowBy (n := A.length) (by rw [hl, hf]) tA.1 (fun r hr => (tA.2 r hr).len)]
    exact map_vv (by rw [rowBy_len, hl, hf, he])
theorem forL_all {α : Type} {g : MG} {wp : List Nat} {b : MS} {enc : α → PyData} {F : α → List Slot → List Slot} {ρ : List Slot} {d : PyData} (p : α → Bool) : ∀ {xs : List α}, (∀ x ∈ xs, g (enc x) = some (F x)) → (∀ x ∈ xs, if p x = true then ∃ ρ', b (F x ρ) = .nx ρ' ∧ wipeS ρ' wp = ρ else b (F x ρ) = .rt d) →
    forL g wp b (xs.map enc) ρ = if xs.all p = true then .nx ρ else .rt d
  | [], _, _ => rfl
  | x :: xs, h1, h2 => by
    have hx := h2 x (List.mem_cons_self ..)
    have ih := forL_all p (xs := xs) (fun y hy => h1 y (List.mem_cons_of_mem _ hy)) (fun y hy => h2 y (List.mem_cons_of_mem _ hy))
    rw [List.map_cons, forL_cons, h1 x (List.mem_cons_self ..), List.all_cons]
    cases hp : p x with
    | true =>
      rw [hp, if_pos rfl] at hx
      obtain ⟨ρ', e1, e2⟩ := hx
      simp only [e1, e2]
      rw [ih, Bool.true_and]
    | false =>
      rw [hp, if_neg Bool.false_ne_true] at hx
      simp only [hx]
      rfl
structure RowB (n : Nat) (r : List Rat) : Prop where
  len : r.length = n
  gv : GV 900 900 r
theorem RowB.g {n : Nat} {r : List Rat} (h : RowB n r) : RowG n r := ⟨h.len, h.gv.mono (by decide) (by decide)⟩
theorem RowV.b {n k : Nat} {r : List Rat} (h : RowV n k r) (hk : k ≤ 5) : RowB n r := ⟨h.len, h.vb.gv.mono (by omega) (by omega)⟩
section
variable {A B : List Menu} {f : List Rat} {dc : PyData} {Ls : List (List Rat)} {dl : PyData}
def unitQ (n st : Nat) : List Rat := (List.range n).map fun j => if j = st then 1 else 0
theorem unit_len (n st : Nat) : (unitQ n st).length = n := by unfold unitQ; rw [List.length_map, List.length_range]
theorem unit_VB (n st : Nat) : VB 1 1 (unitQ n st) := ⟨1, 1, by decide, by decide, by decide, fun q hq => by
  unfold unitQ at hq
  obtain ⟨j, _, rfl⟩ := List.mem_map.mp hq
  split
  · exact ⟨1, Rat.one_mul _, Nat.le_refl _⟩
  · exact ⟨0, Rat.zero_mul _, by decide⟩⟩
theorem dot_unit' : ∀ (f : List Rat) (k st : Nat), dotQ f ((List.range' k f.length).map fun j => if j = st then (1 : Rat) else 0) = if k ≤ st then vv f (st - k) else 0
  | [], k, st => by
    show (0 : Rat) = _
    split
    · rw [vv_out (by simp)]
    · rfl
  | a :: f, k, st => by
    rw [List.length_cons, List.range'_succ, List.map_cons]
    show a * (if k = st then 1 else 0) + dotQ f _ = _
    rw [dot_unit' f (k + 1) st]
    by_cases e : k = st
    · subst e
      rw [if_pos rfl, if_neg (by omega), if_pos (Nat.le_refl _), Nat.sub_self]
      show a * 1 + 0 = a
      grind
    · rw [if_neg e]
      by_cases h : k ≤ st
      · rw [if_pos (by omega), if_pos h]
        have : st - k = (st - (k + 1)) + 1 := by omega
        rw [this]
        show a * 0 + vv f (st - (k + 1)) = vv f (st - (k + 1))
        grind
      · rw [if_neg (by omega), if_neg h]; grind
theorem dot_unit (f : List Rat) (st : Nat) : dotQ f (unitQ f.length st) = vv f st := by
  unfold unitQ
  rw [List.range_eq_range', dot_unit', if_pos (Nat.zero_le _), Nat.sub_zero]
def sumW (A : List Menu) (f : List Rat) (cs : List (List Int)) (st : Nat) : Rat := dotQ f (walkQ A (unitQ A.length st) cs)
theorem walk_unit {cs : List (List Int)} {st : Nat} (hA : okBook A) (hc : ∀ c ∈ cs, goodChoice A c) (hl : cs.length ≤ 100) : ∀ k ≤ cs.length, okFill A.length (walkQ A (unitQ A.length st) (cs.take k)) := fun k hk =>
  walk_ok hA (fun c h => hc c (List.mem_of_mem_take h)) (unit_len _ _) (unit_VB _ _) (by rw [List.length_take]; omega) (by rw [List.length_take]; omega)
end
theorem sumW_row {A : List Menu} {f : List Rat} {cs : List (List Int)} {st : Nat} (hA : okBook A) (hf : f.length = A.length) (hc : ∀ c ∈ cs, goodChoice A c) : sumW A f cs st = vv (rowP A f cs) st := by
  unfold sumW
  rw [dot_walk hA hf cs _ hc (unit_len _ _)]
  have := dot_unit (rowP A f cs) st
  rwa [rowP_len, hf] at this
section
variable {A B : List Menu} {f : List Rat}
theorem z_lch_inner {a1 a2 : Slot} {db : PyData} {m : Menu} (hn : m.2.length ≤ 1000) : ∀ (acc done : List (List Int)), (∀ p ∈ acc, p.length ≤ 1000) → done.length + acc.length * m.2.length ≤ 1000000 →
    forL (gN 5) [5] b1__law_choices (acc.map planD) [.dat db, a1, a2, .dat (.tuple (m.2.map encRow)), .dat (.list (done.map planD)), .no, .no] = .nx [.dat db, a1, a2, .dat (.tuple (m.2.map encRow)), .dat (.list ((done ++ addAll acc m.2.length).map planD)), .no, .no]
  | [], done, _, _ => by unfold addAll; rw [List.flatMap_nil, List.append_nil]; rfl
  | p :: acc, done, hp, hl => by
    rw [List.length_cons, Nat.succ_mul] at hl
    have hr : rng1 [.int (m.2.length : Int)] = some ((List.range m.2.length).map natD) := by rw [rng1_n (by omega), rgD_map]; rfl
    have hln : zLen [PyData.tuple (m.2.map encRow)] = some (.int (m.2.length : Nat)) := by rw [zLen_t, List.length_map]
    have hlc : ((List.range m.2.length).map natD).length ≤ 1000000 := by rw [List.length_map, List.length_range]; omega
    have lc : lcL (gN 6) yYes (xOp zAddV (xV 5) (xTup (zCons (xV 6) zNil))) [.dat db, a1, a2, .dat (.tuple (m.2.map encRow)), .dat (.list (done.map planD)), .dat (planD p), .no] ((List.range m.2.length).map natD) = .ok ((List.range m.2.length).map fun (a : Nat) => planD (p ++ [(a : Int)])) :=
      lcL_map (F := fun a ρ => ρ.set 6 (.dat (natD a))) (fun a _ => rfl) (fun a _ => rfl) (fun a _ => by
        have hpl := hp p (List.mem_cons_self ..)
        simp only [zR0, zR1, zR2, zR3, zR4, zR5, zR6, zR7, slotsM, kFor_a, Rz.bind_ok, Rz.of_some, Rz.calm_ok, Option.bind_some, Option.bind_none, slots, sel, Arg.get, List.filterMap_cons, List.filterMap_nil, List.length_cons, List.length_nil, List.map_cons, List.map_nil, List.cons_append, List.nil_append, List.append_nil, List.getElem?_cons_succ, List.getElem?_cons_zero, List.getElem?_nil, List.set_cons_zero, List.set_cons_succ, List.set_nil, List.replicate_succ, List.replicate_zero, if_true, Nat.sub_self, Nat.reduceAdd, Nat.reduceSub, Nat.reduceLeDiff, Nat.reduceEqDiff, Nat.reduceLT, Int.reduceLT, Int.reduceLE, Int.reduceNeg, Int.reduceEq, Nat.zero_add, and_self, if_false, Bool.not_true, Bool.not_false, Bool.false_eq_true, Nat.zero_le, decide_true, decide_false, reduceCtorEq, natD, planD]
        rw [zAddV_t (by rw [List.length_map]; simp; omega), List.map_append]
        rfl)
    have e1 : ((List.range m.2.length).map fun (a : Nat) => planD (p ++ [(a : Int)])) = ((List.range m.2.length).map fun (a : Nat) => p ++ [(a : Int)]).map planD := by rw [List.map_map]; rfl
    rw [e1] at lc
    have had : zAddV (.list (done.map planD)) (.list (((List.range m.2.length).map fun (a : Nat) => p ++ [(a : Int)]).map planD)) = some (.list ((done ++ (List.range m.2.length).map fun (a : Nat) => p ++ [(a : Int)]).map planD)) := by
      rw [zAddV_l (by simp only [List.length_map, List.length_range]; omega), List.map_append]
    have ih := z_lch_inner (db := db) (a1 := a1) (a2 := a2) hn acc (done ++ (List.range m.2.length).map fun (a : Nat) => p ++ [(a : Int)]) (fun q hq => hp q (List.mem_cons_of_mem _ hq)) (by simp only [List.length_append, List.length_map, List.length_range]; omega)
    have e2 : done ++ addAll (p :: acc) m.2.length = (done ++ (List.range m.2.length).map fun (a : Nat) => p ++ [(a : Int)]) ++ addAll acc m.2.length := by unfold addAll; rw [List.flatMap_cons, List.append_assoc]
    rw [List.map_cons, forL_cons, e2]
    simp only [zR0, zR1, zR2, zR3, zR4, zR5, zR6, zR7, slotsM, kFor_a, Rz.bind_ok, Rz.of_some, Rz.calm_ok, Option.bind_some, Option.bind_none, slots, sel, Arg.get, List.filterMap_cons, List.filterMap_nil, List.length_cons, List.length_nil, List.map_cons, List.map_nil, List.cons_append, List.nil_append, List.append_nil, List.getElem?_cons_succ, List.getElem?_cons_zero, List.getElem?_nil, List.set_cons_zero, List.set_cons_succ, List.set_nil, List.replicate_succ, List.replicate_zero, if_true, Nat.sub_self, Nat.reduceAdd, Nat.reduceSub, Nat.reduceLeDiff, Nat.reduceEqDiff, Nat.reduceLT, Int.reduceLT, Int.reduceLE, Int.reduceNeg, Int.reduceEq, Nat.zero_add, and_self, if_false, Bool.not_true, Bool.not_false, Bool.false_eq_true, Nat.zero_le, decide_true, decide_false, reduceCtorEq, b1__law_choices_a, hln, hr, if_pos hlc, lc, had]
    exact ih
theorem z_lch_outer {db : PyData} : ∀ (ms : List Menu) (acc : List (List Int)) (k : Nat), (∀ m ∈ ms, m.2.length ≤ 3) → acc.length * 3 ^ ms.length ≤ 1000000 → (∀ p ∈ acc, p.length = k) → k + ms.length ≤ 1000 →
    forL (gT 2 (gsC (gN 2) (gsC (gN 3) gs0))) [2, 3, 4, 5] b2__law_choices (ms.map encMenu) [.dat db, .dat (.list (acc.map planD)), .no, .no, .no, .no, .no] = .nx [.dat db, .dat (.list (((ms.map fun m => m.2.length).foldl addAll acc).map planD)), .no, .no, .no, .no, .no]
  | [], acc, k, _, _, _, _ => rfl
  | m :: ms, acc, k, hs, hl, hp, hk => by
    rw [List.length_cons] at hl hk
    have hr3 := hs m (List.mem_cons_self ..)
    have hpow : 1 ≤ 3 ^ ms.length := Nat.one_le_pow _ _ (by decide)
    have hb : acc.length * m.2.length * 3 ^ ms.length ≤ 1000000 := by
      refine Nat.le_trans ?_ hl
      rw [Nat.pow_succ, Nat.mul_comm (3 ^ ms.length) 3, ← Nat.mul_assoc]
      exact Nat.mul_le_mul_right _ (Nat.mul_le_mul_left _ hr3)
    have hb2 : acc.length * m.2.length ≤ 1000000 := Nat.le_trans (Nat.le_mul_of_pos_right _ hpow) hb
    have inner := z_lch_inner (db := db) (a1 := .dat (.list (acc.map planD))) (a2 := .dat (whoD m.1)) (m := m) (by omega) acc [] (fun p hpp => by rw [hp p hpp]; omega) (by simpa using hb2)
    rw [List.nil_append] at inner
    have ih := z_lch_outer (db := db) ms (addAll acc m.2.length) (k + 1) (fun x hx => hs x (List.mem_cons_of_mem _ hx)) (by rw [addAll_len]; exact hb) (addAll_all hp fun p a h _ => by rw [List.length_append, h]; rfl) (by omega)
    have f1 : kFor (iS (xV 1)) (gN 5) [5] b1__law_choices [.dat db, .dat (.list (acc.map planD)), .dat (whoD m.1), .dat (.tuple (m.2.map encRow)), .dat (.list []), .no, .no] = .nx [.dat db, .dat (.list (acc.map planD)), .dat (whoD m.1), .dat (.tuple (m.2.map encRow)), .dat (.list ((addAll acc m.2.length).map planD)), .no, .no] := by
      simp only [zR0, zR1, zR2, zR3, zR4, zR5, zR6, zR7, slotsM, kFor_a, Rz.bind_ok, Rz.of_some, Rz.calm_ok, Option.bind_some, Option.bind_none, slots, sel, Arg.get, List.filterMap_cons, List.filterMap_nil, List.length_cons, List.length_nil, List.map_cons, List.map_nil, List.cons_append, List.nil_append, List.append_nil, List.getElem?_cons_succ, List.getElem?_cons_zero, List.getElem?_nil, List.set_cons_zero, List.set_cons_succ, List.set_nil, List.replicate_succ, List.replicate_zero, if_true, Nat.sub_self, Nat.reduceAdd, Nat.reduceSub, Nat.reduceLeDiff, Nat.reduceEqDiff, Nat.reduceLT, Int.reduceLT, Int.reduceLE, Int.reduceNeg, Int.reduceEq, Nat.zero_add, and_self, if_false, Bool.not_true, Bool.not_false, Bool.false_eq_true, Nat.zero_le, decide_true, decide_false, reduceCtorEq]
      exact inner
    rw [List.map_cons, forL_cons]
    simp only [zR0, zR1, zR2, zR3, zR4, zR5, zR6, zR7, slotsM, Rz.bind_ok, Rz.of_some, Rz.calm_ok, Option.bind_some, Option.bind_none, slots, sel, Arg.get, List.filterMap_cons, List.filterMap_nil, List.length_cons, List.length_nil, List.map_cons, List.map_nil, List.cons_append, List.nil_append, List.append_nil, List.getElem?_cons_succ, List.getElem?_cons_zero, List.getElem?_nil, List.set_cons_zero, List.set_cons_succ, List.set_nil, List.replicate_succ, List.replicate_zero, if_true, Nat.sub_self, Nat.reduceAdd, Nat.reduceSub, Nat.reduceLeDiff, Nat.reduceEqDiff, Nat.reduceLT, Int.reduceLT, Int.reduceLE, Int.reduceNeg, Int.reduceEq, Nat.zero_add, and_self, if_false, Bool.not_true, Bool.not_false, Bool.false_eq_true, Nat.zero_le, decide_true, decide_false, reduceCtorEq, b2__law_choices_a, encMenu, f1]
    exact ih
theorem z__law_choices (hA : okBook A) : d__law_choices [encBook A] = .ok (.list ((choicesQ A).map planD)) := by
  have h5 := hA.hi
  have loop := z_lch_outer (db := encBook A) A [[]] 0 (fun m hm => (hA.all m hm).hi) (by have := pow3_le h5; simp only [List.length_singleton]; omega) (fun p hp => by rw [List.mem_singleton.mp hp]; rfl) (by omega)
  have hs : seqOf (encBook A) = some (A.map encMenu) := rfl
  have f1 : kFor (iS (xV 0)) (gT 2 (gsC (gN 2) (gsC (gN 3) gs0))) [2, 3, 4, 5] b2__law_choices [.dat (encBook A), .dat (.list [.tuple []]), .no, .no, .no, .no, .no] = .nx [.dat (encBook A), .dat (.list ((choicesQ A).map planD)), .no, .no, .no, .no, .no] := by
    simp only [zR0, zR1, zR2, zR3, zR4, zR5, zR6, zR7, slotsM, kFor_a, Rz.bind_ok, Rz.of_some, Rz.calm_ok, Option.bind_some, Option.bind_none, slots, sel, Arg.get, List.filterMap_cons, List.filterMap_nil, List.length_cons, List.length_nil, List.map_cons, List.map_nil, List.cons_append, List.nil_append, List.append_nil, List.getElem?_cons_succ, List.getElem?_cons_zero, List.getElem?_nil, List.set_cons_zero, List.set_cons_succ, List.set_nil, List.replicate_succ, List.replicate_zero, if_true, Nat.sub_self, Nat.reduceAdd, Nat.reduceSub, Nat.reduceLeDiff, Nat.reduceEqDiff, Nat.reduceLT, Int.reduceLT, Int.reduceLE, Int.reduceNeg, Int.reduceEq, Nat.zero_add, and_self, if_false, Bool.not_true, Bool.not_false, Bool.false_eq_true, Nat.zero_le, decide_true, decide_false, reduceCtorEq, hs]
    exact loop
  simp only [zR0, zR1, zR2, zR3, zR4, zR5, zR6, zR7, slotsM, Rz.bind_ok, Rz.of_some, Rz.calm_ok, Option.bind_some, Option.bind_none, slots, sel, Arg.get, List.filterMap_cons, List.filterMap_nil, List.length_cons, List.length_nil, List.map_cons, List.map_nil, List.cons_append, List.nil_append, List.append_nil, List.getElem?_cons_succ, List.getElem?_cons_zero, List.getElem?_nil, List.set_cons_zero, List.set_cons_succ, List.set_nil, List.replicate_succ, List.replicate_zero, if_true, Nat.sub_self, Nat.reduceAdd, Nat.reduceSub, Nat.reduceLeDiff, Nat.reduceEqDiff, Nat.reduceLT, Int.reduceLT, Int.reduceLE, Int.reduceNeg, Int.reduceEq, Nat.zero_add, and_self, if_false, Bool.not_true, Bool.not_false, Bool.false_eq_true, Nat.zero_le, decide_true, decide_false, reduceCtorEq, d__law_choices, m__law_choices, f1]
theorem ix_choice {c : List Int} {i : Nat} (h : i < c.length) : zIx (planD c) (.int (i : Int)) = some (.int (c.getD i 0)) := by
  unfold planD
  rw [zIx_t, atI_nat (by rw [List.length_map]; exact h), List.getElem_map, List.getD_eq_getElem?_getD, List.getElem?_eq_getElem h]
  rfl
theorem tab_lc {s2 s3 s4 s5 s6 s7 s8 s9 : Slot} {c : List Int} {js : List PyData} (hA : okBook A) (hc : goodChoice A c) : ∀ i, i < A.length → ∀ (x : PyData), zIx (encBook A) (.int (i : Int)) = some x → ∃ rs, zIx x (.int 1) = some rs ∧ zIx rs (.int (c.getD i 0)) = some (encRow ((takenL A c).getD i [])) := fun i hi x hx => by
  have hm : A[i]? = some A[i] := List.getElem?_eq_getElem hi
  rw [ix_menu hm] at hx
  cases hx
  have hcl := hc.len
  have hg := hc.get hm (show c[i]? = some (c.getD i 0) by rw [List.getD_eq_getElem?_getD, List.getElem?_eq_getElem (by omega)]; rfl)
  refine ⟨_, ix_rows _, ?_⟩
  rw [ix_row hg.1 hg.2, taken_get hcl hm]
theorem z_told_step {dbs dc dw : PyData} {s3 s4 : Slot} {c : List Int} {h : List Rat} (hA : okBook A) (hc : goodChoice A c) (ok : okFill A.length h) : b1__law_told_sums [.dat dbs, .dat dc, .dat dw, s3, s4, .dat (encBook A), .dat (.list (h.map encR)), .dat (planD c), .no] = .nx [.dat dbs, .dat dc, .dat dw, s3, s4, .dat (encBook A), .dat (.list ((stepQ (takenL A c) h).map encR)), .dat (planD c), .no] := by
  have h5 := hA.hi
  have hcl := hc.len
  have lA : zLen [encBook A] = some (.int (A.length : Nat)) := by unfold encBook; rw [zLen_t, List.length_map]
  have hrn : rng1 [.int (A.length : Nat)] = some ((List.range A.length).map natD) := by rw [rng1_n (by omega), rgD_map]; rfl
  have hlc : ((List.range A.length).map natD).length ≤ 1000000 := by rw [List.length_map, List.length_range]; omega
  have tl := (okT_good hA hc).1
  have okt := hA.taken hc
  have e : (stepQ (takenL A c) h).map encR = (List.range A.length).map fun i => encR (dotQ ((takenL A c).getD i []) h) := by
    unfold stepQ
    rw [List.map_map, ← tl, range_getD (fun r => encR (dotQ r h)) [] (takenL A c)]
    rfl
  have lc : ∀ a7 : Slot, lcL (gN 8) yYes (xFc d__law_sum (zCons (xOp zIx (xOp zIx (xOp zIx (xV 5) (xV 8)) (xC (.int 1))) (xOp zIx (xV 7) (xV 8))) (zCons (xV 6) zNil))) [.dat dbs, .dat dc, .dat dw, s3, s4, .dat (encBook A), .dat (.list (h.map encR)), .dat (planD c), .no] ((List.range A.length).map natD) = .ok ((stepQ (takenL A c) h).map encR) := fun _ => by
    rw [e]
    exact lcL_map (F := fun i ρ => ρ.set 8 (.dat (natD i))) (fun i _ => rfl) (fun i _ => rfl) (fun i hi => by
      have hi := List.mem_range.mp hi
      have hm : A[i]? = some A[i] := List.getElem?_eq_getElem hi
      obtain ⟨rs, r1, r2⟩ := tab_lc (s2 := .no) (s3 := .no) (s4 := .no) (s5 := .no) (s6 := .no) (s7 := .no) (s8 := .no) (s9 := .no) (js := []) hA hc i hi _ (ix_menu hm)
      have ixc := ix_choice (c := c) (i := i) (by omega)
      have hmem : (takenL A c).getD i [] ∈ takenL A c := getD_mem (by omega)
      have sm := z_lsum_row h5 (okt.all _ hmem) ok (df := .list (h.map encR)) rfl
      simp only [zR0, zR1, zR2, zR3, zR4, zR5, zR6, zR7, slotsM, kFor_a, Rz.bind_ok, Rz.of_some, Rz.calm_ok, Option.bind_some, Option.bind_none, slots, sel, Arg.get, List.filterMap_cons, List.filterMap_nil, List.length_cons, List.length_nil, List.map_cons, List.map_nil, List.cons_append, List.nil_append, List.append_nil, List.getElem?_cons_succ, List.getElem?_cons_zero, List.getElem?_nil, List.set_cons_zero, List.set_cons_succ, List.set_nil, List.replicate_succ, List.replicate_zero, if_true, Nat.sub_self, Nat.reduceAdd, Nat.reduceSub, Nat.reduceLeDiff, Nat.reduceEqDiff, Nat.reduceLT, Int.reduceLT, Int.reduceLE, Int.reduceNeg, Int.reduceEq, Nat.zero_add, and_self, if_false, Bool.not_true, Bool.not_false, Bool.false_eq_true, Nat.zero_le, decide_true, decide_false, reduceCtorEq, natD, ix_menu hm, r1, r2, ixc, sm])
  simp only [zR0, zR1, zR2, zR3, zR4, zR5, zR6, zR7, slotsM, kFor_a, Rz.bind_ok, Rz.of_some, Rz.calm_ok, Option.bind_some, Option.bind_none, slots, sel, Arg.get, List.filterMap_cons, List.filterMap_nil, List.length_cons, List.length_nil, List.map_cons, List.map_nil, List.cons_append, List.nil_append, List.append_nil, List.getElem?_cons_succ, List.getElem?_cons_zero, List.getElem?_nil, List.set_cons_zero, List.set_cons_succ, List.set_nil, List.replicate_succ, List.replicate_zero, if_true, Nat.sub_self, Nat.reduceAdd, Nat.reduceSub, Nat.reduceLeDiff, Nat.reduceEqDiff, Nat.reduceLT, Int.reduceLT, Int.reduceLE, Int.reduceNeg, Int.reduceEq, Nat.zero_add, and_self, if_false, Bool.not_true, Bool.not_false, Bool.false_eq_true, Nat.zero_le, decide_true, decide_false, reduceCtorEq, b1__law_told_sums_a, lA, hrn, if_pos hlc, lc .no]
theorem z_told_walk {dbs dc dw : PyData} {s3 s4 : Slot} (hA : okBook A) : ∀ (cs : List (List Int)) (h : List Rat), (∀ c ∈ cs, goodChoice A c) → (∀ k ≤ cs.length, okFill A.length (walkQ A h (cs.take k))) →
    forL (gN 7) [7] b1__law_told_sums (cs.map planD) [.dat dbs, .dat dc, .dat dw, s3, s4, .dat (encBook A), .dat (.list (h.map encR)), .no, .no] = .nx [.dat dbs, .dat dc, .dat dw, s3, s4, .dat (encBook A), .dat (.list ((walkQ A h cs).map encR)), .no, .no]
  | [], h, _, _ => rfl
  | c :: cs, h, hg, ok => by
    have st := z_told_step (h := h) (dbs := dbs) (dc := dc) (dw := dw) (s3 := s3) (s4 := s4) hA (hg c (List.mem_cons_self ..)) (ok 0 (Nat.zero_le _))
    have ih := z_told_walk (dbs := dbs) (dc := dc) (dw := dw) (s3 := s3) (s4 := s4) hA cs (stepQ (takenL A c) h) (fun x hx => hg x (List.mem_cons_of_mem _ hx)) fun k hk => ok (k + 1) (by rw [List.length_cons]; omega)
    rw [List.map_cons, forL_cons]
    simp only [gN_a, List.set_cons_succ, List.set_cons_zero]
    rw [st]
    exact ih
theorem z_told_turn {dbs dc : PyData} {acc : List PyData} {cs : List (List Int)} {st : Nat} (hA : okBook A) (hf : f.length = A.length) (hv : VB 100 100 f) (hd : dc = .list (f.map encR) ∨ dc = .tuple (f.map encR)) (hc : ∀ c ∈ cs, goodChoice A c) (hl : cs.length ≤ 100) (ha : acc.length ≤ 10) :
    ∃ ρ', b2__law_told_sums [.dat dbs, .dat dc, .dat (.list (cs.map planD)), .dat (natD st), .own (.lst acc), .dat (encBook A), .no, .no, .no] = .nx ρ' ∧ wipeS ρ' [5, 6, 7] = [.dat dbs, .dat dc, .dat (.list (cs.map planD)), .dat (natD st), .own (.lst (acc ++ [encR (sumW A f cs st)])), .no, .no, .no, .no] := by
  have h5 := hA.hi
  have hsf : seqOf dc = some (f.map encR) := by rcases hd with rfl | rfl <;> rfl
  have lA : zLen [encBook A] = some (.int (A.length : Nat)) := by unfold encBook; rw [zLen_t, List.length_map]
  have hrn : rng1 [.int (A.length : Nat)] = some ((List.range A.length).map natD) := by rw [rng1_n (by omega), rgD_map]; rfl
  have hlc : ((List.range A.length).map natD).length ≤ 1000000 := by rw [List.length_map, List.length_range]; omega
  have lc : ∀ a0 a1 a2 a4 a5 a6 a7 : Slot, lcL (gN 8) yYes (xTup (zCons (xCB zInt (zCons (xOp zEq (xV 8) (xV 3)) zNil)) (zCons (xC (.int 1)) zNil))) [a0, a1, a2, .dat (natD st), a4, a5, a6, a7, .no] ((List.range A.length).map natD) = .ok ((List.range A.length).map fun j => encR (if j = st then 1 else 0)) := fun a0 a1 a2 a4 a5 a6 a7 =>
    lcL_map (F := fun j ρ => ρ.set 8 (.dat (natD j))) (fun j _ => rfl) (fun j _ => rfl) (fun j _ => by
      by_cases e : j = st
      · subst e; rw [if_pos rfl]; simp only [zR0, zR1, zR2, zR3, zR4, zR5, zR6, zR7, slotsM, kFor_a, Rz.bind_ok, Rz.of_some, Rz.calm_ok, Option.bind_some, Option.bind_none, slots, sel, Arg.get, List.filterMap_cons, List.filterMap_nil, List.length_cons, List.length_nil, List.map_cons, List.map_nil, List.cons_append, List.nil_append, List.append_nil, List.getElem?_cons_succ, List.getElem?_cons_zero, List.getElem?_nil, List.set_cons_zero, List.set_cons_succ, List.set_nil, List.replicate_succ, List.replicate_zero, if_true, Nat.sub_self, Nat.reduceAdd, Nat.reduceSub, Nat.reduceLeDiff, Nat.reduceEqDiff, Nat.reduceLT, Int.reduceLT, Int.reduceLE, Int.reduceNeg, Int.reduceEq, Nat.zero_add, and_self, if_false, Bool.not_true, Bool.not_false, Bool.false_eq_true, Nat.zero_le, decide_true, decide_false, reduceCtorEq, natD]; rfl
      · rw [if_neg e]; simp only [zR0, zR1, zR2, zR3, zR4, zR5, zR6, zR7, slotsM, kFor_a, Rz.bind_ok, Rz.of_some, Rz.calm_ok, Option.bind_some, Option.bind_none, slots, sel, Arg.get, List.filterMap_cons, List.filterMap_nil, List.length_cons, List.length_nil, List.map_cons, List.map_nil, List.cons_append, List.nil_append, List.append_nil, List.getElem?_cons_succ, List.getElem?_cons_zero, List.getElem?_nil, List.set_cons_zero, List.set_cons_succ, List.set_nil, List.replicate_succ, List.replicate_zero, if_true, Nat.sub_self, Nat.reduceAdd, Nat.reduceSub, Nat.reduceLeDiff, Nat.reduceEqDiff, Nat.reduceLT, Int.reduceLT, Int.reduceLE, Int.reduceNeg, Int.reduceEq, Nat.zero_add, and_self, if_false, Bool.not_true, Bool.not_false, Bool.false_eq_true, Nat.zero_le, decide_true, decide_false, reduceCtorEq, natD, decide_eq_false (show ¬ (j : Int) = (st : Int) from fun h => e (by omega))]; rfl)
  have eu : ((List.range A.length).map fun j => encR (if j = st then 1 else 0)) = (unitQ A.length st).map encR := by unfold unitQ; rw [List.map_map]; rfl
  rw [eu] at lc
  have wA := walk_unit (st := st) hA hc hl
  have oA := wA cs.length (Nat.le_refl _)
  rw [List.take_length] at oA
  have wk := z_told_walk (dbs := dbs) (dc := dc) (dw := .list (cs.map planD)) (s3 := .dat (natD st)) (s4 := .own (.lst acc)) hA cs (unitQ A.length st) hc wA
  have sm := z__law_sum (n := 100) (m := 30000) (dr := dc) (df := .list ((walkQ A (unitQ A.length st) cs).map encR)) hsf rfl (hv.gv.sz (Nat.le_refl _) (Nat.le_refl _)) (fun q hq => (oA.all q hq).2) (by rw [hf]; omega)
  refine ⟨_, by simp only [zR0, zR1, zR2, zR3, zR4, zR5, zR6, zR7, slotsM, kFor_a, Rz.bind_ok, Rz.of_some, Rz.calm_ok, Option.bind_some, Option.bind_none, slots, sel, Arg.get, List.filterMap_cons, List.filterMap_nil, List.length_cons, List.length_nil, List.map_cons, List.map_nil, List.cons_append, List.nil_append, List.append_nil, List.getElem?_cons_succ, List.getElem?_cons_zero, List.getElem?_nil, List.set_cons_zero, List.set_cons_succ, List.set_nil, List.replicate_succ, List.replicate_zero, if_true, Nat.sub_self, Nat.reduceAdd, Nat.reduceSub, Nat.reduceLeDiff, Nat.reduceEqDiff, Nat.reduceLT, Int.reduceLT, Int.reduceLE, Int.reduceNeg, Int.reduceEq, Nat.zero_add, and_self, if_false, Bool.not_true, Bool.not_false, Bool.false_eq_true, Nat.zero_le, decide_true, decide_false, reduceCtorEq, b2__law_told_sums_a, lA, hrn, if_pos hlc, lc, wk, sm, if_pos (show acc.length < 1000000 by omega)]; rfl, rfl⟩
theorem z__law_told_sums {dc dbs : PyData} {cs : List (List Int)} {st : Nat} (hA : okBook A) (hB : okBook B) (hs : shapeQ A = shapeQ B) (hf : f.length = A.length) (hv : VB 100 100 f) (hd : dc = .list (f.map encR) ∨ dc = .tuple (f.map encR)) (hc : ∀ c ∈ cs, goodChoice A c) (hl : cs.length ≤ 100) (hb : dbs = .list [encBook A, encBook B] ∨ dbs = .tuple [encBook A, encBook B]) :
    d__law_told_sums [dbs, dc, .list (cs.map planD), natD st] = .ok (.list [encR (sumW A f cs st), encR (sumW B f cs st)]) := by
  have hbs : seqOf dbs = some [encBook A, encBook B] := by rcases hb with rfl | rfl <;> rfl
  obtain ⟨ρ1, a1, a2⟩ := z_told_turn (dbs := dbs) (dc := dc) (acc := []) (cs := cs) (st := st) hA hf hv hd hc hl (by simp)
  obtain ⟨ρ2, b1, b2⟩ := z_told_turn (dbs := dbs) (dc := dc) (acc := [encR (sumW A f cs st)]) (cs := cs) (st := st) hB (by rw [hf]; exact shape_len hs) hv hd (fun c h => shape_good hs (hc c h)) hl (by simp)
  have lp : forL (gN 5) [5, 6, 7] b2__law_told_sums [encBook A, encBook B] [.dat dbs, .dat dc, .dat (.list (cs.map planD)), .dat (natD st), .own (.lst []), .no, .no, .no, .no] = .nx [.dat dbs, .dat dc, .dat (.list (cs.map planD)), .dat (natD st), .own (.lst [encR (sumW A f cs st), encR (sumW B f cs st)]), .no, .no, .no, .no] := by
    refine (forL_cons ..).trans ?_
    simp only [gN_a, List.set_cons_succ, List.set_cons_zero, a1, a2]
    refine (forL_cons ..).trans ?_
    simp only [gN_a, List.set_cons_succ, List.set_cons_zero, List.nil_append, b1, b2]
    exact forL_nil ..
  simp only [zR0, zR1, zR2, zR3, zR4, zR5, zR6, zR7, slotsM, kFor_a, Rz.bind_ok, Rz.of_some, Rz.calm_ok, Option.bind_some, Option.bind_none, slots, sel, Arg.get, List.filterMap_cons, List.filterMap_nil, List.length_cons, List.length_nil, List.map_cons, List.map_nil, List.cons_append, List.nil_append, List.append_nil, List.getElem?_cons_succ, List.getElem?_cons_zero, List.getElem?_nil, List.set_cons_zero, List.set_cons_succ, List.set_nil, List.replicate_succ, List.replicate_zero, if_true, Nat.sub_self, Nat.reduceAdd, Nat.reduceSub, Nat.reduceLeDiff, Nat.reduceEqDiff, Nat.reduceLT, Int.reduceLT, Int.reduceLE, Int.reduceNeg, Int.reduceEq, Nat.zero_add, and_self, if_false, Bool.not_true, Bool.not_false, Bool.false_eq_true, Nat.zero_le, decide_true, decide_false, reduceCtorEq, d__law_told_sums, m__law_told_sums, hbs, lp]
end
theorem cut_set {α : Type} {f : α → PyData} {xs : List α} {i : Nat} {x : α} (h : i < xs.length) (hl : xs.length ≤ 1000) :
    cutD (xs.map f) none (some (i : Int)) = (xs.take i).map f ∧ cutD (xs.map f) (some ((i : Int) + 1)) none = (xs.drop (i + 1)).map f ∧ (xs.take i).map f ++ [f x] ++ (xs.drop (i + 1)).map f = (xs.set i x).map f := by
  refine ⟨cut_uptoM (by omega) (by omega), ?_, ?_⟩
  · have := cut_fromM (f := f) (xs := xs) (i := (i : Int) + 1) (by omega) (by omega)
    rw [this]; congr 2
  · rw [List.set_eq_take_append_cons_drop, if_pos h, List.map_append, List.map_cons, List.append_assoc]; rfl
theorem okMenu_set {n : Nat} {m : Menu} {spot to : Nat} {s : Rat} (h : okMenu n m) (hs : okS s) : okMenu n (m.1, m.2.set spot ((m.2.getD spot []).set to s)) := by
  by_cases hsp : spot < m.2.length
  · have hr := h.all _ (getD_mem (d := []) hsp)
    refine ⟨by show 1 ≤ (m.2.set _ _).length; rw [List.length_set]; exact h.lo, by show (m.2.set _ _).length ≤ 3; rw [List.length_set]; exact h.hi, fun r hrr => ?_⟩
    rcases List.mem_or_eq_of_mem_set hrr with z | z
    · exact h.all r z
    · rw [z]
      refine ⟨by rw [List.length_set, hr.len], fun q hq => ?_⟩
      rcases List.mem_or_eq_of_mem_set hq with y | y
      · exact hr.all q y
      · rw [y]; exact hs
  · rw [List.set_eq_of_length_le (by omega)]; exact h
theorem okBook_set {A : List Menu} {i : Nat} {m : Menu} (h : okBook A) (hm : okMenu A.length m) : okBook (A.set i m) := ⟨by rw [List.length_set]; exact h.lo, by rw [List.length_set]; exact h.hi, fun x hx => by
  rw [List.length_set]
  rcases List.mem_or_eq_of_mem_set hx with z | z
  · exact h.all x z
  · rw [z]; exact hm⟩
theorem shape_set {A : List Menu} {i : Nat} {m m' : Menu} (hi : A[i]? = some m) (h : (m'.1, m'.2.length) = (m.1, m.2.length)) : shapeQ (A.set i m') = shapeQ A := by
  unfold shapeQ
  rw [List.map_set, h]
  refine List.ext_getElem (by simp) fun j h1 h2 => ?_
  rw [List.getElem_set]
  split
  · rename_i e
    subst e
    rw [List.getElem_map]
    have := List.getElem?_eq_some_iff.mp hi
    rw [this.2]
  · rfl
theorem z__law_beside {A : List Menu} {d : List Int} (hA : okBook A) (hd : 4 ≤ d.length) (hd2 : d.length ≤ 1000) : ∃ B, okBook B ∧ shapeQ B = shapeQ A ∧ d__law_beside [.list (d.map .int), encBook A] = .ok (encBook B) := by
  have h1 := hA.lo
  have h5 := hA.hi
  have lA : zLen [encBook A] = some (.int (A.length : Nat)) := by unfold encBook; rw [zLen_t, List.length_map]
  have a0 := at_nthI (xs := d) (i := 0) (by decide) (by omega)
  have a1 := at_nthI (xs := d) (i := 1) (by decide) (by omega)
  have a2 := at_nthI (xs := d) (i := 2) (by decide) (by omega)
  have a3 := at_nthI (xs := d) (i := 3) (by decide) (by omega)
  have f0 := fmod_in (a := nthI d 0) (b := A.length) (by omega)
  have f2 := fmod_in (a := nthI d 2) (b := A.length) (by omega)
  obtain ⟨i, hi, hil⟩ : ∃ i : Nat, (nthI d 0).fmod (A.length : Int) = (i : Int) ∧ i < A.length := ⟨((nthI d 0).fmod (A.length : Int)).toNat, by omega, by omega⟩
  obtain ⟨k, hk, hkl⟩ : ∃ i : Nat, (nthI d 2).fmod (A.length : Int) = (i : Int) ∧ i < A.length := ⟨((nthI d 2).fmod (A.length : Int)).toNat, by omega, by omega⟩
  have hm : A[i]? = some A[i] := List.getElem?_eq_getElem hil
  have hmm := List.getElem_mem hil
  generalize hM : A[i] = m at *
  have om := hA.all m hmm
  have o1 := om.lo
  have o3 := om.hi
  have f1 := fmod_in (a := nthI d 1) (b := m.2.length) (by omega)
  obtain ⟨j, hj, hjl⟩ : ∃ i : Nat, (nthI d 1).fmod (m.2.length : Int) = (i : Int) ∧ i < m.2.length := ⟨((nthI d 1).fmod (m.2.length : Int)).toNat, by omega, by omega⟩
  have z0 := zMod_i (i := nthI d 0) (j := (A.length : Int)) (by omega)
  have z1 := zMod_i (i := nthI d 1) (j := (m.2.length : Int)) (by omega)
  have z2 := zMod_i (i := nthI d 2) (j := (A.length : Int)) (by omega)
  rw [hi] at z0
  rw [hj] at z1
  rw [hk] at z2
  obtain ⟨u, l, u1, u2, l1, l2, hsh⟩ := z__law_share (nthI d 3)
  have hs : okS (Rat.divInt u l) := okS_divInt u1 (by omega) (by omega) (by omega)
  have or := om.all _ (getD_mem (d := []) hjl)
  have hix := ix_menu hm
  have hrow := ix_row (rs := m.2) (a := (j : Int)) (by omega) (by omega)
  rw [Int.toNat_natCast] at hrow
  obtain ⟨c1, c2, c3⟩ := cut_set (f := encR) (x := Rat.divInt u l) (show k < (m.2.getD j []).length by rw [or.len]; exact hkl) (by rw [or.len]; omega)
  obtain ⟨b1, b2, b3⟩ := cut_set (f := encRow) (x := (m.2.getD j []).set k (Rat.divInt u l)) hjl (by omega)
  obtain ⟨e1, e2, e3⟩ := cut_set (f := encMenu) (xs := A) (x := (m.1, m.2.set j ((m.2.getD j []).set k (Rat.divInt u l)))) hil (by omega)
  have lm : zLen [PyData.tuple (m.2.map encRow)] = some (.int (m.2.length : Nat)) := by rw [zLen_t, List.length_map]
  have t1 := zAddV_t (a := ((m.2.getD j []).take k).map encR) (b := [encR (Rat.divInt u l)]) (by rw [List.length_map, List.length_take, or.len]; simp; omega)
  have t2 := zAddV_t (a := ((m.2.getD j []).take k).map encR ++ [encR (Rat.divInt u l)]) (b := ((m.2.getD j []).drop (k + 1)).map encR) (by rw [List.length_append, List.length_map, List.length_map, List.length_take, List.length_drop, or.len]; simp; omega)
  rw [c3] at t2
  have t3 := zAddV_t (a := (m.2.take j).map encRow) (b := [encRow ((m.2.getD j []).set k (Rat.divInt u l))]) (by rw [List.length_map, List.length_take]; simp; omega)
  have t4 := zAddV_t (a := (m.2.take j).map encRow ++ [encRow ((m.2.getD j []).set k (Rat.divInt u l))]) (b := (m.2.drop (j + 1)).map encRow) (by rw [List.length_append, List.length_map, List.length_map, List.length_take, List.length_drop]; simp; omega)
  rw [b3] at t4
  have t5 := zAddV_t (a := (A.take i).map encMenu) (b := [encMenu (m.1, m.2.set j ((m.2.getD j []).set k (Rat.divInt u l)))]) (by rw [List.length_map, List.length_take]; simp; omega)
  have t6 := zAddV_t (a := (A.take i).map encMenu ++ [encMenu (m.1, m.2.set j ((m.2.getD j []).set k (Rat.divInt u l)))]) (b := (A.drop (i + 1)).map encMenu) (by rw [List.length_append, List.length_map, List.length_map, List.length_take, List.length_drop]; simp; omega)
  rw [e3] at t6
  refine ⟨A.set i (m.1, m.2.set j ((m.2.getD j []).set k (Rat.divInt u l))), okBook_set hA (okMenu_set om hs), shape_set hm (by rw [List.length_set]), ?_⟩
  have hix' : atI (A.map encMenu) (i : Int) = some (.tuple [whoD m.1, .tuple (m.2.map encRow)]) := hix
  have hrow' : atI (m.2.map encRow) (j : Int) = some (.tuple ((m.2.getD j []).map encR)) := hrow
  have t3' : zAddV (.tuple ((m.2.take j).map encRow)) (.tuple [.tuple (((m.2.getD j []).set k (Rat.divInt u l)).map encR)]) = some (.tuple ((m.2.take j).map encRow ++ [.tuple (((m.2.getD j []).set k (Rat.divInt u l)).map encR)])) := t3
  have t4' : zAddV (.tuple ((m.2.take j).map encRow ++ [.tuple (((m.2.getD j []).set k (Rat.divInt u l)).map encR)])) (.tuple ((m.2.drop (j + 1)).map encRow)) = some (.tuple ((m.2.set j ((m.2.getD j []).set k (Rat.divInt u l))).map encRow)) := t4
  have t5' : zAddV (.tuple ((A.take i).map encMenu)) (.tuple [.tuple [whoD m.1, .tuple ((m.2.set j ((m.2.getD j []).set k (Rat.divInt u l))).map encRow)]]) = some (.tuple ((A.take i).map encMenu ++ [.tuple [whoD m.1, .tuple ((m.2.set j ((m.2.getD j []).set k (Rat.divInt u l))).map encRow)]])) := t5
  have t6' : zAddV (.tuple ((A.take i).map encMenu ++ [.tuple [whoD m.1, .tuple ((m.2.set j ((m.2.getD j []).set k (Rat.divInt u l))).map encRow)]])) (.tuple ((A.drop (i + 1)).map encMenu)) = some (.tuple ((A.set i (m.1, m.2.set j ((m.2.getD j []).set k (Rat.divInt u l)))).map encMenu)) := t6
  have lA' : zLen [PyData.tuple (A.map encMenu)] = some (.int (A.length : Nat)) := lA
  unfold encBook
  clear t3 t4 t5 t6 hix hrow lA
  simp only [zR0, zR1, zR2, zR3, zR4, zR5, zR6, zR7, slotsM, kFor_a, Rz.bind_ok, Rz.of_some, Rz.calm_ok, Option.bind_some, Option.bind_none, slots, sel, Arg.get, List.filterMap_cons, List.filterMap_nil, List.length_cons, List.length_nil, List.map_cons, List.map_nil, List.cons_append, List.nil_append, List.append_nil, List.getElem?_cons_succ, List.getElem?_cons_zero, List.getElem?_nil, List.set_cons_zero, List.set_cons_succ, List.set_nil, List.replicate_succ, List.replicate_zero, if_true, Nat.sub_self, Nat.reduceAdd, Nat.reduceSub, Nat.reduceLeDiff, Nat.reduceEqDiff, Nat.reduceLT, Int.reduceLT, Int.reduceLE, Int.reduceNeg, Int.reduceEq, Nat.zero_add, and_self, if_false, Bool.not_true, Bool.not_false, Bool.false_eq_true, Nat.zero_le, decide_true, decide_false, reduceCtorEq, d__law_beside, m__law_beside, a0, a1, a2, a3, List.length_map, z0, z1, z2, hix', hrow', hsh, c1, c2, t1, t2, b1, b2, t3', t4', e1, e2, t5', t6']
theorem VB_sub {d e : Nat} {qs f : List Rat} (h : VB d e qs) (hf : ∀ q ∈ f, q ∈ qs ∨ q = 0) : VB d e f := by
  obtain ⟨D, N, a, b, c, g⟩ := h
  refine ⟨D, N, a, b, c, fun q hq => ?_⟩
  rcases hf q hq with z | z
  · exact g q z
  · exact ⟨0, by rw [z, Rat.zero_mul]; rfl, Nat.zero_le _⟩
def alW (w : Bool) : PyData := .str (if w then "alike" else "apart")
theorem alW_eq (a b : Bool) : zEq (alW a) (alW b) = some (.bool (a == b)) := by cases a <;> cases b <;> kernel_rfl
theorem alW_ne (a b : Bool) : zNe (alW a) (alW b) = some (.bool (!(a == b))) := by cases a <;> cases b <;> kernel_rfl
theorem alW_al : PyData.str "alike" = alW true := rfl
theorem ApartOk.not {A B : List Menu} {f : List Rat} {cs : List (List Int)} {st : Nat} (h : ApartOk A B f cs st) : ¬ AlikeQ A B f := fun a => h.ne (by rw [a cs h.good])
theorem BasisOk.alike {A B : List Menu} {f : List Rat} {bs : List (List Rat)} (h : BasisOk A B f bs) (hA : okBook A) (hB : okBook B) (hs : shapeQ A = shapeQ B) (hf : f.length = A.length) : AlikeQ A B f := fun cs hc => (h.same hA hB hs hf cs hc).1
theorem al_word {A B : List Menu} {f : List Rat} {dc : PyData} (hA : okBook A) (hB : okBook B) (hs : shapeQ A = shapeQ B) (hf : f.length = A.length) (hv : VB 100 100 f) (hd : dc = .list (f.map encR) ∨ dc = .tuple (f.map encR)) :
    ∃ (w : Bool) (d : PyData), (w = true ↔ AlikeQ A B f) ∧ d_alike [encBook A, encBook B, dc] = .ok d ∧ zIx d (.int 0) = some (alW w) := by
  rcases z_alike hA hB hs hf hv hd with ⟨bs, h1, h2⟩ | ⟨cs, st, h1, h2⟩
  · exact ⟨true, _, ⟨fun _ => h1.alike hA hB hs hf, fun _ => rfl⟩, h2, rfl⟩
  · exact ⟨false, _, ⟨nofun, fun h => (h1.not h).elim⟩, h2, rfl⟩
theorem AlikeQ.symm {A B : List Menu} {f : List Rat} (hs : shapeQ A = shapeQ B) (h : AlikeQ A B f) : AlikeQ B A f := fun cs hc => (h cs fun c hx => shape_good hs.symm (hc c hx)).symm
theorem AlikeQ.trans {A B C : List Menu} {f : List Rat} (hs : shapeQ A = shapeQ B) (h : AlikeQ A B f) (k : AlikeQ B C f) : AlikeQ A C f := fun cs hc => (h cs hc).trans (k cs fun c hx => shape_good hs (hc c hx))
theorem rowP_vv {A : List Menu} {f : List Rat} (hA : okBook A) (hf : f.length = A.length) {c : List Int} (hc : goodChoice A c) (cs : List (List Int)) : vv (rowP A f (c :: cs)) = rowF (takenL A c) (vv (rowP A f cs)) := by
  have tA := okT_good hA hc
  exact vv_rowBy (by rw [rowP_len, hf]) tA.1 fun r hr => (tA.2 r hr).len
theorem rowP_scale {A : List Menu} {f : List Rat} (hA : okBook A) (hf : f.length = A.length) (k : Rat) : ∀ cs : List (List Int), (∀ c ∈ cs, goodChoice A c) → vv (rowP A (f.map fun q => k * q) cs) = fun j => k * vv (rowP A f cs) j
  | [], _ => by
    funext j
    show vv (f.map fun q => k * q) j = k * vv f j
    unfold vv
    rw [List.getD_eq_getElem?_getD, List.getD_eq_getElem?_getD, List.getElem?_map]
    cases f[j]? with
    | none => show (0 : Rat) = k * 0; grind
    | some q => rfl
  | c :: cs, h => by
    have hc := h c (List.mem_cons_self ..)
    rw [rowP_vv hA (by rw [List.length_map, hf]) hc, rowP_vv hA hf hc, rowP_scale hA hf k cs fun x hx => h x (List.mem_cons_of_mem _ hx)]
    have := rowF_lin (takenL A c) (fun _ => 0) (vv (rowP A f cs)) k
    rw [rowF_zero] at this
    rw [show (fun j => k * vv (rowP A f cs) j) = fun j => (0 : Rat) + k * vv (rowP A f cs) j from funext fun j => by grind, this]
    funext j
    grind
theorem AlikeQ.scale {A B : List Menu} {f : List Rat} (hA : okBook A) (hB : okBook B) (hs : shapeQ A = shapeQ B) (hf : f.length = A.length) {k : Rat} (hk : k ≠ 0) : AlikeQ A B (f.map fun q => k * q) ↔ AlikeQ A B f := by
  have hl := shape_len hs
  constructor
  · intro h cs hc
    have e1 := rowP_scale hA hf k cs hc
    have e2 := rowP_scale hB (by rw [hf, hl]) k cs fun c hx => shape_good hs (hc c hx)
    rw [h cs hc, e2] at e1
    refine vv_ext (by rw [rowP_len, rowP_len]) (funext fun j => ?_)
    have := congrFun e1 j
    have c := Rat.mul_inv_cancel k hk
    have l : ∀ x : Rat, x = k⁻¹ * (k * x) := fun x => by grind
    rw [l (vv (rowP A f cs) j), l (vv (rowP B f cs) j), this]
  · intro h cs hc
    refine vv_ext (by rw [rowP_len, rowP_len]) ?_
    rw [rowP_scale hA hf k cs hc, rowP_scale hB (by rw [hf, hl]) k cs fun c hx => shape_good hs (hc c hx), h cs hc]
theorem rowP_app {A : List Menu} {f : List Rat} (c : List Int) : ∀ cs : List (List Int), rowP A (rowBy f (takenL A c)) cs = rowP A f (cs ++ [c])
  | [] => rfl
  | x :: cs => by
    show rowBy (rowP A _ cs) _ = rowBy (rowP A f (cs ++ [c])) _
    rw [rowP_app c cs]
theorem AlikeQ.later {A B : List Menu} {f : List Rat} {c : List Int} (h : AlikeQ A B f) (hc : goodChoice A c) : AlikeQ A B (rowBy f (takenL A c)) := fun cs hcs => by
  have e1 := h [c] fun x hx => by rw [List.mem_singleton.mp hx]; exact hc
  have e1 : rowBy f (takenL A c) = rowBy f (takenL B c) := e1
  rw [rowP_app, e1, rowP_app]
  exact h _ fun x hx => (List.mem_append.mp hx).elim (hcs x) fun y => by rw [List.mem_singleton.mp y]; exact hc
theorem rowP_zero {A : List Menu} {f : List Rat} (hA : okBook A) (hf : f.length = A.length) (h0 : vv f = fun _ => 0) : ∀ cs : List (List Int), (∀ c ∈ cs, goodChoice A c) → vv (rowP A f cs) = fun _ => 0
  | [], _ => h0
  | c :: cs, h => by
    rw [rowP_vv hA hf (h c (List.mem_cons_self ..)), rowP_zero hA hf h0 cs fun x hx => h x (List.mem_cons_of_mem _ hx), rowF_zero]
theorem AlikeQ.zero {A B : List Menu} {f : List Rat} (hA : okBook A) (hB : okBook B) (hs : shapeQ A = shapeQ B) (hf : f.length = A.length) (h0 : vv f = fun _ => 0) : AlikeQ A B f := fun cs hc =>
  vv_ext (by rw [rowP_len, rowP_len]) (by rw [rowP_zero hA hf h0 cs hc, rowP_zero hB (by rw [hf, shape_len hs]) h0 cs fun c hx => shape_good hs (hc c hx)])
theorem apart_len {A B : List Menu} {f : List Rat} {cs cs' : List (List Int)} {st st' : Nat} (hs : shapeQ A = shapeQ B) (h : ApartOk A B f cs st) (h' : ApartOk B A f cs' st') : cs'.length = cs.length := by
  rcases Nat.lt_trichotomy cs'.length cs.length with z | z | z
  · have := h.min cs' (fun c hc => shape_good hs.symm (h'.good c hc)) z
    exact (h'.ne (by rw [this])).elim
  · exact z
  · have := h'.min cs (fun c hc => shape_good hs (h.good c hc)) z
    exact (h.ne (by rw [this])).elim
theorem rowF_agree : ∀ (T T' : List (List Rat)) (v : Nat → Rat), T.length = T'.length → (∀ i, v i = 0 ∨ T[i]? = T'[i]?) → rowF T v = rowF T' v
  | [], [], _, _, _ => rfl
  | [], _ :: _, _, h, _ => by cases h
  | _ :: _, [], _, h, _ => by cases h
  | r :: T, r' :: T', v, hl, h => by
    have ih := rowF_agree T T' (fun i => v (i + 1)) (Nat.succ.inj hl) fun i => h (i + 1)
    funext j
    show v 0 * vv r j + rowF T _ j = v 0 * vv r' j + rowF T' _ j
    rw [ih]
    rcases h 0 with z | z
    · rw [z]; grind
    · have z : some r = some r' := z
      cases z; rfl
theorem rowF_at {j : Nat} : ∀ (T : List (List Rat)) (v : Nat → Rat), (∀ (i : Nat) (r : List Rat), T[i]? = some r → v i = 0 ∨ vv r j = 0) → rowF T v j = 0
  | [], _, _ => rfl
  | r :: T, v, h => by
    show v 0 * vv r j + rowF T (fun i => v (i + 1)) j = 0
    rw [rowF_at T _ fun i r hr => h (i + 1) r hr]
    rcases h 0 r rfl with z | z <;> rw [z] <;> grind
theorem taken_at? : ∀ (X : List Menu) (c : List Int) (i : Nat), (takenL X c)[i]? = (X[i]?).bind fun m => (c[i]?).map fun a => m.2.getD a.toNat []
  | [], _, i => by unfold takenL; simp
  | m :: X, [], i => by
    unfold takenL
    cases h : (m :: X)[i]? with
    | none => simp
    | some _ => simp
  | m :: X, a :: c, 0 => rfl
  | m :: X, a :: c, i + 1 => by
    show (takenL X c)[i]? = _
    rw [taken_at? X c i]
    rfl
theorem like_zero {X Y : List Menu} {n : Nat} {f : List Rat} (hX : okBook X) (hY : okBook Y) (hs : shapeQ X = shapeQ Y) (hn : X.length = n + 1) (hf : f.length = n + 1) (f0 : vv f n = 0) (same : ∀ i, i < n → X[i]? = Y[i]?) (z : ∀ i, i < n → ∀ m, X[i]? = some m → ∀ r ∈ m.2, vv r n = 0) : AlikeQ X Y f := by
  have hl := shape_len hs
  have key : ∀ cs : List (List Int), (∀ c ∈ cs, goodChoice X c) → rowP X f cs = rowP Y f cs ∧ vv (rowP X f cs) n = 0 := by
    intro cs
    induction cs with
    | nil => intro _; exact ⟨rfl, f0⟩
    | cons c cs ih =>
      intro h
      obtain ⟨i1, i2⟩ := ih fun x hx => h x (List.mem_cons_of_mem _ hx)
      have hc := h c (List.mem_cons_self ..)
      have hcY := shape_good hs hc
      have tX := okT_good hX hc
      have tY := okT_good hY hcY
      have eX := rowP_vv hX (by rw [hf, hn]) hc cs
      have eY := rowP_vv hY (by rw [hf, ← hl, hn]) hcY cs
      refine ⟨vv_ext (by rw [rowP_len, rowP_len]) ?_, ?_⟩
      · rw [eX, eY, ← i1]
        refine rowF_agree _ _ _ (by rw [tX.1, tY.1, hl]) fun i => ?_
        rcases Nat.lt_trichotomy i n with q | q | q
        · right; rw [taken_at?, taken_at?, same i q]
        · left; rw [q]; exact i2
        · right
          rw [List.getElem?_eq_none (by rw [tX.1]; omega), List.getElem?_eq_none (by rw [tY.1]; omega)]
      · rw [eX]
        refine rowF_at _ _ fun i r hr => ?_
        have hi : i < n + 1 := by have := (List.getElem?_eq_some_iff.mp hr).1; rw [tX.1] at this; omega
        by_cases q : i < n
        · right
          rw [taken_at?, List.getElem?_eq_getElem (by omega)] at hr
          have hm := z i q X[i] (List.getElem?_eq_getElem (by omega))
          generalize X[i] = m at hr hm
          cases hci : c[i]? with
          | none => rw [hci] at hr; cases hr
          | some a =>
            rw [hci] at hr
            have hr : some (m.2.getD a.toNat []) = some r := hr
            cases hr
            by_cases l : a.toNat < m.2.length
            · exact hm _ (getD_mem l)
            · rw [List.getD_eq_getElem?_getD, List.getElem?_eq_none (by omega)]; rfl
        · left; rw [show i = n by omega]; exact i2
  exact fun cs hc => (key cs hc).1
def moreM (A : List Menu) (x : List Rat) : List Menu := (A.map fun m => ((m.1, m.2.map fun r => r ++ [0]) : Menu)) ++ [(true, [x])]
theorem more_ok {A : List Menu} {x : List Rat} (hA : okBook A) (h4 : A.length ≤ 4) (hx : x.length = A.length + 1) (hs : ∀ q ∈ x, okS q) : okBook (moreM A x) := by
  have hl : (moreM A x).length = A.length + 1 := by unfold moreM; rw [List.length_append, List.length_map]; rfl
  refine ⟨by rw [hl]; omega, by rw [hl]; omega, fun m hm => ?_⟩
  rw [hl]
  unfold moreM at hm
  rcases List.mem_append.mp hm with z | z
  · obtain ⟨p, hp, rfl⟩ := List.mem_map.mp z
    have ok := hA.all p hp
    refine ⟨by show 1 ≤ (p.2.map _).length; rw [List.length_map]; exact ok.lo, by show (p.2.map _).length ≤ 3; rw [List.length_map]; exact ok.hi, fun r hr => ?_⟩
    obtain ⟨y, hy, rfl⟩ := List.mem_map.mp hr
    have okr := ok.all y hy
    refine ⟨by rw [List.length_append, okr.len]; rfl, fun q hq => ?_⟩
    rcases List.mem_append.mp hq with w | w
    · exact okr.all q w
    · rw [List.mem_singleton.mp w]; exact ⟨Rat.le_refl, by decide, by decide⟩
  · rw [List.mem_singleton.mp z]
    exact ⟨by simp, by simp, fun r hr => by rw [List.mem_singleton.mp hr]; exact ⟨hx, hs⟩⟩
theorem more_alike {A : List Menu} {x y f : List Rat} (hA : okBook A) (h4 : A.length ≤ 4) (hx : x.length = A.length + 1) (hy : y.length = A.length + 1) (sx : ∀ q ∈ x, okS q) (sy : ∀ q ∈ y, okS q) (hf : f.length = A.length) : AlikeQ (moreM A x) (moreM A y) (f ++ [0]) := by
  have hl : (moreM A x).length = A.length + 1 := by unfold moreM; rw [List.length_append, List.length_map]; rfl
  refine like_zero (n := A.length) (more_ok hA h4 hx sx) (more_ok hA h4 hy sy) (by unfold shapeQ moreM; rw [List.map_append, List.map_append]; rfl) hl (by rw [List.length_append, hf]; rfl) ?_ (fun i hi => ?_) (fun i hi m e r hr => ?_)
  · unfold vv; rw [List.getD_eq_getElem?_getD, List.getElem?_append_right (by omega), hf, Nat.sub_self]; rfl
  · unfold moreM
    rw [List.getElem?_append_left (by rw [List.length_map]; exact hi), List.getElem?_append_left (by rw [List.length_map]; exact hi)]
  · unfold moreM at e
    rw [List.getElem?_append_left (by rw [List.length_map]; exact hi), List.getElem?_map, List.getElem?_eq_getElem hi] at e
    cases e
    obtain ⟨y, hy, rfl⟩ := List.mem_map.mp hr
    have := ((hA.all _ (List.getElem_mem hi)).all y hy).len
    unfold vv; rw [List.getD_eq_getElem?_getD, List.getElem?_append_right (by omega), this, Nat.sub_self]; rfl
def waysD (w : List (List Int)) : PyData := .list (w.map planD)
def addWy (all w : List (List Int)) : List (List (List Int)) := all.map fun c => w ++ [c]
def waysY (all : List (List Int)) : Nat → List (List (List Int))
  | 0 => [[]]
  | k + 1 => (waysY all k).flatMap (addWy all)
theorem flat_lenW {α β : Type} {g : α → List β} {n : Nat} : ∀ {ws : List α}, (∀ w ∈ ws, (g w).length = n) → (ws.flatMap g).length = ws.length * n
  | [], _ => by simp
  | w :: ws, h => by
    rw [List.flatMap_cons, List.length_append, h w (List.mem_cons_self ..), flat_lenW (ws := ws) fun x hx => h x (List.mem_cons_of_mem _ hx), List.length_cons, Nat.succ_mul]
    omega
theorem waysY_len {all : List (List Int)} : ∀ k, (waysY all k).length = all.length ^ k
  | 0 => rfl
  | k + 1 => by
    show ((waysY all k).flatMap (addWy all)).length = _
    rw [flat_lenW (n := all.length) fun w _ => by unfold addWy; rw [List.length_map], waysY_len k, Nat.pow_succ]
theorem waysY_all {all : List (List Int)} : ∀ k, ∀ w ∈ waysY all k, w.length = k ∧ ∀ c ∈ w, c ∈ all
  | 0, w, h => by rw [List.mem_singleton.mp h]; exact ⟨rfl, fun c hc => by cases hc⟩
  | k + 1, w, h => by
    obtain ⟨v, hv, hw⟩ := List.mem_flatMap.mp h
    obtain ⟨c, hc, rfl⟩ := List.mem_map.mp hw
    obtain ⟨v1, v2⟩ := waysY_all k v hv
    exact ⟨by rw [List.length_append, v1]; rfl, fun x hx => (List.mem_append.mp hx).elim (v2 x) fun z => by rw [List.mem_singleton.mp z]; exact hc⟩
section
variable {A B : List Menu} {f : List Rat}
abbrev S_ns (A B : List Menu) (f : List Rat) (dm : PyData) (s4 s5 s6 s7 s8 s9 : Slot) : List Slot := [.dat (.list [encBook A, encBook B]), .dat (.list (f.map encR)), .dat dm, .dat (.list ((choicesQ A).map planD)), s4, s5, s6, s7, s8, s9, .no]
theorem ns_told {cs : List (List Int)} {st : Nat} (hA : okBook A) (hB : okBook B) (hs : shapeQ A = shapeQ B) (hf : f.length = A.length) (hv : VB 100 100 f) (hc : ∀ c ∈ cs, goodChoice A c) (hl : cs.length ≤ 100) (e : rowP A f cs = rowP B f cs) :
    ∃ q : Rat, d__law_told_sums [.list [encBook A, encBook B], .list (f.map encR), .list (cs.map planD), natD st] = .ok (.list [encR q, encR q]) := by
  have told := z__law_told_sums (dc := .list (f.map encR)) (dbs := .list [encBook A, encBook B]) (cs := cs) (st := st) hA hB hs hf hv (.inl rfl) hc hl (.inl rfl)
  have e2 : sumW A f cs st = sumW B f cs st := by
    rw [sumW_row hA hf hc, sumW_row hB (by rw [hf]; exact shape_len hs) (fun c h => shape_good hs (hc c h)), e]
  rw [e2] at told
  exact ⟨_, told⟩
theorem ns_store {dm : PyData} {s4 s5 s6 : Slot} {w : List (List Int)} (hA : okBook A) (hB : okBook B) (hs : shapeQ A = shapeQ B) (hf : f.length = A.length) (hv : VB 100 100 f) (hc : ∀ c ∈ w, goodChoice A c) (hl : w.length ≤ 100) (e : rowP A f w = rowP B f w) :
    kFor (iA rng1 (zCons (xCB zLen (zCons (xOp zIx (xV 0) (xC (.int 0))) zNil)) zNil)) (gN 8) [8, 9] b1__law_none_shorter (S_ns A B f dm s4 s5 s6 (.dat (waysD w)) .no .no) = .nx (S_ns A B f dm s4 s5 s6 (.dat (waysD w)) .no .no) := by
  have h5 := hA.hi
  have lA : zLen [encBook A] = some (.int (A.length : Nat)) := by unfold encBook; rw [zLen_t, List.length_map]
  have hrn : rng1 [.int (A.length : Nat)] = some ((List.range A.length).map natD) := by rw [rng1_n (by omega), rgD_map]; rfl
  have i0 : atI [encBook A, encBook B] 0 = some (encBook A) := rfl
  have loop := forL_all (g := gN 8) (wp := [8, 9]) (b := b1__law_none_shorter) (enc := natD) (F := fun k ρ => ρ.set 8 (.dat (natD k))) (ρ := S_ns A B f dm s4 s5 s6 (.dat (waysD w)) .no .no) (d := .bool false) (fun _ => true) (xs := List.range A.length) (fun _ _ => rfl) (fun st _ => by
    rw [if_pos rfl]
    obtain ⟨q, hq⟩ := ns_told (st := st) hA hB hs hf hv hc hl e
    have hq : d__law_told_sums [.list [encBook A, encBook B], .list (f.map encR), waysD w, natD st] = .ok (.list [encR q, encR q]) := hq
    have j0 : atI [encR q, encR q] 0 = some (encR q) := rfl
    have j1 : atI [encR q, encR q] 1 = some (encR q) := rfl
    refine ⟨[.dat (.list [encBook A, encBook B]), .dat (.list (f.map encR)), .dat dm, .dat (.list ((choicesQ A).map planD)), s4, s5, s6, .dat (waysD w), .dat (natD st), .dat (.list [encR q, encR q]), .no], ?_, rfl⟩
    show b1__law_none_shorter [.dat (.list [encBook A, encBook B]), .dat (.list (f.map encR)), .dat dm, .dat (.list ((choicesQ A).map planD)), s4, s5, s6, .dat (waysD w), .dat (natD st), .no, .no] = _
    simp only [zR0, zR1, zR2, zR3, zR4, zR5, zR6, zR7, slotsM, kFor_a, Rz.bind_ok, Rz.of_some, Rz.calm_ok, Option.bind_some, Option.bind_none, slots, sel, Arg.get, List.filterMap_cons, List.filterMap_nil, List.length_cons, List.length_nil, List.map_cons, List.map_nil, List.cons_append, List.nil_append, List.append_nil, List.getElem?_cons_succ, List.getElem?_cons_zero, List.getElem?_nil, List.set_cons_zero, List.set_cons_succ, List.set_nil, List.replicate_succ, List.replicate_zero, if_true, Nat.sub_self, Nat.reduceAdd, Nat.reduceSub, Nat.reduceLeDiff, Nat.reduceEqDiff, Nat.reduceLT, Int.reduceLT, Int.reduceLE, Int.reduceNeg, Int.reduceEq, Nat.zero_add, and_self, if_false, Bool.not_true, Bool.not_false, Bool.false_eq_true, Nat.zero_le, decide_true, decide_false, reduceCtorEq, b1__law_none_shorter_a, hq, j0, j1, decide_eq_true (rfl : q = q)])
  rw [if_pos (by rw [List.all_eq_true]; exact fun _ _ => rfl)] at loop
  simp only [zR0, zR1, zR2, zR3, zR4, zR5, zR6, zR7, slotsM, kFor_a, Rz.bind_ok, Rz.of_some, Rz.calm_ok, Option.bind_some, Option.bind_none, slots, sel, Arg.get, List.filterMap_cons, List.filterMap_nil, List.length_cons, List.length_nil, List.map_cons, List.map_nil, List.cons_append, List.nil_append, List.append_nil, List.getElem?_cons_succ, List.getElem?_cons_zero, List.getElem?_nil, List.set_cons_zero, List.set_cons_succ, List.set_nil, List.replicate_succ, List.replicate_zero, if_true, Nat.sub_self, Nat.reduceAdd, Nat.reduceSub, Nat.reduceLeDiff, Nat.reduceEqDiff, Nat.reduceLT, Int.reduceLT, Int.reduceLE, Int.reduceNeg, Int.reduceEq, Nat.zero_add, and_self, if_false, Bool.not_true, Bool.not_false, Bool.false_eq_true, Nat.zero_le, decide_true, decide_false, reduceCtorEq, i0, lA, hrn]
  exact loop
theorem ns_ways {dm : PyData} {s4 s5 : Slot} {t : Nat} (hA : okBook A) (hB : okBook B) (hs : shapeQ A = shapeQ B) (hf : f.length = A.length) (hv : VB 100 100 f) (ht : t ≤ 100) (hall : ∀ w : List (List Int), (∀ c ∈ w, goodChoice A c) → w.length = t → rowP A f w = rowP B f w) : ∀ (ws done : List (List (List Int))), (∀ w ∈ ws, w.length = t ∧ ∀ c ∈ w, c ∈ choicesQ A) → done.length + ws.length * (choicesQ A).length ≤ 1000000 →
    forL (gN 7) [7, 8, 9] b2__law_none_shorter (ws.map waysD) (S_ns A B f dm s4 s5 (.dat (.list (done.map waysD))) .no .no .no) = .nx (S_ns A B f dm s4 s5 (.dat (.list ((done ++ ws.flatMap (addWy (choicesQ A))).map waysD))) .no .no .no)
  | [], done, _, _ => by rw [List.flatMap_nil, List.append_nil]; rfl
  | w :: ws, done, h, hl => by
    rw [List.length_cons, Nat.succ_mul] at hl
    obtain ⟨h1, h2⟩ := h w (List.mem_cons_self ..)
    have hg : ∀ c ∈ w, goodChoice A c := fun c hc => mem_choices.mp (h2 c hc)
    have st := ns_store (dm := dm) (s4 := s4) (s5 := s5) (s6 := .dat (.list (done.map waysD))) hA hB hs hf hv hg (by omega) (hall w hg h1)
    have cl := choices_len hA
    have hlc : ((choicesQ A).map planD).length ≤ 1000000 := by rw [List.length_map]; omega
    have lc : lcL (gN 10) yYes (xOp zAddV (xV 7) (xL (fLst (zCons (xV 10) zNil)))) (S_ns A B f dm s4 s5 (.dat (.list (done.map waysD))) (.dat (waysD w)) .no .no) ((choicesQ A).map planD) = .ok ((addWy (choicesQ A) w).map waysD) := by
      unfold addWy
      rw [List.map_map]
      exact lcL_map (F := fun c ρ => ρ.set 10 (.dat (planD c))) (fun c _ => rfl) (fun c _ => rfl) (fun c _ => by
        have ad : zAddV (waysD w) (.list [planD c]) = some (waysD (w ++ [c])) := by
          unfold waysD
          rw [zAddV_l (by rw [List.length_map]; simp; omega), List.map_append]; rfl
        simp only [zR0, zR1, zR2, zR3, zR4, zR5, zR6, zR7, slotsM, kFor_a, Rz.bind_ok, Rz.of_some, Rz.calm_ok, Option.bind_some, Option.bind_none, slots, sel, Arg.get, List.filterMap_cons, List.filterMap_nil, List.length_cons, List.length_nil, List.map_cons, List.map_nil, List.cons_append, List.nil_append, List.append_nil, List.getElem?_cons_succ, List.getElem?_cons_zero, List.getElem?_nil, List.set_cons_zero, List.set_cons_succ, List.set_nil, List.replicate_succ, List.replicate_zero, if_true, Nat.sub_self, Nat.reduceAdd, Nat.reduceSub, Nat.reduceLeDiff, Nat.reduceEqDiff, Nat.reduceLT, Int.reduceLT, Int.reduceLE, Int.reduceNeg, Int.reduceEq, Nat.zero_add, and_self, if_false, Bool.not_true, Bool.not_false, Bool.false_eq_true, Nat.zero_le, decide_true, decide_false, reduceCtorEq, ad]
        rfl)
    have al : (addWy (choicesQ A) w).length = (choicesQ A).length := by unfold addWy; rw [List.length_map]
    have ad : zAddV (.list (done.map waysD)) (.list ((addWy (choicesQ A) w).map waysD)) = some (.list ((done ++ addWy (choicesQ A) w).map waysD)) := by
      rw [zAddV_l (by rw [List.length_map, List.length_map, al]; omega), List.map_append]
    have ih := ns_ways (dm := dm) (s4 := s4) (s5 := s5) hA hB hs hf hv ht hall ws (done ++ addWy (choicesQ A) w) (fun x hx => h x (List.mem_cons_of_mem _ hx)) (by rw [List.length_append, al]; omega)
    have e2 : done ++ (w :: ws).flatMap (addWy (choicesQ A)) = (done ++ addWy (choicesQ A) w) ++ ws.flatMap (addWy (choicesQ A)) := by rw [List.flatMap_cons, List.append_assoc]
    rw [List.map_cons, forL_cons, e2]
    simp only [zR0, zR1, zR2, zR3, zR4, zR5, zR6, zR7, slotsM, Rz.bind_ok, Rz.of_some, Rz.calm_ok, Option.bind_some, Option.bind_none, slots, sel, Arg.get, List.filterMap_cons, List.filterMap_nil, List.length_cons, List.length_nil, List.map_cons, List.map_nil, List.cons_append, List.nil_append, List.append_nil, List.getElem?_cons_succ, List.getElem?_cons_zero, List.getElem?_nil, List.set_cons_zero, List.set_cons_succ, List.set_nil, List.replicate_succ, List.replicate_zero, if_true, Nat.sub_self, Nat.reduceAdd, Nat.reduceSub, Nat.reduceLeDiff, Nat.reduceEqDiff, Nat.reduceLT, Int.reduceLT, Int.reduceLE, Int.reduceNeg, Int.reduceEq, Nat.zero_add, and_self, if_false, Bool.not_true, Bool.not_false, Bool.false_eq_true, Nat.zero_le, decide_true, decide_false, reduceCtorEq, b2__law_none_shorter_a, st, if_pos hlc, lc, ad]
    exact ih
theorem z__law_none_shorter {many : Nat} (hA : okBook A) (hB : okBook B) (hs : shapeQ A = shapeQ B) (hf : f.length = A.length) (hv : VB 100 100 f) (hm : many ≤ 100) (hall : ∀ w : List (List Int), (∀ c ∈ w, goodChoice A c) → w.length < many → rowP A f w = rowP B f w) : d__law_none_shorter [.list [encBook A, encBook B], .list (f.map encR), .int (many : Int), .list ((choicesQ A).map planD)] = .ok (.bool true) := by
  have cl := choices_len hA
  generalize hn : (choicesQ A).length = n at cl
  have hln : zLen [PyData.list ((choicesQ A).map planD)] = some (.int (n : Nat)) := by rw [zLen_l, List.length_map, hn]
  have n1 : 1 ≤ n := by
    rw [← hn]
    exact List.length_pos_of_mem (mem_choices.mpr (good_range (ms := A) (f := fun _ => 0) fun i hi => ⟨by decide, by
      have := (hA.all _ (List.getElem_mem hi)).lo
      rw [rowsAt_eq (List.getElem?_eq_getElem hi)]; omega⟩))
  obtain ⟨m, hm1, hm2, hme⟩ : ∃ m : Nat, m ≤ many ∧ n ^ m ≤ 1000000 ∧ ∀ ρ : List Slot, ρ[2]? = some (.dat (.int (many : Int))) → ρ[3]? = some (.dat (.list ((choicesQ A).map planD))) → (xCB zMin (zCons (xV 2) (zCons (xOp zIx (xL (fLst (zCons (xC (.int 2)) (zCons (xC (.int 3)) (zCons (xC (.int 5)) zNil))))) (xOp zAddV (xCB zInt (zCons (xOp zLt (xCB zLen (zCons (xV 3) zNil)) (xC (.int 10))) zNil)) (xCB zInt (zCons (xOp zLt (xCB zLen (zCons (xV 3) zNil)) (xC (.int 3))) zNil)))) zNil))) ρ = .ok (.int (m : Int)) := by
    have mn : ∀ b : Nat, ∃ m : Nat, m ≤ many ∧ m ≤ b ∧ (if (b : Int) < (many : Int) then (b : Int) else (many : Int)) = (m : Int) := fun b => by
      by_cases c : (b : Int) < (many : Int)
      · exact ⟨b, by omega, Nat.le_refl _, if_pos c⟩
      · exact ⟨many, Nat.le_refl _, by omega, if_neg c⟩
    have pw : ∀ m b : Nat, m ≤ b → 1 ≤ n → n ^ b ≤ 1000000 → n ^ m ≤ 1000000 := fun m b h h1 h2 => Nat.le_trans (Nat.pow_le_pow_right h1 h) h2
    by_cases c1 : n < 3
    · obtain ⟨m, m1, m2, m3⟩ := mn 5
      have q : n ^ 5 ≤ 2 ^ 5 := Nat.pow_le_pow_left (by omega) 5
      have m3 : (if (5 : Int) < (many : Int) then (5 : Int) else (many : Int)) = (m : Int) := m3
      have i2 : atI [PyData.int 2, .int 3, .int 5] (1 + 1) = some (.int 5) := rfl
      exact ⟨m, m1, pw m 5 m2 n1 (by omega), fun ρ r2 r3 => by simp only [zR0, zR1, zR2, zR3, zR4, zR5, zR6, zR7, slotsM, kFor_a, Rz.bind_ok, Rz.of_some, Rz.calm_ok, Option.bind_some, Option.bind_none, slots, sel, Arg.get, List.filterMap_cons, List.filterMap_nil, List.length_cons, List.length_nil, List.map_cons, List.map_nil, List.cons_append, List.nil_append, List.append_nil, List.getElem?_cons_succ, List.getElem?_cons_zero, List.getElem?_nil, List.set_cons_zero, List.set_cons_succ, List.set_nil, List.replicate_succ, List.replicate_zero, if_true, Nat.sub_self, Nat.reduceAdd, Nat.reduceSub, Nat.reduceLeDiff, Nat.reduceEqDiff, Nat.reduceLT, Int.reduceLT, Int.reduceLE, Int.reduceNeg, Int.reduceEq, Nat.zero_add, and_self, if_false, Bool.not_true, Bool.not_false, Bool.false_eq_true, Nat.zero_le, decide_true, decide_false, reduceCtorEq, r2, r3, hln, decide_eq_true (show (n : Int) < 10 by omega), decide_eq_true (show (n : Int) < 3 by omega), if_true, i2, m3]⟩
    · by_cases c2 : n < 10
      · obtain ⟨m, m1, m2, m3⟩ := mn 3
        have q : n ^ 3 ≤ 9 ^ 3 := Nat.pow_le_pow_left (by omega) 3
        have m3 : (if (3 : Int) < (many : Int) then (3 : Int) else (many : Int)) = (m : Int) := m3
        have i2 : atI [PyData.int 2, .int 3, .int 5] (1 + 0) = some (.int 3) := rfl
        exact ⟨m, m1, pw m 3 m2 n1 (by omega), fun ρ r2 r3 => by simp only [zR0, zR1, zR2, zR3, zR4, zR5, zR6, zR7, slotsM, kFor_a, Rz.bind_ok, Rz.of_some, Rz.calm_ok, Option.bind_some, Option.bind_none, slots, sel, Arg.get, List.filterMap_cons, List.filterMap_nil, List.length_cons, List.length_nil, List.map_cons, List.map_nil, List.cons_append, List.nil_append, List.append_nil, List.getElem?_cons_succ, List.getElem?_cons_zero, List.getElem?_nil, List.set_cons_zero, List.set_cons_succ, List.set_nil, List.replicate_succ, List.replicate_zero, if_true, Nat.sub_self, Nat.reduceAdd, Nat.reduceSub, Nat.reduceLeDiff, Nat.reduceEqDiff, Nat.reduceLT, Int.reduceLT, Int.reduceLE, Int.reduceNeg, Int.reduceEq, Nat.zero_add, and_self, if_false, Bool.not_true, Bool.not_false, Bool.false_eq_true, Nat.zero_le, decide_true, decide_false, reduceCtorEq, r2, r3, hln, decide_eq_true (show (n : Int) < 10 by omega), decide_eq_false (show ¬ (n : Int) < 3 by omega), if_true, Bool.false_eq_true, if_false, i2, m3]⟩
      · obtain ⟨m, m1, m2, m3⟩ := mn 2
        have q : n ^ 2 ≤ 243 ^ 2 := Nat.pow_le_pow_left cl 2
        have m3 : (if (2 : Int) < (many : Int) then (2 : Int) else (many : Int)) = (m : Int) := m3
        have i2 : atI [PyData.int 2, .int 3, .int 5] (0 + 0) = some (.int 2) := rfl
        exact ⟨m, m1, pw m 2 m2 n1 (by omega), fun ρ r2 r3 => by simp only [zR0, zR1, zR2, zR3, zR4, zR5, zR6, zR7, slotsM, kFor_a, Rz.bind_ok, Rz.of_some, Rz.calm_ok, Option.bind_some, Option.bind_none, slots, sel, Arg.get, List.filterMap_cons, List.filterMap_nil, List.length_cons, List.length_nil, List.map_cons, List.map_nil, List.cons_append, List.nil_append, List.append_nil, List.getElem?_cons_succ, List.getElem?_cons_zero, List.getElem?_nil, List.set_cons_zero, List.set_cons_succ, List.set_nil, List.replicate_succ, List.replicate_zero, if_true, Nat.sub_self, Nat.reduceAdd, Nat.reduceSub, Nat.reduceLeDiff, Nat.reduceEqDiff, Nat.reduceLT, Int.reduceLT, Int.reduceLE, Int.reduceNeg, Int.reduceEq, Nat.zero_add, and_self, if_false, Bool.not_true, Bool.not_false, Bool.false_eq_true, Nat.zero_le, decide_true, decide_false, reduceCtorEq, r2, r3, hln, decide_eq_false (show ¬ (n : Int) < 10 by omega), decide_eq_false (show ¬ (n : Int) < 3 by omega), Bool.false_eq_true, if_false, i2, m3]⟩
  have hrn : rng1 [.int (m : Int)] = some ((List.range m).map natD) := by rw [rng1_n (by omega), rgD_map]; rfl
  have loop := forL_rng (g := gN 5) (wp := [5, 6, 7, 8, 9]) (b := b3__law_none_shorter) (enc := natD) (F := fun k ρ => ρ.set 5 (.dat (natD k))) (fun k => S_ns A B f (.int (many : Int)) (.dat (.list ((waysY (choicesQ A) k).map waysD))) .no .no .no .no .no) (n := m) (fun k _ => rfl)
    (fun k hk => by
      have wl := waysY_len (all := choicesQ A) k
      have p1 : n ^ (k + 1) ≤ 1000000 := Nat.le_trans (Nat.pow_le_pow_right n1 hk) hm2
      have hb : 0 + (waysY (choicesQ A) k).length * (choicesQ A).length ≤ 1000000 := by
        rw [wl, hn, Nat.zero_add]
        exact p1
      have hb0 : n ^ k ≤ 1000000 := Nat.le_trans (Nat.pow_le_pow_right n1 (by omega)) hm2
      have w := ns_ways (dm := .int (many : Int)) (s4 := .dat (.list ((waysY (choicesQ A) k).map waysD))) (s5 := .dat (natD k)) hA hB hs hf hv (show k ≤ 100 by omega) (fun w h1 h2 => hall w h1 (by omega)) (waysY (choicesQ A) k) [] (waysY_all k) hb
      rw [List.nil_append] at w
      have f1 : kFor (iS (xV 4)) (gN 7) [7, 8, 9] b2__law_none_shorter (S_ns A B f (.int (many : Int)) (.dat (.list ((waysY (choicesQ A) k).map waysD))) (.dat (natD k)) (.dat (.list [])) .no .no .no) = .nx (S_ns A B f (.int (many : Int)) (.dat (.list ((waysY (choicesQ A) k).map waysD))) (.dat (natD k)) (.dat (.list ((waysY (choicesQ A) (k + 1)).map waysD))) .no .no .no) := by
        simp only [zR0, zR1, zR2, zR3, zR4, zR5, zR6, zR7, slotsM, kFor_a, Rz.bind_ok, Rz.of_some, Rz.calm_ok, Option.bind_some, Option.bind_none, slots, sel, Arg.get, List.filterMap_cons, List.filterMap_nil, List.length_cons, List.length_nil, List.map_cons, List.map_nil, List.cons_append, List.nil_append, List.append_nil, List.getElem?_cons_succ, List.getElem?_cons_zero, List.getElem?_nil, List.set_cons_zero, List.set_cons_succ, List.set_nil, List.replicate_succ, List.replicate_zero, if_true, Nat.sub_self, Nat.reduceAdd, Nat.reduceSub, Nat.reduceLeDiff, Nat.reduceEqDiff, Nat.reduceLT, Int.reduceLT, Int.reduceLE, Int.reduceNeg, Int.reduceEq, Nat.zero_add, and_self, if_false, Bool.not_true, Bool.not_false, Bool.false_eq_true, Nat.zero_le, decide_true, decide_false, reduceCtorEq]
        exact w
      refine ⟨S_ns A B f (.int (many : Int)) (.dat (.list ((waysY (choicesQ A) (k + 1)).map waysD))) (.dat (natD k)) (.dat (.list ((waysY (choicesQ A) (k + 1)).map waysD))) .no .no .no, ?_, rfl⟩
      show b3__law_none_shorter (S_ns A B f (.int (many : Int)) (.dat (.list ((waysY (choicesQ A) k).map waysD))) (.dat (natD k)) .no .no .no .no) = _
      simp only [zR0, zR1, zR2, zR3, zR4, zR5, zR6, zR7, slotsM, Rz.bind_ok, Rz.of_some, Rz.calm_ok, Option.bind_some, Option.bind_none, slots, sel, Arg.get, List.filterMap_cons, List.filterMap_nil, List.length_cons, List.length_nil, List.map_cons, List.map_nil, List.cons_append, List.nil_append, List.append_nil, List.getElem?_cons_succ, List.getElem?_cons_zero, List.getElem?_nil, List.set_cons_zero, List.set_cons_succ, List.set_nil, List.replicate_succ, List.replicate_zero, if_true, Nat.sub_self, Nat.reduceAdd, Nat.reduceSub, Nat.reduceLeDiff, Nat.reduceEqDiff, Nat.reduceLT, Int.reduceLT, Int.reduceLE, Int.reduceNeg, Int.reduceEq, Nat.zero_add, and_self, if_false, Bool.not_true, Bool.not_false, Bool.false_eq_true, Nat.zero_le, decide_true, decide_false, reduceCtorEq, b3__law_none_shorter_a, f1])
  have f2 : kFor (iA rng1 (zCons (xCB zMin (zCons (xV 2) (zCons (xOp zIx (xL (fLst (zCons (xC (.int 2)) (zCons (xC (.int 3)) (zCons (xC (.int 5)) zNil))))) (xOp zAddV (xCB zInt (zCons (xOp zLt (xCB zLen (zCons (xV 3) zNil)) (xC (.int 10))) zNil)) (xCB zInt (zCons (xOp zLt (xCB zLen (zCons (xV 3) zNil)) (xC (.int 3))) zNil)))) zNil))) zNil)) (gN 5) [5, 6, 7, 8, 9] b3__law_none_shorter (S_ns A B f (.int (many : Int)) (.dat (.list [.list []])) .no .no .no .no .no) = .nx (S_ns A B f (.int (many : Int)) (.dat (.list ((waysY (choicesQ A) m).map waysD))) .no .no .no .no .no) := by
    have h0 := hme (S_ns A B f (.int (many : Int)) (.dat (.list [.list []])) .no .no .no .no .no) rfl rfl
    rw [kFor_a, kE_a]
    simp only [iA_a, zCons_a, zNil_a, h0, Rz.bind_ok, hrn, Rz.of_some]
    exact loop
  simp only [zR0, zR1, zR2, zR3, zR4, zR5, zR6, zR7, slotsM, Rz.bind_ok, Rz.of_some, Rz.calm_ok, Option.bind_some, Option.bind_none, slots, sel, Arg.get, List.filterMap_cons, List.filterMap_nil, List.length_cons, List.length_nil, List.map_cons, List.map_nil, List.cons_append, List.nil_append, List.append_nil, List.getElem?_cons_succ, List.getElem?_cons_zero, List.getElem?_nil, List.set_cons_zero, List.set_cons_succ, List.set_nil, List.replicate_succ, List.replicate_zero, if_true, Nat.sub_self, Nat.reduceAdd, Nat.reduceSub, Nat.reduceLeDiff, Nat.reduceEqDiff, Nat.reduceLT, Int.reduceLT, Int.reduceLE, Int.reduceNeg, Int.reduceEq, Nat.zero_add, and_self, if_false, Bool.not_true, Bool.not_false, Bool.false_eq_true, Nat.zero_le, decide_true, decide_false, reduceCtorEq, d__law_none_shorter, m__law_none_shorter, f2]
end
theorem z__law_untold_alike {A : List Menu} {f s : List Rat} (hA : okBook A) (h4 : A.length ≤ 4) (hf : f.length = A.length) (hv : VB 4 9 f) (hs : s.length = A.length + 1) (ok : ∀ q ∈ s, okS q) : d__law_untold_alike [encBook A, .list (f.map encR), .list (s.map encR)] = .ok (.bool true) := by
  have h5 := hA.hi
  have zt : PyData.tuple [.int 0, .int 1] = encR 0 := rfl
  have loop := forL_app (g := gT 2 (gsC (gN 4) (gsC (gN 5) gs0))) (wp := [4, 5]) (b := b1__law_untold_alike) (enc := encMenu) (F := fun m ρ => (ρ.set 4 (.dat (whoD m.1))).set 5 (.dat (.tuple (m.2.map encRow)))) (R := fun acc : List Menu => [.dat (encBook A), .dat (.list (f.map encR)), .dat (.list (s.map encR)), .own (.lst (acc.map encMenu)), .no, .no, .no, .no, .no, .no]) (out := fun m : Menu => ((m.1, m.2.map fun r => r ++ [0]) : Menu)) (N := 1000) (xs := A) (acc := []) (by simp; omega) (fun m _ => rfl) (fun m hm acc hacc => by
    have om := hA.all m hm
    have o3 := om.hi
    have hl1 : (m.2.map encRow).length ≤ 1000000 := by rw [List.length_map]; omega
    have lc : lcL (gN 9) yYes (xOp zAddV (xV 9) (xTup (zCons (xTup (zCons (xC (.int 0)) (zCons (xC (.int 1)) zNil))) zNil))) [.dat (encBook A), .dat (.list (f.map encR)), .dat (.list (s.map encR)), .own (.lst (acc.map encMenu)), .dat (whoD m.1), .dat (.tuple (m.2.map encRow)), .no, .no, .no, .no] (m.2.map encRow) = .ok ((m.2.map fun r => r ++ [0]).map encRow) := by
      rw [List.map_map]
      refine lcL_map (F := fun r ρ => ρ.set 9 (.dat (encRow r))) (fun _ _ => rfl) (fun _ _ => rfl) (fun r hr => ?_)
      have rl := (om.all r hr).len
      have ad : zAddV (encRow r) (.tuple [.tuple [.int 0, .int 1]]) = some (encRow (r ++ [0])) := by
        rw [zt, show encRow r = .tuple (r.map encR) from rfl, zAddV_t (by rw [List.length_map]; simp; omega)]
        unfold encRow
        rw [List.map_append]; rfl
      simp only [zR0, zR1, zR2, zR3, zR4, zR5, zR6, zR7, slotsM, kFor_a, Rz.bind_ok, Rz.of_some, Rz.calm_ok, Option.bind_some, Option.bind_none, slots, sel, Arg.get, List.filterMap_cons, List.filterMap_nil, List.length_cons, List.length_nil, List.map_cons, List.map_nil, List.cons_append, List.nil_append, List.append_nil, List.getElem?_cons_succ, List.getElem?_cons_zero, List.getElem?_nil, List.set_cons_zero, List.set_cons_succ, List.set_nil, List.replicate_succ, List.replicate_zero, if_true, Nat.sub_self, Nat.reduceAdd, Nat.reduceSub, Nat.reduceLeDiff, Nat.reduceEqDiff, Nat.reduceLT, Int.reduceLT, Int.reduceLE, Int.reduceNeg, Int.reduceEq, Nat.zero_add, and_self, if_false, Bool.not_true, Bool.not_false, Bool.false_eq_true, Nat.zero_le, decide_true, decide_false, reduceCtorEq, ad]
      rfl
    have hg : (acc.map encMenu).length < 1000000 := by rw [List.length_map]; omega
    have em : PyData.tuple [whoD m.1, .tuple ((m.2.map fun r => r ++ [0]).map encRow)] = encMenu (m.1, m.2.map fun r => r ++ [0]) := rfl
    refine ⟨[.dat (encBook A), .dat (.list (f.map encR)), .dat (.list (s.map encR)), .own (.lst (acc.map encMenu ++ [encMenu (m.1, m.2.map fun r => r ++ [0])])), .dat (whoD m.1), .dat (.tuple (m.2.map encRow)), .no, .no, .no, .no], ?_, ?_⟩
    · show b1__law_untold_alike [.dat (encBook A), .dat (.list (f.map encR)), .dat (.list (s.map encR)), .own (.lst (acc.map encMenu)), .dat (whoD m.1), .dat (.tuple (m.2.map encRow)), .no, .no, .no, .no] = _
      simp only [zR0, zR1, zR2, zR3, zR4, zR5, zR6, zR7, slotsM, kFor_a, Rz.bind_ok, Rz.of_some, Rz.calm_ok, Option.bind_some, Option.bind_none, slots, sel, Arg.get, List.filterMap_cons, List.filterMap_nil, List.length_cons, List.length_nil, List.map_cons, List.map_nil, List.cons_append, List.nil_append, List.append_nil, List.getElem?_cons_succ, List.getElem?_cons_zero, List.getElem?_nil, List.set_cons_zero, List.set_cons_succ, List.set_nil, List.replicate_succ, List.replicate_zero, if_true, Nat.sub_self, Nat.reduceAdd, Nat.reduceSub, Nat.reduceLeDiff, Nat.reduceEqDiff, Nat.reduceLT, Int.reduceLT, Int.reduceLE, Int.reduceNeg, Int.reduceEq, Nat.zero_add, and_self, if_false, Bool.not_true, Bool.not_false, Bool.false_eq_true, Nat.zero_le, decide_true, decide_false, reduceCtorEq, b1__law_untold_alike_a, if_pos hl1, lc, em, if_pos hg]
    · rw [List.map_append]; rfl)
  have loop : forL (gT 2 (gsC (gN 4) (gsC (gN 5) gs0))) [4, 5] b1__law_untold_alike (A.map encMenu) [.dat (encBook A), .dat (.list (f.map encR)), .dat (.list (s.map encR)), .own (.lst []), .no, .no, .no, .no, .no, .no] = _ := loop
  rw [List.nil_append] at loop
  have sA : seqOf (encBook A) = some (A.map encMenu) := rfl
  have hL : (A.map fun m => ((m.1, m.2.map fun r => r ++ [0]) : Menu)).length ≤ 5 := by rw [List.length_map]; omega
  have mB : ∀ x : List Rat, encBook (moreM A x) = .tuple ((A.map fun m => ((m.1, m.2.map fun r => r ++ [0]) : Menu)).map encMenu ++ [.tuple [.str "weather", .tuple [.tuple (x.map encR)]]]) := fun x => by
    unfold moreM encBook
    rw [List.map_append]; rfl
  have okx := more_ok (x := s) hA h4 hs ok
  have th : okS (Rat.divInt 1 3) := okS_divInt (by decide) (by decide) (by decide) (by decide)
  have et : PyData.tuple [.int 1, .int 3] = encR (Rat.divInt 1 3) := by kernel_rfl
  have oky := more_ok (x := s.map fun _ => Rat.divInt 1 3) hA h4 (by rw [List.length_map, hs]) (fun q hq => by obtain ⟨_, _, rfl⟩ := List.mem_map.mp hq; exact th)
  have al := more_alike (x := s) (y := s.map fun _ => Rat.divInt 1 3) hA h4 hs (by rw [List.length_map, hs]) ok (fun q hq => by obtain ⟨_, _, rfl⟩ := List.mem_map.mp hq; exact th) hf
  have hv0 : VB 100 100 (f ++ [0]) := by
    obtain ⟨D, N, a, b, c, g⟩ := hv
    refine VB.mono ⟨D, N, a, b, c, fun q hq => ?_⟩ (by decide) (by decide)
    rcases List.mem_append.mp hq with z | z
    · exact g q z
    · exact ⟨0, by rw [List.mem_singleton.mp z, Rat.zero_mul]; rfl, Nat.zero_le _⟩
  have ml : ∀ x : List Rat, (moreM A x).length = A.length + 1 := fun x => by unfold moreM; rw [List.length_append, List.length_map]; rfl
  obtain ⟨w, d, w1, w2, w3⟩ := al_word (dc := .list ((f ++ [0]).map encR)) okx oky (by unfold shapeQ moreM; rw [List.map_append, List.map_append]; rfl) (by rw [ml, List.length_append, hf]; rfl) hv0 (.inl rfl)
  have w1 : w = true := w1.mpr al
  subst w1
  have hbx := mB s
  have hby := mB (s.map fun _ => Rat.divInt 1 3)
  generalize moreM A s = X at *
  generalize moreM A (s.map fun _ => Rat.divInt 1 3) = Y at *
  generalize (A.map fun m => ((m.1, m.2.map fun r => r ++ [0]) : Menu)) = V at *
  have hls : (s.map encR).length ≤ 1000000 := by rw [List.length_map]; omega
  have lcs : ∀ a0 a1 a3 a4 a5 a6 a7 a9 : Slot, lcL (gN 8) yYes (xTup (zCons (xC (.int 1)) (zCons (xC (.int 3)) zNil))) [a0, a1, .dat (.list (s.map encR)), a3, a4, a5, a6, a7, .no, a9] (s.map encR) = .ok ((s.map fun _ => Rat.divInt 1 3).map encR) := fun a0 a1 a3 a4 a5 a6 a7 a9 => by
    rw [List.map_map]
    exact lcL_map (F := fun q ρ => ρ.set 8 (.dat (encR q))) (fun _ _ => rfl) (fun _ _ => rfl) (fun q _ => by
      simp only [zR0, zR1, zR2, zR3, zR4, zR5, zR6, zR7, slotsM, kFor_a, Rz.bind_ok, Rz.of_some, Rz.calm_ok, Option.bind_some, Option.bind_none, slots, sel, Arg.get, List.filterMap_cons, List.filterMap_nil, List.length_cons, List.length_nil, List.map_cons, List.map_nil, List.cons_append, List.nil_append, List.append_nil, List.getElem?_cons_succ, List.getElem?_cons_zero, List.getElem?_nil, List.set_cons_zero, List.set_cons_succ, List.set_nil, List.replicate_succ, List.replicate_zero, if_true, Nat.sub_self, Nat.reduceAdd, Nat.reduceSub, Nat.reduceLeDiff, Nat.reduceEqDiff, Nat.reduceLT, Int.reduceLT, Int.reduceLE, Int.reduceNeg, Int.reduceEq, Nat.zero_add, and_self, if_false, Bool.not_true, Bool.not_false, Bool.false_eq_true, Nat.zero_le, decide_true, decide_false, reduceCtorEq, et]
      rfl)
  have ad : ∀ x : List Rat, zAddV (.tuple (V.map encMenu)) (.tuple [.tuple [.str "weather", .tuple [.tuple (x.map encR)]]]) = some (.tuple (V.map encMenu ++ [.tuple [.str "weather", .tuple [.tuple (x.map encR)]]])) := fun x => zAddV_t (by rw [List.length_map]; simp; omega)
  have adx := ad s
  have ady := ad (s.map fun _ => Rat.divInt 1 3)
  rw [← hbx] at adx
  rw [← hby] at ady
  have t1 : b2__law_untold_alike [.dat (encBook A), .dat (.list (f.map encR)), .dat (.list (s.map encR)), .dat (.list (V.map encMenu)), .no, .no, .own (.lst []), .dat (.tuple (s.map encR)), .no, .no] = .nx [.dat (encBook A), .dat (.list (f.map encR)), .dat (.list (s.map encR)), .dat (.list (V.map encMenu)), .no, .no, .own (.lst [encBook X]), .dat (.tuple (s.map encR)), .no, .no] := by
    simp only [zR0, zR1, zR2, zR3, zR4, zR5, zR6, zR7, slotsM, kFor_a, Rz.bind_ok, Rz.of_some, Rz.calm_ok, Option.bind_some, Option.bind_none, slots, sel, Arg.get, List.filterMap_cons, List.filterMap_nil, List.length_cons, List.length_nil, List.map_cons, List.map_nil, List.cons_append, List.nil_append, List.append_nil, List.getElem?_cons_succ, List.getElem?_cons_zero, List.getElem?_nil, List.set_cons_zero, List.set_cons_succ, List.set_nil, List.replicate_succ, List.replicate_zero, if_true, Nat.sub_self, Nat.reduceAdd, Nat.reduceSub, Nat.reduceLeDiff, Nat.reduceEqDiff, Nat.reduceLT, Int.reduceLT, Int.reduceLE, Int.reduceNeg, Int.reduceEq, Nat.zero_add, and_self, if_false, Bool.not_true, Bool.not_false, Bool.false_eq_true, Nat.zero_le, decide_true, decide_false, reduceCtorEq, b2__law_untold_alike_a, adx, if_pos (show ([] : List PyData).length < 1000000 by decide)]
  have t2 : b2__law_untold_alike [.dat (encBook A), .dat (.list (f.map encR)), .dat (.list (s.map encR)), .dat (.list (V.map encMenu)), .no, .no, .own (.lst [encBook X]), .dat (.tuple ((s.map fun _ => Rat.divInt 1 3).map encR)), .no, .no] = .nx [.dat (encBook A), .dat (.list (f.map encR)), .dat (.list (s.map encR)), .dat (.list (V.map encMenu)), .no, .no, .own (.lst [encBook X, encBook Y]), .dat (.tuple ((s.map fun _ => Rat.divInt 1 3).map encR)), .no, .no] := by
    simp only [zR0, zR1, zR2, zR3, zR4, zR5, zR6, zR7, slotsM, kFor_a, Rz.bind_ok, Rz.of_some, Rz.calm_ok, Option.bind_some, Option.bind_none, slots, sel, Arg.get, List.filterMap_cons, List.filterMap_nil, List.length_cons, List.length_nil, List.map_cons, List.map_nil, List.cons_append, List.nil_append, List.append_nil, List.getElem?_cons_succ, List.getElem?_cons_zero, List.getElem?_nil, List.set_cons_zero, List.set_cons_succ, List.set_nil, List.replicate_succ, List.replicate_zero, if_true, Nat.sub_self, Nat.reduceAdd, Nat.reduceSub, Nat.reduceLeDiff, Nat.reduceEqDiff, Nat.reduceLT, Int.reduceLT, Int.reduceLE, Int.reduceNeg, Int.reduceEq, Nat.zero_add, and_self, if_false, Bool.not_true, Bool.not_false, Bool.false_eq_true, Nat.zero_le, decide_true, decide_false, reduceCtorEq, b2__law_untold_alike_a, ady, if_pos (show [encBook X].length < 1000000 from Nat.lt_of_le_of_lt (Nat.le_refl 1) (by decide))]
  have lp : forL (gN 7) [7] b2__law_untold_alike [.tuple (s.map encR), .tuple ((s.map fun _ => Rat.divInt 1 3).map encR)] [.dat (encBook A), .dat (.list (f.map encR)), .dat (.list (s.map encR)), .dat (.list (V.map encMenu)), .no, .no, .own (.lst []), .no, .no, .no] = .nx [.dat (encBook A), .dat (.list (f.map encR)), .dat (.list (s.map encR)), .dat (.list (V.map encMenu)), .no, .no, .own (.lst [encBook X, encBook Y]), .no, .no, .no] := by
    refine (forL_cons ..).trans ?_
    simp only [gN_a, List.set_cons_succ, List.set_cons_zero, t1]
    refine (forL_cons ..).trans ?_
    simp only [wipeS_cons, wipeS_nil, gN_a, List.set_cons_succ, List.set_cons_zero, t2]
    exact forL_nil ..
  have i0 : atI [encBook X, encBook Y] 0 = some (encBook X) := rfl
  have i1 : atI [encBook X, encBook Y] 1 = some (encBook Y) := rfl
  have ac : zAddV (.list (f.map encR)) (.list [.tuple [.int 0, .int 1]]) = some (.list ((f ++ [0]).map encR)) := by
    rw [zAddV_l (by rw [List.length_map]; simp; omega), List.map_append]; rfl
  have bt : (true == true) = true := rfl
  simp only [zR0, zR1, zR2, zR3, zR4, zR5, zR6, zR7, slotsM, kFor_a, Rz.bind_ok, Rz.of_some, Rz.calm_ok, Option.bind_some, Option.bind_none, slots, sel, Arg.get, List.filterMap_cons, List.filterMap_nil, List.length_cons, List.length_nil, List.map_cons, List.map_nil, List.cons_append, List.nil_append, List.append_nil, List.getElem?_cons_succ, List.getElem?_cons_zero, List.getElem?_nil, List.set_cons_zero, List.set_cons_succ, List.set_nil, List.replicate_succ, List.replicate_zero, if_true, Nat.sub_self, Nat.reduceAdd, Nat.reduceSub, Nat.reduceLeDiff, Nat.reduceEqDiff, Nat.reduceLT, Int.reduceLT, Int.reduceLE, Int.reduceNeg, Int.reduceEq, Nat.zero_add, and_self, if_false, Bool.not_true, Bool.not_false, Bool.false_eq_true, Nat.zero_le, decide_true, decide_false, reduceCtorEq, d__law_untold_alike, m__law_untold_alike, sA, loop, if_pos hls, lcs, lp, i0, i1, ac, w2, w3, alW_al, alW_eq, bt]
theorem z__law_lone_ones {d : List Int} (h1 : 102 ≤ d.length) (h2 : d.length ≤ 1000) : ∃ A, okBook A ∧ d__law_lone_ones [.list (d.map .int)] = .ok (encBook A) := by
  have a0 := at_nthI (xs := d) (i := 0) (by decide) (by omega)
  have z0 := zMod_i (i := nthI d 0) (j := 2) (by decide)
  have c1 := cut_fromI d (i := 1) (by decide) (by omega)
  obtain ⟨ms, h, _, hmenus⟩ := z__law_menus (d := (3 + (nthI d 0).fmod 2) :: d.drop (1 : Int).toNat) (upto := 5) (by decide) (by decide) (by rw [List.length_cons, List.length_drop]; simp; omega)
  have hmenus : d__law_menus [.list (.int (3 + (nthI d 0).fmod 2) :: (d.drop (1 : Int).toNat).map .int), .int 5] = .ok (encBook ms) := hmenus
  have ad : zAddV (.list [.int (3 + (nthI d 0).fmod 2)]) (.list ((d.drop (1 : Int).toNat).map .int)) = some (.list (.int (3 + (nthI d 0).fmod 2) :: (d.drop (1 : Int).toNat).map .int)) := by
    rw [zAddV_l (by rw [List.length_map, List.length_drop]; simp; omega)]; rfl
  have h5 := h.hi
  have hen : enO [encBook ms] = some ((ms.zipIdx 0).map fun p => .tuple [.int (p.2 : Nat), encMenu p.1]) := by rw [enO_a (ds := ms.map encMenu) rfl, enD_map]
  have hll : ((ms.zipIdx 0).map fun p : Menu × Nat => PyData.tuple [.int (p.2 : Nat), encMenu p.1]).length ≤ 1000000 := by rw [List.length_map, List.length_zipIdx]; omega
  have lc : ∀ s1 : Slot, lcL (gT 2 (gsC (gN 2) (gsC (gT 2 (gsC (gN 3) (gsC (gN 4) gs0))) gs0))) yYes (xTup (zCons (xV 3) (zCons (xSl zSlV (xV 4) oNo (oAt (xOp zAddV (xC (.int 1)) (xCB zInt (zCons (xOp zEq (xV 2) (xC (.int 0))) zNil))))) zNil))) [.dat (.list (d.map .int)), s1, .no, .no, .no] ((ms.zipIdx 0).map fun p => .tuple [.int (p.2 : Nat), encMenu p.1]) = .ok (((ms.zipIdx 0).map fun p => ((p.1.1, p.1.2.take (if p.2 = 0 then 2 else 1)) : Menu)).map encMenu) := fun s1 => by
    rw [List.map_map]
    refine lcL_map (F := fun p ρ => ((ρ.set 2 (.dat (.int (p.2 : Nat)))).set 3 (.dat (whoD p.1.1))).set 4 (.dat (.tuple (p.1.2.map encRow)))) (fun p _ => rfl) (fun p _ => rfl) (fun p hp => ?_)
    by_cases c : p.2 = 0
    · have e0 : ((p.2 : Nat) : Int) = 0 := by omega
      have sl : zSlV (.tuple (p.1.2.map encRow)) none (some (1 + 1)) = some (.tuple ((p.1.2.take 2).map encRow)) := by
        rw [zSlV_t, show ((1 : Int) + 1) = ((2 : Nat) : Int) from rfl, cut_takeM]
      simp only [zR0, zR1, zR2, zR3, zR4, zR5, zR6, zR7, slotsM, kFor_a, Rz.bind_ok, Rz.of_some, Rz.calm_ok, Option.bind_some, Option.bind_none, slots, sel, Arg.get, List.filterMap_cons, List.filterMap_nil, List.length_cons, List.length_nil, List.map_cons, List.map_nil, List.cons_append, List.nil_append, List.append_nil, List.getElem?_cons_succ, List.getElem?_cons_zero, List.getElem?_nil, List.set_cons_zero, List.set_cons_succ, List.set_nil, List.replicate_succ, List.replicate_zero, if_true, Nat.sub_self, Nat.reduceAdd, Nat.reduceSub, Nat.reduceLeDiff, Nat.reduceEqDiff, Nat.reduceLT, Int.reduceLT, Int.reduceLE, Int.reduceNeg, Int.reduceEq, Nat.zero_add, and_self, if_false, Bool.not_true, Bool.not_false, Bool.false_eq_true, Nat.zero_le, decide_true, decide_false, reduceCtorEq, decide_eq_true e0, if_true, sl]
      show _ = Rz.ok (encMenu (p.1.1, p.1.2.take (if _ then _ else _)))
      rw [if_pos c]; rfl
    · have e0 : ¬ ((p.2 : Nat) : Int) = 0 := by omega
      have sl : zSlV (.tuple (p.1.2.map encRow)) none (some (1 + 0)) = some (.tuple ((p.1.2.take 1).map encRow)) := by
        rw [zSlV_t, show ((1 : Int) + 0) = ((1 : Nat) : Int) from rfl, cut_takeM]
      simp only [zR0, zR1, zR2, zR3, zR4, zR5, zR6, zR7, slotsM, kFor_a, Rz.bind_ok, Rz.of_some, Rz.calm_ok, Option.bind_some, Option.bind_none, slots, sel, Arg.get, List.filterMap_cons, List.filterMap_nil, List.length_cons, List.length_nil, List.map_cons, List.map_nil, List.cons_append, List.nil_append, List.append_nil, List.getElem?_cons_succ, List.getElem?_cons_zero, List.getElem?_nil, List.set_cons_zero, List.set_cons_succ, List.set_nil, List.replicate_succ, List.replicate_zero, if_true, Nat.sub_self, Nat.reduceAdd, Nat.reduceSub, Nat.reduceLeDiff, Nat.reduceEqDiff, Nat.reduceLT, Int.reduceLT, Int.reduceLE, Int.reduceNeg, Int.reduceEq, Nat.zero_add, and_self, if_false, Bool.not_true, Bool.not_false, Bool.false_eq_true, Nat.zero_le, decide_true, decide_false, reduceCtorEq, decide_eq_false e0, Bool.false_eq_true, if_false, sl]
      show _ = Rz.ok (encMenu (p.1.1, p.1.2.take (if _ then _ else _)))
      rw [if_neg c]; rfl
  refine ⟨(ms.zipIdx 0).map fun p => ((p.1.1, p.1.2.take (if p.2 = 0 then 2 else 1)) : Menu), ⟨by rw [List.length_map, List.length_zipIdx]; exact h.lo, by rw [List.length_map, List.length_zipIdx]; exact h5, fun m hm => ?_⟩, ?_⟩
  · rw [List.length_map, List.length_zipIdx]
    obtain ⟨p, hp, rfl⟩ := List.mem_map.mp hm
    have ok := h.all p.1 (zipIdx_mem1 hp)
    have o1 := ok.lo
    have o3 := ok.hi
    have lt := List.length_take (i := if p.2 = 0 then 2 else 1) (l := p.1.2)
    refine ⟨?_, ?_, fun r hr => ok.all r (List.mem_of_mem_take hr)⟩
    · show 1 ≤ (p.1.2.take _).length
      rw [lt]; split <;> omega
    · show (p.1.2.take _).length ≤ 3
      rw [lt]; split <;> omega
  · simp only [zR0, zR1, zR2, zR3, zR4, zR5, zR6, zR7, slotsM, kFor_a, Rz.bind_ok, Rz.of_some, Rz.calm_ok, Option.bind_some, Option.bind_none, slots, sel, Arg.get, List.filterMap_cons, List.filterMap_nil, List.length_cons, List.length_nil, List.map_cons, List.map_nil, List.cons_append, List.nil_append, List.append_nil, List.getElem?_cons_succ, List.getElem?_cons_zero, List.getElem?_nil, List.set_cons_zero, List.set_cons_succ, List.set_nil, List.replicate_succ, List.replicate_zero, if_true, Nat.sub_self, Nat.reduceAdd, Nat.reduceSub, Nat.reduceLeDiff, Nat.reduceEqDiff, Nat.reduceLT, Int.reduceLT, Int.reduceLE, Int.reduceNeg, Int.reduceEq, Nat.zero_add, and_self, if_false, Bool.not_true, Bool.not_false, Bool.false_eq_true, Nat.zero_le, decide_true, decide_false, reduceCtorEq, d__law_lone_ones, m__law_lone_ones, a0, z0, c1, ad, hmenus, hen, if_pos hll, lc]
    rfl
theorem pure_law (sc : Slot) (xs : List Int) (hx : xs.length = 280) (hf : Few xs) : m_law [sc, .dat (.list (xs.map .int)), .no, .no, .no, .no, .no, .no, .no, .no, .no, .no, .no] = .rt (.bool true) := by
  have a62 := at_nthI (xs := xs) (i := 62) (by decide) (by omega)
  have z62 := zMod_i (i := nthI xs 62) (j := 3) (by decide)
  obtain ⟨M, hM, _, hMe⟩ := z__law_menus (d := xs) (upto := 3) (by decide) (by decide) (by omega)
  have hMe : d__law_menus [.list (xs.map .int), .int 3] = .ok (encBook M) := hMe
  have c170 := cut_fromI xs (i := 170) (by decide) (by omega)
  obtain ⟨F, hF, hFe⟩ := z__law_lone_ones (d := xs.drop (170 : Int).toNat) (by rw [List.length_drop]; simp; omega) (by rw [List.length_drop]; simp; omega)
  obtain ⟨A, hA, hAe⟩ : ∃ A, okBook A ∧ (xIf (yV (xOp zGt (xOp zMod (xOp zIx (xV 1) (xC (.int 62))) (xC (.int 3))) (xC (.int 0)))) (xFc d__law_menus (zCons (xV 1) (zCons (xC (.int 3)) zNil))) (xFc d__law_lone_ones (zCons (xSl zSlV (xV 1) (oAt (xC (.int 170))) oNo) zNil))) [sc, .dat (.list (xs.map .int)), .no, .no, .no, .no, .no, .no, .no, .no, .no, .no, .no] = .ok (encBook A) := by
    by_cases c : 0 < (nthI xs 62).fmod 3
    · exact ⟨M, hM, by simp only [zR0, zR1, zR2, zR3, zR4, zR5, zR6, zR7, slotsM, kFor_a, Rz.bind_ok, Rz.of_some, Rz.calm_ok, Option.bind_some, Option.bind_none, slots, sel, Arg.get, List.filterMap_cons, List.filterMap_nil, List.length_cons, List.length_nil, List.map_cons, List.map_nil, List.cons_append, List.nil_append, List.append_nil, List.getElem?_cons_succ, List.getElem?_cons_zero, List.getElem?_nil, List.set_cons_zero, List.set_cons_succ, List.set_nil, List.replicate_succ, List.replicate_zero, if_true, Nat.sub_self, Nat.reduceAdd, Nat.reduceSub, Nat.reduceLeDiff, Nat.reduceEqDiff, Nat.reduceLT, Int.reduceLT, Int.reduceLE, Int.reduceNeg, Int.reduceEq, Nat.zero_add, and_self, if_false, Bool.not_true, Bool.not_false, Bool.false_eq_true, Nat.zero_le, decide_true, decide_false, reduceCtorEq, a62, z62, decide_eq_true c, hMe]⟩
    · exact ⟨F, hF, by simp only [zR0, zR1, zR2, zR3, zR4, zR5, zR6, zR7, slotsM, kFor_a, Rz.bind_ok, Rz.of_some, Rz.calm_ok, Option.bind_some, Option.bind_none, slots, sel, Arg.get, List.filterMap_cons, List.filterMap_nil, List.length_cons, List.length_nil, List.map_cons, List.map_nil, List.cons_append, List.nil_append, List.append_nil, List.getElem?_cons_succ, List.getElem?_cons_zero, List.getElem?_nil, List.set_cons_zero, List.set_cons_succ, List.set_nil, List.replicate_succ, List.replicate_zero, if_true, Nat.sub_self, Nat.reduceAdd, Nat.reduceSub, Nat.reduceLeDiff, Nat.reduceEqDiff, Nat.reduceLT, Int.reduceLT, Int.reduceLE, Int.reduceNeg, Int.reduceEq, Nat.zero_add, and_self, if_false, Bool.not_true, Bool.not_false, Bool.false_eq_true, Nat.zero_le, decide_true, decide_false, reduceCtorEq, a62, z62, decide_eq_false c, c170, hFe]⟩
  have h1 := hA.lo
  have h5 := hA.hi
  have lA : zLen [encBook A] = some (.int (A.length : Nat)) := by unfold encBook; rw [zLen_t, List.length_map]
  have c64 := cut_fromI xs (i := 64) (by decide) (by omega)
  obtain ⟨B1, hB1, s1, e1⟩ := z__law_beside (A := A) (d := xs.drop (64 : Int).toNat) hA (by rw [List.length_drop]; simp; omega) (by rw [List.length_drop]; simp; omega)
  have a70 := at_nthI (xs := xs) (i := 70) (by decide) (by omega)
  have z70 := zMod_i (i := nthI xs 70) (j := 2) (by decide)
  have c71 := cut_fromI xs (i := 71) (by decide) (by omega)
  obtain ⟨B2, hB2, s2, e2⟩ := z__law_beside (A := B1) (d := xs.drop (71 : Int).toNat) hB1 (by rw [List.length_drop]; simp; omega) (by rw [List.length_drop]; simp; omega)
  obtain ⟨B, hB, hs, hk3⟩ : ∃ B, okBook B ∧ shapeQ A = shapeQ B ∧ (kIf (yV (xOp zEq (xOp zMod (xOp zIx (xV 1) (xC (.int 70))) (xC (.int 2))) (xC (.int 0)))) (kAsg (xFc d__law_beside (zCons (xSl zSlV (xV 1) (oAt (xC (.int 71))) oNo) (zCons (xV 3) zNil))) 3) kNx) [sc, .dat (.list (xs.map .int)), .dat (encBook A), .dat (encBook B1), .no, .no, .no, .no, .no, .no, .no, .no, .no] = .nx [sc, .dat (.list (xs.map .int)), .dat (encBook A), .dat (encBook B), .no, .no, .no, .no, .no, .no, .no, .no, .no] := by
    by_cases c : (nthI xs 70).fmod 2 = 0
    · exact ⟨B2, hB2, (s2.trans s1).symm, by simp only [zR0, zR1, zR2, zR3, zR4, zR5, zR6, zR7, slotsM, kFor_a, Rz.bind_ok, Rz.of_some, Rz.calm_ok, Option.bind_some, Option.bind_none, slots, sel, Arg.get, List.filterMap_cons, List.filterMap_nil, List.length_cons, List.length_nil, List.map_cons, List.map_nil, List.cons_append, List.nil_append, List.append_nil, List.getElem?_cons_succ, List.getElem?_cons_zero, List.getElem?_nil, List.set_cons_zero, List.set_cons_succ, List.set_nil, List.replicate_succ, List.replicate_zero, if_true, Nat.sub_self, Nat.reduceAdd, Nat.reduceSub, Nat.reduceLeDiff, Nat.reduceEqDiff, Nat.reduceLT, Int.reduceLT, Int.reduceLE, Int.reduceNeg, Int.reduceEq, Nat.zero_add, and_self, if_false, Bool.not_true, Bool.not_false, Bool.false_eq_true, Nat.zero_le, decide_true, decide_false, reduceCtorEq, a70, z70, decide_eq_true c, c71, e2]⟩
    · exact ⟨B1, hB1, s1.symm, by simp only [zR0, zR1, zR2, zR3, zR4, zR5, zR6, zR7, slotsM, kFor_a, Rz.bind_ok, Rz.of_some, Rz.calm_ok, Option.bind_some, Option.bind_none, slots, sel, Arg.get, List.filterMap_cons, List.filterMap_nil, List.length_cons, List.length_nil, List.map_cons, List.map_nil, List.cons_append, List.nil_append, List.append_nil, List.getElem?_cons_succ, List.getElem?_cons_zero, List.getElem?_nil, List.set_cons_zero, List.set_cons_succ, List.set_nil, List.replicate_succ, List.replicate_zero, if_true, Nat.sub_self, Nat.reduceAdd, Nat.reduceSub, Nat.reduceLeDiff, Nat.reduceEqDiff, Nat.reduceLT, Int.reduceLT, Int.reduceLE, Int.reduceNeg, Int.reduceEq, Nat.zero_add, and_self, if_false, Bool.not_true, Bool.not_false, Bool.false_eq_true, Nat.zero_le, decide_true, decide_false, reduceCtorEq, a70, z70, decide_eq_false c]⟩
  have hl := shape_len hs
  have c80 := cut_fromI xs (i := 80) (by decide) (by omega)
  obtain ⟨qs, q1, q2, q3⟩ := z__law_filling (d := xs.drop (80 : Int).toNat) (many := A.length) (by rw [List.length_drop]; simp; omega) (by omega)
  obtain ⟨f, hfl, hfq, hfe⟩ : ∃ f : List Rat, f.length = A.length ∧ (∀ q ∈ f, q ∈ qs ∨ q = 0) ∧ (∀ a0 a2 a3 a4 a5 a6 a7 a8 a9 a10 : Slot, lcL (gT 2 (gsC (gN 11) (gsC (gN 12) gs0))) yYes (xIf (yV (xOp zGt (xOp zMod (xOp zIx (xV 1) (xOp zAddV (xC (.int 76)) (xV 11))) (xC (.int 3))) (xC (.int 0)))) (xV 12) (xTup (zCons (xC (.int 0)) (zCons (xC (.int 1)) zNil)))) [a0, .dat (.list (xs.map .int)), a2, a3, a4, a5, a6, a7, a8, a9, a10, .no, .no] ((qs.zipIdx 0).map fun p => .tuple [.int (p.2 : Nat), encR p.1]) = .ok (f.map encR)) := by
    refine ⟨(qs.zipIdx 0).map fun p => if 0 < (nthI xs (76 + (p.2 : Int))).fmod 3 then p.1 else 0, by rw [List.length_map, List.length_zipIdx, q1], fun q hq => ?_, fun a0 a2 a3 a4 a5 a6 a7 a8 a9 a10 => ?_⟩
    · obtain ⟨p, hp, rfl⟩ := List.mem_map.mp hq
      split
      · exact .inl (zipIdx_mem1 hp)
      · exact .inr rfl
    · rw [List.map_map]
      exact lcL_map (F := fun p ρ => (ρ.set 11 (.dat (.int (p.2 : Nat)))).set 12 (.dat (encR p.1))) (fun p _ => rfl) (fun p _ => rfl) (fun p hp => by
        obtain ⟨_, hlt, _⟩ := List.mem_zipIdx hp
        have ha := at_nthI (xs := xs) (i := 76 + (p.2 : Int)) (by omega) (by omega)
        have hz := zMod_i (i := nthI xs (76 + (p.2 : Int))) (j := 3) (by decide)
        by_cases c : 0 < (nthI xs (76 + (p.2 : Int))).fmod 3
        · simp only [zR0, zR1, zR2, zR3, zR4, zR5, zR6, zR7, slotsM, kFor_a, Rz.bind_ok, Rz.of_some, Rz.calm_ok, Option.bind_some, Option.bind_none, slots, sel, Arg.get, List.filterMap_cons, List.filterMap_nil, List.length_cons, List.length_nil, List.map_cons, List.map_nil, List.cons_append, List.nil_append, List.append_nil, List.getElem?_cons_succ, List.getElem?_cons_zero, List.getElem?_nil, List.set_cons_zero, List.set_cons_succ, List.set_nil, List.replicate_succ, List.replicate_zero, if_true, Nat.sub_self, Nat.reduceAdd, Nat.reduceSub, Nat.reduceLeDiff, Nat.reduceEqDiff, Nat.reduceLT, Int.reduceLT, Int.reduceLE, Int.reduceNeg, Int.reduceEq, Nat.zero_add, and_self, if_false, Bool.not_true, Bool.not_false, Bool.false_eq_true, Nat.zero_le, decide_true, decide_false, reduceCtorEq, ha, hz, decide_eq_true c]
          show _ = Rz.ok (encR (if _ then _ else _))
          rw [if_pos c]
        · simp only [zR0, zR1, zR2, zR3, zR4, zR5, zR6, zR7, slotsM, kFor_a, Rz.bind_ok, Rz.of_some, Rz.calm_ok, Option.bind_some, Option.bind_none, slots, sel, Arg.get, List.filterMap_cons, List.filterMap_nil, List.length_cons, List.length_nil, List.map_cons, List.map_nil, List.cons_append, List.nil_append, List.append_nil, List.getElem?_cons_succ, List.getElem?_cons_zero, List.getElem?_nil, List.set_cons_zero, List.set_cons_succ, List.set_nil, List.replicate_succ, List.replicate_zero, if_true, Nat.sub_self, Nat.reduceAdd, Nat.reduceSub, Nat.reduceLeDiff, Nat.reduceEqDiff, Nat.reduceLT, Int.reduceLT, Int.reduceLE, Int.reduceNeg, Int.reduceEq, Nat.zero_add, and_self, if_false, Bool.not_true, Bool.not_false, Bool.false_eq_true, Nat.zero_le, decide_true, decide_false, reduceCtorEq, ha, hz, decide_eq_false c]
          show _ = Rz.ok (encR (if _ then _ else _))
          rw [if_neg c]
          rfl)
  have hv0 : VB 4 9 f := VB_sub (law_fill_VB q2) hfq
  have hv : VB 100 100 f := hv0.mono (by decide) (by decide)
  have hen : enO [.list (qs.map encR)] = some ((qs.zipIdx 0).map fun p => .tuple [.int (p.2 : Nat), encR p.1]) := by rw [enO_a (ds := qs.map encR) rfl, enD_map]
  have hlq : ((qs.zipIdx 0).map fun p : Rat × Nat => PyData.tuple [.int (p.2 : Nat), encR p.1]).length ≤ 1000000 := by rw [List.length_map, List.length_zipIdx]; omega
  have lch := z__law_choices hA
  obtain ⟨ys, y1, _, c140⟩ := cut_map (xs := xs) (i := 140) (j := 141 + (A.length : Int)) (by omega) (by omega) (by omega)
  have y1 : ys.length = A.length + 1 := by omega
  obtain ⟨s, sl, sok, slc⟩ : ∃ s : List Rat, s.length = A.length + 1 ∧ (∀ q ∈ s, okS q) ∧ ∀ a0 a1 a2 a3 a4 a5 a6 a7 a8 a9 a10 a11 : Slot, lcL (gN 12) yYes (xFc d__law_share (zCons (xV 12) zNil)) [a0, a1, a2, a3, a4, a5, a6, a7, a8, a9, a10, a11, .no] (ys.map .int) = .ok (s.map encR) := by
    have key : ∀ y : Int, ∃ q : Rat, okS q ∧ d__law_share [.int y] = .ok (encR q) := fun y => by
      obtain ⟨u, l, u1, u2, l1, l2, h⟩ := z__law_share y
      exact ⟨_, okS_divInt u1 (by omega) (by omega) (by omega), h⟩
    obtain ⟨g, hg⟩ := Classical.axiomOfChoice key
    refine ⟨ys.map g, by rw [List.length_map, y1], fun q hq => ?_, fun a0 a1 a2 a3 a4 a5 a6 a7 a8 a9 a10 a11 => ?_⟩
    · obtain ⟨y, _, rfl⟩ := List.mem_map.mp hq
      exact (hg y).1
    · rw [List.map_map]
      exact lcL_map (F := fun y ρ => ρ.set 12 (.dat (.int y))) (fun _ _ => rfl) (fun _ _ => rfl) (fun y _ => by
        have h := (hg y).2
        simp only [zR0, zR1, zR2, zR3, zR4, zR5, zR6, zR7, slotsM, kFor_a, Rz.bind_ok, Rz.of_some, Rz.calm_ok, Option.bind_some, Option.bind_none, slots, sel, Arg.get, List.filterMap_cons, List.filterMap_nil, List.length_cons, List.length_nil, List.map_cons, List.map_nil, List.cons_append, List.nil_append, List.append_nil, List.getElem?_cons_succ, List.getElem?_cons_zero, List.getElem?_nil, List.set_cons_zero, List.set_cons_succ, List.set_nil, List.replicate_succ, List.replicate_zero, if_true, Nat.sub_self, Nat.reduceAdd, Nat.reduceSub, Nat.reduceLeDiff, Nat.reduceEqDiff, Nat.reduceLT, Int.reduceLT, Int.reduceLE, Int.reduceNeg, Int.reduceEq, Nat.zero_add, and_self, if_false, Bool.not_true, Bool.not_false, Bool.false_eq_true, Nat.zero_le, decide_true, decide_false, reduceCtorEq, h]
        rfl)
  have hly : (ys.map PyData.int).length ≤ 1000000 := by rw [List.length_map]; omega
  unfold m_law
  refine seq_step (ρ' := [sc, .dat (.list (xs.map .int)), .dat (encBook A), .no, .no, .no, .no, .no, .no, .no, .no, .no, .no]) (by rw [kAsg_a, kE_a, hAe]; rfl) ?_
  refine seq_step (ρ' := [sc, .dat (.list (xs.map .int)), .dat (encBook A), .dat (encBook B1), .no, .no, .no, .no, .no, .no, .no, .no, .no]) (by simp only [zR0, zR1, zR2, zR3, zR4, zR5, zR6, zR7, slotsM, kFor_a, Rz.bind_ok, Rz.of_some, Rz.calm_ok, Option.bind_some, Option.bind_none, slots, sel, Arg.get, List.filterMap_cons, List.filterMap_nil, List.length_cons, List.length_nil, List.map_cons, List.map_nil, List.cons_append, List.nil_append, List.append_nil, List.getElem?_cons_succ, List.getElem?_cons_zero, List.getElem?_nil, List.set_cons_zero, List.set_cons_succ, List.set_nil, List.replicate_succ, List.replicate_zero, if_true, Nat.sub_self, Nat.reduceAdd, Nat.reduceSub, Nat.reduceLeDiff, Nat.reduceEqDiff, Nat.reduceLT, Int.reduceLT, Int.reduceLE, Int.reduceNeg, Int.reduceEq, Nat.zero_add, and_self, if_false, Bool.not_true, Bool.not_false, Bool.false_eq_true, Nat.zero_le, decide_true, decide_false, reduceCtorEq, c64, e1]) ?_
  refine seq_step hk3 ?_
  refine seq_step (ρ' := [sc, .dat (.list (xs.map .int)), .dat (encBook A), .dat (encBook B), .dat (.list (qs.map encR)), .no, .no, .no, .no, .no, .no, .no, .no]) (by simp only [zR0, zR1, zR2, zR3, zR4, zR5, zR6, zR7, slotsM, kFor_a, Rz.bind_ok, Rz.of_some, Rz.calm_ok, Option.bind_some, Option.bind_none, slots, sel, Arg.get, List.filterMap_cons, List.filterMap_nil, List.length_cons, List.length_nil, List.map_cons, List.map_nil, List.cons_append, List.nil_append, List.append_nil, List.getElem?_cons_succ, List.getElem?_cons_zero, List.getElem?_nil, List.set_cons_zero, List.set_cons_succ, List.set_nil, List.replicate_succ, List.replicate_zero, if_true, Nat.sub_self, Nat.reduceAdd, Nat.reduceSub, Nat.reduceLeDiff, Nat.reduceEqDiff, Nat.reduceLT, Int.reduceLT, Int.reduceLE, Int.reduceNeg, Int.reduceEq, Nat.zero_add, and_self, if_false, Bool.not_true, Bool.not_false, Bool.false_eq_true, Nat.zero_le, decide_true, decide_false, reduceCtorEq, c80, lA, q3]) ?_
  refine seq_step (ρ' := [sc, .dat (.list (xs.map .int)), .dat (encBook A), .dat (encBook B), .dat (.list (f.map encR)), .no, .no, .no, .no, .no, .no, .no, .no]) (by simp only [zR0, zR1, zR2, zR3, zR4, zR5, zR6, zR7, slotsM, kFor_a, Rz.bind_ok, Rz.of_some, Rz.calm_ok, Option.bind_some, Option.bind_none, slots, sel, Arg.get, List.filterMap_cons, List.filterMap_nil, List.length_cons, List.length_nil, List.map_cons, List.map_nil, List.cons_append, List.nil_append, List.append_nil, List.getElem?_cons_succ, List.getElem?_cons_zero, List.getElem?_nil, List.set_cons_zero, List.set_cons_succ, List.set_nil, List.replicate_succ, List.replicate_zero, if_true, Nat.sub_self, Nat.reduceAdd, Nat.reduceSub, Nat.reduceLeDiff, Nat.reduceEqDiff, Nat.reduceLT, Int.reduceLT, Int.reduceLE, Int.reduceNeg, Int.reduceEq, Nat.zero_add, and_self, if_false, Bool.not_true, Bool.not_false, Bool.false_eq_true, Nat.zero_le, decide_true, decide_false, reduceCtorEq, hen, if_pos hlq, hfe]) ?_
  -- the end is alike for both
  have fin : ∀ a5 a6 a7 a8 a9 a10 : Slot, (kSeq (kIf (yV (xOp zGt (xCB zLen (zCons (xV 2) zNil)) (xC (.int 4)))) (kRet (xC (.bool true))) kNx)
  (kRet (xFc d__law_untold_alike (zCons (xV 2) (zCons (xV 4) (zCons (xL (fLc [12] (iS (xSl zSlV (xV 1) (oAt (xC (.int 140))) (oAt (xOp zAddV (xC (.int 141)) (xCB zLen (zCons (xV 2) zNil)))))) (gN 12) yYes (xFc d__law_share (zCons (xV 12) zNil)))) zNil)))))) [sc, .dat (.list (xs.map .int)), .dat (encBook A), .dat (encBook B), .dat (.list (f.map encR)), a5, a6, a7, a8, a9, a10, .no, .no] = .rt (.bool true) := fun a5 a6 a7 a8 a9 a10 => by
    by_cases c : (4 : Int) < (A.length : Int)
    · simp only [zR0, zR1, zR2, zR3, zR4, zR5, zR6, zR7, slotsM, kFor_a, Rz.bind_ok, Rz.of_some, Rz.calm_ok, Option.bind_some, Option.bind_none, slots, sel, Arg.get, List.filterMap_cons, List.filterMap_nil, List.length_cons, List.length_nil, List.map_cons, List.map_nil, List.cons_append, List.nil_append, List.append_nil, List.getElem?_cons_succ, List.getElem?_cons_zero, List.getElem?_nil, List.set_cons_zero, List.set_cons_succ, List.set_nil, List.replicate_succ, List.replicate_zero, if_true, Nat.sub_self, Nat.reduceAdd, Nat.reduceSub, Nat.reduceLeDiff, Nat.reduceEqDiff, Nat.reduceLT, Int.reduceLT, Int.reduceLE, Int.reduceNeg, Int.reduceEq, Nat.zero_add, and_self, if_false, Bool.not_true, Bool.not_false, Bool.false_eq_true, Nat.zero_le, decide_true, decide_false, reduceCtorEq, lA, decide_eq_true c]
    · have un := z__law_untold_alike hA (by omega) hfl hv0 sl sok
      simp only [zR0, zR1, zR2, zR3, zR4, zR5, zR6, zR7, slotsM, kFor_a, Rz.bind_ok, Rz.of_some, Rz.calm_ok, Option.bind_some, Option.bind_none, slots, sel, Arg.get, List.filterMap_cons, List.filterMap_nil, List.length_cons, List.length_nil, List.map_cons, List.map_nil, List.cons_append, List.nil_append, List.append_nil, List.getElem?_cons_succ, List.getElem?_cons_zero, List.getElem?_nil, List.set_cons_zero, List.set_cons_succ, List.set_nil, List.replicate_succ, List.replicate_zero, if_true, Nat.sub_self, Nat.reduceAdd, Nat.reduceSub, Nat.reduceLeDiff, Nat.reduceEqDiff, Nat.reduceLT, Int.reduceLT, Int.reduceLE, Int.reduceNeg, Int.reduceEq, Nat.zero_add, and_self, if_false, Bool.not_true, Bool.not_false, Bool.false_eq_true, Nat.zero_le, decide_true, decide_false, reduceCtorEq, lA, decide_eq_false c, c140, if_pos hly, slc, un]
  rcases z_alike (dc := .list (f.map encR)) hA hB hs hfl hv (.inl rfl) with ⟨bs, k1, k2⟩ | ⟨cs, st, k1, k2⟩
  · obtain ⟨bs', k2'⟩ : ∃ bs', d_alike [encBook B, encBook A, .list (f.map encR)] = .ok (alikeD bs') := by
      rcases z_alike (dc := .list (f.map encR)) hB hA hs.symm (by rw [hfl, hl]) hv (.inl rfl) with ⟨bs', _, h⟩ | ⟨cs, st, h, _⟩
      · exact ⟨bs', h⟩
      · exact (h.not ((k1.alike hA hB hs hfl).symm hs)).elim
    have al := k1.alike hA hB hs hfl
    have x0 : ∀ b, zIx (alikeD b) (.int 0) = some (alW true) := fun _ => rfl
    have bt : (true == true) = true := rfl
    refine seq_step (ρ' := [sc, .dat (.list (xs.map .int)), .dat (encBook A), .dat (encBook B), .dat (.list (f.map encR)), .dat (alikeD bs), .dat (alikeD bs'), .no, .no, .no, .no, .no, .no]) (by simp only [zR0, zR1, zR2, zR3, zR4, zR5, zR6, zR7, slotsM, kFor_a, Rz.bind_ok, Rz.of_some, Rz.calm_ok, Option.bind_some, Option.bind_none, slots, sel, Arg.get, List.filterMap_cons, List.filterMap_nil, List.length_cons, List.length_nil, List.map_cons, List.map_nil, List.cons_append, List.nil_append, List.append_nil, List.getElem?_cons_succ, List.getElem?_cons_zero, List.getElem?_nil, List.set_cons_zero, List.set_cons_succ, List.set_nil, List.replicate_succ, List.replicate_zero, if_true, Nat.sub_self, Nat.reduceAdd, Nat.reduceSub, Nat.reduceLeDiff, Nat.reduceEqDiff, Nat.reduceLT, Int.reduceLT, Int.reduceLE, Int.reduceNeg, Int.reduceEq, Nat.zero_add, and_self, if_false, Bool.not_true, Bool.not_false, Bool.false_eq_true, Nat.zero_le, decide_true, decide_false, reduceCtorEq, k2, k2']) ?_
    refine seq_step (ρ' := [sc, .dat (.list (xs.map .int)), .dat (encBook A), .dat (encBook B), .dat (.list (f.map encR)), .dat (alikeD bs), .dat (alikeD bs'), .no, .no, .no, .no, .no, .no]) (by simp only [zR0, zR1, zR2, zR3, zR4, zR5, zR6, zR7, slotsM, kFor_a, Rz.bind_ok, Rz.of_some, Rz.calm_ok, Option.bind_some, Option.bind_none, slots, sel, Arg.get, List.filterMap_cons, List.filterMap_nil, List.length_cons, List.length_nil, List.map_cons, List.map_nil, List.cons_append, List.nil_append, List.append_nil, List.getElem?_cons_succ, List.getElem?_cons_zero, List.getElem?_nil, List.set_cons_zero, List.set_cons_succ, List.set_nil, List.replicate_succ, List.replicate_zero, if_true, Nat.sub_self, Nat.reduceAdd, Nat.reduceSub, Nat.reduceLeDiff, Nat.reduceEqDiff, Nat.reduceLT, Int.reduceLT, Int.reduceLE, Int.reduceNeg, Int.reduceEq, Nat.zero_add, and_self, if_false, Bool.not_true, Bool.not_false, Bool.false_eq_true, Nat.zero_le, decide_true, decide_false, reduceCtorEq, x0, alW_ne, bt]) ?_
    refine seq_step (ρ' := [sc, .dat (.list (xs.map .int)), .dat (encBook A), .dat (encBook B), .dat (.list (f.map encR)), .dat (alikeD bs), .dat (alikeD bs'), .dat (.list ((choicesQ A).map planD)), .no, .no, .no, .no, .no]) (by simp only [zR0, zR1, zR2, zR3, zR4, zR5, zR6, zR7, slotsM, kFor_a, Rz.bind_ok, Rz.of_some, Rz.calm_ok, Option.bind_some, Option.bind_none, slots, sel, Arg.get, List.filterMap_cons, List.filterMap_nil, List.length_cons, List.length_nil, List.map_cons, List.map_nil, List.cons_append, List.nil_append, List.append_nil, List.getElem?_cons_succ, List.getElem?_cons_zero, List.getElem?_nil, List.set_cons_zero, List.set_cons_succ, List.set_nil, List.replicate_succ, List.replicate_zero, if_true, Nat.sub_self, Nat.reduceAdd, Nat.reduceSub, Nat.reduceLeDiff, Nat.reduceEqDiff, Nat.reduceLT, Int.reduceLT, Int.reduceLE, Int.reduceNeg, Int.reduceEq, Nat.zero_add, and_self, if_false, Bool.not_true, Bool.not_false, Bool.false_eq_true, Nat.zero_le, decide_true, decide_false, reduceCtorEq, lch]) ?_
    have cl := choices_len hA
    have c1 : 1 ≤ (choicesQ A).length := List.length_pos_of_mem (mem_choices.mpr (good_range (ms := A) (f := fun _ => 0) fun i hi => ⟨by decide, by
      have := (hA.all _ (List.getElem_mem hi)).lo
      rw [rowsAt_eq (List.getElem?_eq_getElem hi)]; omega⟩))
    have lC : zLen [PyData.list ((choicesQ A).map planD)] = some (.int ((choicesQ A).length : Nat)) := by rw [zLen_l, List.length_map]
    have a89 := at_nthI (xs := xs) (i := 89) (by decide) (by omega)
    have z89 := zMod_i (i := nthI xs 89) (j := 10) (by decide)
    have f89 := fmod_in (a := nthI xs 89) (b := 10) (by decide)
    obtain ⟨r, hr, hr2⟩ : ∃ r : Nat, (nthI xs 89).fmod 10 = (r : Int) ∧ r < 10 := ⟨((nthI xs 89).fmod 10).toNat, by omega, by omega⟩
    have hrn : rng1 [.int (r : Int)] = some ((List.range r).map natD) := by rw [rng1_n (by omega), rgD_map]; rfl
    have hlr : ((List.range r).map natD).length ≤ 1000000 := by rw [List.length_map, List.length_range]; omega
    have loop := forL_all (g := gN 8) (wp := [8, 9, 10]) (b := b1_law) (enc := natD) (F := fun k ρ => ρ.set 8 (.dat (natD k))) (ρ := [sc, .dat (.list (xs.map .int)), .dat (encBook A), .dat (encBook B), .dat (.list (f.map encR)), .dat (alikeD bs), .dat (alikeD bs'), .dat (.list ((choicesQ A).map planD)), .no, .no, .no, .no, .no]) (d := .bool false) (fun _ => true) (xs := List.range 4) (fun _ _ => rfl) (fun k hk => by
      rw [if_pos rfl]
      have hk4 := List.mem_range.mp hk
      obtain ⟨cs, cl1, cl2, cl3⟩ : ∃ cs : List (List Int), cs.length = r ∧ (∀ c ∈ cs, goodChoice A c) ∧ ∀ a0 a2 a3 a4 a5 a6 a9 a10 : Slot, lcL (gN 11) yYes (xOp zIx (xV 7) (xOp zMod (xOp zIx (xV 1) (xOp zAddV (xOp zAddV (xC (.int 90)) (xOp zMulV (xC (.int 10)) (xV 8))) (xV 11))) (xCB zLen (zCons (xV 7) zNil)))) [a0, .dat (.list (xs.map .int)), a2, a3, a4, a5, a6, .dat (.list ((choicesQ A).map planD)), .dat (natD k), a9, a10, .no, .no] ((List.range r).map natD) = .ok (cs.map planD) := by
        refine ⟨(List.range r).map fun (j : Nat) => (choicesQ A).getD ((nthI xs (90 + 10 * (k : Int) + (j : Int))).fmod ((choicesQ A).length : Int)).toNat [], by rw [List.length_map, List.length_range], fun c hc => ?_, fun a0 a2 a3 a4 a5 a6 a9 a10 => ?_⟩
        · obtain ⟨j, _, rfl⟩ := List.mem_map.mp hc
          have := fmod_in (a := nthI xs (90 + 10 * (k : Int) + (j : Int))) (b := ((choicesQ A).length : Int)) (by omega)
          exact mem_choices.mp (getD_mem (by omega))
        · rw [List.map_map]
          exact lcL_map (F := fun j ρ => ρ.set 11 (.dat (natD j))) (fun _ _ => rfl) (fun _ _ => rfl) (fun j hj => by
            have hj := List.mem_range.mp hj
            have m1 : zMulV (.int 10) (.int (k : Int)) = some (.int (10 * (k : Int))) := zMulV_l (by decide)
            have aj := at_nthI (xs := xs) (i := 90 + 10 * (k : Int) + (j : Int)) (by omega) (by omega)
            have zj := zMod_i (i := nthI xs (90 + 10 * (k : Int) + (j : Int))) (j := ((choicesQ A).length : Int)) (by omega)
            have fj := fmod_in (a := nthI xs (90 + 10 * (k : Int) + (j : Int))) (b := ((choicesQ A).length : Int)) (by omega)
            obtain ⟨u, hu⟩ : ∃ u : Nat, (nthI xs (90 + 10 * (k : Int) + (j : Int))).fmod ((choicesQ A).length : Int) = (u : Int) := ⟨((nthI xs (90 + 10 * (k : Int) + (j : Int))).fmod ((choicesQ A).length : Int)).toNat, by omega⟩
            rw [hu] at zj fj
            have ax : atI ((choicesQ A).map planD) (u : Int) = some (planD ((choicesQ A).getD u [])) := by
              rw [atI_nat (by rw [List.length_map]; omega), List.getElem_map, List.getD_eq_getElem?_getD, List.getElem?_eq_getElem (by omega)]
              rfl
            simp only [zR0, zR1, zR2, zR3, zR4, zR5, zR6, zR7, slotsM, kFor_a, Rz.bind_ok, Rz.of_some, Rz.calm_ok, Option.bind_some, Option.bind_none, slots, sel, Arg.get, List.filterMap_cons, List.filterMap_nil, List.length_cons, List.length_nil, List.map_cons, List.map_nil, List.cons_append, List.nil_append, List.append_nil, List.getElem?_cons_succ, List.getElem?_cons_zero, List.getElem?_nil, List.set_cons_zero, List.set_cons_succ, List.set_nil, List.replicate_succ, List.replicate_zero, if_true, Nat.sub_self, Nat.reduceAdd, Nat.reduceSub, Nat.reduceLeDiff, Nat.reduceEqDiff, Nat.reduceLT, Int.reduceLT, Int.reduceLE, Int.reduceNeg, Int.reduceEq, Nat.zero_add, and_self, if_false, Bool.not_true, Bool.not_false, Bool.false_eq_true, Nat.zero_le, decide_true, decide_false, reduceCtorEq, natD, m1, aj, lC, zj, ax]
            show _ = Rz.ok (planD ((choicesQ A).getD (Int.toNat _) []))
            rw [hu]; rfl)
      have a130 := at_nthI (xs := xs) (i := 130 + (k : Int)) (by omega) (by omega)
      have z130 := zMod_i (i := nthI xs (130 + (k : Int))) (j := (A.length : Int)) (by omega)
      have f130 := fmod_in (a := nthI xs (130 + (k : Int))) (b := (A.length : Int)) (by omega)
      obtain ⟨st, hst⟩ : ∃ u : Nat, (nthI xs (130 + (k : Int))).fmod (A.length : Int) = (u : Int) := ⟨((nthI xs (130 + (k : Int))).fmod (A.length : Int)).toNat, by omega⟩
      rw [hst] at z130
      obtain ⟨q, told⟩ := ns_told (st := st) hA hB hs hfl hv cl2 (by omega) (al cs cl2)
      have told : d__law_told_sums [.list [encBook A, encBook B], .list (f.map encR), .list (cs.map planD), .int (st : Int)] = .ok (.list [encR q, encR q]) := told
      have j0 : atI [encR q, encR q] 0 = some (encR q) := rfl
      have j1 : atI [encR q, encR q] 1 = some (encR q) := rfl
      refine ⟨[sc, .dat (.list (xs.map .int)), .dat (encBook A), .dat (encBook B), .dat (.list (f.map encR)), .dat (alikeD bs), .dat (alikeD bs'), .dat (.list ((choicesQ A).map planD)), .dat (natD k), .dat (.list (cs.map planD)), .dat (.list [encR q, encR q]), .no, .no], ?_, rfl⟩
      show b1_law [sc, .dat (.list (xs.map .int)), .dat (encBook A), .dat (encBook B), .dat (.list (f.map encR)), .dat (alikeD bs), .dat (alikeD bs'), .dat (.list ((choicesQ A).map planD)), .dat (natD k), .no, .no, .no, .no] = _
      simp only [zR0, zR1, zR2, zR3, zR4, zR5, zR6, zR7, slotsM, kFor_a, Rz.bind_ok, Rz.of_some, Rz.calm_ok, Option.bind_some, Option.bind_none, slots, sel, Arg.get, List.filterMap_cons, List.filterMap_nil, List.length_cons, List.length_nil, List.map_cons, List.map_nil, List.cons_append, List.nil_append, List.append_nil, List.getElem?_cons_succ, List.getElem?_cons_zero, List.getElem?_nil, List.set_cons_zero, List.set_cons_succ, List.set_nil, List.replicate_succ, List.replicate_zero, if_true, Nat.sub_self, Nat.reduceAdd, Nat.reduceSub, Nat.reduceLeDiff, Nat.reduceEqDiff, Nat.reduceLT, Int.reduceLT, Int.reduceLE, Int.reduceNeg, Int.reduceEq, Nat.zero_add, and_self, if_false, Bool.not_true, Bool.not_false, Bool.false_eq_true, Nat.zero_le, decide_true, decide_false, reduceCtorEq, b1_law_a, a89, z89, hr, hrn, if_pos hlr, cl3]
      simp only [zR0, zR1, zR2, zR3, zR4, zR5, zR6, zR7, slotsM, kFor_a, Rz.bind_ok, Rz.of_some, Rz.calm_ok, Option.bind_some, Option.bind_none, slots, sel, Arg.get, List.filterMap_cons, List.filterMap_nil, List.length_cons, List.length_nil, List.map_cons, List.map_nil, List.cons_append, List.nil_append, List.append_nil, List.getElem?_cons_succ, List.getElem?_cons_zero, List.getElem?_nil, List.set_cons_zero, List.set_cons_succ, List.set_nil, List.replicate_succ, List.replicate_zero, if_true, Nat.sub_self, Nat.reduceAdd, Nat.reduceSub, Nat.reduceLeDiff, Nat.reduceEqDiff, Nat.reduceLT, Int.reduceLT, Int.reduceLE, Int.reduceNeg, Int.reduceEq, Nat.zero_add, and_self, if_false, Bool.not_true, Bool.not_false, Bool.false_eq_true, Nat.zero_le, decide_true, decide_false, reduceCtorEq, natD, a130, lA, z130, told, j0, j1, decide_eq_true (rfl : q = q)])
    rw [if_pos (by rw [List.all_eq_true]; exact fun _ _ => rfl)] at loop
    have hr4 : rng1 [.int 4] = some ((List.range 4).map natD) := by rw [show (4 : Int) = ((4 : Nat) : Int) from rfl, rng1_n (by decide), rgD_map]; rfl
    have f1 : kFor (iA rng1 (zCons (xC (.int 4)) zNil)) (gN 8) [8, 9, 10] b1_law [sc, .dat (.list (xs.map .int)), .dat (encBook A), .dat (encBook B), .dat (.list (f.map encR)), .dat (alikeD bs), .dat (alikeD bs'), .dat (.list ((choicesQ A).map planD)), .no, .no, .no, .no, .no] = .nx [sc, .dat (.list (xs.map .int)), .dat (encBook A), .dat (encBook B), .dat (.list (f.map encR)), .dat (alikeD bs), .dat (alikeD bs'), .dat (.list ((choicesQ A).map planD)), .no, .no, .no, .no, .no] := by
      simp only [zR0, zR1, zR2, zR3, zR4, zR5, zR6, zR7, slotsM, kFor_a, Rz.bind_ok, Rz.of_some, Rz.calm_ok, Option.bind_some, Option.bind_none, slots, sel, Arg.get, List.filterMap_cons, List.filterMap_nil, List.length_cons, List.length_nil, List.map_cons, List.map_nil, List.cons_append, List.nil_append, List.append_nil, List.getElem?_cons_succ, List.getElem?_cons_zero, List.getElem?_nil, List.set_cons_zero, List.set_cons_succ, List.set_nil, List.replicate_succ, List.replicate_zero, if_true, Nat.sub_self, Nat.reduceAdd, Nat.reduceSub, Nat.reduceLeDiff, Nat.reduceEqDiff, Nat.reduceLT, Int.reduceLT, Int.reduceLE, Int.reduceNeg, Int.reduceEq, Nat.zero_add, and_self, if_false, Bool.not_true, Bool.not_false, Bool.false_eq_true, Nat.zero_le, decide_true, decide_false, reduceCtorEq, hr4]
      exact loop
    refine seq_step (ρ' := [sc, .dat (.list (xs.map .int)), .dat (encBook A), .dat (encBook B), .dat (.list (f.map encR)), .dat (alikeD bs), .dat (alikeD bs'), .dat (.list ((choicesQ A).map planD)), .no, .no, .no, .no, .no]) ?_ (fin ..)
    simp only [zR0, zR1, zR2, zR3, zR4, zR5, zR6, zR7, slotsM, Rz.bind_ok, Rz.of_some, Rz.calm_ok, Option.bind_some, Option.bind_none, slots, sel, Arg.get, List.filterMap_cons, List.filterMap_nil, List.length_cons, List.length_nil, List.map_cons, List.map_nil, List.cons_append, List.nil_append, List.append_nil, List.getElem?_cons_succ, List.getElem?_cons_zero, List.getElem?_nil, List.set_cons_zero, List.set_cons_succ, List.set_nil, List.replicate_succ, List.replicate_zero, if_true, Nat.sub_self, Nat.reduceAdd, Nat.reduceSub, Nat.reduceLeDiff, Nat.reduceEqDiff, Nat.reduceLT, Int.reduceLT, Int.reduceLE, Int.reduceNeg, Int.reduceEq, Nat.zero_add, and_self, if_false, Bool.not_true, Bool.not_false, Bool.false_eq_true, Nat.zero_le, decide_true, decide_false, reduceCtorEq, x0, alW_al, alW_eq, bt, f1]
  · obtain ⟨cs', st', k1', k2'⟩ : ∃ cs' st', ApartOk B A f cs' st' ∧ d_alike [encBook B, encBook A, .list (f.map encR)] = .ok (apartD cs' st') := by
      rcases z_alike (dc := .list (f.map encR)) hB hA hs.symm (by rw [hfl, hl]) hv (.inl rfl) with ⟨bs', h, _⟩ | ⟨cs', st', h, e⟩
      · exact (k1.not ((h.alike hB hA hs.symm (by rw [hfl, hl])).symm hs.symm)).elim
      · exact ⟨cs', st', h, e⟩
    have len := apart_len hs k1 k1'
    have x0 : ∀ c s, zIx (apartD c s) (.int 0) = some (alW false) := fun _ _ => rfl
    have x1 : ∀ c s, zIx (apartD c s) (.int 1) = some (.list (c.map planD)) := fun _ _ => rfl
    have bt : (false == false) = true := rfl
    have bf : (false == true) = false := rfl
    have ns := z__law_none_shorter (many := cs.length) hA hB hs hfl hv (by have := k1.hi; omega) k1.min
    have l1 : zLen [PyData.list (cs.map planD)] = some (.int (cs.length : Nat)) := by rw [zLen_l, List.length_map]
    have l2 : zLen [PyData.list (cs'.map planD)] = some (.int (cs.length : Nat)) := by rw [zLen_l, List.length_map, len]
    refine seq_step (ρ' := [sc, .dat (.list (xs.map .int)), .dat (encBook A), .dat (encBook B), .dat (.list (f.map encR)), .dat (apartD cs st), .dat (apartD cs' st'), .no, .no, .no, .no, .no, .no]) (by simp only [zR0, zR1, zR2, zR3, zR4, zR5, zR6, zR7, slotsM, kFor_a, Rz.bind_ok, Rz.of_some, Rz.calm_ok, Option.bind_some, Option.bind_none, slots, sel, Arg.get, List.filterMap_cons, List.filterMap_nil, List.length_cons, List.length_nil, List.map_cons, List.map_nil, List.cons_append, List.nil_append, List.append_nil, List.getElem?_cons_succ, List.getElem?_cons_zero, List.getElem?_nil, List.set_cons_zero, List.set_cons_succ, List.set_nil, List.replicate_succ, List.replicate_zero, if_true, Nat.sub_self, Nat.reduceAdd, Nat.reduceSub, Nat.reduceLeDiff, Nat.reduceEqDiff, Nat.reduceLT, Int.reduceLT, Int.reduceLE, Int.reduceNeg, Int.reduceEq, Nat.zero_add, and_self, if_false, Bool.not_true, Bool.not_false, Bool.false_eq_true, Nat.zero_le, decide_true, decide_false, reduceCtorEq, k2, k2']) ?_
    refine seq_step (ρ' := [sc, .dat (.list (xs.map .int)), .dat (encBook A), .dat (encBook B), .dat (.list (f.map encR)), .dat (apartD cs st), .dat (apartD cs' st'), .no, .no, .no, .no, .no, .no]) (by simp only [zR0, zR1, zR2, zR3, zR4, zR5, zR6, zR7, slotsM, kFor_a, Rz.bind_ok, Rz.of_some, Rz.calm_ok, Option.bind_some, Option.bind_none, slots, sel, Arg.get, List.filterMap_cons, List.filterMap_nil, List.length_cons, List.length_nil, List.map_cons, List.map_nil, List.cons_append, List.nil_append, List.append_nil, List.getElem?_cons_succ, List.getElem?_cons_zero, List.getElem?_nil, List.set_cons_zero, List.set_cons_succ, List.set_nil, List.replicate_succ, List.replicate_zero, if_true, Nat.sub_self, Nat.reduceAdd, Nat.reduceSub, Nat.reduceLeDiff, Nat.reduceEqDiff, Nat.reduceLT, Int.reduceLT, Int.reduceLE, Int.reduceNeg, Int.reduceEq, Nat.zero_add, and_self, if_false, Bool.not_true, Bool.not_false, Bool.false_eq_true, Nat.zero_le, decide_true, decide_false, reduceCtorEq, x0, alW_ne, bt]) ?_
    refine seq_step (ρ' := [sc, .dat (.list (xs.map .int)), .dat (encBook A), .dat (encBook B), .dat (.list (f.map encR)), .dat (apartD cs st), .dat (apartD cs' st'), .dat (.list ((choicesQ A).map planD)), .no, .no, .no, .no, .no]) (by simp only [zR0, zR1, zR2, zR3, zR4, zR5, zR6, zR7, slotsM, kFor_a, Rz.bind_ok, Rz.of_some, Rz.calm_ok, Option.bind_some, Option.bind_none, slots, sel, Arg.get, List.filterMap_cons, List.filterMap_nil, List.length_cons, List.length_nil, List.map_cons, List.map_nil, List.cons_append, List.nil_append, List.append_nil, List.getElem?_cons_succ, List.getElem?_cons_zero, List.getElem?_nil, List.set_cons_zero, List.set_cons_succ, List.set_nil, List.replicate_succ, List.replicate_zero, if_true, Nat.sub_self, Nat.reduceAdd, Nat.reduceSub, Nat.reduceLeDiff, Nat.reduceEqDiff, Nat.reduceLT, Int.reduceLT, Int.reduceLE, Int.reduceNeg, Int.reduceEq, Nat.zero_add, and_self, if_false, Bool.not_true, Bool.not_false, Bool.false_eq_true, Nat.zero_le, decide_true, decide_false, reduceCtorEq, lch]) ?_
    refine seq_step (ρ' := [sc, .dat (.list (xs.map .int)), .dat (encBook A), .dat (encBook B), .dat (.list (f.map encR)), .dat (apartD cs st), .dat (apartD cs' st'), .dat (.list ((choicesQ A).map planD)), .no, .no, .no, .no, .no]) ?_ (fin ..)
    simp only [zR0, zR1, zR2, zR3, zR4, zR5, zR6, zR7, slotsM, kFor_a, Rz.bind_ok, Rz.of_some, Rz.calm_ok, Option.bind_some, Option.bind_none, slots, sel, Arg.get, List.filterMap_cons, List.filterMap_nil, List.length_cons, List.length_nil, List.map_cons, List.map_nil, List.cons_append, List.nil_append, List.append_nil, List.getElem?_cons_succ, List.getElem?_cons_zero, List.getElem?_nil, List.set_cons_zero, List.set_cons_succ, List.set_nil, List.replicate_succ, List.replicate_zero, if_true, Nat.sub_self, Nat.reduceAdd, Nat.reduceSub, Nat.reduceLeDiff, Nat.reduceEqDiff, Nat.reduceLT, Int.reduceLT, Int.reduceLE, Int.reduceNeg, Int.reduceEq, Nat.zero_add, and_self, if_false, Bool.not_true, Bool.not_false, Bool.false_eq_true, Nat.zero_le, decide_true, decide_false, reduceCtorEq, x0, x1, alW_al, alW_eq, bf, l1, l2, decide_eq_true (rfl : (cs.length : Int) = (cs.length : Int)), ns]

theorem fmod_few {a b : Int} (hb : 0 < b) : 0 ≤ a.fmod b ∧ a.fmod b < b := by
  rw [Int.fmod_eq_emod_of_nonneg a (by omega)]
  exact ⟨Int.emod_nonneg a (by omega), Int.emod_lt_of_pos a hb⟩
theorem map_app (xs : List Int) (y : Int) : xs.map PyData.int ++ [PyData.int y] = (xs ++ [y]).map PyData.int := by simp
def numI (many : Nat) (ns : List Int) (n : Nat) (ρ : List Slot) : Prop := ∃ (xs : List Int) (seed : Int), Le [.scr (ns.map .int), .dat (.int many), .own (.lst (xs.map .int)), .dat (.int seed), .no, .no, .no] ρ ∧ Few xs ∧ xs.length ≤ n ∧ 0 ≤ seed ∧ seed < 2147483648
def numJ (many : Nat) (ns : List Int) (n : Nat) (ρ : List Slot) : Prop := ∃ (xs : List Int) (seed rest : Int), Le [.scr (ns.map .int), .dat (.int many), .own (.lst (xs.map .int)), .dat (.int seed), .no, .dat (.int rest), .no] ρ ∧ Few xs ∧ xs.length ≤ n ∧ 0 ≤ seed ∧ seed < 2147483648
theorem ok__law_numbers {P : Program} {w : World} {K : PySem.W.Frag} {T : Tb} {mg : Str → Option Value} {base : Heap} {f : Addr} {fd : FuncData} {dvs : List V} (F : FnP K "_law_numbers" s__law_numbers dvs f fd) (Z : Blt mg) :
    FnOk P w K mg base CX0 41 f fd ["_law_script", "_law_many"] (spA K T Rnumbers) := by
  refine fnA F sc__law_numbers (fun ds r h => ?_) (fun cdv A outer s H E hr => ?_)
  · obtain ⟨ns, many, hns, hm, rfl, rfl⟩ := h
    rfl
  · have nd := sc__law_numbers.nd
    refine ⟨_, (pss_cons (ps_set (i := 2) nd rfl (Or.inl rfl) (pe_lst pa_nil))
      (pss_cons (ps_set (i := 3) nd rfl (Or.inl rfl) pe_int)
      (pss_cons (ps_for PassesOwn.never rfl (pi_seqK K (pe_slice (sl_anyK K) (pv 0) po_none (po_some pe_int))) (pg_name (i := 4) nd rfl (Or.inl rfl)) (pss_cons (ps_set (i := 3) nd rfl (Or.inl rfl) (pe_op op_modN (pe_op (op_addK K) (pe_op (op_addK K) (pe_op op_mulA (pv 3) pe_int) (pe_op op_modN (pv 4) pe_int)) pe_int) pe_int))
      (pss_cons (ps_set (i := 5) nd rfl (Or.inl rfl) (pe_op op_sub (pv 4) (pe_op op_pow pe_int pe_int)))
      (pss_cons (ps_if (pt_cmpR op_lt (pv 5) pe_int (nomark _)) (pss_one (ps_expr (pe_bmK K PySem.F.plainAttrs_list PySem.F.slot_list_append PySem.F.type_list_append mt_append (pv 2) (pa_cons (pe_op op_modN (pv 4) pe_int) pa_nil)))) pss_nil)
      (pss_one (ps_for PassesOwn.never rfl (pi_range1 (by rfl) Z.range (pa_cons pe_int pa_nil)) (pg_name (i := 6) nd rfl (Or.inl rfl)) (pss_one (ps_if (pt_cmpR op_gt (pv 5) pe_int (nomark _)) (pss_cons (ps_expr (pe_bmK K PySem.F.plainAttrs_list PySem.F.slot_list_append PySem.F.type_list_append mt_append (pv 2) (pa_cons (pe_op op_modN (pv 5) pe_int) pa_nil)))
      (pss_one (ps_set (i := 5) nd rfl (Or.inl rfl) (pe_op op_fdX (pv 5) pe_int)))) pss_nil))))))))
      (pss_cons (ps_while PassesOwn.never (pt_cmpR op_lt (pe_callB (call_lenK K) (by rfl) Z.len PySem.boot_len (pa_cons (pv 2) pa_nil)) (pv 1) (nomark _)) (pss_cons (ps_set (i := 3) nd rfl (Or.inl rfl) (pe_op op_modN (pe_op (op_addK K) (pe_op (op_addK K) (pe_op (op_addK K) (pe_op op_mulA (pv 3) (pv 3)) (pe_op op_mulA pe_int (pv 3))) (pe_op op_mulA pe_int (pe_callB (call_lenK K) (by rfl) Z.len PySem.boot_len (pa_cons (pv 2) pa_nil)))) pe_int) pe_int))
      (pss_one (ps_expr (pe_bmK K PySem.F.plainAttrs_list PySem.F.slot_list_append PySem.F.type_list_append mt_append (pv 2) (pa_cons (pe_op op_modN (pe_op op_fdX (pv 3) pe_int) pe_int) pa_nil))))))
      (pss_one (ps_ret (pe_slice (sl_anyK K) (pv 2) po_none (po_some (pv 1))))))))), ?_⟩
    wtm_at "cx"
    rintro ss Po ⟨ns, many, hns, hm, rfl, rfl⟩ H0 C D hrt
    show Tri K T H0 _ C [.scr (ns.map .int), .dat (.int many), .no, .no, .no, .no, .no] _ D
    wtm_at "own"
    wtm_at "asg"
    have hit : IterD K T (iSeq K (tSl (rSlX K) (tVar 0) tNoPart (tPart (tC (.int 63))))) [.scr (ns.map .int), .dat (.int many), .own (.lst []), .dat (.int 97), .no, .no, .no] (cutD (ns.map .int) none (some 63)) :=
      it_list (ef_slS rfl ep_none (ep_some ev_int)).ev
    have hcut : cutD (ns.map .int) none (some 63) = ns.map .int := by
      unfold cutD
      have e1 : HT.sIx (ns.map PyData.int).length 0 none = 0 := rfl
      have e2 : HT.sIx (ns.map PyData.int).length (ns.map PyData.int).length (some 63) = ns.length := by
        rw [show (63 : Int) = ((63 : Nat) : Int) from rfl, HT.sIx_nat, List.length_map]
        omega
      rw [e1, e2, List.drop_zero, Nat.sub_zero]
      exact List.take_of_length_le (by simp)
    rw [hcut] at hit
    refine q_forG hit (fun i ρ => numI many ns (61 * i) ρ) ⟨[], 97, ?_, (fun x hx => by cases hx), by simp, by decide, by decide⟩ ?_ ?_
    · simp only [List.map_nil]
      wtm_at "le"
    · rintro B' i d ρi hB hd ⟨xs, seed, hle, hf, hl, h0, h1⟩
      rw [List.getElem?_map] at hd
      cases e : ns[i]? with
      | none => rw [e] at hd; cases hd
      | some cell =>
        rw [e] at hd
        cases hd
        have hi : i < ns.length := (List.getElem?_eq_some_iff.mp e).1
        refine ⟨_, _, tg_name, s_weak (hle.set 4 _) ?_⟩
        show Tri K T H0 B' C [.scr (ns.map .int), .dat (.int many), .own (.lst (xs.map .int)), .dat (.int seed), .dat (.int cell), .no, .no] _ _
        have b1 := fmod_few (a := cell) (b := 999979) (by decide)
        have b2 := fmod_few (a := seed * 40014 + cell.fmod 999979 + 41) (b := 2147483563) (by decide)
        wtm_at "asg"
        wtm_at "asg"
        have go : ∀ (ys : List Int) (rest : Int), Few ys → ys.length ≤ 61 * i + 1 → Tri K T H0 B' C [.scr (ns.map .int), .dat (.int many), .own (.lst (ys.map .int)), .dat (.int ((seed * 40014 + cell.fmod 999979 + 41).fmod 2147483563)), .dat (.int cell), .dat (.int rest), .no]
            (tFor (iRng1 (tCons (tC (.int 60)) tNil)) (gName 6) (tIfS (tTest (tOp (rI0 fun i j => .bl (decide (j < i))) (tVar 5) (tC (.int 0)))) (tSeq (tDrop (tBM K "list" rAppend (tVar 2) (tCons (tOp (rI (fun _ j => j ≠ 0) fun i j => .int (i.fmod j)) (tVar 5) (tC (.int 1013))) tNil))) (tAsg (tOp (rI CFd fun i j => .int (i.fdiv j)) (tVar 5) (tC (.int 1013))) (gName 5))) tNext))
            { nx := Nxt K T H0 B' C (numI many ns (61 * (i + 1))), rt := D.rt, bk := fun σ H => tSeq (tWhile (tTest (tOp (rI0 fun i j => .bl (decide (i < j))) (tCB (rLenA K) (tCons (tVar 2) tNil)) (tVar 1))) (tSeq (tAsg (tOp (rI (fun _ j => j ≠ 0) fun i j => .int (i.fmod j)) (tOp (rAddA K) (tOp (rAddA K) (tOp (rAddA K) (tOp rMulA (tVar 3) (tVar 3)) (tOp rMulA (tC (.int 52774)) (tVar 3))) (tOp rMulA (tC (.int 23)) (tCB (rLenA K) (tCons (tVar 2) tNil)))) (tC (.int 5))) (tC (.int 2147483629))) (gName 3)) (tDrop (tBM K "list" rAppend (tVar 2) (tCons (tOp (rI (fun _ j => j ≠ 0) fun i j => .int (i.fmod j)) (tOp (rI CFd fun i j => .int (i.fdiv j)) (tVar 3) (tC (.int 1019))) (tC (.int 9967))) tNil))))) (tRet (tSl (rSlX K) (tVar 2) tNoPart (tPart (tVar 1)))) D σ H, ct := Nxt K T H0 B' C (numI many ns (61 * (i + 1))) } := by
          intro ys rest hy hyl
          refine s_forG (it_range1 (by wtm_at "ea") (by decide) (by decide)) (fun k ρ => numJ many ns (61 * i + 1 + k) ρ) ⟨ys, _, rest, ?_, hy, hyl, b2.1, Int.lt_trans b2.2 (by decide)⟩ ?_ ?_
          · wtm_at "le"
          · rintro B2 k d2 ρk hB2 hd2 ⟨zs, sd, r2, hle2, hf2, hl2, h02, h12⟩
            obtain ⟨hk, rfl⟩ := rgD_get hd2
            refine ⟨_, _, tg_name, s_weak (hle2.set 6 _) ?_⟩
            show Tri K T H0 B2 C [.scr (ns.map .int), .dat (.int many), .own (.lst (zs.map .int)), .dat (.int sd), .no, .dat (.int r2), .dat (.int (0 + (k : Int)))] _ _
            have hk60 : k < 60 := hk
            refine s_if (by wtm_at "et") (fun c => ?_) (fun c => ?_)
            · have b3 := fmod_few (a := r2) (b := 1013) (by decide)
              refine q_app rfl (by wtm_at "ev") (by rw [List.length_map]; omega) ?_
              wtm_at "nf"
              rw [map_app]
              wtm_at "asg1"
              refine s_nxt (ρ' := [.scr (ns.map .int), .dat (.int many), .own (.lst ((zs ++ [r2.fmod 1013]).map .int)), .dat (.int sd), .no, .dat (.int (r2.fdiv 1013)), .no]) ⟨zs ++ [r2.fmod 1013], sd, r2.fdiv 1013, Le.refl _, hf2.app (.one b3.1 (by omega)), by simp; omega, h02, h12⟩ ?_ rfl
              wtm_at "le"
            · refine s_nxt (ρ' := [.scr (ns.map .int), .dat (.int many), .own (.lst (zs.map .int)), .dat (.int sd), .no, .dat (.int r2), .no]) ⟨zs, sd, r2, Le.refl _, hf2, by omega, h02, h12⟩ ?_ rfl
              wtm_at "le"
          · rintro ρn ⟨zs, sd, r2, hle2, hf2, hl2, h02, h12⟩
            rw [rgD_len] at hl2
            refine s_weak hle2 (s_nxt (ρ' := [.scr (ns.map .int), .dat (.int many), .own (.lst (zs.map .int)), .dat (.int sd), .no, .no, .no]) ⟨zs, sd, Le.refl _, hf2, by simp at hl2; omega, h02, h12⟩ ?_ rfl)
            wtm_at "le"
        refine q_when (by wtm_at "et") (fun c => ?_) (fun c => ?_)
        · have b3 := fmod_few (a := cell) (b := 9967) (by decide)
          refine s_app rfl (by wtm_at "ev") (by rw [List.length_map]; omega) ?_
          wtm_at "nf"
          rw [map_app]
          exact s_to (go _ _ (hf.app (.one b3.1 b3.2)) (by simp; omega))
        · exact go _ _ hf (by omega)
    · rintro ρn ⟨xs, seed, hle, hf, hl, h0, h1⟩
      rw [List.length_map] at hl
      refine s_weak hle ?_
      refine q_while (fun m ρ => ∃ (ys : List Int) (sd : Int), ρ = [.scr (ns.map .int), .dat (.int many), .own (.lst (ys.map .int)), .dat (.int sd), .no, .no, .no] ∧ Few ys ∧ ys.length ≤ 4000 + many ∧ 0 ≤ sd ∧ sd < 2147483648 ∧ m = many - ys.length) (many - xs.length) ⟨xs, seed, rfl, hf, by omega, h0, h1, rfl⟩ ?_
      rintro m ρ ⟨ys, sd, rfl, hf2, hl2, h02, h12, rfl⟩
      refine ⟨_, by wtm_at "et", fun c => ?_, fun c => ?_⟩
      · have c' := of_decide_eq_true c
        rw [List.length_map] at c'
        have mm : IntMulOk sd sd := mulOkL (by omega)
        have b2 := fmod_few (a := sd * sd + 52774 * sd + 23 * ((ys.map PyData.int).length : Int) + 5) (b := 2147483629) (by decide)
        wtm_at "asg"
        have b3 := fmod_few (a := ((sd * sd + 52774 * sd + 23 * ((ys.map PyData.int).length : Int) + 5).fmod 2147483629).fdiv 1019) (b := 9967) (by decide)
        refine s_app rfl (by wtm_at "ev") (by rw [List.length_map]; omega) ?_
        wtm_at "nf"
        rw [map_app]
        intro σ H g
        refine ⟨_, _, ?_, ⟨ys ++ [_], _, rfl, hf2.app (.one b3.1 b3.2), ?_, b2.1, Int.lt_trans b2.2 (by decide), rfl⟩, g⟩
        · simp; omega
        · simp; omega
      · have c' := of_decide_eq_false c
        rw [List.length_map] at c'
        refine s_freeze (i := 2) rfl ?_
        wtm_at "nf"
        refine s_ret (d := .list (cutD (ys.map .int) none (some many))) ?_ (hrt _ ⟨ys.take many, by rw [List.length_take]; omega, fun x hx => hf2 x (List.mem_of_mem_take hx), ?_⟩)
        · wtm_at "ev"
        · unfold cutD
          have e1 : HT.sIx (ys.map PyData.int).length 0 none = 0 := rfl
          have e2 : HT.sIx (ys.map PyData.int).length (ys.map PyData.int).length (some (many : Int)) = many := by
            rw [HT.sIx_nat, List.length_map]
            omega
          rw [e1, e2, List.drop_zero, Nat.sub_zero, List.map_take]
theorem ok_law {P : Program} {w : World} {K : PySem.W.Frag} {T : Tb} {mg : Str → Option Value} {base : Heap} {f : Addr} {fd : FuncData} {dvs : List V} (F : FnP K "law" s_law dvs f fd) (Z : Blt mg)
    (c__law_numbers : Cal P w K mg base 41 "_law_numbers" ["_law_script", "_law_many"] [] (spA K T Rnumbers))
    (c__law_beside : CalX P w K mg base 43 "_law_beside" ["_law_d", "_law_book"] [] (spZ K T .no d__law_beside))
    (c__law_filling : CalX P w K mg base 42 "_law_filling" ["_law_d", "_law_many"] [] (spZ K T .yes d__law_filling))
    (c__law_choices : CalX P w K mg base 41 "_law_choices" ["_law_book"] [] (spZ K T .no d__law_choices))
    (c__law_untold_alike : CalX P w K mg base 47 "_law_untold_alike" ["_law_book", "_law_counts_now", "_law_shares_now"] [] (spZ K T .no d__law_untold_alike))
    (c__law_menus : CalX P w K mg base 43 "_law_menus" ["_law_d", "_law_upto"] [] (spZ K T .no d__law_menus))
    (c__law_lone_ones : CalX P w K mg base 44 "_law_lone_ones" ["_law_d"] [] (spZ K T .no d__law_lone_ones))
    (c_alike : CalX P w K mg base 46 "alike" ["one", "other", "counts"] [] (spZ K T .no d_alike))
    (c__law_told_sums : CalX P w K mg base 44 "_law_told_sums" ["_law_books", "_law_counts_now", "_law_ways", "_law_store"] [] (spZ K T .yes d__law_told_sums))
    (c__law_none_shorter : CalX P w K mg base 45 "_law_none_shorter" ["_law_books", "_law_counts_now", "_law_many", "_law_all_ways"] [] (spZ K T .no d__law_none_shorter))
    (c__law_share : CalX P w K mg base 42 "_law_share" ["_law_number"] [] (spZ K T .no d__law_share)) :
    FnOk P w K mg base CX0 48 f fd ["_law_script"] (spA K T Rlaw) := by
  refine fnA F sc_law (fun ds r h => ?_) (fun cdv A outer s H E hr => ?_)
  · obtain ⟨_, _, rfl, _⟩ := h
    rfl
  · have nd := sc_law.nd
    refine ⟨_, (pss_cons (ps_set (i := 1) nd rfl (Or.inr rfl) (pe_callC c__law_numbers hr rfl (pa_cons (pv 0) (pa_cons pe_int pa_nil))))
      (pss_cons (ps_set (i := 2) nd rfl (Or.inl rfl) (pe_ifExp (pt_cmpR op_gt (pe_op op_modN (pe_ix (ix_seqK K) (pv 1) pe_int (fun _ _ => rfl)) pe_int) pe_int (nomark _)) (pe_callC c__law_menus.calmZ hr rfl (pa_cons (pv 1) (pa_cons pe_int pa_nil))) (pe_callC c__law_lone_ones.calmZ hr rfl (pa_cons (pe_slice (sl_anyK K) (pv 1) (po_some pe_int) po_none) pa_nil))))
      (pss_cons (ps_set (i := 3) nd rfl (Or.inl rfl) (pe_callC c__law_beside.calmZ hr rfl (pa_cons (pe_slice (sl_anyK K) (pv 1) (po_some pe_int) po_none) (pa_cons (pv 2) pa_nil))))
      (pss_cons (ps_if (pt_cmpR (op_eqK K hr.units) (pe_op op_modN (pe_ix (ix_seqK K) (pv 1) pe_int (fun _ _ => rfl)) pe_int) pe_int (nomark _)) (pss_one (ps_set (i := 3) nd rfl (Or.inl rfl) (pe_callC c__law_beside.calmZ hr rfl (pa_cons (pe_slice (sl_anyK K) (pv 1) (po_some pe_int) po_none) (pa_cons (pv 3) pa_nil))))) pss_nil)
      (pss_cons (ps_set (i := 4) nd rfl (Or.inl rfl) (pe_callC c__law_filling.calmZ hr rfl (pa_cons (pe_slice (sl_anyK K) (pv 1) (po_some pe_int) po_none) (pa_cons (pe_callB (call_lenK K) (by rfl) Z.len PySem.boot_len (pa_cons (pv 2) pa_nil)) pa_nil))))
      (pss_cons (ps_setLc (i := 4) (own := [("_law_at", 11), ("_law_this", 12)]) rfl nd rfl rfl (sw_true rfl rfl rfl (by decide +kernel)) (LwZ.pi_enumA K (by rfl) Z.enumerate (pa_cons (pv 4) pa_nil)) (blkOk_by (own := [("_law_at", 11), ("_law_this", 12)]) (N := ["_law_script", "_law_numbers_here", "_law_book", "_law_beside_here", "_law_counts_now", "_law_found", "_law_back", "_law_all_ways", "_law_k", "_law_ways", "_law_sums", "_law_at", "_law_this"]) (sc := defScope s_law) (by decide +kernel)) (fun _ _ _ _ _ => (pg_tupK (n := 2) K rfl (pgs_cons (pg_name (i := 11) nd rfl (Or.inl rfl)) (pgs_cons (pg_name (i := 12) nd rfl (Or.inl rfl)) pgs_nil)))) (fun _ _ _ _ _ => pts_nil) (fun _ _ _ _ _ => (pe_ifExp (pt_cmpR op_gt (pe_op op_modN (pe_ix (ix_seqK K) (pv 1) (pe_op (op_addK K) pe_int (pv 11)) (fun _ _ => rfl)) pe_int) pe_int (nomark _)) (pv 12) (pe_tup (pa_cons pe_int (pa_cons pe_int pa_nil))))))
      (pss_cons (ps_par (i := 5) (j := 6) (by rfl) nd rfl rfl (by decide) rfl rfl (pa_cons (pe_callC c_alike.calmZ hr rfl (pa_cons (pv 2) (pa_cons (pv 3) (pa_cons (pv 4) pa_nil)))) (pa_cons (pe_callC c_alike.calmZ hr rfl (pa_cons (pv 3) (pa_cons (pv 2) (pa_cons (pv 4) pa_nil)))) pa_nil)) (by rfl))
      (pss_cons (ps_if (pt_cmpR (op_neK K hr.units) (pe_ix (ix_seqK K) (pv 5) pe_int (fun _ _ => rfl)) (pe_ix (ix_seqK K) (pv 6) pe_int (fun _ _ => rfl)) (nomark _)) (pss_one (ps_ret pe_bl)) pss_nil)
      (pss_cons (ps_set (i := 7) nd rfl (Or.inr rfl) (pe_callC c__law_choices.calmZ hr rfl (pa_cons (pv 2) pa_nil)))
      (pss_cons (ps_if (pt_cmpR (op_eqK K hr.units) (pe_ix (ix_seqK K) (pv 5) pe_int (fun _ _ => rfl)) pe_str (nomark _)) (pss_one (ps_for PassesOwn.never rfl (pi_range1 (by rfl) Z.range (pa_cons pe_int pa_nil)) (pg_name (i := 8) nd rfl (Or.inr rfl)) (pss_cons (ps_setLc (i := 9) (own := [("_law_at", 11)]) rfl nd rfl rfl (sw_true rfl rfl rfl (by decide +kernel)) (pi_range1 (by rfl) Z.range (pa_cons (pe_op op_modN (pe_ix (ix_seqK K) (pv 1) pe_int (fun _ _ => rfl)) pe_int) pa_nil)) (blkOk_by (own := [("_law_at", 11)]) (N := ["_law_script", "_law_numbers_here", "_law_book", "_law_beside_here", "_law_counts_now", "_law_found", "_law_back", "_law_all_ways", "_law_k", "_law_ways", "_law_sums", "_law_at", "_law_this"]) (sc := defScope s_law) (by decide +kernel)) (fun _ _ _ _ _ => (pg_name (i := 11) nd rfl (Or.inl rfl))) (fun _ _ _ _ _ => pts_nil) (fun _ _ _ _ _ => (pe_ix (ix_seqK K) (pv 7) (pe_op op_modN (pe_ix (ix_seqK K) (pv 1) (pe_op (op_addK K) (pe_op (op_addK K) pe_int (pe_op op_mulA pe_int (pv 8))) (pv 11)) (fun _ _ => rfl)) (pe_callB (call_lenK K) (by rfl) Z.len PySem.boot_len (pa_cons (pv 7) pa_nil))) (fun _ _ => rfl))))
      (pss_cons (ps_set (i := 10) nd rfl (Or.inl rfl) (pe_callC c__law_told_sums.calmZ hr rfl (pa_cons (pe_lst (pa_cons (pv 2) (pa_cons (pv 3) pa_nil))) (pa_cons (pv 4) (pa_cons (pv 9) (pa_cons (pe_op op_modN (pe_ix (ix_seqK K) (pv 1) (pe_op (op_addK K) pe_int (pv 8)) (fun _ _ => rfl)) (pe_callB (call_lenK K) (by rfl) Z.len PySem.boot_len (pa_cons (pv 2) pa_nil))) pa_nil))))))
      (pss_one (ps_if (pt_cmpR (op_neK K hr.units) (pe_ix (ix_seqK K) (pv 10) pe_int (fun _ _ => rfl)) (pe_ix (ix_seqK K) (pv 10) pe_int (fun _ _ => rfl)) (nomark _)) (pss_one (ps_ret pe_bl)) pss_nil)))))) (pss_cons (ps_if (pt_cmpR (op_neK K hr.units) (pe_callB (call_lenK K) (by rfl) Z.len PySem.boot_len (pa_cons (pe_ix (ix_seqK K) (pv 6) pe_int (fun _ _ => rfl)) pa_nil)) (pe_callB (call_lenK K) (by rfl) Z.len PySem.boot_len (pa_cons (pe_ix (ix_seqK K) (pv 5) pe_int (fun _ _ => rfl)) pa_nil)) (nomark _)) (pss_one (ps_ret pe_bl)) pss_nil)
      (pss_one (ps_if (pt_not (pt_val (pe_callC c__law_none_shorter.calmZ hr rfl (pa_cons (pe_lst (pa_cons (pv 2) (pa_cons (pv 3) pa_nil))) (pa_cons (pv 4) (pa_cons (pe_callB (call_lenK K) (by rfl) Z.len PySem.boot_len (pa_cons (pe_ix (ix_seqK K) (pv 5) pe_int (fun _ _ => rfl)) pa_nil)) (pa_cons (pv 7) pa_nil))))))) (pss_one (ps_ret pe_bl)) pss_nil))))
      (pss_cons (ps_if (pt_cmpR op_gt (pe_callB (call_lenK K) (by rfl) Z.len PySem.boot_len (pa_cons (pv 2) pa_nil)) pe_int (nomark _)) (pss_one (ps_ret pe_bl)) pss_nil)
      (pss_one (ps_ret (pe_callC c__law_untold_alike.calmZ hr rfl (pa_cons (pv 2) (pa_cons (pv 4) (pa_cons (pe_lc (own := [("_law_this", 12)]) rfl nd (pi_seqK K (pe_slice (sl_anyK K) (pv 1) (po_some pe_int) (po_some (pe_op (op_addK K) pe_int (pe_callB (call_lenK K) (by rfl) Z.len PySem.boot_len (pa_cons (pv 2) pa_nil)))))) (blkOk_by (own := [("_law_this", 12)]) (N := ["_law_script", "_law_numbers_here", "_law_book", "_law_beside_here", "_law_counts_now", "_law_found", "_law_back", "_law_all_ways", "_law_k", "_law_ways", "_law_sums", "_law_at", "_law_this"]) (sc := defScope s_law) (by decide +kernel)) (fun _ _ _ _ _ => (pg_name (i := 12) nd rfl (Or.inl rfl))) (fun _ _ _ _ _ => pts_nil) (fun _ _ _ _ _ => (pe_callC c__law_share.calmZ hr rfl (pa_cons (pv 12) pa_nil)))) pa_nil))))))))))))))))), ?_⟩
    rintro ss Po ⟨ns, hl, rfl, rfl⟩ H0 C D hrt
    refine q_num (many := 280) rfl hl (by decide) fun xs hx hf => ?_
    refine tri_sim (fr := .no) (W := fun _ _ _ _ => False) (m := m_law) ((sim_seq (sim_asg (sim_if (sim_yT (sim_op r_gt (sim_op r_mod (sim_op r_ix sim_V sim_int) sim_int) sim_int)) (sim_callC0 (sim_cons sim_V (sim_cons sim_int sim_nil))) (sim_callC0 (sim_cons (sim_sl r_slV sim_V (sim_oAt sim_int) sim_oNo) sim_nil))))
    (sim_seq (sim_asg (sim_callC0 (sim_cons (sim_sl r_slV sim_V (sim_oAt sim_int) sim_oNo) (sim_cons sim_V sim_nil))))
    (sim_seq (sim_kIf (sim_yT (sim_op r_eq (sim_op r_mod (sim_op r_ix sim_V sim_int) sim_int) sim_int)) (sim_asg (sim_callC0 (sim_cons (sim_sl r_slV sim_V (sim_oAt sim_int) sim_oNo) (sim_cons sim_V sim_nil)))) sim_kNx)
    (sim_seq (sim_asg (sim_callC0 (sim_cons (sim_sl r_slV sim_V (sim_oAt sim_int) sim_oNo) (sim_cons (sim_cb r_len (sim_cons sim_V sim_nil)) sim_nil))))
    (sim_seq (sim_asg (sim_L (sim_lc (W' := fun _ _ _ _ => False) (sim_en (sim_cons sim_V sim_nil)) (simG_T (simG_C simG_N (simG_C simG_N simG_0))) sim_yYes (sim_if (sim_yT (sim_op r_gt (sim_op r_mod (sim_op r_ix sim_V (sim_op r_addV sim_int sim_V)) sim_int) sim_int)) sim_V (sim_tup (sim_cons sim_int (sim_cons sim_int sim_nil)))) (by decide))))
    (sim_seq (sim_par (sim_cons (sim_callC0 (sim_cons sim_V (sim_cons sim_V (sim_cons sim_V sim_nil)))) (sim_cons (sim_callC0 (sim_cons sim_V (sim_cons sim_V (sim_cons sim_V sim_nil)))) sim_nil)))
    (sim_seq (sim_kIf (sim_yT (sim_op r_ne (sim_op r_ix sim_V sim_int) (sim_op r_ix sim_V sim_int))) (sim_ret sim_bl) sim_kNx)
    (sim_seq (sim_asg (sim_callC0 (sim_cons sim_V sim_nil)))
    (sim_seq (sim_kIf (sim_yT (sim_op r_eq (sim_op r_ix sim_V sim_int) sim_str)) (sim_for (sim_rng1 (sim_cons sim_int sim_nil)) simG_N (sim_seq (sim_asg (sim_L (sim_lc (W' := fun _ _ _ _ => False) (sim_rng1 (sim_cons (sim_op r_mod (sim_op r_ix sim_V sim_int) sim_int) sim_nil)) simG_N sim_yYes (sim_op r_ix sim_V (sim_op r_mod (sim_op r_ix sim_V (sim_op r_addV (sim_op r_addV sim_int (sim_op r_mulV sim_int sim_V)) sim_V)) (sim_cb r_len (sim_cons sim_V sim_nil)))) (by decide))))
    (sim_seq (sim_asg (sim_callC0 (sim_cons (sim_L (sim_lstF (sim_cons sim_V (sim_cons sim_V sim_nil)))) (sim_cons sim_V (sim_cons sim_V (sim_cons (sim_op r_mod (sim_op r_ix sim_V (sim_op r_addV sim_int sim_V)) (sim_cb r_len (sim_cons sim_V sim_nil))) sim_nil))))))
    (sim_kIf (sim_yT (sim_op r_ne (sim_op r_ix sim_V sim_int) (sim_op r_ix sim_V sim_int))) (sim_ret sim_bl) sim_kNx)))) (sim_seq (sim_kIf (sim_yT (sim_op r_ne (sim_cb r_len (sim_cons (sim_op r_ix sim_V sim_int) sim_nil)) (sim_cb r_len (sim_cons (sim_op r_ix sim_V sim_int) sim_nil)))) (sim_ret sim_bl) sim_kNx)
    (sim_kIf (sim_yNot (sim_yB (sim_callC0 (sim_cons (sim_L (sim_lstF (sim_cons sim_V (sim_cons sim_V sim_nil)))) (sim_cons sim_V (sim_cons (sim_cb r_len (sim_cons (sim_op r_ix sim_V sim_int) sim_nil)) (sim_cons sim_V sim_nil))))))) (sim_ret sim_bl) sim_kNx)))
    (sim_seq (sim_kIf (sim_yT (sim_op r_gt (sim_cb r_len (sim_cons sim_V sim_nil)) sim_int)) (sim_ret sim_bl) sim_kNx)
    (sim_ret (sim_callC0 (sim_cons sim_V (sim_cons sim_V (sim_cons (sim_L (sim_lc (W' := fun _ _ _ _ => False) (sim_iS (sim_sl r_slV sim_V (sim_oAt sim_int) (sim_oAt (sim_op r_addV sim_int (sim_cb r_len (sim_cons sim_V sim_nil)))))) simG_N sim_yYes (sim_callC0 (sim_cons sim_V sim_nil)) (by decide))) sim_nil)))))))))))))))) ?_
    have e := pure_law (.scr (ns.map .int)) xs hx hf
    show PostS K T .no H0 _ C D _ (m_law [.scr (ns.map .int), .dat (.list (xs.map .int)), .no, .no, .no, .no, .no, .no, .no, .no, .no, .no, .no])
    rw [e]
    exact hrt _ rfl
theorem factsL {P : Program} {w : World} {K : PySem.W.Frag} {h : Heap} {mg : Str → Option Value} {f : Addr} (X : K.In h) (G : h.Ns mainGlobals mg) (hfa : mg ("law" : Str) = some (.ref f)) (c : He.SaysD faL fnL K) (hP : P.given.tree = none) (ck : ckL K = true) :
    ∃ fd : FuncData, (∀ (s : Shared) (v : Value), BindsTo s fd ⟨[v], []⟩ [("_law_script", v)]) ∧ ∀ base : Heap, K.In base → base.Ns mainGlobals mg → FnOk P w K mg base CX0 48 f fd ["_law_script"] (spA K [] Rlaw) := by
  obtain ⟨fd_common, F_common⟩ := c.def_ 0 (d := dk "common" s_common [] []) rfl
  have m_common := He.glo_ok X G (c.fact 0 (f := .glo "common") rfl)
  replace F_common : FnQ K "common" s_common [] [] (He.ga K "common") fd_common := F_common
  obtain ⟨fd_part, F_part⟩ := c.def_ 1 (d := dk "part" s_part [.int 1] []) rfl
  have m_part := He.glo_ok X G (c.fact 1 (f := .glo "part") rfl)
  replace F_part : FnQ K "part" s_part [V.int 1] [] (He.ga K "part") fd_part := F_part
  obtain ⟨fd_plus, F_plus⟩ := c.def_ 2 (d := dk "plus" s_plus [] []) rfl
  have m_plus := He.glo_ok X G (c.fact 2 (f := .glo "plus") rfl)
  replace F_plus : FnQ K "plus" s_plus [] [] (He.ga K "plus") fd_plus := F_plus
  obtain ⟨fd_less, F_less⟩ := c.def_ 3 (d := dk "less" s_less [] []) rfl
  have m_less := He.glo_ok X G (c.fact 3 (f := .glo "less") rfl)
  replace F_less : FnQ K "less" s_less [] [] (He.ga K "less") fd_less := F_less
  obtain ⟨fd_times, F_times⟩ := c.def_ 4 (d := dk "times" s_times [] []) rfl
  have m_times := He.glo_ok X G (c.fact 4 (f := .glo "times") rfl)
  replace F_times : FnQ K "times" s_times [] [] (He.ga K "times") fd_times := F_times
  obtain ⟨fd_over, F_over⟩ := c.def_ 5 (d := dk "over" s_over [] []) rfl
  have m_over := He.glo_ok X G (c.fact 5 (f := .glo "over") rfl)
  replace F_over : FnQ K "over" s_over [] [] (He.ga K "over") fd_over := F_over
  obtain ⟨fd_is_share, F_is_share⟩ := c.def_ 6 (d := dk "is_share" s_is_share [] []) rfl
  have m_is_share := He.glo_ok X G (c.fact 6 (f := .glo "is_share") rfl)
  replace F_is_share : FnQ K "is_share" s_is_share [] [] (He.ga K "is_share") fd_is_share := F_is_share
  obtain ⟨fd_need_hand, F_need_hand⟩ := c.def_ 7 (d := dk "need_hand" s_need_hand [] []) rfl
  have m_need_hand := He.glo_ok X G (c.fact 7 (f := .glo "need_hand") rfl)
  replace F_need_hand : FnQ K "need_hand" s_need_hand [] [] (He.ga K "need_hand") fd_need_hand := F_need_hand
  obtain ⟨fd_look, F_look⟩ := c.def_ 8 (d := dk "look" s_look [] []) rfl
  have m_look := He.glo_ok X G (c.fact 8 (f := .glo "look") rfl)
  replace F_look : FnQ K "look" s_look [] [] (He.ga K "look") fd_look := F_look
  obtain ⟨fd_all_plans, F_all_plans⟩ := c.def_ 9 (d := dk "all_plans" s_all_plans [] []) rfl
  have m_all_plans := He.glo_ok X G (c.fact 9 (f := .glo "all_plans") rfl)
  replace F_all_plans : FnQ K "all_plans" s_all_plans [] [] (He.ga K "all_plans") fd_all_plans := F_all_plans
  obtain ⟨fd_taken, F_taken⟩ := c.def_ 10 (d := dk "taken" s_taken [] []) rfl
  have m_taken := He.glo_ok X G (c.fact 10 (f := .glo "taken") rfl)
  replace F_taken : FnQ K "taken" s_taken [] [] (He.ga K "taken") fd_taken := F_taken
  obtain ⟨fd_need_filling, F_need_filling⟩ := c.def_ 11 (d := dk "need_filling" s_need_filling [] []) rfl
  have m_need_filling := He.glo_ok X G (c.fact 11 (f := .glo "need_filling") rfl)
  replace F_need_filling : FnQ K "need_filling" s_need_filling [] [] (He.ga K "need_filling") fd_need_filling := F_need_filling
  obtain ⟨fd_row_by, F_row_by⟩ := c.def_ 12 (d := dk "row_by" s_row_by [] []) rfl
  have m_row_by := He.glo_ok X G (c.fact 12 (f := .glo "row_by") rfl)
  replace F_row_by : FnQ K "row_by" s_row_by [] [] (He.ga K "row_by") fd_row_by := F_row_by
  obtain ⟨fd_need_both, F_need_both⟩ := c.def_ 13 (d := dk "need_both" s_need_both [] []) rfl
  have m_need_both := He.glo_ok X G (c.fact 13 (f := .glo "need_both") rfl)
  replace F_need_both : FnQ K "need_both" s_need_both [] [] (He.ga K "need_both") fd_need_both := F_need_both
  obtain ⟨fd_alike, F_alike⟩ := c.def_ 14 (d := dk "alike" s_alike [] []) rfl
  have m_alike := He.glo_ok X G (c.fact 14 (f := .glo "alike") rfl)
  replace F_alike : FnQ K "alike" s_alike [] [] (He.ga K "alike") fd_alike := F_alike
  obtain ⟨fd__law_part, F__law_part⟩ := c.def_ 15 (d := dk "_law_part" s__law_part [] []) rfl
  have m__law_part := He.glo_ok X G (c.fact 15 (f := .glo "_law_part") rfl)
  replace F__law_part : FnQ K "_law_part" s__law_part [] [] (He.ga K "_law_part") fd__law_part := F__law_part
  obtain ⟨fd__law_plus, F__law_plus⟩ := c.def_ 16 (d := dk "_law_plus" s__law_plus [] []) rfl
  have m__law_plus := He.glo_ok X G (c.fact 16 (f := .glo "_law_plus") rfl)
  replace F__law_plus : FnQ K "_law_plus" s__law_plus [] [] (He.ga K "_law_plus") fd__law_plus := F__law_plus
  obtain ⟨fd__law_times, F__law_times⟩ := c.def_ 17 (d := dk "_law_times" s__law_times [] []) rfl
  have m__law_times := He.glo_ok X G (c.fact 17 (f := .glo "_law_times") rfl)
  replace F__law_times : FnQ K "_law_times" s__law_times [] [] (He.ga K "_law_times") fd__law_times := F__law_times
  obtain ⟨fd__law_sum, F__law_sum⟩ := c.def_ 18 (d := dk "_law_sum" s__law_sum [] []) rfl
  have m__law_sum := He.glo_ok X G (c.fact 18 (f := .glo "_law_sum") rfl)
  replace F__law_sum : FnQ K "_law_sum" s__law_sum [] [] (He.ga K "_law_sum") fd__law_sum := F__law_sum
  obtain ⟨fd__law_told_sums, F__law_told_sums⟩ := c.def_ 19 (d := dk "_law_told_sums" s__law_told_sums [] []) rfl
  have m__law_told_sums := He.glo_ok X G (c.fact 19 (f := .glo "_law_told_sums") rfl)
  replace F__law_told_sums : FnQ K "_law_told_sums" s__law_told_sums [] [] (He.ga K "_law_told_sums") fd__law_told_sums := F__law_told_sums
  obtain ⟨fd__law_numbers, F__law_numbers⟩ := c.def_ 20 (d := dk "_law_numbers" s__law_numbers [] []) rfl
  have m__law_numbers := He.glo_ok X G (c.fact 20 (f := .glo "_law_numbers") rfl)
  replace F__law_numbers : FnQ K "_law_numbers" s__law_numbers [] [] (He.ga K "_law_numbers") fd__law_numbers := F__law_numbers
  obtain ⟨fd__law_share, F__law_share⟩ := c.def_ 21 (d := dk "_law_share" s__law_share [] []) rfl
  have m__law_share := He.glo_ok X G (c.fact 21 (f := .glo "_law_share") rfl)
  replace F__law_share : FnQ K "_law_share" s__law_share [] [] (He.ga K "_law_share") fd__law_share := F__law_share
  obtain ⟨fd__law_menus, F__law_menus⟩ := c.def_ 22 (d := dk "_law_menus" s__law_menus [] []) rfl
  have m__law_menus := He.glo_ok X G (c.fact 22 (f := .glo "_law_menus") rfl)
  replace F__law_menus : FnQ K "_law_menus" s__law_menus [] [] (He.ga K "_law_menus") fd__law_menus := F__law_menus
  obtain ⟨fd__law_lone_ones, F__law_lone_ones⟩ := c.def_ 23 (d := dk "_law_lone_ones" s__law_lone_ones [] []) rfl
  have m__law_lone_ones := He.glo_ok X G (c.fact 23 (f := .glo "_law_lone_ones") rfl)
  replace F__law_lone_ones : FnQ K "_law_lone_ones" s__law_lone_ones [] [] (He.ga K "_law_lone_ones") fd__law_lone_ones := F__law_lone_ones
  obtain ⟨fd__law_beside, F__law_beside⟩ := c.def_ 24 (d := dk "_law_beside" s__law_beside [] []) rfl
  have m__law_beside := He.glo_ok X G (c.fact 24 (f := .glo "_law_beside") rfl)
  replace F__law_beside : FnQ K "_law_beside" s__law_beside [] [] (He.ga K "_law_beside") fd__law_beside := F__law_beside
  obtain ⟨fd__law_filling, F__law_filling⟩ := c.def_ 25 (d := dk "_law_filling" s__law_filling [] []) rfl
  have m__law_filling := He.glo_ok X G (c.fact 25 (f := .glo "_law_filling") rfl)
  replace F__law_filling : FnQ K "_law_filling" s__law_filling [] [] (He.ga K "_law_filling") fd__law_filling := F__law_filling
  obtain ⟨fd__law_choices, F__law_choices⟩ := c.def_ 26 (d := dk "_law_choices" s__law_choices [] []) rfl
  have m__law_choices := He.glo_ok X G (c.fact 26 (f := .glo "_law_choices") rfl)
  replace F__law_choices : FnQ K "_law_choices" s__law_choices [] [] (He.ga K "_law_choices") fd__law_choices := F__law_choices
  obtain ⟨fd__law_untold_alike, F__law_untold_alike⟩ := c.def_ 27 (d := dk "_law_untold_alike" s__law_untold_alike [] []) rfl
  have m__law_untold_alike := He.glo_ok X G (c.fact 27 (f := .glo "_law_untold_alike") rfl)
  replace F__law_untold_alike : FnQ K "_law_untold_alike" s__law_untold_alike [] [] (He.ga K "_law_untold_alike") fd__law_untold_alike := F__law_untold_alike
  obtain ⟨fd__law_none_shorter, F__law_none_shorter⟩ := c.def_ 28 (d := dk "_law_none_shorter" s__law_none_shorter [] []) rfl
  have m__law_none_shorter := He.glo_ok X G (c.fact 28 (f := .glo "_law_none_shorter") rfl)
  replace F__law_none_shorter : FnQ K "_law_none_shorter" s__law_none_shorter [] [] (He.ga K "_law_none_shorter") fd__law_none_shorter := F__law_none_shorter
  obtain ⟨fd_law, F_law⟩ := c.def_ 29 (d := dk "law" s_law [] []) rfl
  have m_law := He.glo_ok X G (c.fact 29 (f := .glo "law") rfl)
  replace F_law : FnQ K "law" s_law [] [] (He.ga K "law") fd_law := F_law
  obtain ⟨fd_Span___init__, F_Span___init__⟩ := c.def_ 30 (d := dm_Span___init__) rfl
  replace F_Span___init__ : FnM K "__init__" "Span.__init__" s_Span___init__ [] (He.ma K (He.ga K "Span") "__init__") fd_Span___init__ := F_Span___init__
  obtain ⟨fd_Span_rest, F_Span_rest⟩ := c.def_ 31 (d := dm_Span_rest) rfl
  replace F_Span_rest : FnM K "rest" "Span.rest" s_Span_rest [] (He.ma K (He.ga K "Span") "rest") fd_Span_rest := F_Span_rest
  obtain ⟨fd_Span_has, F_Span_has⟩ := c.def_ 32 (d := dm_Span_has) rfl
  replace F_Span_has : FnM K "has" "Span.has" s_Span_has [] (He.ma K (He.ga K "Span") "has") fd_Span_has := F_Span_has
  obtain ⟨fd_Span_put, F_Span_put⟩ := c.def_ 33 (d := dm_Span_put) rfl
  replace F_Span_put : FnM K "put" "Span.put" s_Span_put [] (He.ma K (He.ga K "Span") "put") fd_Span_put := F_Span_put
  have cl_Span : ClT K 1 := ⟨He.cls_ok (c.fact 58 (f := .cls "Span") rfl), fun f hf => by
    rcases List.mem_cons.mp hf with z | hf
    · subst z; exact He.noat_ok (c.fact 60 (f := .noat "Span" "leads") rfl)
    cases hf⟩
  have Z : Blt mg := ⟨He.free_ok X G (c.fact 30 (f := .free "len") rfl), He.free_ok X G (c.fact 31 (f := .free "range") rfl), He.free_ok X G (c.fact 32 (f := .free "abs") rfl), He.free_ok X G (c.fact 33 (f := .free "int") rfl), He.free_ok X G (c.fact 34 (f := .free "list") rfl), He.free_ok X G (c.fact 35 (f := .free "tuple") rfl), He.free_ok X G (c.fact 36 (f := .free "all") rfl), He.free_ok X G (c.fact 37 (f := .free "any") rfl), He.free_ok X G (c.fact 38 (f := .free "str") rfl), He.free_ok X G (c.fact 39 (f := .free "sum") rfl), He.free_ok X G (c.fact 40 (f := .free "max") rfl), He.free_ok X G (c.fact 41 (f := .free "min") rfl), He.free_ok X G (c.fact 42 (f := .free "zip") rfl), He.free_ok X G (c.fact 43 (f := .free "enumerate") rfl), He.free_ok X G (c.fact 44 (f := .free "isinstance") rfl), He.free_ok X G (c.fact 45 (f := .free "sorted") rfl), He.free_ok X G (c.fact 46 (f := .free "reversed") rfl), He.free_ok X G (c.fact 47 (f := .free "bool") rfl), He.free_ok X G (c.fact 48 (f := .free "ValueError") rfl), He.free_ok X G (c.fact 49 (f := .free "ZeroDivisionError") rfl), He.free_ok X G (c.fact 50 (f := .free "dict") rfl)⟩
  have ckk : ckL K = true := ck
  unfold ckL at ckk
  obtain ⟨ckk, ck_3⟩ := He.ba ckk
  obtain ⟨ckk, ck_2⟩ := He.ba ckk
  obtain ⟨ckk, ck_1⟩ := He.ba ckk
  have Se : Seer P K := ⟨hP, ckk⟩
  have Er : ErrT K mg erL := erB_ok X G ck_3
  have g_HANDS : Cst mg K "HANDS" (.tuple [.str "we", .str "weather"]) := cst_tup (He.glo_ok X G (c.fact 51 (f := .glo "HANDS") rfl)) ck_1 (fun H => .cons (.str _) (.cons (.str _) .nil))
  have g_MOST_LOWER : Cst mg K "MOST_LOWER" (.int 20) := cst_int (He.int_ok X G (c.fact 52 (f := .int "MOST_LOWER" 20) rfl))
  have g_MOST_ROWS : Cst mg K "MOST_ROWS" (.int 3) := cst_int (He.int_ok X G (c.fact 53 (f := .int "MOST_ROWS" 3) rfl))
  have g_MOST_STORES : Cst mg K "MOST_STORES" (.int 5) := cst_int (He.int_ok X G (c.fact 54 (f := .int "MOST_STORES" 5) rfl))
  have g_MOST_UPPER : Cst mg K "MOST_UPPER" (.int 999) := cst_int (He.int_ok X G (c.fact 55 (f := .int "MOST_UPPER" 999) rfl))
  have g_NOUGHT : Cst mg K "NOUGHT" (encR 0) := cst_tup (He.glo_ok X G (c.fact 56 (f := .glo "NOUGHT") rfl)) ck_2 (fun H => .cons (.int _) (.cons (.int _) .nil))
  cases hfa.symm.trans m_law
  refine ⟨fd_law, fun s v => FunD.bindsA (ps := ["_law_script"]) F_law (fun _ _ _ _ _ _ us hl => match us, hl with | [_], _ => rfl) s [v] rfl, fun base _ _ => ?_⟩
  have G__law_numbers : FnOk P w K mg base CX0 41 _ fd__law_numbers ["_law_script", "_law_many"] (spA K [] Rnumbers) := ok__law_numbers F__law_numbers Z
  have c__law_numbers := cal_mk (x := "_law_numbers") G__law_numbers m__law_numbers F__law_numbers.kp (F__law_numbers.bindsN (ps := ["_law_script", "_law_many"]) (fun _ _ _ _ _ _ us hl => match us, hl with | [_, _], _ => rfl))
  have G__law_part : FnOk P w K mg base (L2N.CX P w) 41 _ fd__law_part ["_law_up", "_law_down"] (spZ K [] .no d__law_part) := ok__law_part F__law_part Z Se
  have c__law_part : CalX P w K mg base 41 "_law_part" ["_law_up", "_law_down"] [] (spZ K [] .no d__law_part) := calX_mk G__law_part m__law_part F__law_part.kp (F__law_part.bindsN (ps := ["_law_up", "_law_down"]) (fun _ _ _ _ _ _ us hl => match us, hl with | [_, _], _ => rfl))
  have G__law_share : FnOk P w K mg base (L2N.CX P w) 42 _ fd__law_share ["_law_number"] (spZ K [] .no d__law_share) := ok__law_share F__law_share Z c__law_part
  have c__law_share : CalX P w K mg base 42 "_law_share" ["_law_number"] [] (spZ K [] .no d__law_share) := calX_mk G__law_share m__law_share F__law_share.kp (F__law_share.bindsN (ps := ["_law_number"]) (fun _ _ _ _ _ _ us hl => match us, hl with | [_], _ => rfl))
  have G__law_beside : FnOk P w K mg base (L2N.CX P w) 43 _ fd__law_beside ["_law_d", "_law_book"] (spZ K [] .no d__law_beside) := ok__law_beside F__law_beside Z c__law_share
  have c__law_beside : CalX P w K mg base 43 "_law_beside" ["_law_d", "_law_book"] [] (spZ K [] .no d__law_beside) := calX_mk G__law_beside m__law_beside F__law_beside.kp (F__law_beside.bindsN (ps := ["_law_d", "_law_book"]) (fun _ _ _ _ _ _ us hl => match us, hl with | [_, _], _ => rfl))
  have G__law_filling : FnOk P w K mg base (L2N.CX P w) 42 _ fd__law_filling ["_law_d", "_law_many"] (spZ K [] .yes d__law_filling) := ok__law_filling F__law_filling Z c__law_part
  have c__law_filling : CalX P w K mg base 42 "_law_filling" ["_law_d", "_law_many"] [] (spZ K [] .yes d__law_filling) := calX_mk G__law_filling m__law_filling F__law_filling.kp (F__law_filling.bindsN (ps := ["_law_d", "_law_many"]) (fun _ _ _ _ _ _ us hl => match us, hl with | [_, _], _ => rfl))
  have G__law_choices : FnOk P w K mg base (L2N.CX P w) 41 _ fd__law_choices ["_law_book"] (spZ K [] .no d__law_choices) := ok__law_choices F__law_choices Z
  have c__law_choices : CalX P w K mg base 41 "_law_choices" ["_law_book"] [] (spZ K [] .no d__law_choices) := calX_mk G__law_choices m__law_choices F__law_choices.kp (F__law_choices.bindsN (ps := ["_law_book"]) (fun _ _ _ _ _ _ us hl => match us, hl with | [_], _ => rfl))
  have G_need_hand : FnOk P w K mg base (L2N.CX P w) 41 _ fd_need_hand ["hand"] (spZ K [] .no d_need_hand) := ok_need_hand F_need_hand Z g_HANDS Er
  have c_need_hand : CalX P w K mg base 41 "need_hand" ["hand"] [] (spZ K [] .no d_need_hand) := calX_mk G_need_hand m_need_hand F_need_hand.kp (F_need_hand.bindsN (ps := ["hand"]) (fun _ _ _ _ _ _ us hl => match us, hl with | [_], _ => rfl))
  have G_is_share : FnOk P w K mg base (L2N.CX P w) 41 _ fd_is_share ["one"] (spZ K [] .no d_is_share) := ok_is_share F_is_share Z g_MOST_UPPER g_MOST_LOWER
  have c_is_share : CalX P w K mg base 41 "is_share" ["one"] [] (spZ K [] .no d_is_share) := calX_mk G_is_share m_is_share F_is_share.kp (F_is_share.bindsN (ps := ["one"]) (fun _ _ _ _ _ _ us hl => match us, hl with | [_], _ => rfl))
  have G_look : FnOk P w K mg base (L2N.CX P w) 42 _ fd_look ["menus"] (spZ K [] .no d_look) := ok_look F_look Z g_MOST_STORES g_MOST_ROWS Er c_need_hand c_is_share
  have c_look : CalX P w K mg base 42 "look" ["menus"] [] (spZ K [] .no d_look) := calX_mk G_look m_look F_look.kp (F_look.bindsN (ps := ["menus"]) (fun _ _ _ _ _ _ us hl => match us, hl with | [_], _ => rfl))
  have G_need_filling : FnOk P w K mg base (L2N.CX P w) 41 _ fd_need_filling ["many", "filling"] (spZ K [] .no d_need_filling) := ok_need_filling F_need_filling Z Er
  have c_need_filling : CalX P w K mg base 41 "need_filling" ["many", "filling"] [] (spZ K [] .no d_need_filling) := calX_mk G_need_filling m_need_filling F_need_filling.kp (F_need_filling.bindsN (ps := ["many", "filling"]) (fun _ _ _ _ _ _ us hl => match us, hl with | [_, _], _ => rfl))
  have G_need_both : FnOk P w K mg base (L2N.CX P w) 43 _ fd_need_both ["one", "other", "counts"] (spZ K [] .no d_need_both) := ok_need_both F_need_both Z Er c_look c_need_filling
  have c_need_both : CalX P w K mg base 43 "need_both" ["one", "other", "counts"] [] (spZ K [] .no d_need_both) := calX_mk G_need_both m_need_both F_need_both.kp (F_need_both.bindsN (ps := ["one", "other", "counts"]) (fun _ _ _ _ _ _ us hl => match us, hl with | [_, _, _], _ => rfl))
  have G_all_plans : FnOk P w K mg base (L2N.CX P w) 41 _ fd_all_plans ["menus", "stores"] (spZ K [] .yes d_all_plans) := ok_all_plans F_all_plans Z
  have c_all_plans : CalX P w K mg base 41 "all_plans" ["menus", "stores"] [] (spZ K [] .yes d_all_plans) := calX_mk G_all_plans m_all_plans F_all_plans.kp (F_all_plans.bindsN (ps := ["menus", "stores"]) (fun _ _ _ _ _ _ us hl => match us, hl with | [_, _], _ => rfl))
  have G_common : FnOk P w K mg base (L2N.CX P w) 41 _ fd_common ["one", "other"] (spZ K [] .no d_common) := ok_common F_common Z
  have c_common : CalX P w K mg base 41 "common" ["one", "other"] [] (spZ K [] .no d_common) := calX_mk G_common m_common F_common.kp (F_common.bindsN (ps := ["one", "other"]) (fun _ _ _ _ _ _ us hl => match us, hl with | [_, _], _ => rfl))
  have G_part : FnOk P w K mg base (L2N.CX P w) 42 _ fd_part ["upper", "lower"] (spZ K [] .no d_part) := ok_part F_part Z Se Er c_common
  have c_part : CalX P w K mg base 42 "part" ["upper", "lower"] [] (spZ K [] .no d_part) := calX_mkD G_part m_part F_part.kp (FunD.binds1 F_part 2 1 (by first | decide | exact List.cons_ne_nil _ _) (by first | decide | rfl) (fun _ _ _ _ _ _ _ us its hu hi => match us, its, hu, hi with | [_, _], [_], _, _ => ⟨_, rfl, rfl⟩))
  have G_plus : FnOk P w K mg base (L2N.CX P w) 43 _ fd_plus ["one", "other"] (spZ K [] .no d_plus) := ok_plus F_plus Z c_part
  have c_plus : CalX P w K mg base 43 "plus" ["one", "other"] [] (spZ K [] .no d_plus) := calX_mk G_plus m_plus F_plus.kp (F_plus.bindsN (ps := ["one", "other"]) (fun _ _ _ _ _ _ us hl => match us, hl with | [_, _], _ => rfl))
  have G_times : FnOk P w K mg base (L2N.CX P w) 43 _ fd_times ["one", "other"] (spZ K [] .no d_times) := ok_times F_times Z c_part
  have c_times : CalX P w K mg base 43 "times" ["one", "other"] [] (spZ K [] .no d_times) := calX_mk G_times m_times F_times.kp (F_times.bindsN (ps := ["one", "other"]) (fun _ _ _ _ _ _ us hl => match us, hl with | [_, _], _ => rfl))
  have G_row_by : FnOk P w K mg base (L2N.CX P w) 44 _ fd_row_by ["row", "table"] (spZ K [] .no d_row_by) := ok_row_by F_row_by Z g_NOUGHT c_plus c_times
  have c_row_by : CalX P w K mg base 44 "row_by" ["row", "table"] [] (spZ K [] .no d_row_by) := calX_mk G_row_by m_row_by F_row_by.kp (F_row_by.bindsN (ps := ["row", "table"]) (fun _ _ _ _ _ _ us hl => match us, hl with | [_, _], _ => rfl))
  have G_taken : FnOk P w K mg base (L2N.CX P w) 41 _ fd_taken ["menus", "choice"] (spZ K [] .yes d_taken) := ok_taken F_taken Z
  have c_taken : CalX P w K mg base 41 "taken" ["menus", "choice"] [] (spZ K [] .yes d_taken) := calX_mk G_taken m_taken F_taken.kp (F_taken.bindsN (ps := ["menus", "choice"]) (fun _ _ _ _ _ _ us hl => match us, hl with | [_, _], _ => rfl))
  have G_over : FnOk P w K mg base (L2N.CX P w) 43 _ fd_over ["one", "other"] (spZ K [] .no d_over) := ok_over F_over Z Er c_part
  have c_over : CalX P w K mg base 43 "over" ["one", "other"] [] (spZ K [] .no d_over) := calX_mk G_over m_over F_over.kp (F_over.bindsN (ps := ["one", "other"]) (fun _ _ _ _ _ _ us hl => match us, hl with | [_, _], _ => rfl))
  have G_less : FnOk P w K mg base (L2N.CX P w) 43 _ fd_less ["one", "other"] (spZ K [] .no d_less) := ok_less F_less Z c_part
  have c_less : CalX P w K mg base 43 "less" ["one", "other"] [] (spZ K [] .no d_less) := calX_mk G_less m_less F_less.kp (F_less.bindsN (ps := ["one", "other"]) (fun _ _ _ _ _ _ us hl => match us, hl with | [_, _], _ => rfl))
  have G_Span_rest : FnOk P w K mg base (L2N.CX P w) 44 _ fd_Span_rest ["self", "row"] (spRO K [] 1 .yes d_Span_rest) := ok_Span_rest F_Span_rest Z cl_Span g_NOUGHT c_less c_times
  have c_Span_rest : MetX P w K mg base 44 1 "rest" ["self", "row"] (spRO K [] 1 .yes d_Span_rest) := ⟨⟨_, _, G_Span_rest, He.meth_ok (c.fact 61 (f := .meth "Span" "rest") rfl), F_Span_rest.bindsN (ps := ["self", "row"]) (fun _ _ _ _ _ _ us hl => match us, hl with | [_, _], _ => rfl)⟩, by decide +kernel⟩
  have G_Span_put : FnOk P w K mg base (L2N.CX P w) 45 _ fd_Span_put ["self", "row"] (spW K [] 1 f_Span_put) := ok_Span_put F_Span_put Z cl_Span c_Span_rest g_NOUGHT c_over
  have c_Span_put : MetX P w K mg base 45 1 "put" ["self", "row"] (spW K [] 1 f_Span_put) := ⟨⟨_, _, G_Span_put, He.meth_ok (c.fact 63 (f := .meth "Span" "put") rfl), F_Span_put.bindsN (ps := ["self", "row"]) (fun _ _ _ _ _ _ us hl => match us, hl with | [_, _], _ => rfl)⟩, by decide +kernel⟩
  have G_Span___init__ : FnOk P w K mg base (L2N.CX P w) 41 _ fd_Span___init__ ["self"] (spW K [] 1 f_Span___init__) := ok_Span___init__ F_Span___init__ Z cl_Span
  have mk_Span : MakC P w K mg base 41 1 ["self"] (spW K [] 1 fun p fs ds => roCalm (f_Span___init__ p fs ds)) := ⟨⟨_, _, fnOk_calm spW_calm G_Span___init__, He.mkr_ok (c.fact 59 (f := .mkr "Span") rfl), F_Span___init__.bindsN (ps := ["self"]) (fun _ _ _ _ _ _ us hl => match us, hl with | [_], _ => rfl)⟩, He.glo_ok X G (c.fact 57 (f := .glo "Span") rfl)⟩
  have G_alike : FnOk P w K mg base (L2N.CX P w) 46 _ fd_alike ["one", "other", "counts"] (spZ K [] .no d_alike) := ok_alike F_alike Z cl_Span c_Span_put mk_Span c_need_both c_all_plans c_row_by c_taken
  have c_alike : CalX P w K mg base 46 "alike" ["one", "other", "counts"] [] (spZ K [] .no d_alike) := calX_mk G_alike m_alike F_alike.kp (F_alike.bindsN (ps := ["one", "other", "counts"]) (fun _ _ _ _ _ _ us hl => match us, hl with | [_, _, _], _ => rfl))
  have G__law_untold_alike : FnOk P w K mg base (L2N.CX P w) 47 _ fd__law_untold_alike ["_law_book", "_law_counts_now", "_law_shares_now"] (spZ K [] .no d__law_untold_alike) := ok__law_untold_alike F__law_untold_alike Z c_alike
  have c__law_untold_alike : CalX P w K mg base 47 "_law_untold_alike" ["_law_book", "_law_counts_now", "_law_shares_now"] [] (spZ K [] .no d__law_untold_alike) := calX_mk G__law_untold_alike m__law_untold_alike F__law_untold_alike.kp (F__law_untold_alike.bindsN (ps := ["_law_book", "_law_counts_now", "_law_shares_now"]) (fun _ _ _ _ _ _ us hl => match us, hl with | [_, _, _], _ => rfl))
  have G__law_times : FnOk P w K mg base (L2N.CX P w) 42 _ fd__law_times ["_law_this", "_law_that"] (spZ K [] .no d__law_times) := ok__law_times F__law_times Z c__law_part
  have c__law_times : CalX P w K mg base 42 "_law_times" ["_law_this", "_law_that"] [] (spZ K [] .no d__law_times) := calX_mk G__law_times m__law_times F__law_times.kp (F__law_times.bindsN (ps := ["_law_this", "_law_that"]) (fun _ _ _ _ _ _ us hl => match us, hl with | [_, _], _ => rfl))
  have G__law_menus : FnOk P w K mg base (L2N.CX P w) 43 _ fd__law_menus ["_law_d", "_law_upto"] (spZ K [] .no d__law_menus) := ok__law_menus F__law_menus Z c__law_share c__law_times
  have c__law_menus : CalX P w K mg base 43 "_law_menus" ["_law_d", "_law_upto"] [] (spZ K [] .no d__law_menus) := calX_mk G__law_menus m__law_menus F__law_menus.kp (F__law_menus.bindsN (ps := ["_law_d", "_law_upto"]) (fun _ _ _ _ _ _ us hl => match us, hl with | [_, _], _ => rfl))
  have G__law_lone_ones : FnOk P w K mg base (L2N.CX P w) 44 _ fd__law_lone_ones ["_law_d"] (spZ K [] .no d__law_lone_ones) := ok__law_lone_ones F__law_lone_ones Z c__law_menus
  have c__law_lone_ones : CalX P w K mg base 44 "_law_lone_ones" ["_law_d"] [] (spZ K [] .no d__law_lone_ones) := calX_mk G__law_lone_ones m__law_lone_ones F__law_lone_ones.kp (F__law_lone_ones.bindsN (ps := ["_law_d"]) (fun _ _ _ _ _ _ us hl => match us, hl with | [_], _ => rfl))
  have G__law_plus : FnOk P w K mg base (L2N.CX P w) 42 _ fd__law_plus ["_law_this", "_law_that"] (spZ K [] .no d__law_plus) := ok__law_plus F__law_plus Z c__law_part
  have c__law_plus : CalX P w K mg base 42 "_law_plus" ["_law_this", "_law_that"] [] (spZ K [] .no d__law_plus) := calX_mk G__law_plus m__law_plus F__law_plus.kp (F__law_plus.bindsN (ps := ["_law_this", "_law_that"]) (fun _ _ _ _ _ _ us hl => match us, hl with | [_, _], _ => rfl))
  have G__law_sum : FnOk P w K mg base (L2N.CX P w) 43 _ fd__law_sum ["_law_line", "_law_some"] (spZ K [] .no d__law_sum) := ok__law_sum F__law_sum Z c__law_plus c__law_times
  have c__law_sum : CalX P w K mg base 43 "_law_sum" ["_law_line", "_law_some"] [] (spZ K [] .no d__law_sum) := calX_mk G__law_sum m__law_sum F__law_sum.kp (F__law_sum.bindsN (ps := ["_law_line", "_law_some"]) (fun _ _ _ _ _ _ us hl => match us, hl with | [_, _], _ => rfl))
  have G__law_told_sums : FnOk P w K mg base (L2N.CX P w) 44 _ fd__law_told_sums ["_law_books", "_law_counts_now", "_law_ways", "_law_store"] (spZ K [] .yes d__law_told_sums) := ok__law_told_sums F__law_told_sums Z c__law_sum
  have c__law_told_sums : CalX P w K mg base 44 "_law_told_sums" ["_law_books", "_law_counts_now", "_law_ways", "_law_store"] [] (spZ K [] .yes d__law_told_sums) := calX_mk G__law_told_sums m__law_told_sums F__law_told_sums.kp (F__law_told_sums.bindsN (ps := ["_law_books", "_law_counts_now", "_law_ways", "_law_store"]) (fun _ _ _ _ _ _ us hl => match us, hl with | [_, _, _, _], _ => rfl))
  have G__law_none_shorter : FnOk P w K mg base (L2N.CX P w) 45 _ fd__law_none_shorter ["_law_books", "_law_counts_now", "_law_many", "_law_all_ways"] (spZ K [] .no d__law_none_shorter) := ok__law_none_shorter F__law_none_shorter Z c__law_told_sums
  have c__law_none_shorter : CalX P w K mg base 45 "_law_none_shorter" ["_law_books", "_law_counts_now", "_law_many", "_law_all_ways"] [] (spZ K [] .no d__law_none_shorter) := calX_mk G__law_none_shorter m__law_none_shorter F__law_none_shorter.kp (F__law_none_shorter.bindsN (ps := ["_law_books", "_law_counts_now", "_law_many", "_law_all_ways"]) (fun _ _ _ _ _ _ us hl => match us, hl with | [_, _, _, _], _ => rfl))
  exact ok_law F_law Z c__law_numbers c__law_beside c__law_filling c__law_choices c__law_untold_alike c__law_menus c__law_lone_ones c_alike c__law_told_sums c__law_none_shorter c__law_share
end Lw
open PySem PySem.W PySem.Calls PyProof.Rows
set_option maxRecDepth 100000 in
set_option maxHeartbeats 0 in
theorem PySem.Challenge.cw_lullworks_k32_whole_alike_for_ever_or_pa_holds : PySem.Challenge.rw_lullworks_k32_whole_alike_for_ever_or_pa.Holds := by
  w_on; o_law
  refine HandSHeadRun.head_any (r := OpenLaw.row PySem.Challenge.rw_lullworks_k32_whole_alike_for_ever_or_pa) (q := view (OpenLaw.row PySem.Challenge.rw_lullworks_k32_whole_alike_for_ever_or_pa).prog [49]) (H := Lw.hkL) (ob := Lw.obL) (M := 14000) (loose := Lw.looseL) (d := HandSHeadRun.topDef (OpenLaw.row PySem.Challenge.rw_lullworks_k32_whole_alike_for_ever_or_pa).prog 49) (kwd := []) Lw.obL_eq
    (by kernel_rfl) (fun s => by kernel_rfl) Lw.runL (by kernel_rfl) (by kernel_rfl) (by kernel_rfl) (by rfl) (by first | assumption | decide +kernel) (by decide +kernel) ⟨rfl, rfl, rfl, rfl, rfl, by decide +kernel⟩ ?hw ?hc
  case hw => w_witness2
  case hc =>
    refine L2.walk_ofE (l := PySem.Challenge.rw_lullworks_k32_whole_alike_for_ever_or_pa) (n := 63) (k := 48) (x := "_law_script") (CX := L2.CX0) rfl (by decide) (by kernel_rfl) ⟨rfl, by decide, by decide⟩ ?F (fun _ _ _ _ z => z)
    intro w mg fa h Y G hmg0
    obtain ⟨K, KX, c, ck⟩ := Y
    have hmg : mg ("law" : PySem.Str) = some (.ref fa) := by
      have e : (HandSHeadRun.topDef (OpenLaw.row PySem.Challenge.rw_lullworks_k32_whole_alike_for_ever_or_pa).prog 49).name = ("law" : PySem.Str) := by kernel_rfl
      rw [← e]
      exact hmg0
    obtain ⟨fd, hb, hF⟩ := Lw.factsL (P := (PySem.Challenge.rw_lullworks_k32_whole_alike_for_ever_or_pa).prog) (w := w) KX G hmg c rfl ck
    exact ⟨K, fd, Lw.spA K [] Lw.Rlaw, KX, hb, fun H a ns hl _ hS => Lw.law_wish hl hS (fun p hp => by cases hp), hF⟩
