import PyProof.Rows.All
import Wide.All
import OpenK.AllK
import Wide.FinOn
import HandS.Base
import HandS.Call
import HandS.List
import HandS.Comp
import HandS.Ends
import HandS.Dict
import HandS.Iter
import HandS.Text
import HandS.Words
import HandS.WordsList
import HandS.Lambda
import HandS.Defaults
import HandS.Wide
import HandS.HeadHook1
import HandS.TupAny
import HandS.IsInst
import HandS.NoneIn
import HandS.WordsExc
import HandS.Zip
import HandS.Hot
import HandS.HotCalls
import HandS.Zip0
import KE.GoesEnumKw
import KE.GoesMore
import HandS.HeadHook2
import PyProof.NoPylong
import PyProof.P3Eq
import HandS.Exc
import HandS.ExcOwn
import HandS.ExcIs
import HandS.CallSlots
import HandS.ExcCtx
import HandS.TryMany
import KE.KTryMore
import KE.GoesEnum
import HandS.MakeKwOnly
import KE.KStateDown
import HandS.More
import HandS.Head0
import HandS.Head1
import HandS.Head2
import HandS.HeadEnd
import HandS.HeadHook4
import HandS.EndTab
import HandS.NestedK
import HandS.TupMul
import HandS.Deep
import KE.KDictZip
import KE.KUnpackStar
import HandS.Flow
import HandS.Style
import HandS.Conv
import HandS.Walk
import HandS.CallLocal
import HandS.HeadHook3
import HandS.FStr
import HandS.RaiseMore
import PyProof.StrBlock2
import HandS.ExcInit
import HandS.ExcField
import KE.KExcInit
import PySem.Challenge.RW_lullworks_k04_parts_as_texts
set_option Elab.async false
set_option linter.all false
set_option maxRecDepth 100000
set_option maxHeartbeats 4000000
set_option autoImplicit false
namespace Lw
open PySem L2

abbrev Tb := List (Addr × Str)

def isTbl : HO → Bool
  | .tbl _ => true
  | _ => false
def Kp (H H' : Hp) : Prop := ∀ b o, H b = some o → isTbl o = false → H' b = some o
theorem Kp.refl (H : Hp) : Kp H H := fun _ _ h _ => h
theorem Kp.trans {H H1 H2 : Hp} (a : Kp H H1) (b : Kp H1 H2) : Kp H H2 := fun c o h n => b c o (a c o h n) n
def Fresh (H : Hp) (p : Addr) : Prop := ∀ o, H p = some o → isTbl o = true
theorem Fresh.of {H : Hp} {p : Addr} (h : H p = none) : Fresh H p := fun o e => by rw [h] at e; cases e
theorem Fresh.back {H H' : Hp} {p : Addr} (h : Fresh H' p) (e : Kp H H') : Fresh H p := fun o q => by
  cases t : isTbl o with
  | true => rfl
  | false => exact (h o (e p o q t)).symm.trans t |>.symm
theorem Kp.sql {K : PySem.W.Frag} {H H' : Hp} {a : Addr} {xs : List V} (e : Kp H H') (h : SqL K H a xs) : SqL K H' a xs := by
  rcases h with (h | ⟨o, h⟩) | h
  · exact .inl (.inl (e _ _ h rfl))
  · exact .inl (.inr ⟨o, e _ _ h rfl⟩)
  · exact .inr h
theorem Kp.sqt {K : PySem.W.Frag} {H H' : Hp} {a : Addr} {xs : List V} (e : Kp H H') (h : SqT K H a xs) : SqT K H' a xs := by
  rcases h with (h | ⟨o, h⟩) | h
  · exact .inl (.inl (e _ _ h rfl))
  · exact .inl (.inr ⟨o, e _ _ h rfl⟩)
  · exact .inr h
def kD : Key → PyData
  | .inl i => .int i
  | .inr x => .str x
def dctD (es : List (Key × PyData)) : List (PyData × PyData) := es.map fun p => (kD p.1, p.2)
mutual
inductive Dt (K : PySem.W.Frag) (H : Hp) : V → PyData → Prop
  | non : Dt K H .non .none
  | bl (b : Bool) : Dt K H (.bl b) (.bool b)
  | int (i : Int) : Dt K H (.int i) (.int i)
  | str (x : Str) : Dt K H (.str x) (.str x)
  | lst {a : Addr} {xs : List V} {ds : List PyData} : H a = some (.lst xs) → DtAll K H xs ds → Dt K H (.ref a) (.list ds)
  | tup {a : Addr} {xs : List V} {ds : List PyData} : SqT K H a xs → DtAll K H xs ds → Dt K H (.ref a) (.tuple ds)
  | dct {a : Addr} {kvs : List (Key × V)} {es : List (Key × PyData)} : H a = some (.dK kvs) → kvs.map (·.1) = es.map (·.1) → DtAll K H (kvs.map (·.2)) (es.map (·.2)) → Dt K H (.ref a) (.dict (dctD es))
inductive DtAll (K : PySem.W.Frag) (H : Hp) : List V → List PyData → Prop
  | nil : DtAll K H [] []
  | cons {v : V} {vs : List V} {d : PyData} {ds : List PyData} : Dt K H v d → DtAll K H vs ds → DtAll K H (v :: vs) (d :: ds)
end
section
variable {K : PySem.W.Frag} {H : Hp}
mutual
theorem dt_dp : ∀ (d : PyData) (v : V), d.canLay0 = true → Dt K H v d → Dp K H v d
  | .none, v, _, h => by cases h; exact .non
  | .bool b, v, _, h => by cases h; exact .bl b
  | .int i, v, _, h => by cases h; exact .int i
  | .str x, v, _, h => by cases h; exact .str x
  | .list ds, v, c, h => by
    cases h with
    | lst hs ha => exact .lst (SqL.of hs) (dt_dpAll ds _ c ha)
  | .tuple ds, v, c, h => by
    cases h with
    | tup hs ha => exact .tup hs (dt_dpAll ds _ c ha)
  | .dict kvs, v, c, h => by cases c
theorem dt_dpAll : ∀ (ds : List PyData) (vs : List V), PyData.canLayAll0 ds = true → DtAll K H vs ds → DpAll K H vs ds
  | [], vs, _, h => by cases h; exact .nil
  | d :: ds, vs, c, h => by
    have c : (d.canLay0 && PyData.canLayAll0 ds) = true := c
    rw [Bool.and_eq_true] at c
    cases h with
    | cons h1 h2 => exact .cons (dt_dp d _ c.1 h1) (dt_dpAll ds _ c.2 h2)
end
end
section
variable {K : PySem.W.Frag} {H H' : Hp}
theorem dp_kp (e : Kp H H') (d : PyData) (v : V) (h : Dt K H v d) : Dt K H' v d :=
  Dt.rec (motive_1 := fun v d _ => Dt K H' v d) (motive_2 := fun vs ds _ => DtAll K H' vs ds) .non .bl .int .str (fun hs _ ih => .lst (e _ _ hs rfl) ih) (fun hs _ ih => .tup (e.sqt hs) ih) (fun hs hk _ ih => .dct (e _ _ hs rfl) hk ih) .nil (fun _ _ i1 i2 => .cons i1 i2) h
theorem dpAll_kp (e : Kp H H') (ds : List PyData) (vs : List V) (h : DtAll K H vs ds) : DtAll K H' vs ds :=
  DtAll.rec (motive_1 := fun v d _ => Dt K H' v d) (motive_2 := fun vs ds _ => DtAll K H' vs ds) .non .bl .int .str (fun hs _ ih => .lst (e _ _ hs rfl) ih) (fun hs _ ih => .tup (e.sqt hs) ih) (fun hs hk _ ih => .dct (e _ _ hs rfl) hk ih) .nil (fun _ _ i1 i2 => .cons i1 i2) h
end
theorem Dt.kp {K : PySem.W.Frag} {H H' : Hp} {v : V} {d : PyData} (h : Dt K H v d) (e : Kp H H') : Dt K H' v d := dp_kp e d v h
theorem DtAll.kp {K : PySem.W.Frag} {H H' : Hp} {vs : List V} {ds : List PyData} (h : DtAll K H vs ds) (e : Kp H H') : DtAll K H' vs ds := dpAll_kp e ds vs h
section
variable {K : PySem.W.Frag} {H : Hp}
theorem DtAll.len : ∀ {vs : List V} {ds : List PyData}, DtAll K H vs ds → vs.length = ds.length := by
  intro vs
  induction vs with
  | nil => intro ds h; cases h; rfl
  | cons v vs ih => intro ds h; cases h with | cons h1 h2 => rw [List.length_cons, List.length_cons, ih h2]
theorem DtAll.get : ∀ {vs : List V} {ds : List PyData} {i : Nat} {d : PyData}, DtAll K H vs ds → ds[i]? = some d → ∃ v, vs[i]? = some v ∧ Dt K H v d := by
  intro vs
  induction vs with
  | nil => intro ds i d h e; cases h; simp at e
  | cons v vs ih =>
    intro ds i d h e
    cases h with
    | cons h1 h2 =>
      cases i with
      | zero => exact ⟨v, rfl, by cases e; exact h1⟩
      | succ i => exact ih h2 e
theorem DtAll.app : ∀ {vs ws : List V} {ds es : List PyData}, DtAll K H vs ds → DtAll K H ws es → DtAll K H (vs ++ ws) (ds ++ es) := by
  intro vs
  induction vs with
  | nil => intro ws ds es h1 h2; cases h1; exact h2
  | cons v vs ih => intro ws ds es h1 h2; cases h1 with | cons a b => exact .cons a (ih b h2)
theorem DtAll.take : ∀ {vs : List V} {ds : List PyData} (n : Nat), DtAll K H vs ds → DtAll K H (vs.take n) (ds.take n) := by
  intro vs
  induction vs with
  | nil => intro ds n h; cases h; simp; exact .nil
  | cons v vs ih =>
    intro ds n h
    cases h with
    | cons a b =>
      cases n with
      | zero => exact .nil
      | succ n => exact .cons a (ih n b)
theorem DtAll.drop : ∀ {vs : List V} {ds : List PyData} (n : Nat), DtAll K H vs ds → DtAll K H (vs.drop n) (ds.drop n) := by
  intro vs
  induction vs with
  | nil => intro ds n h; cases h; simp; exact .nil
  | cons v vs ih =>
    intro ds n h
    cases h with
    | cons a b =>
      cases n with
      | zero => exact .cons a b
      | succ n => exact ih n b
theorem DtAll.set : ∀ {vs : List V} {ds : List PyData} {v : V} {d : PyData} (n : Nat), DtAll K H vs ds → Dt K H v d → DtAll K H (vs.set n v) (ds.set n d) := by
  intro vs
  induction vs with
  | nil => intro ds v d n h1 h2; cases h1; simp; exact .nil
  | cons v vs ih =>
    intro ds w d n h h2
    cases h with
    | cons a b =>
      cases n with
      | zero => exact .cons h2 b
      | succ n => exact .cons a (ih n b h2)
theorem DtAll.cut {vs : List V} {ds : List PyData} (h : DtAll K H vs ds) (lo hi : Option Int) : DtAll K H (cutV vs lo hi) ((ds.drop (HT.sIx ds.length 0 lo)).take (HT.sIx ds.length ds.length hi - HT.sIx ds.length 0 lo)) := by
  unfold cutV
  rw [h.len]
  exact (h.drop _).take _
theorem DtAll.ints : ∀ {ns : List Int}, DtAll K H (ns.map V.int) (ns.map PyData.int) := by
  intro ns
  induction ns with
  | nil => exact .nil
  | cons n ns ih => exact .cons (.int n) ih
theorem DtAll.bls_inv : ∀ {ns : List Bool} {vs : List V}, DtAll K H vs (ns.map PyData.bool) → vs = ns.map V.bl := by
  intro ns
  induction ns with
  | nil => intro vs h; cases h; rfl
  | cons n ns ih => intro vs h; cases h with | cons a b => cases a; rw [ih b]; rfl
theorem DtAll.strs_inv : ∀ {ns : List Str} {vs : List V}, DtAll K H vs (ns.map PyData.str) → vs = ns.map V.str := by
  intro ns
  induction ns with
  | nil => intro vs h; cases h; rfl
  | cons n ns ih => intro vs h; cases h with | cons a b => cases a; rw [ih b]; rfl
end

structure Ext (T : Tb) (H H' : Hp) : Prop where
  kp : Kp H H'
  tb : LamX.Tabs T H → LamX.Tabs T H'
theorem Ext.refl (T : Tb) (H : Hp) : Ext T H H := ⟨.refl H, id⟩
theorem Ext.trans {T : Tb} {H H1 H2 : Hp} (a : Ext T H H1) (b : Ext T H1 H2) : Ext T H H2 := ⟨a.kp.trans b.kp, fun h => b.tb (a.tb h)⟩
theorem Ext.full {T : Tb} {H H' : Hp} (e : ∀ b o, H b = some o → H' b = some o) : Ext T H H' := ⟨fun b o h _ => e b o h, fun t => t.ext e⟩
theorem Ext.new {T : Tb} {H : Hp} {p : Addr} {o : HO} (h : H p = none) : Ext T H (upd H p o) := Ext.full fun b u e => by
  rw [upd_ne (ne_of_none e h)]
  exact e
def mutO : HO → Bool
  | .lst _ => true
  | .dK _ => true
  | .ins _ _ _ => true
  | _ => false
theorem mutO.nt {o : HO} (h : mutO o = true) : isTbl o = false := by cases o <;> first | rfl | cases h
theorem tabs_mut {T : Tb} {H : Hp} {p : Addr} {o o' : HO} (h : H p = some o) (hm : mutO o = true) (t : LamX.Tabs T H) : LamX.Tabs T (upd H p o') := by
  intro q hq
  obtain ⟨ps, h1, h2, h3⟩ := t q hq
  refine ⟨ps, ?_, h2, fun pos cv hc => ?_⟩
  · rw [upd_ne (fun z => by rw [z, h] at h1; cases h1; cases hm)]
    exact h1
  · obtain ⟨c, e, hc'⟩ := h3 pos cv hc
    refine ⟨c, e, ?_⟩
    rw [upd_ne (fun z => by rw [z, h] at hc'; cases hc'; cases hm)]
    exact hc'
theorem tabs_lst {T : Tb} {H : Hp} {p : Addr} {xs ys : List V} (h : H p = some (.lst xs)) (t : LamX.Tabs T H) : LamX.Tabs T (upd H p (.lst ys)) := tabs_mut h rfl t

def hide (H : Hp) (S : List Addr) : Hp := fun a => if a ∈ S then none else match H a with
  | some o => if isTbl o then none else some o
  | none => none
theorem hide_some {H : Hp} {S : List Addr} {a : Addr} {o : HO} : hide H S a = some o ↔ a ∉ S ∧ H a = some o ∧ isTbl o = false := by
  unfold hide
  by_cases h : a ∈ S
  · simp [h]
  · cases e : H a with
    | none => simp [h]
    | some u =>
      cases t : isTbl u with
      | true =>
        simp only [h, if_false]
        constructor
        · intro z; simp [t] at z
        · intro z
          obtain ⟨_, z1, z2⟩ := z
          cases z1
          rw [t] at z2; cases z2
      | false =>
        simp only [h, if_false]
        constructor
        · intro z
          simp [t] at z
          subst z
          exact ⟨fun z => z, rfl, t⟩
        · intro z
          obtain ⟨_, z1, z2⟩ := z
          cases z1
          simp [t]
theorem hide_kp (H : Hp) (S : List Addr) : Kp (hide H S) H := fun b o h _ => (hide_some.mp h).2.1
theorem Kp.hide {H H' : Hp} (e : Kp H H') (S : List Addr) : Kp (hide H S) (hide H' S) := fun b o h n => by
  obtain ⟨h1, h2, h3⟩ := hide_some.mp h
  exact hide_some.mpr ⟨h1, e b o h2 h3, h3⟩
theorem hide_sub {H : Hp} {S S' : List Addr} (h : ∀ a, a ∈ S' → a ∈ S) : Kp (hide H S) (hide H S') := fun b o e n => by
  obtain ⟨h1, h2, h3⟩ := hide_some.mp e
  exact hide_some.mpr ⟨fun z => h1 (h b z), h2, h3⟩
theorem hide_mem {H : Hp} {S : List Addr} {p : Addr} (h : p ∈ S) : hide H S p = none := by
  unfold hide; simp [h]
theorem hide_upd {H : Hp} {S : List Addr} {p : Addr} {o : HO} (h : p ∈ S) : hide (upd H p o) S = hide H S := by
  funext a
  unfold hide
  by_cases e : a ∈ S
  · simp [e]
  · have ne : a ≠ p := fun z => e (z ▸ h)
    simp only [e, if_false]
    rw [upd_ne ne]
theorem hide_none {H : Hp} {S : List Addr} {p : Addr} (h : Fresh H p) : hide H S p = none := by
  cases e : hide H S p with
  | none => rfl
  | some o =>
    obtain ⟨_, h2, h3⟩ := hide_some.mp e
    rw [h o h2] at h3; cases h3
theorem hide_new {H : Hp} {S : List Addr} {p : Addr} {o : HO} (h : Fresh H p) : hide (upd H p o) (p :: S) = hide H S := by
  funext a
  by_cases e : a = p
  · subst e
    rw [hide_none h]
    exact hide_mem (List.mem_cons_self ..)
  · unfold hide
    rw [upd_ne e]
    simp [e]
def Lsts (H : Hp) (S : List Addr) : Prop := ∀ q ∈ S, ∃ o, H q = some o ∧ mutO o = true
theorem Lsts.kp {H H' : Hp} {S : List Addr} (l : Lsts H S) (e : Kp H H') : Lsts H' S := fun q hq => let ⟨o, h, m⟩ := l q hq; ⟨o, e q _ h (mutO.nt m), m⟩
theorem Lsts.not {H : Hp} {S : List Addr} {p : Addr} (l : Lsts H S) (h : Fresh H p) : p ∉ S := fun hp => by
  obtain ⟨o, e, m⟩ := l p hp
  exact Bool.false_ne_true ((mutO.nt m).symm.trans (h _ e))
theorem hide_at {H : Hp} {S : List Addr} {p : Addr} {o : HO} (l : Lsts H S) (h : Fresh H p) (n : isTbl o = false) : hide (upd H p o) S p = some o :=
  hide_some.mpr ⟨l.not h, upd_same, n⟩

inductive Ob where
  | lst (ds : List PyData)
  | dct (es : List (Key × PyData))
inductive ObD (K : PySem.W.Frag) (H : Hp) : HO → Ob → Prop
  | lst {xs : List V} {ds : List PyData} : DtAll K H xs ds → ObD K H (.lst xs) (.lst ds)
  | dct {kvs : List (Key × V)} {es : List (Key × PyData)} : kvs.map (·.1) = es.map (·.1) → DtAll K H (kvs.map (·.2)) (es.map (·.2)) → ObD K H (.dK kvs) (.dct es)
theorem ObD.kp {K : PySem.W.Frag} {H H' : Hp} {u : HO} {o : Ob} (h : ObD K H u o) (e : Kp H H') : ObD K H' u o := by
  cases h with
  | lst h => exact .lst (h.kp e)
  | dct h1 h2 => exact .dct h1 (h2.kp e)
def obV : Ob → PyData
  | .lst ds => .list ds
  | .dct es => .dict (dctD es)
theorem ObD.dt {K : PySem.W.Frag} {H : Hp} {u : HO} {o : Ob} {p : Addr} (h1 : H p = some u) (h : ObD K H u o) : Dt K H (.ref p) (obV o) := by
  cases h with
  | lst h => exact .lst h1 h
  | dct h2 h3 => exact .dct h1 h2 h3
theorem ObD.mut {K : PySem.W.Frag} {H : Hp} {u : HO} {o : Ob} (h : ObD K H u o) : mutO u = true := by cases h <;> rfl
theorem ObD.nt {K : PySem.W.Frag} {H : Hp} {u : HO} {o : Ob} (h : ObD K H u o) : isTbl u = false := mutO.nt h.mut
def LsT (T : Tb) (H : Hp) (S : List Addr) : Prop := Lsts H S ∧ LamX.Tabs T H
theorem LsT.not {T : Tb} {H : Hp} {S : List Addr} {p : Addr} (l : LsT T H S) (h : Fresh H p) : p ∉ S := l.1.not h
inductive Fd where
  | dat (d : PyData)
  | own (o : Ob)
def clNm : Nat → Str
  | 0 => "Board"
  | 1 => "Span"
  | 2 => "Works"
  | _ => "Desk"
def clFs : Nat → List Str
  | 0 => ["scale", "wide", "lines", "basis"]
  | 1 => ["leads"]
  | 2 => ["now", "past", "later", "working"]
  | _ => ["own"]
structure Oj where
  tg : Nat
  ad : Option Addr
  fs : List Fd
inductive Slot where
  | no
  | dat (d : PyData)
  | own (o : Ob)
  | scr (ds : List PyData)
  | raw (v : V)
  | rob (o : Oj)
  | obj (o : Oj)
def Slot.ol : Slot → Bool
  | .rob _ => true
  | .obj _ => true
  | _ => false
inductive FdR (K : PySem.W.Frag) (H0 B : Hp) : List V → List Fd → Prop
  | nil : FdR K H0 B [] []
  | dat {v : V} {d : PyData} {vs : List V} {fs : List Fd} : Dt K B v d → FdR K H0 B vs fs → FdR K H0 B (v :: vs) (.dat d :: fs)
  | own {q : Addr} {u : HO} {o : Ob} {vs : List V} {fs : List Fd} : H0 q = some u → ObD K B u o → FdR K H0 B vs fs → FdR K H0 B (.ref q :: vs) (.own o :: fs)
inductive FdO (K : PySem.W.Frag) (H0 H : Hp) (S : List Addr) : List V → List Fd → Prop
  | nil : FdO K H0 H S [] []
  | dat {v : V} {d : PyData} {vs : List V} {fs : List Fd} : Dt K (hide H S) v d → FdO K H0 H S vs fs → FdO K H0 H S (v :: vs) (.dat d :: fs)
  | own {q : Addr} {u : HO} {o : Ob} {vs : List V} {fs : List Fd} : q ∈ S → Fresh H0 q → H q = some u → ObD K (hide H S) u o → FdO K H0 H S vs fs → FdO K H0 H S (.ref q :: vs) (.own o :: fs)
def ownRefs : List V → List Fd → List Addr
  | .ref q :: vs, .own _ :: fs => q :: ownRefs vs fs
  | _ :: vs, _ :: fs => ownRefs vs fs
  | _, _ => []
theorem FdO.step {K : PySem.W.Frag} {H0 H H' : Hp} {S S' : List Addr} {vs : List V} {fs : List Fd} (h : FdO K H0 H S vs fs) (hk : Kp (hide H S) (hide H' S'))
    (hq : ∀ q ∈ ownRefs vs fs, (q ∈ S → q ∈ S') ∧ ∀ u, H q = some u → H' q = some u) : FdO K H0 H' S' vs fs := by
  induction h with
  | nil => exact .nil
  | dat d _ ih =>
    refine .dat (d.kp hk) (ih fun q m => hq q ?_)
    cases ‹V› <;> exact m
  | own a b c d _ ih => exact .own ((hq _ (List.mem_cons_self ..)).1 a) b ((hq _ (List.mem_cons_self ..)).2 _ c) (d.kp hk) (ih fun q m => hq q (List.mem_cons_of_mem _ m))
def Keeps (σ : St) (ρ : List Slot) (σ' : St) (ρ' : List Slot) : Prop := ∀ (i : Nat) (s : Slot), s.ol = true → ρ'[i]? = some s → ρ[i]? = some s ∧ σ'[i]? = σ[i]?
theorem Keeps.refl (σ : St) (ρ : List Slot) : Keeps σ ρ σ ρ := fun _ _ _ h => ⟨h, rfl⟩
theorem Keeps.set {σ : St} {ρ : List Slot} {i : Nat} {v : Option V} {s : Slot} (h : s.ol = false) : Keeps σ ρ (σ.set i v) (ρ.set i s) := fun j t ht e => by
  by_cases z : i = j
  · subst z
    have hl : i < ρ.length := by
      have := (List.getElem?_eq_some_iff.mp e).1
      rwa [List.length_set] at this
    rw [List.getElem?_set_self hl] at e
    cases e
    rw [h] at ht; cases ht
  · rw [List.getElem?_set_ne z] at e
    exact ⟨e, List.getElem?_set_ne z⟩
theorem Keeps.setR {σ : St} {ρ : List Slot} {i : Nat} {s : Slot} (h : s.ol = false) : Keeps σ ρ σ (ρ.set i s) := fun j t ht e => by
  by_cases z : i = j
  · subst z
    have hl : i < ρ.length := by
      have := (List.getElem?_eq_some_iff.mp e).1
      rwa [List.length_set] at this
    rw [List.getElem?_set_self hl] at e
    cases e
    rw [h] at ht; cases ht
  · rw [List.getElem?_set_ne z] at e
    exact ⟨e, rfl⟩
def Robs (K : PySem.W.Frag) (H0 : Hp) (C : List Addr) (σ : St) (ρ : List Slot) : Prop := ∀ (i : Nat) (o : Oj), ρ[i]? = some (.rob o) → ∃ p dx fvs, σ[i]? = some (some (.ref p)) ∧ H0 p = some (.ins (He.ga K (clNm o.tg)) dx ((clFs o.tg).zip fvs)) ∧ FdR K H0 (hide H0 C) fvs o.fs
theorem Robs.step {K : PySem.W.Frag} {H0 : Hp} {C : List Addr} {σ σ' : St} {ρ ρ' : List Slot} (r : Robs K H0 C σ ρ) (k : Keeps σ ρ σ' ρ') : Robs K H0 C σ' ρ' := fun i o h => by
  obtain ⟨h1, h2⟩ := k i _ rfl h
  obtain ⟨p, dx, fvs, a, b, c⟩ := r i o h1
  exact ⟨p, dx, fvs, h2.trans a, b, c⟩
def ObAt (K : PySem.W.Frag) (H0 H : Hp) (S : List Addr) (p : Addr) (o : Oj) : Prop := ∃ dx fvs, H p = some (.ins (He.ga K (clNm o.tg)) dx ((clFs o.tg).zip fvs)) ∧ p ∈ S ∧ Fresh H0 p ∧ FdO K H0 H S fvs o.fs ∧ (p :: ownRefs fvs o.fs).Nodup ∧ o.fs.length ≤ (clFs o.tg).length
theorem FdO.len {K : PySem.W.Frag} {H0 H : Hp} {S : List Addr} {vs : List V} {fs : List Fd} (h : FdO K H0 H S vs fs) : vs.length = fs.length := by
  induction h with
  | nil => rfl
  | dat _ _ ih => exact congrArg (· + 1) ih
  | own _ _ _ _ _ ih => exact congrArg (· + 1) ih
theorem zip_inj {α : Type} : ∀ {ns : List Str} {vs ws : List α}, vs.length ≤ ns.length → ws.length ≤ ns.length → ns.zip vs = ns.zip ws → vs = ws
  | [], [], [], _, _, _ => rfl
  | [], _ :: _, _, h, _, _ => by simp at h
  | [], _, _ :: _, _, h, _ => by simp at h
  | _ :: _, [], [], _, _, _ => rfl
  | _ :: _, [], _ :: _, _, _, h => by simp at h
  | _ :: _, _ :: _, [], _, _, h => by simp at h
  | _ :: ns, v :: vs, w :: ws, h1, h2, h => by
    simp only [List.zip_cons_cons, List.cons.injEq, Prod.mk.injEq, true_and] at h
    rw [h.1, zip_inj (Nat.le_of_succ_le_succ h1) (Nat.le_of_succ_le_succ h2) h.2]
def Foot (H : Hp) (σ : St) (ρ : List Slot) (i : Nat) (q : Addr) : Prop := ∃ (o : Oj) (p C dx : Addr) (fvs : List V), ρ[i]? = some (.obj o) ∧ σ[i]? = some (some (.ref p)) ∧ H p = some (.ins C dx ((clFs o.tg).zip fvs)) ∧ fvs.length = o.fs.length ∧ o.fs.length ≤ (clFs o.tg).length ∧ q ∈ p :: ownRefs fvs o.fs
structure Obs (K : PySem.W.Frag) (H0 H : Hp) (S : List Addr) (σ : St) (ρ : List Slot) : Prop where
  ob : ∀ (i : Nat) (o : Oj), ρ[i]? = some (.obj o) → ∃ p, σ[i]? = some (some (.ref p)) ∧ (∀ a, o.ad = some a → p = a) ∧ ObAt K H0 H S p o
  dj : ∀ (i j : Nat) (q : Addr), Foot H σ ρ i q → Foot H σ ρ j q → i = j
  dl : ∀ (i j : Nat) (q : Addr) (o : Ob), Foot H σ ρ i q → ρ[j]? = some (.own o) → σ[j]? = some (some (.ref q)) → False
theorem FdO.refs {K : PySem.W.Frag} {H0 H : Hp} {S : List Addr} {vs : List V} {fs : List Fd} (h : FdO K H0 H S vs fs) : ∀ q ∈ ownRefs vs fs, q ∈ S ∧ Fresh H0 q ∧ ∃ u o, H q = some u ∧ ObD K (hide H S) u o := by
  induction h with
  | nil => intro q m; cases m
  | dat d _ ih => intro q m; exact ih q (by cases ‹V› <;> exact m)
  | own a b c d _ ih =>
    intro q m
    rcases List.mem_cons.mp m with z | z
    · subst z; exact ⟨a, b, _, _, c, d⟩
    · exact ih q z
theorem Obs.at_ {K : PySem.W.Frag} {H0 H : Hp} {S : List Addr} {σ : St} {ρ : List Slot} (g : Obs K H0 H S σ ρ) {i : Nat} {q : Addr} (f : Foot H σ ρ i q) : ∃ o p dx fvs, ρ[i]? = some (.obj o) ∧ σ[i]? = some (some (.ref p)) ∧ H p = some (.ins (He.ga K (clNm o.tg)) dx ((clFs o.tg).zip fvs)) ∧ p ∈ S ∧ Fresh H0 p ∧ FdO K H0 H S fvs o.fs ∧ q ∈ p :: ownRefs fvs o.fs := by
  obtain ⟨o, p, C, dx, fvs, h1, h2, h3, h5, h6, h4⟩ := f
  obtain ⟨p', a, _, dx', fvs', b, c, d, e, n, l⟩ := g.ob i o h1
  rw [h2] at a; cases a
  rw [h3] at b
  injection b with b
  injection b with b1 b2 b3
  have e3 := zip_inj (by rw [h5]; exact l) (by rw [e.len]; exact l) b3
  subst e3 b1 b2
  exact ⟨o, p, dx, fvs, h1, h2, h3, c, d, e, h4⟩
theorem Obs.foot {K : PySem.W.Frag} {H0 H : Hp} {S : List Addr} {σ : St} {ρ : List Slot} (g : Obs K H0 H S σ ρ) {i : Nat} {q : Addr} (f : Foot H σ ρ i q) : q ∈ S ∧ Fresh H0 q ∧ ∃ u, H q = some u ∧ mutO u = true := by
  obtain ⟨o, p, dx, fvs, h1, h2, h3, c, d, e, h4⟩ := g.at_ f
  rcases List.mem_cons.mp h4 with z | z
  · subst z; exact ⟨c, d, _, h3, rfl⟩
  · obtain ⟨x, y, u, w, v1, v2⟩ := e.refs q z
    exact ⟨x, y, u, v1, v2.mut⟩
theorem Obs.fnt {K : PySem.W.Frag} {H0 H : Hp} {S : List Addr} {σ : St} {ρ : List Slot} (g : Obs K H0 H S σ ρ) {i : Nat} {q : Addr} {u : HO} (f : Foot H σ ρ i q) (h : H q = some u) : isTbl u = false := by
  obtain ⟨_, _, u', h', m⟩ := g.foot f
  rw [h] at h'; cases h'; exact mutO.nt m
theorem Obs.step {K : PySem.W.Frag} {H0 H H' : Hp} {S S' : List Addr} {σ σ' : St} {ρ ρ' : List Slot} (g : Obs K H0 H S σ ρ) (k : Keeps σ ρ σ' ρ') (hk : Kp (hide H S) (hide H' S'))
    (hH : ∀ i q u, Foot H σ ρ i q → H q = some u → H' q = some u) (hS : ∀ i q, Foot H σ ρ i q → q ∈ S → q ∈ S')
    (hl : ∀ (i j : Nat) (q : Addr) (o : Ob), ρ'[j]? = some (.own o) → σ'[j]? = some (some (.ref q)) → Foot H σ ρ i q → False) : Obs K H0 H' S' σ' ρ' := by
  have back : ∀ i q, Foot H' σ' ρ' i q → Foot H σ ρ i q := fun i q f => by
    obtain ⟨o, p, C, dx, fvs, h1, h2, h3, h5, h6, h4⟩ := f
    obtain ⟨k1, k2⟩ := k i _ rfl h1
    obtain ⟨p', a, _, dx', fvs', b, c, d, e, n, l⟩ := g.ob i o k1
    rw [← k2, h2] at a; cases a
    have := hH i p _ ⟨o, p, _, dx', fvs', k1, k2.symm.trans h2, b, e.len, l, List.mem_cons_self ..⟩ b
    rw [h3] at this
    injection this with this
    injection this with b1 b2 b3
    have e3 := zip_inj (by rw [h5]; exact l) (by rw [e.len]; exact l) b3
    subst e3 b1 b2
    exact ⟨o, p, _, dx, fvs, k1, k2.symm.trans h2, b, h5, h6, h4⟩
  refine ⟨fun i o h => ?_, fun i j q a b => g.dj i j q (back i q a) (back j q b), fun i j q o a b c => hl i j q o b c (back i q a)⟩
  obtain ⟨k1, k2⟩ := k i _ rfl h
  obtain ⟨p, a, ad, dx, fvs, b, c, d, e, n, l⟩ := g.ob i o k1
  have ft : ∀ q, q ∈ p :: ownRefs fvs o.fs → Foot H σ ρ i q := fun q m => ⟨o, p, _, dx, fvs, k1, a, b, e.len, l, m⟩
  exact ⟨p, k2.trans a, ad, dx, fvs, hH i p _ (ft p (List.mem_cons_self ..)) b, hS i p (ft p (List.mem_cons_self ..)) c, d,
    e.step hk (fun q m => ⟨hS i q (ft q (List.mem_cons_of_mem _ m)), fun u hu => hH i q u (ft q (List.mem_cons_of_mem _ m)) hu⟩), n, l⟩
theorem Obs.none {K : PySem.W.Frag} {H0 H : Hp} {S : List Addr} {σ : St} {ρ : List Slot} (h : ∀ (i : Nat) (o : Oj), ρ[i]? ≠ some (.obj o)) : Obs K H0 H S σ ρ :=
  ⟨fun i o e => (h i o e).elim, fun i j q ⟨o, _, _, _, _, a, _⟩ => (h i o a).elim, fun i j q o ⟨o', _, _, _, _, a, _⟩ => (h i o' a).elim⟩
structure Gd (K : PySem.W.Frag) (T : Tb) (H0 B : Hp) (C : List Addr) (H : Hp) (S : List Addr) (σ : St) (ρ : List Slot) : Prop where
  ext : Ext T H0 H
  vis : Kp B H
  bno : ∀ b o, B b = some o → isTbl o = false
  hid : ∀ p ∈ S, B p = none
  lst : Lsts H S
  sub : ∀ c ∈ C, c ∈ S
  cl : LsT T H0 C
  len : σ.length = ρ.length
  dat : ∀ (i : Nat) (d : PyData), ρ[i]? = some (.dat d) → ∃ v, σ[i]? = some (some v) ∧ Dt K (hide H S) v d
  scr : ∀ (i : Nat) (ds : List PyData), ρ[i]? = some (.scr ds) → ∃ a xs, σ[i]? = some (some (.ref a)) ∧ SqL K (hide H S) a xs ∧ DtAll K (hide H S) xs ds
  own : ∀ (i : Nat) (o : Ob), ρ[i]? = some (.own o) → ∃ p u, σ[i]? = some (some (.ref p)) ∧ p ∈ S ∧ Fresh H0 p ∧ H p = some u ∧ ObD K (hide H S) u o
  raw : ∀ (i : Nat) (v : V), ρ[i]? = some (.raw v) → σ[i]? = some (some v)
  sep : ∀ (i j : Nat) (ds es : Ob) (p : Addr), ρ[i]? = some (.own ds) → ρ[j]? = some (.own es) → σ[i]? = some (some (.ref p)) → σ[j]? = some (some (.ref p)) → i = j
  rob : Robs K H0 C σ ρ
  hc : ∀ q ∈ S, q ∈ C ∨ Fresh H0 q
  obs : Obs K H0 H S σ ρ
def Good (K : PySem.W.Frag) (T : Tb) (H0 B : Hp) (C : List Addr) (ρ : List Slot) (σ : St) (H : Hp) : Prop := ∃ S, Gd K T H0 B C H S σ ρ
section
variable {K : PySem.W.Frag} {T : Tb} {H0 B : Hp} {C : List Addr} {H H' : Hp} {S : List Addr} {σ : St} {ρ : List Slot}
theorem Gd.ex (g : Gd K T H0 B C H S σ ρ) (e : Ext T H H') : Gd K T H0 B C H' S σ ρ where
  ext := g.ext.trans e
  vis := g.vis.trans e.kp
  bno := g.bno
  hid := g.hid
  lst := g.lst.kp e.kp
  sub := g.sub
  cl := g.cl
  len := g.len
  dat := fun i d h => let ⟨v, h1, h2⟩ := g.dat i d h; ⟨v, h1, h2.kp (e.kp.hide S)⟩
  scr := fun i ds h => let ⟨a, xs, h1, h2, h3⟩ := g.scr i ds h; ⟨a, xs, h1, (e.kp.hide S).sql h2, h3.kp (e.kp.hide S)⟩
  own := fun i ds h => let ⟨p, xs, h1, h2, h3, h4, h5⟩ := g.own i ds h; ⟨p, xs, h1, h2, h3, e.kp p _ h4 h5.nt, h5.kp (e.kp.hide S)⟩
  raw := g.raw
  sep := g.sep
  rob := g.rob
  hc := g.hc
  obs := g.obs.step (.refl σ ρ) (e.kp.hide S) (fun i q u f h => e.kp q u h (mutO.nt (by
    obtain ⟨_, _, u', h', m⟩ := g.obs.foot f
    rw [h] at h'; cases h'; exact m))) (fun _ _ _ h => h) (fun i j q o a b f => g.obs.dl i j q o f a b)
theorem Gd.lsT (g : Gd K T H0 B C H S σ ρ) (e : Ext T H H') : LsT T H' S := ⟨g.lst.kp e.kp, e.tb (g.ext.tb g.cl.2)⟩
theorem Gd.see (g : Gd K T H0 B C H S σ ρ) : Kp B (hide H S) := fun b o h n => hide_some.mpr ⟨fun z => (by rw [g.hid b z] at h; cases h), g.vis b o h n, n⟩
theorem Gd.set (g : Gd K T H0 B C H S σ ρ) {i : Nat} {v : V} {d : PyData} (h : Dt K (hide H S) v d) : Gd K T H0 B C H S (σ.set i (some v)) (ρ.set i (.dat d)) where
  ext := g.ext
  vis := g.vis
  bno := g.bno
  hid := g.hid
  lst := g.lst
  sub := g.sub
  cl := g.cl
  len := by rw [List.length_set, List.length_set]; exact g.len
  dat := fun j d' e => by
    by_cases z : i = j
    · subst z
      have hl : i < ρ.length := by
        have := (List.getElem?_eq_some_iff.mp e).1
        rwa [List.length_set] at this
      rw [List.getElem?_set_self hl] at e
      cases e
      exact ⟨v, List.getElem?_set_self (g.len ▸ hl), h⟩
    · rw [List.getElem?_set_ne z] at e ⊢
      exact g.dat j d' e
  scr := fun j ds e => by
    by_cases z : i = j
    · subst z
      have hl : i < ρ.length := by
        have := (List.getElem?_eq_some_iff.mp e).1
        rwa [List.length_set] at this
      rw [List.getElem?_set_self hl] at e
      cases e
    · rw [List.getElem?_set_ne z] at e ⊢
      exact g.scr j ds e
  own := fun j ds e => by
    by_cases z : i = j
    · subst z
      have hl : i < ρ.length := by
        have := (List.getElem?_eq_some_iff.mp e).1
        rwa [List.length_set] at this
      rw [List.getElem?_set_self hl] at e
      cases e
    · rw [List.getElem?_set_ne z] at e ⊢
      exact g.own j ds e
  raw := fun j ds e => by
    by_cases z : i = j
    · subst z
      have hl : i < ρ.length := by
        have := (List.getElem?_eq_some_iff.mp e).1
        rwa [List.length_set] at this
      rw [List.getElem?_set_self hl] at e
      cases e
    · rw [List.getElem?_set_ne z] at e ⊢
      exact g.raw j ds e
  sep := fun a b ds es p ha hb sa sb => by
    have za : i ≠ a := fun z => by
      subst z
      have hl : i < ρ.length := by
        have := (List.getElem?_eq_some_iff.mp ha).1
        rwa [List.length_set] at this
      rw [List.getElem?_set_self hl] at ha
      cases ha
    have zb : i ≠ b := fun z => by
      subst z
      have hl : i < ρ.length := by
        have := (List.getElem?_eq_some_iff.mp hb).1
        rwa [List.length_set] at this
      rw [List.getElem?_set_self hl] at hb
      cases hb
    rw [List.getElem?_set_ne za] at ha sa
    rw [List.getElem?_set_ne zb] at hb sb
    exact g.sep a b ds es p ha hb sa sb
  rob := g.rob.step (.set rfl)
  hc := g.hc
  obs := g.obs.step (.set rfl) (.refl _) (fun _ _ _ _ h => h) (fun _ _ _ h => h) (fun a b q o ha hb f => by
    have zb : i ≠ b := fun z => by
      subst z
      have hl : i < ρ.length := by
        have := (List.getElem?_eq_some_iff.mp ha).1
        rwa [List.length_set] at this
      rw [List.getElem?_set_self hl] at ha
      cases ha
    rw [List.getElem?_set_ne zb] at ha hb
    exact g.obs.dl a b q o f ha hb)
inductive Le : List Slot → List Slot → Prop
  | nil : Le [] []
  | no {s : Slot} {a b : List Slot} : Le a b → Le (.no :: a) (s :: b)
  | eq {s : Slot} {a b : List Slot} : Le a b → Le (s :: a) (s :: b)
theorem Le.len {a b : List Slot} (h : Le a b) : a.length = b.length := by
  induction h with
  | nil => rfl
  | no _ ih => exact congrArg (· + 1) ih
  | eq _ ih => exact congrArg (· + 1) ih
theorem Le.refl : ∀ a : List Slot, Le a a
  | [] => .nil
  | _ :: a => .eq (Le.refl a)
theorem Le.get {a b : List Slot} (h : Le a b) : ∀ {i : Nat} {s : Slot}, a[i]? = some s → s ≠ .no → b[i]? = some s := by
  induction h with
  | nil => intro i s e n; simp at e
  | no _ ih =>
    intro i s e n
    cases i with
    | zero => cases e; exact absurd rfl n
    | succ i => exact ih e n
  | eq _ ih =>
    intro i s e n
    cases i with
    | zero => exact e
    | succ i => exact ih e n
theorem Gd.weak {ρ' : List Slot} (g : Gd K T H0 B C H S σ ρ) (l : Le ρ' ρ) : Gd K T H0 B C H S σ ρ' where
  ext := g.ext
  vis := g.vis
  bno := g.bno
  hid := g.hid
  lst := g.lst
  sub := g.sub
  cl := g.cl
  len := g.len.trans l.len.symm
  dat := fun i d e => g.dat i d (l.get e (fun z => by cases z))
  scr := fun i d e => g.scr i d (l.get e (fun z => by cases z))
  own := fun i d e => g.own i d (l.get e (fun z => by cases z))
  raw := fun i d e => g.raw i d (l.get e (fun z => by cases z))
  sep := fun i j ds es p hi hj => g.sep i j ds es p (l.get hi (fun z => by cases z)) (l.get hj (fun z => by cases z))
  rob := g.rob.step (fun i s hs h => ⟨l.get h (fun z => by subst z; cases hs), rfl⟩)
  hc := g.hc
  obs := g.obs.step (fun i s hs h => ⟨l.get h (fun z => by subst z; cases hs), rfl⟩) (.refl _) (fun _ _ _ _ h => h) (fun _ _ _ h => h) (fun i j q o a b f => g.obs.dl i j q o f (l.get a (fun z => by cases z)) b)
theorem Good.weak {ρ' : List Slot} (g : Good K T H0 B C ρ σ H) (l : Le ρ' ρ) : Good K T H0 B C ρ' σ H := let ⟨S, g⟩ := g; ⟨S, g.weak l⟩
def Slot.view : Slot → Slot
  | .no => .no
  | .dat d => .dat d
  | .own (.lst ds) => .dat (.list ds)
  | .own (.dct es) => .dat (.dict (dctD es))
  | .scr ds => .scr ds
  | .raw v => .raw v
  | .rob _ => .no
  | .obj _ => .no
theorem Slot.view_ol (s : Slot) : s.view.ol = false := by
  cases s with
  | own o => cases o <;> rfl
  | _ => rfl
theorem Gd.view (g : Gd K T H0 B C H S σ ρ) : Gd K T H0 (hide H0 (List.range 0)) [] H [] σ (ρ.map Slot.view) where
  ext := g.ext
  vis := (hide_kp _ _).trans g.ext.kp
  bno := fun b o h => (hide_some.mp h).2.2
  hid := fun p hp => by cases hp
  lst := fun q hq => by cases hq
  sub := fun c hc => by cases hc
  cl := ⟨fun c hc => (by cases hc), g.cl.2⟩
  len := by rw [List.length_map]; exact g.len
  dat := fun i d e => by
    rw [List.getElem?_map] at e
    cases h : ρ[i]? with
    | none => rw [h] at e; cases e
    | some s =>
      rw [h] at e
      cases s with
      | no => cases e
      | dat d' =>
        cases e
        obtain ⟨v, h1, h2⟩ := g.dat i _ h
        exact ⟨v, h1, h2.kp (hide_sub fun a ha => by cases ha)⟩
      | own ob =>
        cases ob with
        | dct es =>
          cases e
          obtain ⟨p, xs, h1, h2, h3, h4, h5⟩ := g.own i _ h
          cases h5 with
          | dct h5 h6 => exact ⟨_, h1, (.dct (hide_some.mpr ⟨fun z => (by cases z), h4, rfl⟩) h5 (h6.kp (hide_sub fun a ha => by cases ha)))⟩
        | lst ds =>
          cases e
          obtain ⟨p, xs, h1, h2, h3, h4, h5⟩ := g.own i _ h
          cases h5 with
          | lst h5 => exact ⟨_, h1, (.lst (hide_some.mpr ⟨fun z => (by cases z), h4, rfl⟩) (h5.kp (hide_sub fun a ha => by cases ha)))⟩
      | scr ds => cases e
      | raw v => cases e
      | rob v => cases e
      | obj v => cases e
  scr := fun i ds e => by
    rw [List.getElem?_map] at e
    cases h : ρ[i]? with
    | none => rw [h] at e; cases e
    | some s =>
      rw [h] at e
      cases s with
      | no => cases e
      | dat d' => cases e
      | own ob => cases ob <;> cases e
      | scr ds =>
        cases e
        obtain ⟨a, xs, h1, h2, h3⟩ := g.scr i _ h
        exact ⟨a, xs, h1, (hide_sub fun a ha => by cases ha).sql h2, h3.kp (hide_sub fun a ha => by cases ha)⟩
      | raw v => cases e
      | rob v => cases e
      | obj v => cases e
  raw := fun i v e => by
    rw [List.getElem?_map] at e
    cases h : ρ[i]? with
    | none => rw [h] at e; cases e
    | some s =>
      rw [h] at e
      cases s with
      | raw w => cases e; exact g.raw i _ h
      | no => cases e
      | dat d => cases e
      | own d => cases d <;> cases e
      | scr d => cases e
      | rob v => cases e
      | obj v => cases e
  own := fun i ds e => by
    rw [List.getElem?_map] at e
    cases h : ρ[i]? with
    | none => rw [h] at e; cases e
    | some s =>
      rw [h] at e
      cases s with
      | own d => cases d <;> cases e
      | no => cases e
      | dat d => cases e
      | scr d => cases e
      | raw d => cases e
      | rob v => cases e
      | obj v => cases e
  sep := fun i j ds es p e => by
    rw [List.getElem?_map] at e
    cases h : ρ[i]? with
    | none => rw [h] at e; cases e
    | some s =>
      rw [h] at e
      cases s with
      | own d => cases d <;> cases e
      | no => cases e
      | dat d => cases e
      | scr d => cases e
      | raw d => cases e
      | rob v => cases e
      | obj v => cases e
  rob := fun i o e => by
    rw [List.getElem?_map] at e
    cases h : ρ[i]? with
    | none => rw [h] at e; cases e
    | some s =>
      rw [h] at e
      have := s.view_ol
      rw [Option.some.inj e] at this
      cases this
  hc := fun q hq => by cases hq
  obs := .none fun i o e => by
    rw [List.getElem?_map] at e
    cases h : ρ[i]? with
    | none => rw [h] at e; cases e
    | some s =>
      rw [h] at e
      have := s.view_ol
      rw [Option.some.inj e] at this
      cases this
end
end Lw

set_option Elab.async false
set_option linter.all false
set_option maxRecDepth 100000
set_option maxHeartbeats 4000000
set_option autoImplicit false
namespace Lw
open PySem L2
section
variable (K : PySem.W.Frag) (T : Tb)
def Ev (te : TE) (ρ : List Slot) (d : PyData) : Prop := ∀ (H0 B : Hp) (C : List Addr) (H : Hp) (S : List Addr) (σ : St), Gd K T H0 B C H S σ ρ →
  ∀ Q : VK, (∀ v H2, Ext T H H2 → Dt K (hide H2 S) v d → Q v H2) → te σ H Q
def EvF (te : TE) (ρ : List Slot) (ds : List PyData) : Prop := ∀ (H0 B : Hp) (C : List Addr) (H : Hp) (S : List Addr) (σ : St), Gd K T H0 B C H S σ ρ →
  ∀ Q : VK, (∀ p xs H2, Ext T H H2 → Fresh H p → H2 p = some (.lst xs) → DtAll K (hide H2 (p :: S)) xs ds → Q (.ref p) H2) → te σ H Q
def EvT (tt : TT) (ρ : List Slot) (b : Bool) : Prop := ∀ (H0 B : Hp) (C : List Addr) (H : Hp) (S : List Addr) (σ : St), Gd K T H0 B C H S σ ρ →
  ∀ Q : Bool → Hp → Prop, (∀ H2, Ext T H H2 → Q b H2) → tt σ H Q
def EvA (ta : TA) (ρ : List Slot) (ds : List PyData) : Prop := ∀ (H0 B : Hp) (C : List Addr) (H : Hp) (S : List Addr) (σ : St), Gd K T H0 B C H S σ ρ →
  ∀ Q : List V → Hp → Prop, (∀ vs H2, Ext T H H2 → DtAll K (hide H2 S) vs ds → Q vs H2) → ta σ H Q
def EvP (to : TO) (ρ : List Slot) (o : Option Int) : Prop := ∀ (H0 B : Hp) (C : List Addr) (H : Hp) (S : List Addr) (σ : St), Gd K T H0 B C H S σ ρ →
  ∀ Q : Option Int → Hp → Prop, (∀ H2, Ext T H H2 → Q o H2) → to σ H Q
def RV (r : R2) (x y z : PyData) : Prop := ∀ (H : Hp) (S : List Addr) (v u : V), Lsts H S → Dt K (hide H S) v x → Dt K (hide H S) u y →
  ∀ Q : VK, (∀ w H2, Ext T H H2 → Dt K (hide H2 S) w z → Q w H2) → r v u H Q
def RVF (r : R2) (x y : PyData) (zs : List PyData) : Prop := ∀ (H : Hp) (S : List Addr) (v u : V), Lsts H S → Dt K (hide H S) v x → Dt K (hide H S) u y →
  ∀ Q : VK, (∀ p xs H2, Ext T H H2 → Fresh H p → H2 p = some (.lst xs) → DtAll K (hide H2 (p :: S)) xs zs → Q (.ref p) H2) → r v u H Q
def RU (r : V → Hp → VK → Prop) (x z : PyData) : Prop := ∀ (H : Hp) (S : List Addr) (v : V), Lsts H S → Dt K (hide H S) v x →
  ∀ Q : VK, (∀ w H2, Ext T H H2 → Dt K (hide H2 S) w z → Q w H2) → r v H Q
def RC (r : List V → Hp → VK → Prop) (xs : List PyData) (z : PyData) : Prop := ∀ (H : Hp) (S : List Addr) (vs : List V), Lsts H S → DtAll K (hide H S) vs xs →
  ∀ Q : VK, (∀ w H2, Ext T H H2 → Dt K (hide H2 S) w z → Q w H2) → r vs H Q
def RCF (r : List V → Hp → VK → Prop) (xs : List PyData) (zs : List PyData) : Prop := ∀ (H : Hp) (S : List Addr) (vs : List V), Lsts H S → DtAll K (hide H S) vs xs →
  ∀ Q : VK, (∀ p ys H2, Ext T H H2 → Fresh H p → H2 p = some (.lst ys) → DtAll K (hide H2 (p :: S)) ys zs → Q (.ref p) H2) → r vs H Q
def RS (r : V → Option Int → Option Int → Hp → VK → Prop) (x : PyData) (lo hi : Option Int) (z : PyData) : Prop := ∀ (H : Hp) (S : List Addr) (v : V), Lsts H S → Dt K (hide H S) v x →
  ∀ Q : VK, (∀ w H2, Ext T H H2 → Dt K (hide H2 S) w z → Q w H2) → r v lo hi H Q
def RSF (r : V → Option Int → Option Int → Hp → VK → Prop) (x : PyData) (lo hi : Option Int) (zs : List PyData) : Prop := ∀ (H : Hp) (S : List Addr) (v : V), Lsts H S → Dt K (hide H S) v x →
  ∀ Q : VK, (∀ p ys H2, Ext T H H2 → Fresh H p → H2 p = some (.lst ys) → DtAll K (hide H2 (p :: S)) ys zs → Q (.ref p) H2) → r v lo hi H Q
end
section
variable {K : PySem.W.Frag} {T : Tb} {ρ : List Slot} {te ta tb tc : TE} {t u : TT} {x y z d : PyData} {r : R2}
theorem EvF.ev {ds : List PyData} (h : EvF K T te ρ ds) : Ev K T te ρ (.list ds) := fun H0 B C H S σ g Q hQ =>
  h H0 B C H S σ g Q fun p xs H2 e hp h2 ha => hQ _ H2 e (.lst (hide_some.mpr ⟨g.lst.not hp, h2, rfl⟩) (ha.kp (hide_sub fun a m => List.mem_cons_of_mem _ m)))
theorem RVF.rv {zs : List PyData} (h : RVF K T r x y zs) : RV K T r x y (.list zs) := fun H S v w l dv dw Q hQ =>
  h H S v w l dv dw Q fun p xs H2 e hp h2 ha => hQ _ H2 e (.lst (hide_some.mpr ⟨l.not hp, h2, rfl⟩) (ha.kp (hide_sub fun a m => List.mem_cons_of_mem _ m)))
theorem RCF.rc {r : List V → Hp → VK → Prop} {xs zs : List PyData} (h : RCF K T r xs zs) : RC K T r xs (.list zs) := fun H S v l dv Q hQ =>
  h H S v l dv Q fun p xs H2 e hp h2 ha => hQ _ H2 e (.lst (hide_some.mpr ⟨l.not hp, h2, rfl⟩) (ha.kp (hide_sub fun a m => List.mem_cons_of_mem _ m)))
theorem RSF.rs {r : V → Option Int → Option Int → Hp → VK → Prop} {lo hi : Option Int} {zs : List PyData} (h : RSF K T r x lo hi zs) : RS K T r x lo hi (.list zs) := fun H S v l dv Q hQ =>
  h H S v l dv Q fun p xs H2 e hp h2 ha => hQ _ H2 e (.lst (hide_some.mpr ⟨l.not hp, h2, rfl⟩) (ha.kp (hide_sub fun a m => List.mem_cons_of_mem _ m)))
theorem ev_var {i : Nat} (h : ρ[i]? = some (.dat d)) : Ev K T (tVar i) ρ d := fun H0 B C H S σ g Q hQ => by
  obtain ⟨v, h1, h2⟩ := g.dat i d h
  exact ⟨v, h1, hQ v H (.refl T H) h2⟩
theorem ev_int {i : Int} : Ev K T (tC (.int i)) ρ (.int i) := fun H0 B C H S σ g Q hQ => hQ _ H (.refl T H) (.int i)
theorem ev_bl {i : Bool} : Ev K T (tC (.bl i)) ρ (.bool i) := fun H0 B C H S σ g Q hQ => hQ _ H (.refl T H) (.bl i)
theorem ev_str {i : Str} : Ev K T (tC (.str i)) ρ (.str i) := fun H0 B C H S σ g Q hQ => hQ _ H (.refl T H) (.str i)
theorem ev_non : Ev K T (tC .non) ρ .none := fun H0 B C H S σ g Q hQ => hQ _ H (.refl T H) .non
theorem ev_is {d' : PyData} (h : Ev K T te ρ d) (e : d = d') : Ev K T te ρ d' := e ▸ h
theorem ev_op (ha : Ev K T ta ρ x) (hb : Ev K T tb ρ y) (hr : RV K T r x y z) : Ev K T (tOp r ta tb) ρ z := fun H0 B C H S σ g Q hQ =>
  ha H0 B C H S σ g _ fun v H1 e1 d1 => hb H0 B C H1 S σ (g.ex e1) _ fun w H2 e2 d2 =>
    hr H2 S v w ((g.lst.kp e1.kp).kp e2.kp) (d1.kp (e2.kp.hide S)) d2 Q fun a H3 e3 d3 => hQ a H3 (e1.trans (e2.trans e3)) d3
theorem ef_op {zs : List PyData} (ha : Ev K T ta ρ x) (hb : Ev K T tb ρ y) (hr : RVF K T r x y zs) : EvF K T (tOp r ta tb) ρ zs := fun H0 B C H S σ g Q hQ =>
  ha H0 B C H S σ g _ fun v H1 e1 d1 => hb H0 B C H1 S σ (g.ex e1) _ fun w H2 e2 d2 =>
    hr H2 S v w ((g.lst.kp e1.kp).kp e2.kp) (d1.kp (e2.kp.hide S)) d2 Q fun p xs H3 e3 hp h3 d3 => hQ p xs H3 (e1.trans (e2.trans e3)) ((hp.back e2.kp).back e1.kp) h3 d3
theorem ev_un {r : V → Hp → VK → Prop} (ha : Ev K T ta ρ x) (hr : RU K T r x z) : Ev K T (tUn r ta) ρ z := fun H0 B C H S σ g Q hQ =>
  ha H0 B C H S σ g _ fun v H1 e1 d1 => hr H1 S v (g.lst.kp e1.kp) d1 Q fun a H3 e3 d3 => hQ a H3 (e1.trans e3) d3
theorem et_test {b : Bool} (h : Ev K T te ρ (.bool b)) : EvT K T (tTest te) ρ b := fun H0 B C H S σ g Q hQ =>
  h H0 B C H S σ g _ fun v H1 e1 d1 => by cases d1; exact ⟨b, rfl, hQ H1 e1⟩
theorem et_B {b : Bool} (h : Ev K T te ρ (.bool b)) : EvT K T (tB te) ρ b := fun H0 B C H S σ g Q hQ =>
  h H0 B C H S σ g _ fun v H1 e1 d1 => by cases d1; exact ⟨b, rfl, hQ H1 e1⟩
theorem et_and {a b : Bool} (h1 : EvT K T t ρ a) (h2 : a = true → EvT K T u ρ b) : EvT K T (tAnd t u) ρ (a && b) := fun H0 B C H S σ g Q hQ =>
  h1 H0 B C H S σ g _ fun H1 e1 => by
    cases a with
    | true => exact iteT (h2 rfl H0 B C H1 S σ (g.ex e1) _ fun H2 e2 => hQ H2 (e1.trans e2))
    | false => exact iteF (hQ H1 e1)
theorem et_or {a b : Bool} (h1 : EvT K T t ρ a) (h2 : a = false → EvT K T u ρ b) : EvT K T (tOr t u) ρ (a || b) := fun H0 B C H S σ g Q hQ =>
  h1 H0 B C H S σ g _ fun H1 e1 => by
    cases a with
    | true => exact iteT (hQ H1 e1)
    | false => exact iteF (h2 rfl H0 B C H1 S σ (g.ex e1) _ fun H2 e2 => hQ H2 (e1.trans e2))
theorem et_not {a : Bool} (h1 : EvT K T t ρ a) : EvT K T (tNot t) ρ (!a) := fun H0 B C H S σ g Q hQ => h1 H0 B C H S σ g _ fun H1 e1 => hQ H1 e1
theorem et_is {a b : Bool} (h : EvT K T t ρ a) (e : a = b) : EvT K T t ρ b := e ▸ h
theorem et_yes : EvT K T tYes ρ true := fun H0 B C H S σ g Q hQ => hQ H (.refl T H)
theorem ev_andV {a b : Bool} (h1 : Ev K T ta ρ (.bool a)) (h2 : a = true → Ev K T tb ρ (.bool b)) : Ev K T (tAndV ta tb) ρ (.bool (a && b)) := fun H0 B C H S σ g Q hQ =>
  h1 H0 B C H S σ g _ fun v H1 e1 d1 => by
    cases d1
    refine ⟨a, rfl, ?_⟩
    cases a with
    | true => exact iteT (h2 rfl H0 B C H1 S σ (g.ex e1) _ fun w H2 e2 d2 => hQ w H2 (e1.trans e2) d2)
    | false => exact iteF (hQ _ H1 e1 (.bl false))
theorem ev_orV {a b : Bool} (h1 : Ev K T ta ρ (.bool a)) (h2 : a = false → Ev K T tb ρ (.bool b)) : Ev K T (tOrV ta tb) ρ (.bool (a || b)) := fun H0 B C H S σ g Q hQ =>
  h1 H0 B C H S σ g _ fun v H1 e1 d1 => by
    cases d1
    refine ⟨a, rfl, ?_⟩
    cases a with
    | true => exact iteT (hQ _ H1 e1 (.bl true))
    | false => exact iteF (h2 rfl H0 B C H1 S σ (g.ex e1) _ fun w H2 e2 d2 => hQ w H2 (e1.trans e2) d2)
theorem ev_notV {a : Bool} (h1 : Ev K T ta ρ (.bool a)) : Ev K T (tNotV ta) ρ (.bool (!a)) := fun H0 B C H S σ g Q hQ =>
  h1 H0 B C H S σ g _ fun v H1 e1 d1 => by cases d1; exact ⟨a, rfl, hQ _ H1 e1 (.bl _)⟩
theorem ev_if {b : Bool} {d1 d2 : PyData} (h : EvT K T t ρ b) (h1 : b = true → Ev K T ta ρ d1) (h2 : b = false → Ev K T tb ρ d2) : Ev K T (tIf t ta tb) ρ (if b then d1 else d2) := fun H0 B C H S σ g Q hQ =>
  h H0 B C H S σ g _ fun H1 e1 => by
    cases b with
    | true => exact iteT (h1 rfl H0 B C H1 S σ (g.ex e1) _ fun w H2 e2 q2 => hQ w H2 (e1.trans e2) q2)
    | false => exact iteF (h2 rfl H0 B C H1 S σ (g.ex e1) _ fun w H2 e2 q2 => hQ w H2 (e1.trans e2) q2)
theorem ev_ifT {d1 : PyData} (h : EvT K T t ρ true) (h1 : Ev K T ta ρ d1) : Ev K T (tIf t ta tb) ρ d1 := fun H0 B C H S σ g Q hQ =>
  h H0 B C H S σ g _ fun H1 e1 => iteT (h1 H0 B C H1 S σ (g.ex e1) _ fun w H2 e2 q2 => hQ w H2 (e1.trans e2) q2)
theorem ev_ifF {d1 : PyData} (h : EvT K T t ρ false) (h1 : Ev K T tb ρ d1) : Ev K T (tIf t ta tb) ρ d1 := fun H0 B C H S σ g Q hQ =>
  h H0 B C H S σ g _ fun H1 e1 => iteF (h1 H0 B C H1 S σ (g.ex e1) _ fun w H2 e2 q2 => hQ w H2 (e1.trans e2) q2)
theorem ea_nil : EvA K T tNil ρ [] := fun H0 B C H S σ g Q hQ => hQ _ H (.refl T H) .nil
theorem ea_cons {tr : TA} {ds : List PyData} (h : Ev K T ta ρ x) (hr : EvA K T tr ρ ds) : EvA K T (tCons ta tr) ρ (x :: ds) := fun H0 B C H S σ g Q hQ =>
  h H0 B C H S σ g _ fun v H1 e1 d1 => hr H0 B C H1 S σ (g.ex e1) _ fun vs H2 e2 d2 => hQ _ H2 (e1.trans e2) (.cons (d1.kp (e2.kp.hide S)) d2)
theorem ev_tup {ta : TA} {ds : List PyData} (h : EvA K T ta ρ ds) (hl : ds.length ≤ 1000000) : Ev K T (tTup ta) ρ (.tuple ds) := fun H0 B C H S σ g Q hQ =>
  h H0 B C H S σ g _ fun vs H1 e1 d1 => ⟨Nat.le_trans (d1.len ▸ hl) (by decide), fun p hp => hQ _ _ (e1.trans (.new hp))
    (.tup (SqT.of (hide_at (g.lst.kp e1.kp) (.of hp) rfl)) (d1.kp ((Ext.new (T := T) hp).kp.hide S)))⟩
theorem ef_lst {ta : TA} {ds : List PyData} (h : EvA K T ta ρ ds) (hl : ds.length ≤ 1000000) : EvF K T (tLst ta) ρ ds := fun H0 B C H S σ g Q hQ =>
  h H0 B C H S σ g _ fun vs H1 e1 d1 => ⟨Nat.le_trans (d1.len ▸ hl) (by decide), fun p hp => hQ p vs _ (e1.trans (.new hp)) ((Fresh.of hp).back e1.kp) upd_same (by
    rw [hide_new (.of hp)]
    exact d1)⟩
theorem ev_lst {ta : TA} {ds : List PyData} (h : EvA K T ta ρ ds) (hl : ds.length ≤ 1000000) : Ev K T (tLst ta) ρ (.list ds) := (ef_lst h hl).ev
theorem ep_none : EvP K T tNoPart ρ none := fun H0 B C H S σ g Q hQ => hQ H (.refl T H)
theorem ep_some {i : Int} (h : Ev K T te ρ (.int i)) : EvP K T (tPart te) ρ (some i) := fun H0 B C H S σ g Q hQ =>
  h H0 B C H S σ g _ fun v H1 e1 d1 => by cases d1; exact ⟨i, rfl, hQ H1 e1⟩
theorem ev_sl {r : V → Option Int → Option Int → Hp → VK → Prop} {tl th : TO} {lo hi : Option Int} (h : Ev K T te ρ x) (h1 : EvP K T tl ρ lo) (h2 : EvP K T th ρ hi) (hr : RS K T r x lo hi z) : Ev K T (tSl r te tl th) ρ z := fun H0 B C H S σ g Q hQ =>
  h H0 B C H S σ g _ fun v H1 e1 d1 => h1 H0 B C H1 S σ (g.ex e1) _ fun H2 e2 => h2 H0 B C H2 S σ ((g.ex e1).ex e2) _ fun H3 e3 =>
    hr H3 S v (((g.lst.kp e1.kp).kp e2.kp).kp e3.kp) ((d1.kp (e2.kp.hide S)).kp (e3.kp.hide S)) Q fun a H4 e4 d4 => hQ a H4 (e1.trans (e2.trans (e3.trans e4))) d4
theorem ef_sl {r : V → Option Int → Option Int → Hp → VK → Prop} {tl th : TO} {lo hi : Option Int} {zs : List PyData} (h : Ev K T te ρ x) (h1 : EvP K T tl ρ lo) (h2 : EvP K T th ρ hi) (hr : RSF K T r x lo hi zs) : EvF K T (tSl r te tl th) ρ zs := fun H0 B C H S σ g Q hQ =>
  h H0 B C H S σ g _ fun v H1 e1 d1 => h1 H0 B C H1 S σ (g.ex e1) _ fun H2 e2 => h2 H0 B C H2 S σ ((g.ex e1).ex e2) _ fun H3 e3 =>
    hr H3 S v (((g.lst.kp e1.kp).kp e2.kp).kp e3.kp) ((d1.kp (e2.kp.hide S)).kp (e3.kp.hide S)) Q fun p xs H4 e4 hp h4 d4 => hQ p xs H4 (e1.trans (e2.trans (e3.trans e4))) (((hp.back e3.kp).back e2.kp).back e1.kp) h4 d4
theorem ev_cb {r : List V → Hp → VK → Prop} {ta : TA} {ds : List PyData} (h : EvA K T ta ρ ds) (hr : RC K T r ds z) : Ev K T (tCB r ta) ρ z := fun H0 B C H S σ g Q hQ =>
  h H0 B C H S σ g _ fun vs H1 e1 d1 => hr H1 S vs (g.lst.kp e1.kp) d1 Q fun a H2 e2 d2 => hQ a H2 (e1.trans e2) d2
theorem ef_cb {r : List V → Hp → VK → Prop} {ta : TA} {ds zs : List PyData} (h : EvA K T ta ρ ds) (hr : RCF K T r ds zs) : EvF K T (tCB r ta) ρ zs := fun H0 B C H S σ g Q hQ =>
  h H0 B C H S σ g _ fun vs H1 e1 d1 => hr H1 S vs (g.lst.kp e1.kp) d1 Q fun p xs H2 e2 hp h2 d2 => hQ p xs H2 (e1.trans e2) (hp.back e1.kp) h2 d2
def spR (K : PySem.W.Frag) (T : Tb) (R : List PyData → PyData → Prop) : Sp := fun vs H Q _ => ∃ ds r S, LsT T H S ∧ DtAll K (hide H S) vs ds ∧ R ds r ∧
  ∀ v H', Ext T H H' → Dt K (hide H' S) v r → Q v H'
theorem ev_call {R : List PyData → PyData → Prop} {ta : TA} {ds : List PyData} {E : XK} (h : EvA K T ta ρ ds) (hR : R ds z) : Ev K T (tCall (spR K T R) [] E ta) ρ z := fun H0 B C H S σ g Q hQ =>
  h H0 B C H S σ g _ fun vs H1 e1 d1 => ⟨ds, z, S, g.lsT e1, by rw [List.append_nil]; exact d1, hR, fun v H2 e2 d2 => hQ v H2 (e1.trans e2) d2⟩
def scalD : PyData → Bool
  | .list _ => false
  | .tuple _ => false
  | .dict _ => false
  | _ => true
theorem scal_any {H H' : Hp} {v : V} (hs : scalD d = true) (h : Dt K H v d) : Dt K H' v d := by
  cases h with
  | non => exact .non
  | bl b => exact .bl b
  | int i => exact .int i
  | str x => exact .str x
  | lst _ _ => cases hs
  | tup _ _ => cases hs
  | dct _ _ _ => cases hs
theorem ev_view (h : Ev K T te (ρ.map Slot.view) d) (hs : scalD d = true) : Ev K T te ρ d := fun H0 B C H S σ g Q hQ =>
  h H0 _ [] H [] σ g.view Q fun v H2 e2 d2 => hQ v H2 e2 (scal_any hs d2)
end

def rAddA (K : PySem.W.Frag) : R2 := fun x y H Q => rI0 (fun i j => .int (i + j)) x y H Q ∨ (∃ i j, x = .str i ∧ y = .str j ∧ i.length + j.length ≤ sizeLine ∧ Q (.str (i ++ j)) H) ∨ rCat x y H Q ∨ rCatA K x y H Q
theorem op_addA {X : Cx} : OpR X (binaryOp .Add) (rAddA X.K) := .or op_add (.or op_add_str (.or op_cat op_catA))
def rMulA : R2 := fun x y H Q => rI IntMulOk (fun i j => .int (i * j)) x y H Q ∨ rRep x y H Q
theorem op_mulX {X : Cx} : OpR X (binaryOp .Mult) (rI IntMulOk fun i j => .int (i * j)) := opI fun _ _ _ _ _ _ _ hc q => PyProof.Rows.mul_int q hc
theorem op_mulA {X : Cx} : OpR X (binaryOp .Mult) rMulA := .or op_mulX op_rep
def CFd (i j : Int) : Prop := j ≠ 0 ∧ Builtin.divisionGoesByPylong i j = false
theorem op_fdX {X : Cx} : OpR X (binaryOp .FloorDiv) (rI CFd fun i j => .int (i.fdiv j)) := opI fun _ _ _ _ _ _ _ hc q => PyProof.Rows.floordiv_int hc.1 q (.inl hc.2)
abbrev rSubA : R2 := rI0 fun i j => .int (i - j)
abbrev rFdA : R2 := rI CFd fun i j => .int (i.fdiv j)
abbrev rModA : R2 := rI (fun _ j => j ≠ 0) fun i j => .int (i.fmod j)
abbrev rPowA : R2 := rI CPow fun i j => .int (i ^ j.toNat)
abbrev rLtA : R2 := rI0 fun i j => .bl (decide (i < j))
abbrev rLeA : R2 := rI0 fun i j => .bl (decide (i ≤ j))
abbrev rGtA : R2 := rI0 fun i j => .bl (decide (j < i))
abbrev rGeA : R2 := rI0 fun i j => .bl (decide (j ≤ i))
abbrev rIsNA : R2 := fun x y H Q => y = .non ∧ Q (.bl (decide (x = .non))) H
abbrev rNotNA : R2 := fun x y H Q => y = .non ∧ Q (.bl (!decide (x = .non))) H
section
variable {K : PySem.W.Frag} {T : Tb} {x y z d : PyData} {i j : Int}
theorem rv_add : RV K T (rAddA K) (.int i) (.int j) (.int (i + j)) := fun H S v u l dv du Q hQ => by
  cases dv; cases du
  exact .inl ⟨i, j, rfl, rfl, hQ _ H (.refl T H) (.int _)⟩
theorem rv_addS {a b : Str} (hl : a.length + b.length ≤ 1000000) : RV K T (rAddA K) (.str a) (.str b) (.str (a ++ b)) := fun H S v u l dv du Q hQ => by
  cases dv; cases du
  exact .inr (.inl ⟨a, b, rfl, rfl, Nat.le_trans hl (by decide), hQ _ H (.refl T H) (.str _)⟩)
theorem hide_get {H : Hp} {S : List Addr} {a : Addr} {o : HO} (h : hide H S a = some o) : H a = some o := (hide_some.mp h).2.1
theorem rf_addL {xs ys : List PyData} (hl : xs.length + ys.length ≤ 1000000) : RVF K T (rAddA K) (.list xs) (.list ys) (xs ++ ys) := fun H S v u l dv du Q hQ => by
  cases dv with
  | lst h1 a1 =>
    cases du with
    | lst h2 a2 =>
      refine .inr (.inr (.inl ⟨_, _, _, _, rfl, rfl, hide_get h1, hide_get h2, by rw [a1.len, a2.len]; exact Nat.le_trans hl (by decide), fun p hp => ?_⟩))
      refine hQ p _ _ (.new hp) (.of hp) upd_same ?_
      rw [hide_new (.of hp)]
      exact a1.app a2
theorem sqt_hide {H : Hp} {S : List Addr} {a : Addr} {xs : List V} (h : SqT K (hide H S) a xs) : SqT K H a xs := (hide_kp H S).sqt h
theorem rv_addT {xs ys : List PyData} (hl : xs.length + ys.length ≤ 1000000) : RV K T (rAddA K) (.tuple xs) (.tuple ys) (.tuple (xs ++ ys)) := fun H S v u l dv du Q hQ => by
  cases dv with
  | tup h1 a1 =>
    cases du with
    | tup h2 a2 =>
      refine .inr (.inr (.inr ⟨_, _, _, _, rfl, rfl, sqt_hide h1, sqt_hide h2, by rw [a1.len, a2.len]; exact Nat.le_trans hl (by decide), fun e => ?_, fun e e2 => ?_, fun e e2 p hp => ?_⟩))
      · subst e
        cases a1
        exact hQ _ H (.refl T H) (.tup h2 a2)
      · subst e2
        cases a2
        rw [List.append_nil] at hQ
        exact hQ _ H (.refl T H) (.tup h1 a1)
      · exact hQ _ _ (.new hp) (.tup (SqT.of (hide_at l (.of hp) rfl)) ((a1.app a2).kp ((Ext.new (T := T) hp).kp.hide S)))
theorem rv_sub : RV K T rSubA (.int i) (.int j) (.int (i - j)) := fun H S v u l dv du Q hQ => by
  cases dv; cases du
  exact ⟨i, j, rfl, rfl, hQ _ H (.refl T H) (.int _)⟩
theorem rv_mul (h : IntMulOk i j) : RV K T rMulA (.int i) (.int j) (.int (i * j)) := fun H S v u l dv du Q hQ => by
  cases dv; cases du
  exact .inl ⟨i, j, rfl, rfl, h, hQ _ H (.refl T H) (.int _)⟩
theorem DtAll.rep {H : Hp} {vs : List V} {ds : List PyData} (h : DtAll K H vs ds) : ∀ n : Nat, DtAll K H (List.replicate n vs).flatten (List.replicate n ds).flatten
  | 0 => .nil
  | n + 1 => by
    rw [List.replicate_succ, List.replicate_succ, List.flatten_cons, List.flatten_cons]
    exact h.app (h.rep n)
theorem rf_rep {xs : List PyData} (h1 : -(2 ^ 63) ≤ j) (h2 : j < 2 ^ 63) (hl : xs.length * j.toNat ≤ 1000000) : RVF K T rMulA (.list xs) (.int j) (List.replicate j.toNat xs).flatten := fun H S v u l dv du Q hQ => by
  cases du
  cases dv with
  | lst h3 a1 =>
    refine .inr ⟨_, j, _, rfl, rfl, hide_get h3, h1, h2, by rw [a1.len]; exact Nat.le_trans hl (by decide), fun p hp => ?_⟩
    refine hQ p _ _ (.new hp) (.of hp) upd_same ?_
    rw [hide_new (.of hp)]
    exact a1.rep _
theorem rv_fd (h : CFd i j) : RV K T rFdA (.int i) (.int j) (.int (i.fdiv j)) := fun H S v u l dv du Q hQ => by
  cases dv; cases du
  exact ⟨i, j, rfl, rfl, h, hQ _ H (.refl T H) (.int _)⟩
theorem rv_mod (h : j ≠ 0) : RV K T rModA (.int i) (.int j) (.int (i.fmod j)) := fun H S v u l dv du Q hQ => by
  cases dv; cases du
  exact ⟨i, j, rfl, rfl, h, hQ _ H (.refl T H) (.int _)⟩
theorem rv_pow (h : CPow i j) : RV K T rPowA (.int i) (.int j) (.int (i ^ j.toNat)) := fun H S v u l dv du Q hQ => by
  cases dv; cases du
  exact ⟨i, j, rfl, rfl, h, hQ _ H (.refl T H) (.int _)⟩
theorem rv_lt : RV K T rLtA (.int i) (.int j) (.bool (decide (i < j))) := fun H S v u l dv du Q hQ => by
  cases dv; cases du
  exact ⟨i, j, rfl, rfl, hQ _ H (.refl T H) (.bl _)⟩
theorem rv_le : RV K T rLeA (.int i) (.int j) (.bool (decide (i ≤ j))) := fun H S v u l dv du Q hQ => by
  cases dv; cases du
  exact ⟨i, j, rfl, rfl, hQ _ H (.refl T H) (.bl _)⟩
theorem rv_gt : RV K T rGtA (.int i) (.int j) (.bool (decide (j < i))) := fun H S v u l dv du Q hQ => by
  cases dv; cases du
  exact ⟨i, j, rfl, rfl, hQ _ H (.refl T H) (.bl _)⟩
theorem rv_ge : RV K T rGeA (.int i) (.int j) (.bool (decide (j ≤ i))) := fun H S v u l dv du Q hQ => by
  cases dv; cases du
  exact ⟨i, j, rfl, rfl, hQ _ H (.refl T H) (.bl _)⟩
theorem rv_eq (hx : SeqAt.shaped x = true) (hy : SeqAt.shaped y = true) : RV K T (rEqD K) x y (.bool (PyData.eqv x y)) := fun H S v u l dv du Q hQ =>
  ⟨x, y, dt_dp _ _ (SeqAt.canLay_of_shaped hx) (dv.kp (hide_kp H S)), dt_dp _ _ (SeqAt.canLay_of_shaped hy) (du.kp (hide_kp H S)), hx, hy, hQ _ H (.refl T H) (.bl _)⟩
theorem rv_ne (hx : SeqAt.shaped x = true) (hy : SeqAt.shaped y = true) : RV K T (rNeD K) x y (.bool (!PyData.eqv x y)) := fun H S v u l dv du Q hQ =>
  ⟨x, y, dt_dp _ _ (SeqAt.canLay_of_shaped hx) (dv.kp (hide_kp H S)), dt_dp _ _ (SeqAt.canLay_of_shaped hy) (du.kp (hide_kp H S)), hx, hy, hQ _ H (.refl T H) (.bl _)⟩
def isNone : PyData → Bool
  | .none => true
  | _ => false
theorem dt_non {H : Hp} {v : V} (h : Dt K H v x) : decide (v = .non) = isNone x := by
  cases h <;> rfl
theorem rv_isN : RV K T rIsNA x .none (.bool (isNone x)) := fun H S v u l dv du Q hQ => by
  cases du
  refine ⟨rfl, ?_⟩
  rw [dt_non dv]
  exact hQ _ H (.refl T H) (.bl _)
theorem rv_notN : RV K T rNotNA x .none (.bool (!isNone x)) := fun H S v u l dv du Q hQ => by
  cases du
  refine ⟨rfl, ?_⟩
  rw [dt_non dv]
  exact hQ _ H (.refl T H) (.bl _)
theorem DtAll.at {H : Hp} {vs : List V} {ds : List PyData} (h : DtAll K H vs ds) (e : atI ds i = some d) : ∃ v, atI vs i = some v ∧ Dt K H v d := by
  unfold atI at e ⊢
  rw [h.len]
  cases q : ixN ds.length i with
  | none => rw [q] at e; cases e
  | some k =>
    rw [q] at e
    exact h.get e
theorem rv_ixT {ds : List PyData} (e : atI ds i = some d) : RV K T (rIx K) (.tuple ds) (.int i) d := fun H S v u l dv du Q hQ => by
  cases du
  cases dv with
  | tup h1 a1 =>
    obtain ⟨w, hw, dw⟩ := a1.at e
    exact .inr (.inl ⟨_, _, i, w, rfl, rfl, sqt_hide h1, hw, hQ w H (.refl T H) dw⟩)
theorem rv_ixL {ds : List PyData} (e : atI ds i = some d) : RV K T (rIx K) (.list ds) (.int i) d := fun H S v u l dv du Q hQ => by
  cases du
  cases dv with
  | lst h1 a1 =>
    obtain ⟨w, hw, dw⟩ := a1.at e
    exact .inl ⟨_, _, i, w, rfl, rfl, SqL.of (hide_get h1), hw, hQ w H (.refl T H) dw⟩
theorem rv_ixS {a : Str} {c : Nat} (hl : a.length ≤ 1000000) (e : atI a.cps.toList i = some c) : RV K T (rIx K) (.str a) (.int i) (.str ⟨#[c]⟩) := fun H S v u l dv du Q hQ => by
  cases du; cases dv
  exact .inr (.inr ⟨a, i, c, rfl, rfl, Nat.le_trans hl (by decide), e, hQ _ H (.refl T H) (.str _)⟩)
theorem ev_ixO {ρ : List Slot} {tb : TE} {k : Nat} {ds : List PyData} (h : ρ[k]? = some (.own (.lst ds))) (hb : Ev K T tb ρ (.int i)) (e : atI ds i = some d) : Ev K T (tOp (rIx K) (tVar k) tb) ρ d := fun H0 B C H S σ g Q hQ => by
  obtain ⟨p, u, h1, h2, h3, h4, h5⟩ := g.own k _ h
  cases h5 with | lst h5 =>
  refine ⟨.ref p, h1, ?_⟩
  refine hb H0 B C H S σ g _ fun v H1 e1 d1 => ?_
  cases d1
  obtain ⟨w, hw, dw⟩ := (h5.kp (e1.kp.hide S)).at e
  exact .inl ⟨p, _, i, w, rfl, rfl, SqL.of (e1.kp p _ h4 rfl), hw, hQ w H1 e1 dw⟩
def cutD (ds : List PyData) (lo hi : Option Int) : List PyData := (ds.drop (HT.sIx ds.length 0 lo)).take (HT.sIx ds.length ds.length hi - HT.sIx ds.length 0 lo)
def rSlX (K : PySem.W.Frag) : V → Option Int → Option Int → Hp → VK → Prop := fun x lo hi H Q => rSlL K x lo hi H Q ∨ rSlA K x lo hi H Q
theorem sl_any {X : Cx} : SlR X (rSlX X.K) := SlR.or sl_list sl_tupA
theorem rf_slL {ds : List PyData} {lo hi : Option Int} : RSF K T (rSlX K) (.list ds) lo hi (cutD ds lo hi) := fun H S v l dv Q hQ => by
  cases dv with
  | lst h1 a1 =>
    refine .inl ⟨_, _, rfl, SqL.of (hide_get h1), fun p hp => ?_⟩
    refine hQ p _ _ (.new hp) (.of hp) upd_same ?_
    rw [hide_new (.of hp)]
    exact a1.cut lo hi
theorem rs_slT {ds : List PyData} {lo hi : Option Int} : RS K T (rSlX K) (.tuple ds) lo hi (.tuple (cutD ds lo hi)) := fun H S v l dv Q hQ => by
  cases dv with
  | tup h1 a1 =>
    refine .inr ⟨_, _, rfl, sqt_hide h1, fun e => ?_, fun e p hp => ?_⟩
    · refine hQ _ H (.refl T H) (.tup h1 ?_)
      have q := a1.cut lo hi
      unfold cutV at q
      rw [e.1, e.2] at q
      rw [List.drop_zero, Nat.sub_zero, List.take_length] at q
      exact q
    · exact hQ _ _ (.new hp) (.tup (SqT.of (hide_at l (.of hp) rfl)) ((a1.cut lo hi).kp ((Ext.new (T := T) hp).kp.hide S)))
abbrev rLenA (K : PySem.W.Frag) : List V → Hp → VK → Prop := fun xs H Q => ∃ x n, xs = [x] ∧ LenV K x H n ∧ Q (.int n) H
theorem rc_lenL {ds : List PyData} : RC K T (rLenA K) [.list ds] (.int ds.length) := fun H S vs l dv Q hQ => by
  cases dv with
  | cons d1 d2 =>
    cases d2
    cases d1 with
    | lst h1 a1 => exact ⟨_, ds.length, rfl, .inl ⟨_, SqL.of (hide_get h1), a1.len.symm⟩, hQ _ H (.refl T H) (.int _)⟩
theorem rc_lenT {ds : List PyData} : RC K T (rLenA K) [.tuple ds] (.int ds.length) := fun H S vs l dv Q hQ => by
  cases dv with
  | cons d1 d2 =>
    cases d2
    cases d1 with
    | tup h1 a1 => exact ⟨_, ds.length, rfl, .inr ⟨_, sqt_hide h1, a1.len.symm⟩, hQ _ H (.refl T H) (.int _)⟩
theorem rc_lenS {a : Str} (hl : a.length ≤ 1000000) : RC K T (rLenA K) [.str a] (.int a.length) := fun H S vs l dv Q hQ => by
  cases dv with
  | cons d1 d2 =>
    cases d2
    cases d1
    exact ⟨_, a.length, rfl, ⟨Nat.le_trans hl (by decide), rfl⟩, hQ _ H (.refl T H) (.int _)⟩
abbrev rAbsA : List V → Hp → VK → Prop := fun xs H Q => ∃ i, xs = [.int i] ∧ Q (.int (if i < 0 then -i else i)) H
theorem rc_abs : RC K T rAbsA [.int i] (.int (if i < 0 then -i else i)) := fun H S vs l dv Q hQ => by
  cases dv with
  | cons d1 d2 => cases d2; cases d1; exact ⟨i, rfl, hQ _ H (.refl T H) (.int _)⟩
abbrev rIntA : List V → Hp → VK → Prop := fun xs H Q => (∃ i, xs = [.int i] ∧ Q (.int i) H) ∨ ∃ k, xs = [.bl k] ∧ Q (.int (if k then 1 else 0)) H
theorem rc_intB {k : Bool} : RC K T rIntA [.bool k] (.int (if k then 1 else 0)) := fun H S vs l dv Q hQ => by
  cases dv with
  | cons d1 d2 => cases d2; cases d1; exact .inr ⟨k, rfl, hQ _ H (.refl T H) (.int _)⟩
theorem rc_intI : RC K T rIntA [.int i] (.int i) := fun H S vs l dv Q hQ => by
  cases dv with
  | cons d1 d2 => cases d2; cases d1; exact .inl ⟨i, rfl, hQ _ H (.refl T H) (.int _)⟩
abbrev rListA (K : PySem.W.Frag) : List V → Hp → VK → Prop := fun xs H Q => ∃ p ys, xs = [.ref p] ∧ (SqL K H p ys ∨ SqT K H p ys) ∧ ∀ l, H l = none → Q (.ref l) (upd H l (.lst ys))
theorem rf_listL {ds : List PyData} : RCF K T (rListA K) [.list ds] ds := fun H S vs l dv Q hQ => by
  cases dv with
  | cons d1 d2 =>
    cases d2
    cases d1 with
    | lst h1 a1 =>
      refine ⟨_, _, rfl, .inl (SqL.of (hide_get h1)), fun p hp => hQ p _ _ (.new hp) (.of hp) upd_same ?_⟩
      rw [hide_new (.of hp)]
      exact a1
theorem rf_listT {ds : List PyData} : RCF K T (rListA K) [.tuple ds] ds := fun H S vs l dv Q hQ => by
  cases dv with
  | cons d1 d2 =>
    cases d2
    cases d1 with
    | tup h1 a1 =>
      refine ⟨_, _, rfl, .inr (sqt_hide h1), fun p hp => hQ p _ _ (.new hp) (.of hp) upd_same ?_⟩
      rw [hide_new (.of hp)]
      exact a1
abbrev rTupleA (K : PySem.W.Frag) : List V → Hp → VK → Prop := fun xs H Q => ∃ p ys, xs = [.ref p] ∧ ((SqL K H p ys ∧ ∀ l, H l = none → Q (.ref l) (upd H l (.tup ys))) ∨ (SqT K H p ys ∧ Q (.ref p) H))
theorem rc_tupleL {ds : List PyData} : RC K T (rTupleA K) [.list ds] (.tuple ds) := fun H S vs l dv Q hQ => by
  cases dv with
  | cons d1 d2 =>
    cases d2
    cases d1 with
    | lst h1 a1 => exact ⟨_, _, rfl, .inl ⟨SqL.of (hide_get h1), fun p hp => hQ _ _ (.new hp) (.tup (SqT.of (hide_at l (.of hp) rfl)) (a1.kp ((Ext.new (T := T) hp).kp.hide S)))⟩⟩
theorem rc_tupleT {ds : List PyData} : RC K T (rTupleA K) [.tuple ds] (.tuple ds) := fun H S vs l dv Q hQ => by
  cases dv with
  | cons d1 d2 =>
    cases d2
    cases d1 with
    | tup h1 a1 => exact ⟨_, _, rfl, .inr ⟨sqt_hide h1, hQ _ H (.refl T H) (.tup h1 a1)⟩⟩
theorem rc_all {bs : List Bool} : RC K T (rAll K) [.list (bs.map PyData.bool)] (.bool (bs.all id)) := fun H S vs l dv Q hQ => by
  cases dv with
  | cons d1 d2 =>
    cases d2
    cases d1 with
    | lst h1 a1 =>
      have e := a1.bls_inv
      subst e
      exact ⟨_, bs, rfl, SqL.of (hide_get h1), hQ _ H (.refl T H) (.bl _)⟩
theorem rc_any {bs : List Bool} : RC K T (rAny K) [.list (bs.map PyData.bool)] (.bool (bs.any id)) := fun H S vs l dv Q hQ => by
  cases dv with
  | cons d1 d2 =>
    cases d2
    cases d1 with
    | lst h1 a1 =>
      have e := a1.bls_inv
      subst e
      exact ⟨_, bs, rfl, SqL.of (hide_get h1), hQ _ H (.refl T H) (.bl _)⟩
end
end Lw

set_option Elab.async false
set_option linter.all false
set_option maxRecDepth 100000
set_option maxHeartbeats 4000000
set_option autoImplicit false
namespace Lw
open PySem L2
section
variable {K : PySem.W.Frag} {T : Tb} {H0 B : Hp} {C : List Addr} {H H' : Hp} {S : List Addr} {σ : St} {ρ : List Slot}
theorem set_get {α : Type} {l : List α} {i : Nat} {a b : α} (h : (l.set i a)[i]? = some b) : a = b := by
  have hl : i < l.length := by
    have := (List.getElem?_eq_some_iff.mp h).1
    rwa [List.length_set] at this
  rw [List.getElem?_set_self hl] at h
  exact Option.some.inj h
theorem Gd.lt (g : Gd K T H0 B C H S σ ρ) {i : Nat} {s : Slot} (h : ρ[i]? = some s) : i < σ.length := by
  rw [g.len]
  exact (List.getElem?_eq_some_iff.mp h).1
theorem seen_new {H2 : Hp} {p : Addr} (e : Kp H H2) (hp : Fresh H p) : Kp (hide H S) (hide H2 (p :: S)) := fun b o h n => by
  obtain ⟨h1, h2, h3⟩ := hide_some.mp h
  refine hide_some.mpr ⟨fun z => ?_, e b o h2 h3, h3⟩
  rcases List.mem_cons.mp z with z | z
  · subst z
    rw [hp o h2] at h3
    cases h3
  · exact h1 z
theorem Gd.bnone (g : Gd K T H0 B C H S σ ρ) {p : Addr} (hp : Fresh H p) : B p = none := by
  cases e : B p with
  | none => rfl
  | some o =>
    have q := (hp.back g.vis) o e
    rw [g.bno p o e] at q
    cases q
theorem Gd.mineO (g : Gd K T H0 B C H S σ ρ) {i : Nat} {p : Addr} {u : HO} {ds : Ob} (e : Ext T H H') (hp : Fresh H p) (h1 : H' p = some u) (h2 : ObD K (hide H' (p :: S)) u ds) :
    Gd K T H0 B C H' (p :: S) (σ.set i (some (.ref p))) (ρ.set i (.own ds)) where
  ext := g.ext.trans e
  vis := g.vis.trans e.kp
  bno := g.bno
  hid := fun q hq => by
    rcases List.mem_cons.mp hq with z | z
    · subst z; exact g.bnone hp
    · exact g.hid q z
  lst := fun q hq => by
    rcases List.mem_cons.mp hq with z | z
    · subst z; exact ⟨u, h1, h2.mut⟩
    · exact g.lst.kp e.kp q z
  sub := fun c hc => List.mem_cons_of_mem _ (g.sub c hc)
  cl := g.cl
  len := by rw [List.length_set, List.length_set]; exact g.len
  dat := fun j d q => by
    by_cases z : i = j
    · subst z; cases set_get q
    · rw [List.getElem?_set_ne z] at q ⊢
      obtain ⟨v, a, b⟩ := g.dat j d q
      exact ⟨v, a, b.kp (seen_new e.kp hp)⟩
  scr := fun j es q => by
    by_cases z : i = j
    · subst z; cases set_get q
    · rw [List.getElem?_set_ne z] at q ⊢
      obtain ⟨a, ys, h1, h2, h3⟩ := g.scr j es q
      exact ⟨a, ys, h1, (seen_new e.kp hp).sql h2, h3.kp (seen_new e.kp hp)⟩
  raw := fun j v q => by
    by_cases z : i = j
    · subst z; cases set_get q
    · rw [List.getElem?_set_ne z] at q ⊢
      exact g.raw j v q
  own := fun j es q => by
    by_cases z : i = j
    · subst z
      have hl : i < σ.length := by
        rw [g.len]
        have := (List.getElem?_eq_some_iff.mp q).1
        rwa [List.length_set] at this
      cases set_get q
      exact ⟨p, u, List.getElem?_set_self hl, List.mem_cons_self .., hp.back g.ext.kp, h1, h2⟩
    · rw [List.getElem?_set_ne z] at q ⊢
      obtain ⟨q', ys, a, b, c, d, f⟩ := g.own j es q
      exact ⟨q', ys, a, List.mem_cons_of_mem _ b, c, e.kp q' _ d f.nt, f.kp (seen_new e.kp hp)⟩
  sep := fun a b ds' es q ha hb sa sb => by
    have key : ∀ (j : Nat) (es : Ob), i ≠ j → (ρ.set i (.own ds))[j]? = some (.own es) → (σ.set i (some (.ref p)))[j]? = some (some (.ref p)) → False := fun j es z qa qs => by
      rw [List.getElem?_set_ne z] at qa qs
      obtain ⟨q', ys, a, b, c, d, f⟩ := g.own j es qa
      rw [qs] at a
      cases a
      exact Bool.false_ne_true (f.nt.symm.trans (hp _ d))
    by_cases za : i = a
    · by_cases zb : i = b
      · exact za.symm.trans zb
      · subst za
        have := set_get sa
        cases this
        exact (key b es zb hb sb).elim
    · by_cases zb : i = b
      · subst zb
        have := set_get sb
        cases this
        exact (key a ds' za ha sa).elim
      · rw [List.getElem?_set_ne za] at ha sa
        rw [List.getElem?_set_ne zb] at hb sb
        exact g.sep a b ds' es q ha hb sa sb
  rob := g.rob.step (.set rfl)
  hc := fun q hq => by
    rcases List.mem_cons.mp hq with z | z
    · subst z; exact .inr (hp.back g.ext.kp)
    · exact g.hc q z
  obs := g.obs.step (.set rfl) (seen_new e.kp hp) (fun a q u f h => e.kp q u h (g.obs.fnt f h)) (fun a q f m => List.mem_cons_of_mem _ m) (fun a j q o ha hb f => by
    by_cases z : i = j
    · subst z
      cases set_get hb
      obtain ⟨m, _⟩ := g.obs.foot f
      exact g.lst.not hp m
    · rw [List.getElem?_set_ne z] at ha hb
      exact g.obs.dl a j q o f ha hb)
theorem Gd.mine (g : Gd K T H0 B C H S σ ρ) {i : Nat} {p : Addr} {xs : List V} {ds : List PyData} (e : Ext T H H') (hp : Fresh H p) (h1 : H' p = some (.lst xs)) (h2 : DtAll K (hide H' (p :: S)) xs ds) :
    Gd K T H0 B C H' (p :: S) (σ.set i (some (.ref p))) (ρ.set i (.own (.lst ds))) := g.mineO e hp h1 (.lst h2)
theorem Gd.writeO (g : Gd K T H0 B C H S σ ρ) {i : Nat} {p : Addr} {u u' : HO} {ds es : Ob} (h : ρ[i]? = some (.own ds)) (hs : σ[i]? = some (some (.ref p))) (hp : H p = some u) (hd : ObD K (hide H S) u' es) :
    Gd K T H0 B C (upd H p u') S σ (ρ.set i (.own es)) := by
  obtain ⟨p', xs', a1, a2, a3, a4, a5⟩ := g.own i ds h
  rw [hs] at a1
  cases a1
  rw [hp] at a4
  cases a4
  have eh : hide (upd H p u') S = hide H S := hide_upd a2
  have keep : ∀ b o, H b = some o → b ≠ p → (upd H p u') b = some o := fun b o e z => by rw [upd_ne z]; exact e
  exact {
    ext := ⟨fun b o e n => keep b o (g.ext.kp b o e n) (fun z => by subst z; rw [a3 o e] at n; cases n), fun t => tabs_mut hp a5.mut (g.ext.tb t)⟩
    vis := fun b o e n => keep b o (g.vis b o e n) (fun z => by subst z; rw [g.hid _ a2] at e; cases e)
    bno := g.bno
    hid := g.hid
    lst := fun q hq => by
      by_cases z : q = p
      · subst z; exact ⟨u', upd_same, hd.mut⟩
      · obtain ⟨zs, e, m⟩ := g.lst q hq
        exact ⟨zs, keep q _ e z, m⟩
    sub := g.sub
    cl := g.cl
    len := by rw [List.length_set]; exact g.len
    dat := fun j d q => by
      rw [eh]
      by_cases z : i = j
      · subst z; cases set_get q
      · rw [List.getElem?_set_ne z] at q
        exact g.dat j d q
    scr := fun j d q => by
      rw [eh]
      by_cases z : i = j
      · subst z; cases set_get q
      · rw [List.getElem?_set_ne z] at q
        exact g.scr j d q
    raw := fun j v q => by
      by_cases z : i = j
      · subst z; cases set_get q
      · rw [List.getElem?_set_ne z] at q
        exact g.raw j v q
    own := fun j fs q => by
      rw [eh]
      by_cases z : i = j
      · subst z
        cases set_get q
        exact ⟨p, u', hs, a2, a3, upd_same, hd⟩
      · rw [List.getElem?_set_ne z] at q
        obtain ⟨q', zs, b1, b2, b3, b4, b5⟩ := g.own j fs q
        refine ⟨q', zs, b1, b2, b3, keep q' _ b4 (fun w => ?_), b5⟩
        subst w
        exact z (g.sep i j ds fs _ h q hs b1)
    sep := fun a b fs gs q ha hb sa sb => by
      have back : ∀ (j : Nat) (fs : Ob), (ρ.set i (.own es))[j]? = some (.own fs) → ∃ fs', ρ[j]? = some (.own fs') := fun j fs q => by
        by_cases z : i = j
        · subst z; exact ⟨ds, h⟩
        · rw [List.getElem?_set_ne z] at q
          exact ⟨fs, q⟩
      obtain ⟨f1, q1⟩ := back a fs ha
      obtain ⟨f2, q2⟩ := back b gs hb
      exact g.sep a b f1 f2 q q1 q2 sa sb
    rob := g.rob.step (.setR rfl)
    hc := g.hc
    obs := g.obs.step (.setR rfl) (by rw [eh]; exact .refl _) (fun a q v f e => keep q v e (fun z => by subst z; exact g.obs.dl a i _ ds f h hs)) (fun _ _ _ m => m) (fun a j q o ha hb f => by
      by_cases z : i = j
      · subst z
        exact g.obs.dl a i q ds f h hb
      · rw [List.getElem?_set_ne z] at ha
        exact g.obs.dl a j q o f ha hb) }
theorem Gd.write (g : Gd K T H0 B C H S σ ρ) {i : Nat} {p : Addr} {xs ys : List V} {ds es : List PyData} (h : ρ[i]? = some (.own (.lst ds))) (hs : σ[i]? = some (some (.ref p))) (hp : H p = some (.lst xs)) (hd : DtAll K (hide H S) ys es) :
    Gd K T H0 B C (upd H p (.lst ys)) S σ (ρ.set i (.own (.lst es))) := g.writeO h hs hp (.lst hd)
theorem Gd.freezeO (g : Gd K T H0 B C H S σ ρ) {i : Nat} {ob : Ob} (h : ρ[i]? = some (.own ob)) : ∃ S', Gd K T H0 B C H S' σ (ρ.set i (.dat (obV ob))) := by
  obtain ⟨p, u, a1, a2, a3, a4, a5⟩ := g.own i _ h
  have hm : ∀ q, q ∈ S.filter (fun q => decide (q ≠ p)) ↔ q ∈ S ∧ q ≠ p := fun q => by
    rw [List.mem_filter]
    constructor
    · rintro ⟨x, y⟩; exact ⟨x, of_decide_eq_true y⟩
    · rintro ⟨x, y⟩; exact ⟨x, decide_eq_true y⟩
  have hk : Kp (hide H S) (hide H (S.filter fun q => decide (q ≠ p))) := hide_sub fun q hq => ((hm q).mp hq).1
  refine ⟨S.filter fun q => decide (q ≠ p), ?_⟩
  exact {
    ext := g.ext
    vis := g.vis
    bno := g.bno
    hid := fun q hq => g.hid q ((hm q).mp hq).1
    lst := fun q hq => g.lst q ((hm q).mp hq).1
    sub := fun c hc => (hm c).mpr ⟨g.sub c hc, fun z => by
      subst z
      obtain ⟨ys, e, m⟩ := g.cl.1 _ hc
      exact Bool.false_ne_true ((mutO.nt m).symm.trans (a3 _ e))⟩
    cl := g.cl
    len := by rw [List.length_set]; exact g.len
    dat := fun j d q => by
      by_cases z : i = j
      · subst z
        cases set_get q
        exact ⟨.ref p, a1, ObD.dt (hide_some.mpr ⟨fun w => ((hm p).mp w).2 rfl, a4, a5.nt⟩) (a5.kp hk)⟩
      · rw [List.getElem?_set_ne z] at q
        obtain ⟨v, b1, b2⟩ := g.dat j d q
        exact ⟨v, b1, b2.kp hk⟩
    scr := fun j d q => by
      by_cases z : i = j
      · subst z; cases set_get q
      · rw [List.getElem?_set_ne z] at q
        obtain ⟨a, ys, h1, h2, h3⟩ := g.scr j d q
        exact ⟨a, ys, h1, hk.sql h2, h3.kp hk⟩
    raw := fun j v q => by
      by_cases z : i = j
      · subst z; cases set_get q
      · rw [List.getElem?_set_ne z] at q
        exact g.raw j v q
    own := fun j fs q => by
      by_cases z : i = j
      · subst z; cases set_get q
      · rw [List.getElem?_set_ne z] at q
        obtain ⟨q', zs, b1, b2, b3, b4, b5⟩ := g.own j fs q
        refine ⟨q', zs, b1, (hm q').mpr ⟨b2, fun w => ?_⟩, b3, b4, b5.kp hk⟩
        subst w
        exact z (g.sep i j _ fs _ h q a1 b1)
    sep := fun a b fs gs q ha hb sa sb => by
      have za : i ≠ a := fun z => by subst z; cases set_get ha
      have zb : i ≠ b := fun z => by subst z; cases set_get hb
      rw [List.getElem?_set_ne za] at ha
      rw [List.getElem?_set_ne zb] at hb
      exact g.sep a b fs gs q ha hb sa sb
    rob := g.rob.step (.setR rfl)
    hc := fun q hq => g.hc q ((hm q).mp hq).1
    obs := g.obs.step (.setR rfl) hk (fun _ _ _ _ e => e) (fun a q f m => (hm q).mpr ⟨m, fun z => by subst z; exact g.obs.dl a i _ _ f h a1⟩) (fun a j q o ha hb f => by
      have zb : i ≠ j := fun z => by subst z; cases set_get ha
      rw [List.getElem?_set_ne zb] at ha
      exact g.obs.dl a j q o f ha hb) }
theorem Gd.freeze (g : Gd K T H0 B C H S σ ρ) {i : Nat} {ds : List PyData} (h : ρ[i]? = some (.own (.lst ds))) : ∃ S', Gd K T H0 B C H S' σ (ρ.set i (.dat (.list ds))) := g.freezeO h
theorem Gd.rebase (g : Gd K T H0 B C H S σ ρ) : Gd K T H0 (hide H S) C H S σ ρ where
  ext := g.ext
  vis := hide_kp H S
  bno := fun b o h => (hide_some.mp h).2.2
  hid := fun p hp => hide_mem hp
  lst := g.lst
  sub := g.sub
  cl := g.cl
  len := g.len
  dat := g.dat
  scr := g.scr
  raw := g.raw
  own := g.own
  sep := g.sep
  rob := g.rob
  hc := g.hc
  obs := g.obs
theorem Gd.unbase {B' : Hp} (g : Gd K T H0 B' C H S σ ρ) (e : Kp B B') (hb : ∀ b o, B b = some o → isTbl o = false) : Gd K T H0 B C H S σ ρ where
  ext := g.ext
  vis := e.trans g.vis
  bno := hb
  hid := fun p hp => by
    cases q : B p with
    | none => rfl
    | some o =>
      have w := e p o q (hb p o q)
      rw [g.hid p hp] at w
      cases w
  lst := g.lst
  sub := g.sub
  cl := g.cl
  len := g.len
  dat := g.dat
  scr := g.scr
  raw := g.raw
  own := g.own
  sep := g.sep
  rob := g.rob
  hc := g.hc
  obs := g.obs
end

def Tri (K : PySem.W.Frag) (T : Tb) (H0 B : Hp) (C : List Addr) (ρ : List Slot) (ts : TS) (D : Ends) : Prop := ∀ σ H, Good K T H0 B C ρ σ H → ts D σ H
def Rt (K : PySem.W.Frag) (T : Tb) (H0 : Hp) (C : List Addr) (rt : VK) (d : PyData) : Prop := ∀ v H', Ext T H0 H' → Dt K (hide H' C) v d → rt v H'
section
variable {K : PySem.W.Frag} {T : Tb} {H0 B : Hp} {C : List Addr} {ρ : List Slot} {te ta tb : TE} {t : TT} {tu tw tz ts : TS} {D : Ends} {d : PyData} {i : Nat}
theorem s_seq (h : Tri K T H0 B C ρ tu { D with nx := tz D }) : Tri K T H0 B C ρ (tSeq tu tz) D := h
theorem s_to (h : Tri K T H0 B C ρ tz D) : Tri K T H0 B C ρ tNext { D with nx := tz D } := h
theorem s_asg (h : Ev K T te ρ d) (k : Tri K T H0 B C (ρ.set i (.dat d)) tNext D) : Tri K T H0 B C ρ (tAsg te (gName i)) D := fun σ H ⟨S, g⟩ =>
  h H0 B C H S σ g _ fun v H2 e dv => k _ _ ⟨S, (g.ex e).set dv⟩
theorem q_asg (h : Ev K T te ρ d) (k : Tri K T H0 B C (ρ.set i (.dat d)) tz D) : Tri K T H0 B C ρ (tSeq (tAsg te (gName i)) tz) D := s_seq (s_asg h (s_to k))
theorem s_own {ds : List PyData} (h : EvF K T te ρ ds) (k : Tri K T H0 B C (ρ.set i (.own (.lst ds))) tNext D) : Tri K T H0 B C ρ (tAsg te (gName i)) D := fun σ H ⟨S, g⟩ =>
  h H0 B C H S σ g _ fun p xs H2 e hp h1 h2 => k _ _ ⟨p :: S, g.mine e hp h1 h2⟩
theorem q_own {ds : List PyData} (h : EvF K T te ρ ds) (k : Tri K T H0 B C (ρ.set i (.own (.lst ds))) tz D) : Tri K T H0 B C ρ (tSeq (tAsg te (gName i)) tz) D := s_seq (s_own h (s_to k))
theorem s_ret (h : Ev K T te ρ d) (k : Rt K T H0 C D.rt d) : Tri K T H0 B C ρ (tRet te) D := fun σ H ⟨S, g⟩ =>
  h H0 B C H S σ g _ fun v H2 e dv => k v H2 (g.ext.trans e) (dv.kp (hide_sub g.sub))
theorem s_if {b : Bool} (h : EvT K T t ρ b) (h1 : b = true → Tri K T H0 B C ρ tu D) (h2 : b = false → Tri K T H0 B C ρ tw D) : Tri K T H0 B C ρ (tIfS t tu tw) D := fun σ H ⟨S, g⟩ =>
  h H0 B C H S σ g _ fun H2 e => by
    cases b with
    | true => exact iteT (h1 rfl σ H2 ⟨S, g.ex e⟩)
    | false => exact iteF (h2 rfl σ H2 ⟨S, g.ex e⟩)
theorem q_if {b : Bool} (h : EvT K T t ρ b) (h1 : b = true → Tri K T H0 B C ρ tu { D with nx := tz D }) (h2 : b = false → Tri K T H0 B C ρ tw { D with nx := tz D }) : Tri K T H0 B C ρ (tSeq (tIfS t tu tw) tz) D := s_seq (s_if h h1 h2)
theorem q_when {b : Bool} (h : EvT K T t ρ b) (h1 : b = true → Tri K T H0 B C ρ tu { D with nx := tz D }) (h2 : b = false → Tri K T H0 B C ρ tz D) : Tri K T H0 B C ρ (tSeq (tIfS t tu tNext) tz) D := s_seq (s_if h h1 fun e => s_to (h2 e))
theorem q_ifF (h : EvT K T t ρ false) (h1 : Tri K T H0 B C ρ tz D) : Tri K T H0 B C ρ (tSeq (tIfS t tu tNext) tz) D := s_seq (s_if h (fun z => by cases z) (fun _ => s_to h1))
theorem s_ifT (h : EvT K T t ρ true) (h1 : Tri K T H0 B C ρ tu D) : Tri K T H0 B C ρ (tIfS t tu tw) D := s_if h (fun _ => h1) (fun z => by cases z)
theorem s_ifF (h : EvT K T t ρ false) (h1 : Tri K T H0 B C ρ tw D) : Tri K T H0 B C ρ (tIfS t tu tw) D := s_if h (fun z => by cases z) (fun _ => h1)
theorem s_weak {ρ' : List Slot} (l : Le ρ' ρ) (k : Tri K T H0 B C ρ' ts D) : Tri K T H0 B C ρ ts D := fun σ H g => k σ H (g.weak l)
theorem s_freeze {ds : List PyData} (h : ρ[i]? = some (.own (.lst ds))) (k : Tri K T H0 B C (ρ.set i (.dat (.list ds))) ts D) : Tri K T H0 B C ρ ts D := fun σ H ⟨S, g⟩ => k σ H (g.freeze h)
theorem s_app {ds : List PyData} (h : ρ[i]? = some (.own (.lst ds))) (he : Ev K T te ρ d) (hl : ds.length < 1000000) (k : Tri K T H0 B C (ρ.set i (.own (.lst (ds ++ [d])))) tNext D) :
    Tri K T H0 B C ρ (tDrop (tBM K "list" rAppend (tVar i) (tCons te tNil))) D := fun σ H ⟨S, g⟩ => by
  obtain ⟨p, u, a1, a2, a3, a4, a5⟩ := g.own i _ h
  cases a5 with | @lst xs _ a5 =>
  refine ⟨.ref p, a1, .inl ⟨rfl, xs, SqL.of a4⟩, ?_⟩
  refine he H0 B C H S σ g _ fun v H2 e dv => ?_
  have g2 := g.ex e
  have h2 : H2 p = some (.lst xs) := e.kp p _ a4 rfl
  refine ⟨p, xs, v, rfl, rfl, h2, by rw [a5.len]; exact Nat.lt_trans hl (by decide), ?_⟩
  exact k _ _ ⟨S, g2.write h a1 h2 ((a5.kp (e.kp.hide S)).app (.cons dv .nil))⟩
theorem q_app {ds : List PyData} (h : ρ[i]? = some (.own (.lst ds))) (he : Ev K T te ρ d) (hl : ds.length < 1000000) (k : Tri K T H0 B C (ρ.set i (.own (.lst (ds ++ [d])))) tz D) :
    Tri K T H0 B C ρ (tSeq (tDrop (tBM K "list" rAppend (tVar i) (tCons te tNil))) tz) D := s_seq (s_app h he hl (s_to k))
theorem s_par {j : Nat} {tr : TA} {d1 d2 : PyData} (h : EvA K T tr ρ [d1, d2]) (k : Tri K T H0 B C ((ρ.set i (.dat d1)).set j (.dat d2)) tNext D) : Tri K T H0 B C ρ (tPar i j tr) D := fun σ H ⟨S, g⟩ =>
  h H0 B C H S σ g _ fun vs H2 e dv => by
    cases dv with
    | cons b1 b2 =>
      cases b2 with
      | cons b2 b3 =>
        cases b3
        exact ⟨_, _, rfl, k _ _ ⟨S, ((g.ex e).set b1).set b2⟩⟩
theorem q_par {j : Nat} {tr : TA} {d1 d2 : PyData} (h : EvA K T tr ρ [d1, d2]) (k : Tri K T H0 B C ((ρ.set i (.dat d1)).set j (.dat d2)) tz D) : Tri K T H0 B C ρ (tSeq (tPar i j tr) tz) D := s_seq (s_par h (s_to k))
theorem s_while (I : Nat → List Slot → Prop) (m0 : Nat) (h0 : I m0 ρ)
    (hs : ∀ m ρ', I m ρ' → ∃ b, EvT K T t ρ' b ∧ (b = true → Tri K T H0 B C ρ' tu { D with nx := fun σ H => ∃ m' ρ2, m' < m ∧ I m' ρ2 ∧ Good K T H0 B C ρ2 σ H, ct := fun σ H => ∃ m' ρ2, m' < m ∧ I m' ρ2 ∧ Good K T H0 B C ρ2 σ H, bk := D.nx }) ∧ (b = false → Tri K T H0 B C ρ' tNext D)) :
    Tri K T H0 B C ρ (tWhile t tu) D := fun σ H g => by
  refine ⟨fun m σ H => ∃ ρ', I m ρ' ∧ Good K T H0 B C ρ' σ H, ⟨m0, ρ, h0, g⟩, ?_⟩
  rintro m σ H ⟨ρ', hI, S, g⟩
  obtain ⟨b, hb, h1, h2⟩ := hs m ρ' hI
  refine hb H0 B C H S σ g _ fun H2 e => ?_
  cases b with
  | true => exact iteT ⟨_, fun σ' H' ⟨m', ρ2, lt, i2, g2⟩ => ⟨m', lt, ρ2, i2, g2⟩, h1 rfl σ H2 ⟨S, g.ex e⟩⟩
  | false => exact iteF (h2 rfl σ H2 ⟨S, g.ex e⟩)
theorem q_while (I : Nat → List Slot → Prop) (m0 : Nat) (h0 : I m0 ρ)
    (hs : ∀ m ρ', I m ρ' → ∃ b, EvT K T t ρ' b ∧ (b = true → Tri K T H0 B C ρ' tu { D with nx := fun σ H => ∃ m' ρ2, m' < m ∧ I m' ρ2 ∧ Good K T H0 B C ρ2 σ H, ct := fun σ H => ∃ m' ρ2, m' < m ∧ I m' ρ2 ∧ Good K T H0 B C ρ2 σ H, bk := tz D }) ∧ (b = false → Tri K T H0 B C ρ' tz D)) :
    Tri K T H0 B C ρ (tSeq (tWhile t tu) tz) D := s_seq (s_while (D := { D with nx := tz D }) I m0 h0 hs)
end

section
variable (K : PySem.W.Frag) (T : Tb)
def Feeds (J : It) (B : Hp) (items : List PyData) : Prop := ∀ (i : Nat) (H : Hp) (S : List Addr), Kp B (hide H S) → Lsts H S →
  (∀ d, items[i]? = some d → J.go i H ∧ ∀ x H2, J.yld i H x H2 → Ext T H H2 ∧ Dt K (hide H2 S) x d) ∧ (items.length ≤ i → J.stop i H)
def IterD (wi : TI) (ρ : List Slot) (items : List PyData) : Prop := ∀ (H0 B : Hp) (C : List Addr) (H : Hp) (S : List Addr) (σ : St), Gd K T H0 B C H S σ ρ →
  ∀ R : It → Hp → Prop, (∀ J H2, Ext T H H2 → Feeds K T J (hide H2 S) items → R J H2) → wi σ H R
def TgD (g : TG) (d : PyData) (js : List Nat) (f : List Slot → List Slot) : Prop := ∀ (H0 B : Hp) (C : List Addr) (H : Hp) (S : List Addr) (σ : St) (ρ : List Slot) (v : V), Gd K T H0 B C H S σ ρ → Dt K (hide H S) v d →
  ∀ Q : St → Hp → Prop, (∀ σ' H2, Ext T H H2 → Gd K T H0 B C H2 S σ' (f ρ) → (∀ vs : List Nat, (∀ j ∈ js, j ∈ vs) → wipe σ' vs = wipe σ vs) → Q σ' H2) → g v σ H Q
def TgDs (g : TGs) (ds : List PyData) (js : List Nat) (f : List Slot → List Slot) : Prop := ∀ (H0 B : Hp) (C : List Addr) (H : Hp) (S : List Addr) (σ : St) (ρ : List Slot) (vs : List V), Gd K T H0 B C H S σ ρ → DtAll K (hide H S) vs ds →
  ∀ Q : St → Hp → Prop, (∀ σ' H2, Ext T H H2 → Gd K T H0 B C H2 S σ' (f ρ) → (∀ vs : List Nat, (∀ j ∈ js, j ∈ vs) → wipe σ' vs = wipe σ vs) → Q σ' H2) → g vs σ H Q
end
theorem wipe_set {σ : St} {j : Nat} {o : Option V} : ∀ {vs : List Nat}, j ∈ vs → wipe (σ.set j o) vs = wipe σ vs
  | v :: vs, h => by
    show (wipe (σ.set j o) vs).set v none = (wipe σ vs).set v none
    by_cases m : j ∈ vs
    · rw [wipe_set m]
    · have e : j = v := by
        rcases List.mem_cons.mp h with z | z
        · exact z
        · exact (m z).elim
      subst e
      have key : ∀ ws : List Nat, j ∉ ws → wipe (σ.set j o) ws = (wipe σ ws).set j o := fun ws => by
        induction ws with
        | nil => intro _; rfl
        | cons w ws ih =>
          intro hn
          show (wipe (σ.set j o) ws).set w none = ((wipe σ ws).set w none).set j o
          rw [ih (fun z => hn (List.mem_cons_of_mem _ z))]
          exact List.set_comm _ _ (fun z => hn (z ▸ List.mem_cons_self ..))
      rw [key vs m, List.set_set]
section
variable {K : PySem.W.Frag} {T : Tb} {ρ : List Slot} {te ta tb : TE} {d : PyData} {i : Nat}
theorem tg_name : TgD K T (gName i) d [i] (fun ρ => ρ.set i (.dat d)) := fun H0 B C H S σ ρ v g dv Q hQ =>
  hQ _ _ (.refl T H) (g.set dv) fun vs hv => wipe_set (hv i (List.mem_cons_self ..))
theorem tgs_nil : TgDs K T gNil [] [] (fun ρ => ρ) := fun H0 B C H S σ ρ vs g dv Q hQ => by
  cases dv
  exact ⟨rfl, hQ σ H (.refl T H) g fun vs hv => rfl⟩
theorem tgs_cons {t : TG} {u : TGs} {ds : List PyData} {js ks : List Nat} {f h : List Slot → List Slot} (h1 : TgD K T t d js f) (h2 : TgDs K T u ds ks h) : TgDs K T (gCons t u) (d :: ds) (js ++ ks) (fun ρ => h (f ρ)) := fun H0 B C H S σ ρ vs g dv Q hQ => by
  cases dv with
  | cons b1 b2 =>
    refine ⟨_, _, rfl, h1 H0 B C H S σ ρ _ g b1 _ fun σ' H1 e1 g' w' => ?_⟩
    refine h2 H0 B C H1 S σ' _ _ g' (b2.kp (e1.kp.hide S)) _ fun σ2 H2 e2 g2 w2 => hQ σ2 H2 (e1.trans e2) g2 fun vs hv => ?_
    rw [w2 vs fun j hj => hv j (List.mem_append_right _ hj), w' vs fun j hj => hv j (List.mem_append_left _ hj)]
theorem tg_tup {u : TGs} {ds : List PyData} {js : List Nat} {f : List Slot → List Slot} {n : Nat} (h : TgDs K T u ds js f) (hn : ds.length = n) : TgD K T (gTup K n u) (.tuple ds) js f := fun H0 B C H S σ ρ v g dv Q hQ => by
  cases dv with
  | tup h1 a1 => exact ⟨_, _, rfl, sqt_hide h1, a1.len.trans hn, h H0 B C H S σ ρ _ g a1 Q hQ⟩
def iSeq (K : PySem.W.Frag) (tl : TE) : TI := fun σ H R => tl σ H fun x H1 => ∃ a, x = .ref a ∧ ((∃ xs, SqL K H1 a xs ∧ R (Itl K a) H1) ∨ ∃ xs, SqT K H1 a xs ∧ R (Itt K a) H1)
theorem pi_seq {X : Cx} {tg l : Expr} {tl : TE} (hl : PE X l tl) : PI X tg l (iSeq X.K tl) := by
  refine ⟨fun pins s σ H R I h => ?_⟩
  refine thn (hl.run pins s σ H _ I h) fun v s1 ⟨x, H1, I1, r1, q1⟩ => ?_
  obtain ⟨a, e, q⟩ := q1
  subst e
  cases r1
  rcases q with ⟨xs, hq, q⟩ | ⟨xs, hq, q⟩
  · obtain ⟨its, rv, p, hz⟩ := I1.list hq
    refine wpAny_pyIter_list p.isList ?_
    refine ⟨s1.heap.objs.size, [s1.heap.objs.size], _, _, H1, rfl, I1.kept (t' := s1.toks) fun b o e => Heap.get?_push_of_some _ e, turn_list a _, ⟨_, Heap.get?_push_size _ rfl, rfl, rfl⟩, fun b hb => ?_, q⟩
    have e : b = s1.heap.objs.size := by simpa using hb
    subst e
    exact I1.fpOk (Nat.le_refl _) (I1.hok.fresh (Nat.le_refl _))
  · obtain ⟨its, rv, p, hz⟩ := I1.tuple hq
    refine wpAny_pyIter_tuple (show s1.heap.IsTuple a its.toArray from p) ?_
    refine ⟨s1.heap.objs.size, [s1.heap.objs.size], _, _, H1, rfl, I1.kept (t' := s1.toks) fun b o e => Heap.get?_push_of_some _ e, turn_tuple a _, ⟨_, Heap.get?_push_size _ rfl, rfl, rfl⟩, fun b hb => ?_, q⟩
    have e : b = s1.heap.objs.size := by simpa using hb
    subst e
    exact I1.fpOk (Nat.le_refl _) (I1.hok.fresh (Nat.le_refl _))
theorem it_list {ds : List PyData} (h : Ev K T te ρ (.list ds)) : IterD K T (iSeq K te) ρ ds := fun H0 B C H S σ g R hR => by
  refine h H0 B C H S σ g _ fun v H2 e dv => ?_
  cases dv with
  | lst h1 a1 =>
    refine ⟨_, rfl, .inl ⟨_, SqL.of (hide_get h1), hR _ _ e fun i H' S' k l => ?_⟩⟩
    have hq : SqL K H' _ _ := SqL.of (hide_get (k _ _ h1 rfl))
    refine ⟨fun d hd => ?_, fun hl => ⟨_, hq, by rw [a1.len]; exact hl⟩⟩
    obtain ⟨w, hw, dw⟩ := a1.get hd
    refine ⟨⟨_, w, hq, hw⟩, fun x H3 hy => ?_⟩
    obtain ⟨e3, hy⟩ := hy
    subst e3
    have := hy _ hq
    rw [hw] at this
    cases this
    exact ⟨.refl T _, dw.kp k⟩
theorem it_tup {ds : List PyData} (h : Ev K T te ρ (.tuple ds)) : IterD K T (iSeq K te) ρ ds := fun H0 B C H S σ g R hR => by
  refine h H0 B C H S σ g _ fun v H2 e dv => ?_
  cases dv with
  | tup h1 a1 =>
    refine ⟨_, rfl, .inr ⟨_, sqt_hide h1, hR _ _ e fun i H' S' k l => ?_⟩⟩
    have hq : SqT K H' _ _ := sqt_hide (k.sqt h1)
    refine ⟨fun d hd => ?_, fun hl => ⟨_, hq, by rw [a1.len]; exact hl⟩⟩
    obtain ⟨w, hw, dw⟩ := a1.get hd
    refine ⟨⟨_, w, hq, hw⟩, fun x H3 hy => ?_⟩
    obtain ⟨e3, hy⟩ := hy
    subst e3
    have := hy _ hq
    rw [hw] at this
    cases this
    exact ⟨.refl T _, dw.kp k⟩
def rgD (lo : Int) (n : Nat) : List PyData := (List.range n).map fun (k : Nat) => PyData.int (lo + k)
theorem rgD_len (lo : Int) (n : Nat) : (rgD lo n).length = n := by unfold rgD; simp
theorem rgD_get {lo : Int} {n i : Nat} {d : PyData} (h : (rgD lo n)[i]? = some d) : i < n ∧ d = .int (lo + i) := by
  unfold rgD at h
  rw [List.getElem?_map] at h
  cases e : (List.range n)[i]? with
  | none => rw [e] at h; cases h
  | some k =>
    rw [e] at h
    obtain ⟨h1, h2⟩ := List.getElem?_eq_some_iff.mp e
    rw [List.getElem_range] at h2
    subst h2
    rw [List.length_range] at h1
    exact ⟨h1, (Option.some.inj h).symm⟩
theorem feeds_range {lo : Int} {n : Nat} {B : Hp} : Feeds K T (Itr lo n) B (rgD lo n) := fun i H S k l => by
  refine ⟨fun d hd => ?_, fun hl => by rw [rgD_len] at hl; exact hl⟩
  obtain ⟨h1, h2⟩ := rgD_get hd
  refine ⟨h1, fun x H2 hy => ?_⟩
  obtain ⟨e, hx⟩ := hy
  subst e; subst hx; subst h2
  exact ⟨.refl T _, .int _⟩
theorem it_range1 {ta : TA} {j : Int} (h : EvA K T ta ρ [.int j]) (h1 : -(2 ^ 62) ≤ j) (h2 : j < 2 ^ 62) : IterD K T (iRng1 ta) ρ (rgD 0 j.toNat) := fun H0 B C H S σ g R hR =>
  h H0 B C H S σ g _ fun vs H2 e dv => by
    cases dv with
    | cons b1 b2 => cases b2; cases b1; exact ⟨j, rfl, h1, h2, hR _ _ e feeds_range⟩
end

section
variable {K : PySem.W.Frag} {T : Tb} {H0 B : Hp} {C : List Addr} {ρ : List Slot} {tb tz : TS} {D : Ends} {wi : TI} {g : TG} {items : List PyData}
def Nxt (K : PySem.W.Frag) (T : Tb) (H0 B : Hp) (C : List Addr) (I : List Slot → Prop) : St → Hp → Prop := fun σ H => ∃ ρ', I ρ' ∧ Good K T H0 B C ρ' σ H
theorem s_nxt {I : List Slot → Prop} {D : Ends} {ρ' : List Slot} (h : I ρ') (l : Le ρ' ρ) (hD : D.nx = Nxt K T H0 B C I) : Tri K T H0 B C ρ tNext D := fun σ H gd => by
  show D.nx σ H
  rw [hD]
  exact ⟨ρ', h, gd.weak l⟩
theorem s_cont {I : List Slot → Prop} {D : Ends} {ρ' : List Slot} (h : I ρ') (l : Le ρ' ρ) (hD : D.ct = Nxt K T H0 B C I) : Tri K T H0 B C ρ tCont D := fun σ H gd => by
  show D.ct σ H
  rw [hD]
  exact ⟨ρ', h, gd.weak l⟩
theorem s_forG (hi : IterD K T wi ρ items) (I : Nat → List Slot → Prop) (h0 : I 0 ρ)
    (hs : ∀ (B' : Hp) (i : Nat) (d : PyData) (ρi : List Slot), Kp B B' → items[i]? = some d → I i ρi → ∃ js f, TgD K T g d js f ∧ Tri K T H0 B' C (f ρi) tb { D with nx := Nxt K T H0 B' C (I (i + 1)), ct := Nxt K T H0 B' C (I (i + 1)), bk := D.nx })
    (hd : ∀ ρn, I items.length ρn → Tri K T H0 B C ρn tNext D) : Tri K T H0 B C ρ (tFor wi g tb) D := fun σ H ⟨S, gd⟩ => by
  refine hi H0 B C H S σ gd _ fun J H2 e fd => ?_
  have g2 := (gd.ex e)
  have hB : Kp B (hide H2 S) := g2.see
  refine ⟨fun i m σ H => m = items.length - i ∧ i ≤ items.length ∧ Nxt K T H0 (hide H2 S) C (I i) σ H, ⟨items.length, by simp, Nat.zero_le _, ρ, h0, S, g2.rebase⟩, ?_⟩
  rintro i m σ H ⟨rfl, hil, ρi, hI, S', g'⟩
  obtain ⟨f1, f2⟩ := fd i H S' g'.see g'.lst
  by_cases hlt : i < items.length
  · obtain ⟨go, yl⟩ := f1 items[i] (List.getElem?_eq_getElem hlt)
    refine .inr ⟨go, Nxt K T H0 (hide H2 S) C (I (i + 1)), fun σ' H' n => ⟨items.length - (i + 1), by omega, rfl, hlt, n⟩, fun x H' hy => ?_⟩
    obtain ⟨ex, dx⟩ := yl x H' hy
    obtain ⟨js, f, tg, tr⟩ := hs (hide H2 S) i _ ρi hB (List.getElem?_eq_getElem hlt) hI
    exact tg H0 _ C H' S' σ ρi x (g'.ex ex) dx _ fun σ' Hg _ gf _ => tr σ' Hg ⟨S', gf⟩
  · have e1 : i = items.length := by omega
    subst e1
    exact .inl ⟨f2 (Nat.le_refl _), hd ρi hI σ H ⟨S', g'.unbase hB gd.bno⟩⟩
theorem q_forG (hi : IterD K T wi ρ items) (I : Nat → List Slot → Prop) (h0 : I 0 ρ)
    (hs : ∀ (B' : Hp) (i : Nat) (d : PyData) (ρi : List Slot), Kp B B' → items[i]? = some d → I i ρi → ∃ js f, TgD K T g d js f ∧ Tri K T H0 B' C (f ρi) tb { D with nx := Nxt K T H0 B' C (I (i + 1)), ct := Nxt K T H0 B' C (I (i + 1)), bk := tz D })
    (hd : ∀ ρn, I items.length ρn → Tri K T H0 B C ρn tz D) : Tri K T H0 B C ρ (tSeq (tFor wi g tb) tz) D := s_seq (s_forG (D := { D with nx := tz D }) hi I h0 hs hd)
theorem Le.set {a b : List Slot} (h : Le a b) : ∀ (j : Nat) (s : Slot), Le (a.set j s) (b.set j s) := by
  induction h with
  | nil => intro j s; exact .nil
  | no h ih =>
    intro j s
    cases j with
    | zero => exact .eq h
    | succ j => exact .no (ih j s)
  | eq h ih =>
    intro j s
    cases j with
    | zero => exact .eq h
    | succ j => exact .eq (ih j s)
end

def wipeS (ρ : List Slot) : List Nat → List Slot
  | [] => ρ
  | v :: vs => (wipeS ρ vs).set v .no
section
variable {K : PySem.W.Frag} {T : Tb} {H0 B : Hp} {C : List Addr} {H H' : Hp} {S : List Addr} {σ : St} {ρ : List Slot}
theorem Gd.no (g : Gd K T H0 B C H S σ ρ) (i : Nat) : Gd K T H0 B C H S (σ.set i none) (ρ.set i .no) where
  ext := g.ext
  vis := g.vis
  bno := g.bno
  hid := g.hid
  lst := g.lst
  sub := g.sub
  cl := g.cl
  len := by rw [List.length_set, List.length_set]; exact g.len
  dat := fun j d e => by
    by_cases z : i = j
    · subst z; cases set_get e
    · rw [List.getElem?_set_ne z] at e ⊢
      exact g.dat j d e
  scr := fun j d e => by
    by_cases z : i = j
    · subst z; cases set_get e
    · rw [List.getElem?_set_ne z] at e ⊢
      exact g.scr j d e
  raw := fun j d e => by
    by_cases z : i = j
    · subst z; cases set_get e
    · rw [List.getElem?_set_ne z] at e ⊢
      exact g.raw j d e
  own := fun j d e => by
    by_cases z : i = j
    · subst z; cases set_get e
    · rw [List.getElem?_set_ne z] at e ⊢
      exact g.own j d e
  sep := fun a b ds es p ha hb sa sb => by
    have za : i ≠ a := fun z => by subst z; cases set_get ha
    have zb : i ≠ b := fun z => by subst z; cases set_get hb
    rw [List.getElem?_set_ne za] at ha sa
    rw [List.getElem?_set_ne zb] at hb sb
    exact g.sep a b ds es p ha hb sa sb
  rob := g.rob.step (.set rfl)
  hc := g.hc
  obs := g.obs.step (.set rfl) (.refl _) (fun _ _ _ _ h => h) (fun _ _ _ h => h) (fun a j q o ha hb f => by
    have zb : i ≠ j := fun z => by subst z; cases set_get ha
    rw [List.getElem?_set_ne zb] at ha hb
    exact g.obs.dl a j q o f ha hb)
theorem Gd.wiped (g : Gd K T H0 B C H S σ ρ) : ∀ vs : List Nat, Gd K T H0 B C H S (wipe σ vs) (wipeS ρ vs)
  | [] => g
  | v :: vs => (g.wiped vs).no v
structure NotMine (H : Hp) (σ : St) (ρ : List Slot) (p : Addr) : Prop where
  ow : ∀ (i : Nat) (ds : Ob), ρ[i]? = some (.own ds) → σ[i]? ≠ some (some (.ref p))
  ft : ∀ i, ¬ Foot H σ ρ i p
theorem NotMine.kp (g : Gd K T H0 B C H S σ ρ) {p : Addr} (n : NotMine H σ ρ p) (e : Kp H H') : NotMine H' σ ρ p := ⟨n.ow, fun i f => by
  obtain ⟨o, a, c, dx, fvs, h1, h2, h3, h5, h6, h4⟩ := f
  obtain ⟨a', b1, _, dx', fvs', b2, _, _, b3, _, l⟩ := g.obs.ob i o h1
  rw [h2] at b1; cases b1
  have := e _ _ b2 rfl
  rw [h3] at this
  injection this with this
  injection this with z1 z2 z3
  have e3 := zip_inj (by rw [h5]; exact l) (by rw [b3.len]; exact l) z3
  subst e3 z1 z2
  exact n.ft i ⟨o, a, _, dx, fvs, h1, h2, b2, h5, h6, h4⟩⟩
theorem NotMine.upd {p q : Addr} {u : HO} (n : NotMine H σ ρ p) (hu : ∀ C dx fvs, u ≠ .ins C dx fvs) : NotMine (upd H q u) σ ρ p := ⟨n.ow, fun i f => by
  obtain ⟨o, a, c, dx, fvs, h1, h2, h3, h5, h6, h4⟩ := f
  by_cases z : a = q
  · subst z
    rw [upd_same] at h3
    exact hu _ _ _ (Option.some.inj h3)
  · rw [upd_ne z] at h3
    exact n.ft i ⟨o, a, _, dx, fvs, h1, h2, h3, h5, h6, h4⟩⟩
theorem Gd.notMine (g : Gd K T H0 B C H S σ ρ) {p : Addr} (hp : Fresh H p) : NotMine H σ ρ p := by
  refine ⟨fun i ds h z => ?_, fun i f => ?_⟩
  · obtain ⟨q, ys, a, b, c, d, f⟩ := g.own i ds h
    rw [z] at a
    cases a
    exact Bool.false_ne_true (f.nt.symm.trans (hp _ d))
  · obtain ⟨_, _, u, hu, m⟩ := g.obs.foot f
    exact Bool.false_ne_true ((mutO.nt m).symm.trans (hp _ hu))
theorem Gd.lay (g : Gd K T H0 B C H S σ ρ) {p : Addr} {xs : List V} (hp : H p = none) : Gd K T H0 B C (upd H p (.lst xs)) (p :: S) σ ρ ∧ NotMine (upd H p (.lst xs)) σ ρ p := by
  have e : Ext T H (upd H p (.lst xs)) := .new hp
  have fr : Fresh H p := .of hp
  have eh := hide_new (H := H) (S := S) (o := .lst xs) fr
  refine ⟨{ ext := g.ext.trans e, vis := g.vis.trans e.kp, bno := g.bno, hid := fun q hq => ?_, lst := fun q hq => ?_, sub := fun c hc => List.mem_cons_of_mem _ (g.sub c hc), cl := g.cl, len := g.len, dat := fun i d h => ?_, scr := fun i d h => ?_, raw := g.raw, own := fun i d h => ?_, sep := g.sep, rob := g.rob, hc := fun q hq => ?_, obs := g.obs.step (.refl σ ρ) (by rw [eh]; exact .refl _) (fun i q u f h => e.kp q u h (g.obs.fnt f h)) (fun _ _ _ m => List.mem_cons_of_mem _ m) (fun i j q o a b f => g.obs.dl i j q o f a b) }, ?_⟩
  · rcases List.mem_cons.mp hq with z | z
    · subst z; exact g.bnone fr
    · exact g.hid q z
  · rcases List.mem_cons.mp hq with z | z
    · subst z; exact ⟨_, upd_same, rfl⟩
    · exact g.lst.kp e.kp q z
  · rw [eh]; exact g.dat i d h
  · rw [eh]; exact g.scr i d h
  · rw [eh]
    obtain ⟨q, ys, a, b, c, d, f⟩ := g.own i d h
    exact ⟨q, ys, a, List.mem_cons_of_mem _ b, c, e.kp q _ d f.nt, f⟩
  · rcases List.mem_cons.mp hq with z | z
    · subst z; exact .inr (fr.back g.ext.kp)
    · exact g.hc q z
  · exact (g.notMine fr).kp g e.kp
theorem Gd.poke (g : Gd K T H0 B C H S σ ρ) {p : Addr} {xs ys : List V} (hm : p ∈ S) (h0 : Fresh H0 p) (hn : NotMine H σ ρ p) (hp : H p = some (.lst xs)) : Gd K T H0 B C (upd H p (.lst ys)) S σ ρ := by
  have eh : hide (upd H p (.lst ys)) S = hide H S := hide_upd hm
  have keep : ∀ b o, H b = some o → b ≠ p → (upd H p (.lst ys)) b = some o := fun b o e z => by rw [upd_ne z]; exact e
  exact {
    ext := ⟨fun b o e n => keep b o (g.ext.kp b o e n) (fun z => by subst z; rw [h0 o e] at n; cases n), fun t => tabs_lst hp (g.ext.tb t)⟩
    vis := fun b o e n => keep b o (g.vis b o e n) (fun z => by subst z; rw [g.hid _ hm] at e; cases e)
    bno := g.bno
    hid := g.hid
    lst := fun q hq => by
      by_cases z : q = p
      · subst z; exact ⟨_, upd_same, rfl⟩
      · obtain ⟨zs, e, m⟩ := g.lst q hq
        exact ⟨zs, keep q _ e z, m⟩
    sub := g.sub
    cl := g.cl
    len := g.len
    dat := fun j d q => by rw [eh]; exact g.dat j d q
    scr := fun j d q => by rw [eh]; exact g.scr j d q
    raw := g.raw
    own := fun j fs q => by
      rw [eh]
      obtain ⟨q', zs, b1, b2, b3, b4, b5⟩ := g.own j fs q
      refine ⟨q', zs, b1, b2, b3, keep q' _ b4 (fun w => ?_), b5⟩
      subst w
      exact hn.ow j fs q b1
    sep := g.sep
    rob := g.rob
    hc := g.hc
    obs := g.obs.step (.refl σ ρ) (by rw [eh]; exact .refl _) (fun i q u f e => keep q u e (fun z => by subst z; exact hn.ft i f)) (fun _ _ _ m => m) (fun i j q o a b f => g.obs.dl i j q o f a b) }
theorem NotMine.set {p : Addr} (h : NotMine H σ ρ p) {v : Nat} {x : Option V} {s : Slot} (h1 : s.ol = false) (h2 : ∀ o, s ≠ .own o) : NotMine H (σ.set v x) (ρ.set v s) p := ⟨fun i ds e z => by
    by_cases w : v = i
    · subst w
      exact h2 _ (set_get e)
    · rw [List.getElem?_set_ne w] at e z
      exact h.ow i ds e z, fun i f => by
    obtain ⟨o, a, c, dx, fvs, g1, g2, g3, g5, g6, g4⟩ := f
    by_cases w : v = i
    · subst w
      have := set_get g1
      subst this
      cases h1
    · rw [List.getElem?_set_ne w] at g1 g2
      exact h.ft i ⟨o, a, c, dx, fvs, g1, g2, g3, g5, g6, g4⟩⟩
theorem notMine_wipe {p : Addr} (h : NotMine H σ ρ p) : ∀ vs : List Nat, NotMine H (wipe σ vs) (wipeS ρ vs) p
  | [] => h
  | v :: vs => (notMine_wipe h vs).set rfl (fun o z => by cases z)
variable {wi : TI} {g : TG} {tt : TT} {te : TE} {vs : List Nat} {items : List PyData}
theorem ef_lc (F : PyData → Option PyData) (hi : IterD K T wi ρ items) (hz : items.length ≤ 1000000)
    (hs : ∀ (i : Nat) (d : PyData), items[i]? = some d → ∃ js f b, TgD K T g d js f ∧ (∀ j ∈ js, j ∈ vs) ∧ EvT K T tt (f (wipeS ρ vs)) b ∧ (b = true → ∃ y, F d = some y ∧ Ev K T te (f (wipeS ρ vs)) y) ∧ (b = false → F d = none)) :
    EvF K T (tLc wi g tt te vs) ρ (items.filterMap F) := fun H0 B C H S σ gd Q hQ => by
  refine hi H0 B C H S σ gd _ fun J H1 e1 fd => ?_
  intro D hD
  have g1 := gd.ex e1
  obtain ⟨gl, nm⟩ := g1.lay (xs := []) hD
  have gw := gl.wiped vs
  have nw := notMine_wipe nm vs
  have frD : Fresh H D := (Fresh.of hD).back e1.kp
  have fr0 : Fresh H0 D := frD.back gd.ext.kp
  have sees : Kp (hide H1 S) (hide (upd H1 D (.lst [])) (D :: S)) := by rw [hide_new (.of hD)]; exact .refl _
  refine ⟨fun i m Hc => m = items.length - i ∧ i ≤ items.length ∧ ∃ acc, Gd K T H0 B C Hc (D :: S) (wipe σ vs) (wipeS ρ vs) ∧ Ext T H Hc ∧ Kp (hide H1 S) (hide Hc (D :: S)) ∧ Hc D = some (.lst acc) ∧ DtAll K (hide Hc (D :: S)) acc ((items.take i).filterMap F), ⟨items.length, by simp, Nat.zero_le _, [], gw, e1.trans (.new hD), sees, upd_same, .nil⟩, ?_⟩
  rintro i m Hc ⟨rfl, hil, acc, gc, ec, sc, hc, dc⟩
  obtain ⟨f1, f2⟩ := fd i Hc (D :: S) sc gc.lst
  by_cases hlt : i < items.length
  · obtain ⟨go, yl⟩ := f1 items[i] (List.getElem?_eq_getElem hlt)
    have htk : items.take (i + 1) = items.take i ++ [items[i]] := (List.take_append_getElem hlt).symm
    refine .inr ⟨go, fun Hn => ∃ acc, Gd K T H0 B C Hn (D :: S) (wipe σ vs) (wipeS ρ vs) ∧ Ext T H Hn ∧ Kp (hide H1 S) (hide Hn (D :: S)) ∧ Hn D = some (.lst acc) ∧ DtAll K (hide Hn (D :: S)) acc ((items.take (i + 1)).filterMap F), fun Hn hn => ⟨items.length - (i + 1), by omega, rfl, hlt, hn⟩, fun x H' hy => ?_⟩
    obtain ⟨ex, dx⟩ := yl x H' hy
    obtain ⟨js, f, b, tg, hj, ht, h1, h2⟩ := hs i _ (List.getElem?_eq_getElem hlt)
    refine tg H0 B C H' (D :: S) (wipe σ vs) (wipeS ρ vs) x (gc.ex ex) dx _ fun σ2 Hg eg g2 w2 => ⟨?_, ?_⟩
    · have ww : wipe (wipe σ vs) vs = wipe σ vs := by
        have key : ∀ ws : List Nat, (∀ v ∈ ws, v ∈ vs) → wipe (wipe σ ws) vs = wipe σ vs := fun ws => by
          induction ws with
          | nil => intro _; rfl
          | cons v ws ih =>
            intro hv
            show wipe ((wipe σ ws).set v none) vs = wipe σ vs
            rw [wipe_set (hv v (List.mem_cons_self ..)), ih fun u hu => hv u (List.mem_cons_of_mem _ hu)]
        exact key vs fun v hv => hv
      rw [w2 vs hj, ww]
    · refine ht H0 B C Hg (D :: S) σ2 g2 _ fun H3 e3 => ?_
      have g3 := g2.ex e3
      have ec3 : Ext T Hc H3 := (ex.trans eg).trans e3
      cases b with
      | true =>
        obtain ⟨y, hF, hy'⟩ := h1 rfl
        refine iteT (hy' H0 B C H3 (D :: S) σ2 g3 _ fun v H4 e4 dv => ?_)
        have ec4 := ec3.trans e4
        have hD4 : H4 D = some (.lst acc) := ec4.kp D _ hc rfl
        have gc4 := (gc.ex ec4)
        have dc4 := dc.kp (ec4.kp.hide (D :: S))
        refine ⟨acc, hD4, ?_, acc ++ [v], ?_, ?_, ?_, upd_same, ?_⟩
        · have q := dc.len
          have q2 : ((items.take i).filterMap F).length ≤ (items.take i).length := List.length_filterMap_le ..
          have q3 : (items.take i).length ≤ items.length := by rw [List.length_take]; omega
          have q4 : (1000000 : Nat) < sizeLine := by decide
          omega
        · exact gc4.poke (List.mem_cons_self ..) fr0 (notMine_wipe ((gd.notMine frD).kp gd (ec.trans ec4).kp) vs) hD4
        · have q := ec.trans ec4
          exact ⟨fun b o hb n => by
            have hb' := q.kp b o hb n
            rw [upd_ne (fun z => by subst z; rw [frD o hb] at n; cases n)]
            exact hb', fun t => tabs_lst hD4 (q.tb t)⟩
        · rw [hide_upd (List.mem_cons_self ..)]
          exact sc.trans (ec4.kp.hide _)
        · rw [hide_upd (List.mem_cons_self ..), htk, List.filterMap_append]
          have : List.filterMap F [items[i]] = [y] := by simp [hF]
          rw [this]
          exact dc4.app (.cons dv .nil)
      | false =>
        refine iteF ⟨acc, gc.ex ec3, ec.trans ec3, sc.trans (ec3.kp.hide _), ec3.kp D _ hc rfl, ?_⟩
        rw [htk, List.filterMap_append]
        have : List.filterMap F [items[i]] = [] := by simp [h2 rfl]
        rw [this, List.append_nil]
        exact dc.kp (ec3.kp.hide _)
  · have e0 : i = items.length := by omega
    subst e0
    rw [List.take_length] at dc
    exact .inl ⟨f2 (Nat.le_refl _), hQ D acc Hc ec frD hc dc⟩
theorem ef_lcM (F : PyData → PyData) (hi : IterD K T wi ρ items) (hz : items.length ≤ 1000000)
    (hs : ∀ (i : Nat) (d : PyData), items[i]? = some d → ∃ js f, TgD K T g d js f ∧ (∀ j ∈ js, j ∈ vs) ∧ Ev K T te (f (wipeS ρ vs)) (F d)) :
    EvF K T (tLc wi g tYes te vs) ρ (items.map F) := by
  have q := ef_lc (K := K) (T := T) (wi := wi) (g := g) (tt := tYes) (te := te) (vs := vs) (ρ := ρ) (items := items) (fun d => some (F d)) hi hz (fun i d h => by
    obtain ⟨js, f, h1, h2, h3⟩ := hs i d h
    exact ⟨js, f, true, h1, h2, et_yes, fun _ => ⟨F d, rfl, h3⟩, fun z => by cases z⟩)
  rw [show items.filterMap (fun d => some (F d)) = items.map F from by rw [List.filterMap_eq_map']] at q
  exact q
end

abbrev FnP (K : PySem.W.Frag) (x : Str) (st : Stmt) (dvs : List V) (f : Addr) (fd : FuncData) : Prop := FunD K x x (defArgs st) (defBody st) (defScope st) dvs [] f fd
section
variable {P : Program} {w : World} {K : PySem.W.Frag} {T : Tb} {mg : Str → Option Value} {base : Heap}
def slots (n : Nat) (ds : List PyData) : List Slot := ds.map Slot.dat ++ List.replicate (n - ds.length) .no
theorem gd_start {H : Hp} {S : List Addr} {vs : List V} {ds : List PyData} {N : List Str} (l : LsT T H S) (h : DtAll K (hide H S) vs ds) : Gd K T H (hide H S) S H S (start N vs) (slots N.length ds) where
  ext := .refl T H
  vis := hide_kp H S
  bno := fun b o h => (hide_some.mp h).2.2
  hid := fun p hp => hide_mem hp
  lst := l.1
  sub := fun c hc => hc
  cl := l
  len := by unfold L2.start slots; simp [h.len]
  dat := fun i d e => by
    unfold slots at e
    unfold L2.start
    by_cases hi : i < ds.length
    · rw [List.getElem?_append_left (by rw [List.length_map]; exact hi), List.getElem?_map] at e
      cases q : ds[i]? with
      | none => rw [q] at e; cases e
      | some d' =>
        rw [q] at e
        cases e
        obtain ⟨v, hv, dv⟩ := h.get q
        refine ⟨v, ?_, dv⟩
        rw [List.getElem?_append_left (by rw [List.length_map, h.len]; exact hi), List.getElem?_map, hv]
        rfl
    · rw [List.getElem?_append_right (by rw [List.length_map]; omega)] at e
      have := List.mem_of_getElem? e
      have := (List.mem_replicate.mp this).2
      cases this
  scr := fun i d e => by
    unfold slots at e
    have := List.mem_of_getElem? e
    rcases List.mem_append.mp this with z | z
    · obtain ⟨_, _, z⟩ := List.mem_map.mp z; cases z
    · have := (List.mem_replicate.mp z).2; cases this
  own := fun i d e => by
    unfold slots at e
    have := List.mem_of_getElem? e
    rcases List.mem_append.mp this with z | z
    · obtain ⟨_, _, z⟩ := List.mem_map.mp z; cases z
    · have := (List.mem_replicate.mp z).2; cases this
  raw := fun i d e => by
    unfold slots at e
    have := List.mem_of_getElem? e
    rcases List.mem_append.mp this with z | z
    · obtain ⟨_, _, z⟩ := List.mem_map.mp z; cases z
    · have := (List.mem_replicate.mp z).2; cases this
  sep := fun i j d es p e => by
    unfold slots at e
    have := List.mem_of_getElem? e
    rcases List.mem_append.mp this with z | z
    · obtain ⟨_, _, z⟩ := List.mem_map.mp z; cases z
    · have := (List.mem_replicate.mp z).2; cases this
  rob := fun i d e => by
    unfold slots at e
    have := List.mem_of_getElem? e
    rcases List.mem_append.mp this with z | z
    · obtain ⟨_, _, z⟩ := List.mem_map.mp z; cases z
    · have := (List.mem_replicate.mp z).2; cases this
  hc := fun q hq => .inl hq
  obs := .none fun i d e => by
    unfold slots at e
    have := List.mem_of_getElem? e
    rcases List.mem_append.mp this with z | z
    · obtain ⟨_, _, z⟩ := List.mem_map.mp z; cases z
    · have := (List.mem_replicate.mp z).2; cases this
theorem fnR {x : Str} {st : Stmt} {dvs : List V} {f : Addr} {fd : FuncData} {N ps : List Str} {k : Nat} {R : List PyData → PyData → Prop} (F : FnP K x st dvs f fd) (S : FnScope N ps (defScope st)) (len : ∀ ds r, R ds r → ds.length = ps.length)
    (hbody : ∀ (cdv : Value) (A : Around) (outer : List Env) (s : Shared) (H : Hp) (E : XK), Room k (A.deeper (PyProof.Rows.envOfC x (defScope st) s.heap.objs.size f cdv)) →
      ∃ t, PSs (cxOf CX0 P w K mg base N x (defScope st) f cdv A outer s H E).nox (defBody st) t ∧ ∀ ds r, R ds r → ∀ (H0 : Hp) (C : List Addr) (D : Ends), Rt K T H0 C D.rt r → (∀ σ H', Ext T H0 H' → r = .none → D.nx σ H') → Tri K T H0 (hide H0 C) C (slots N.length ds) t D) :
    FnOk P w K mg base CX0 (k + 1) f fd ps (spR K T R) := by
  refine F.ok S (fun vs H Q E h => ?_) (fun cdv A outer s H vs Q E hr h => ?_)
  · obtain ⟨ds, r, S', l, hd, hR, _⟩ := h
    rw [hd.len]
    exact len ds r hR
  · obtain ⟨ds, r, S', l, hd, hR, hq⟩ := h
    obtain ⟨t, pt, tr⟩ := hbody cdv A outer s H E hr
    refine ⟨t, pt.nox, ?_⟩
    refine tr ds r hR H S' _ (fun v H' e dv => hq v H' e dv) (fun σ H' e z => hq _ H' e (by rw [z]; exact .non)) _ _ ⟨S', gd_start l hd⟩
end
end Lw

set_option Elab.async false
set_option linter.all false
set_option maxRecDepth 100000
set_option maxHeartbeats 4000000
set_option autoImplicit false
namespace Lw
open PySem L2
structure Cal (P : Program) (w : World) (K : PySem.W.Frag) (mg : Str → Option Value) (base : Heap) (k : Nat) (x : Str) (ps : List Str) (dvs : List V) (sp : Sp) : Prop where
  ex : ∃ (f : Addr) (fd : FuncData) (ds : List Value), FnOk P w K mg base CX0 k f fd ps sp ∧ mg x = some (.ref f) ∧ PySem.W.keepIn K (.ref f) = true ∧ Binds K fd ps ds ∧ Vals dvs ds
section
variable {X : Cx} {k j : Nat} {x : Str} {ps : List Str} {dvs : List V} {sp : Sp} {p pos : Pos} {e : Expr} {es : List Expr} {t : TA}
theorem pe_callC (c : Cal X.prog X.w X.K X.mg X.base k x ps dvs sp) (hr : Room j X.A) (hg : Gl X x) (ha : PA X (e :: es) t) (hk : k ≤ j := by decide) (hdb : (x == ("__debug__" : Str)) = false := by decide)
    (he : starEach (e :: es) X.env = (false, eval e X.env) :: starEach es X.env := by rfl) (hpl : (backTo pos (starEach es X.env)).any (·.1) = false := by rfl) : PE X (.Call (.Name x p) (e :: es) [] pos) (tCall sp dvs E0 t) := by
  obtain ⟨f, fd, ds, G, m, kp, b, v⟩ := c.ex
  exact pe_call G (hr.mono hk) hg m kp b v pass0 ha hdb he hpl
end
structure Blt (mg : Str → Option Value) : Prop where
  len : mg "len" = none
  range : mg "range" = none
  abs : mg "abs" = none
  int : mg "int" = none
  list : mg "list" = none
  tuple : mg "tuple" = none
  all : mg "all" = none
  any : mg "any" = none
  str : mg "str" = none
  sum : mg "sum" = none
  max : mg "max" = none
  min : mg "min" = none
  zip : mg "zip" = none
  enumerate : mg "enumerate" = none
  isinstance : mg "isinstance" = none
  sorted : mg "sorted" = none
  reversed : mg "reversed" = none
  bool : mg "bool" = none
  ValueError : mg "ValueError" = none
  ZeroDivisionError : mg "ZeroDivisionError" = none
  dict : mg "dict" = none
section
variable {K : PySem.W.Frag} {T : Tb} {H0 B : Hp} {C : List Addr} {ρ : List Slot} {te : TE} {tz : TS} {D : Ends}
theorem s_asgT {g : TG} {d : PyData} {js : List Nat} {f : List Slot → List Slot} (h : Ev K T te ρ d) (hg : TgD K T g d js f) (k : Tri K T H0 B C (f ρ) tNext D) : Tri K T H0 B C ρ (tAsg te g) D := fun σ H ⟨S, gd⟩ =>
  h H0 B C H S σ gd _ fun v H2 e dv => hg H0 B C H2 S σ ρ v (gd.ex e) dv _ fun σ' H3 _ g' _ => k σ' H3 ⟨S, g'⟩
end
def Bt (n : Nat) (i : Int) : Prop := i.natAbs < 2 ^ n
theorem Bt.mono {n m : Nat} {i : Int} (h : Bt n i) (l : n ≤ m) : Bt m i := Nat.lt_of_lt_of_le h (Nat.pow_le_pow_right (by decide) l)
theorem Bt.mul {n m : Nat} {i j : Int} (h : Bt n i) (h' : Bt m j) : Bt (n + m) (i * j) := by
  unfold Bt at *
  rw [Int.natAbs_mul, Nat.pow_add]
  exact Nat.mul_lt_mul'' h h'
theorem Bt.sub {n : Nat} {i j : Int} (h : Bt n i) (h' : Bt n j) : Bt (n + 1) (i - j) := by
  unfold Bt at *
  rw [Nat.pow_succ]
  omega
theorem Bt.neg {n : Nat} {i : Int} (h : Bt n i) : Bt n (-i) := by
  unfold Bt at *
  omega
theorem Bt.le {n : Nat} {i j : Int} (h : Bt n i) (l : j.natAbs ≤ i.natAbs) : Bt n j := Nat.lt_of_le_of_lt l h
theorem Bt.bits {n : Nat} {i : Int} (h : Bt n i) : Builtin.Int.intBits i ≤ n := by
  unfold Builtin.Int.intBits
  split
  · exact Nat.zero_le _
  · rename_i hz
    have z : i.natAbs ≠ 0 := by
      intro e
      apply hz
      have : i = 0 := Int.natAbs_eq_zero.mp e
      rw [this]; rfl
    have : i.natAbs.log2 < n := (Nat.log2_lt z).mpr h
    omega
theorem mulOk {n m : Nat} {i j : Int} (h : Bt n i) (h' : Bt m j) (l : n + m ≤ 100000000) : IntMulOk i j := by
  unfold IntMulOk
  intro z
  have b1 := h.bits
  have b2 := h'.bits
  rw [Bool.and_eq_true] at z
  have z2 := z.2
  unfold Builtin.Int.intTooBig at z2
  have z3 := of_decide_eq_true z2
  have : bitsLine = 134217728 := by decide
  rw [this] at z3
  omega
theorem mulOkL {i j : Int} (h : i.natAbs < 18446744073709551616) : IntMulOk i j := .of_left (intBits_le_64 (by omega) (by omega))
theorem mulOkR {i j : Int} (h : j.natAbs < 18446744073709551616) : IntMulOk i j := .of_right (intBits_le_64 (by omega) (by omega))
theorem cpowOk {i j : Int} (h : 0 ≤ j ∧ j ≤ 1000000 ∧ i.natAbs < 18446744073709551616) : CPow i j := h
theorem fdOkS {i j : Int} (h0 : j ≠ 0) (h : j.natAbs < 1073741824) : CFd i j := ⟨h0, PyProof.noPylong_small h⟩
end Lw

set_option Elab.async false
set_option linter.all false
set_option maxRecDepth 100000
set_option maxHeartbeats 4000000
set_option autoImplicit false
namespace Lw
open PySem L2
def encR (q : Rat) : PyData := .tuple [.int q.num, .int (q.den : Int)]
def Sz (n : Nat) (q : Rat) : Prop := q.num.natAbs < 2 ^ n ∧ q.den < 2 ^ n
theorem Sz.mono {n m : Nat} {q : Rat} (h : Sz n q) (l : n ≤ m) : Sz m q := ⟨Nat.lt_of_lt_of_le h.1 (Nat.pow_le_pow_right (by decide) l), Nat.lt_of_lt_of_le h.2 (Nat.pow_le_pow_right (by decide) l)⟩
theorem Sz.num {n : Nat} {q : Rat} (h : Sz n q) : Bt n q.num := h.1
theorem Sz.den {n : Nat} {q : Rat} (h : Sz n q) : Bt n (q.den : Int) := by
  show ((q.den : Int)).natAbs < 2 ^ n
  rw [Int.natAbs_natCast]
  exact h.2
theorem eqv_encR (a b : Rat) : PyData.eqv (encR a) (encR b) = decide (a = b) := by
  unfold encR
  simp only [PyData.eqv, PyData.eqvAll, Bool.and_true]
  by_cases h : a = b
  · subst h; simp
  · rw [decide_eq_false h]
    by_cases h1 : a.num = b.num
    · have h2 : ¬ (a.den : Int) = (b.den : Int) := fun z => h (Rat.ext h1 (Int.ofNat.inj z))
      simp [h1, h2]
    · simp [h1]
theorem rv_ixP0 {K : PySem.W.Frag} {T : Tb} {q : Rat} : RV K T (rIx K) (encR q) (.int 0) (.int q.num) := rv_ixT (ds := [.int q.num, .int (q.den : Int)]) rfl
theorem rv_ixP1 {K : PySem.W.Frag} {T : Tb} {q : Rat} : RV K T (rIx K) (encR q) (.int 1) (.int (q.den : Int)) := rv_ixT (ds := [.int q.num, .int (q.den : Int)]) rfl
theorem eqv_int (i j : Int) : PyData.eqv (.int i) (.int j) = decide (i = j) := by
  show (i == j) = decide (i = j)
  by_cases h : i = j <;> simp [h]
theorem shaped_int (i : Int) : SeqAt.shaped (.int i) = true := rfl
theorem shaped_encR (a : Rat) : SeqAt.shaped (encR a) = true := by
  unfold encR SeqAt.shaped
  simp [PyData.canLay0, PyData.canLayAll0, PyData.depth, PyData.depthAll]
theorem gcd_step {a b : Int} (ha : 0 ≤ a) (hb : 0 < b) : Int.gcd b (a.fmod b) = Int.gcd a b := by
  rw [Int.fmod_eq_emod_of_nonneg a (by omega)]
  obtain ⟨m, rfl⟩ := Int.eq_ofNat_of_zero_le ha
  obtain ⟨n, rfl⟩ := Int.eq_ofNat_of_zero_le (Int.le_of_lt hb)
  rw [← Int.natCast_emod]
  show Nat.gcd n (m % n) = Nat.gcd m n
  rw [Nat.gcd_comm m n, Nat.gcd_rec n m, Nat.gcd_comm]
theorem part_num {u l : Int} (hl : l ≠ 0) : (if l < 0 then -u else u).fdiv ((Int.gcd u l : Nat) : Int) = (Rat.divInt u l).num := by
  have hg : (0 : Int) ≤ ((Int.gcd u l : Nat) : Int) := Int.natCast_nonneg _
  rw [Int.fdiv_eq_ediv_of_nonneg _ hg, Rat.num_divInt, Int.gcd_comm u l]
  congr 1
  by_cases h : l < 0
  · rw [if_pos h, Int.sign_eq_neg_one_of_neg h]; omega
  · rw [if_neg h, Int.sign_eq_one_of_pos (by omega)]; omega
theorem part_den {u l : Int} (hl : l ≠ 0) : (if l < 0 then -l else l).fdiv ((Int.gcd u l : Nat) : Int) = ((Rat.divInt u l).den : Int) := by
  have hg : (0 : Int) ≤ ((Int.gcd u l : Nat) : Int) := Int.natCast_nonneg _
  rw [Int.fdiv_eq_ediv_of_nonneg _ hg, Rat.den_divInt, if_neg hl, Int.gcd_comm u l, Int.natCast_ediv]
  congr 1
  by_cases h : l < 0
  · rw [if_pos h]; omega
  · rw [if_neg h]; omega
theorem gcd_ne {u l : Int} (hl : l ≠ 0) : ((Int.gcd u l : Nat) : Int) ≠ 0 := by
  have := Int.gcd_pos_of_ne_zero_right u hl
  omega
theorem den_pos (a : Rat) : (0 : Int) < (a.den : Int) := by have := a.den_nz; omega
end Lw

set_option Elab.async false
set_option linter.all false
set_option maxRecDepth 100000
set_option maxHeartbeats 4000000
set_option autoImplicit false
namespace Lw
open PySem L2
inductive Ar (K : PySem.W.Frag) (H : Hp) : List V → List Slot → Prop
  | nil : Ar K H [] []
  | dat {v : V} {d : PyData} {vs : List V} {ss : List Slot} : Dt K H v d → Ar K H vs ss → Ar K H (v :: vs) (.dat d :: ss)
  | scr {a : Addr} {xs : List V} {ds : List PyData} {vs : List V} {ss : List Slot} : SqL K H a xs → DtAll K H xs ds → Ar K H vs ss → Ar K H (.ref a :: vs) (.scr ds :: ss)
  | raw {v : V} {vs : List V} {ss : List Slot} : Ar K H vs ss → Ar K H (v :: vs) (.raw v :: ss)
section
variable {K : PySem.W.Frag} {T : Tb} {H : Hp}
theorem Ar.len : ∀ {vs : List V} {ss : List Slot}, Ar K H vs ss → vs.length = ss.length := by
  intro vs ss h
  induction h with
  | nil => rfl
  | dat _ _ ih => rw [List.length_cons, List.length_cons, ih]
  | scr _ _ _ ih => rw [List.length_cons, List.length_cons, ih]
  | raw _ ih => rw [List.length_cons, List.length_cons, ih]
theorem Ar.getD {vs : List V} {ss : List Slot} (h : Ar K H vs ss) : ∀ {i : Nat} {d : PyData}, ss[i]? = some (.dat d) → ∃ v, vs[i]? = some v ∧ Dt K H v d := by
  induction h with
  | nil => intro i d e; simp at e
  | dat hd _ ih =>
    intro i d e
    cases i with
    | zero => cases e; exact ⟨_, rfl, hd⟩
    | succ i => exact ih e
  | scr _ _ _ ih =>
    intro i d e
    cases i with
    | zero => cases e
    | succ i => exact ih e
  | raw _ ih =>
    intro i d e
    cases i with
    | zero => cases e
    | succ i => exact ih e
theorem Ar.getS {vs : List V} {ss : List Slot} (h : Ar K H vs ss) : ∀ {i : Nat} {ds : List PyData}, ss[i]? = some (.scr ds) → ∃ a xs, vs[i]? = some (.ref a) ∧ SqL K H a xs ∧ DtAll K H xs ds := by
  induction h with
  | nil => intro i d e; simp at e
  | dat hd _ ih =>
    intro i d e
    cases i with
    | zero => cases e
    | succ i => exact ih e
  | scr h1 h2 _ ih =>
    intro i d e
    cases i with
    | zero => cases e; exact ⟨_, _, rfl, h1, h2⟩
    | succ i => exact ih e
  | raw _ ih =>
    intro i d e
    cases i with
    | zero => cases e
    | succ i => exact ih e
theorem Ar.noOwn {vs : List V} {ss : List Slot} (h : Ar K H vs ss) : ∀ {i : Nat} {ds : Ob}, ss[i]? ≠ some (.own ds) := by
  induction h with
  | nil => intro i d e; simp at e
  | dat hd _ ih =>
    intro i d e
    cases i with
    | zero => cases e
    | succ i => exact ih e
  | scr h1 h2 _ ih =>
    intro i d e
    cases i with
    | zero => cases e
    | succ i => exact ih e
  | raw _ ih =>
    intro i d e
    cases i with
    | zero => cases e
    | succ i => exact ih e
theorem Ar.noOl {vs : List V} {ss : List Slot} (h : Ar K H vs ss) : ∀ {i : Nat} {s : Slot}, s.ol = true → ss[i]? ≠ some s := by
  induction h with
  | nil => intro i d z e; simp at e
  | dat hd _ ih =>
    intro i d z e
    cases i with
    | zero => cases e; cases z
    | succ i => exact ih z e
  | scr h1 h2 _ ih =>
    intro i d z e
    cases i with
    | zero => cases e; cases z
    | succ i => exact ih z e
  | raw _ ih =>
    intro i d z e
    cases i with
    | zero => cases e; cases z
    | succ i => exact ih z e
theorem Ar.getR {vs : List V} {ss : List Slot} (h : Ar K H vs ss) : ∀ {i : Nat} {v : V}, ss[i]? = some (.raw v) → vs[i]? = some v := by
  induction h with
  | nil => intro i d e; simp at e
  | dat hd _ ih =>
    intro i d e
    cases i with
    | zero => cases e
    | succ i => exact ih e
  | scr h1 h2 _ ih =>
    intro i d e
    cases i with
    | zero => cases e
    | succ i => exact ih e
  | raw _ ih =>
    intro i d e
    cases i with
    | zero => cases e; rfl
    | succ i => exact ih e
def slotsA (n : Nat) (ss : List Slot) : List Slot := ss ++ List.replicate (n - ss.length) .no
theorem slotsA_get {n : Nat} {ss : List Slot} {i : Nat} {s : Slot} (e : (slotsA n ss)[i]? = some s) (hs : s ≠ .no) : ss[i]? = some s := by
  unfold slotsA at e
  by_cases hi : i < ss.length
  · rwa [List.getElem?_append_left hi] at e
  · rw [List.getElem?_append_right (by omega)] at e
    have := (List.mem_replicate.mp (List.mem_of_getElem? e)).2
    exact absurd this hs
theorem start_get {N : List Str} {vs : List V} {i : Nat} {v : V} (h : vs[i]? = some v) : (L2.start N vs)[i]? = some (some v) := by
  unfold L2.start
  have hl := (List.getElem?_eq_some_iff.mp h).1
  rw [List.getElem?_append_left (by rw [List.length_map]; exact hl), List.getElem?_map, h]
  rfl
theorem gd_startA {S : List Addr} {vs : List V} {ss : List Slot} {N : List Str} (l : LsT T H S) (h : Ar K (hide H S) vs ss) : Gd K T H (hide H S) S H S (L2.start N vs) (slotsA N.length ss) where
  ext := .refl T H
  vis := hide_kp H S
  bno := fun b o h => (hide_some.mp h).2.2
  hid := fun p hp => hide_mem hp
  lst := l.1
  sub := fun c hc => hc
  cl := l
  len := by unfold L2.start slotsA; simp [h.len]
  dat := fun i d e => by
    obtain ⟨v, h1, h2⟩ := h.getD (slotsA_get e (fun z => by cases z))
    exact ⟨v, start_get h1, h2⟩
  scr := fun i d e => by
    obtain ⟨a, xs, h1, h2, h3⟩ := h.getS (slotsA_get e (fun z => by cases z))
    exact ⟨a, xs, start_get h1, h2, h3⟩
  own := fun i d e => (h.noOwn (slotsA_get e (fun z => by cases z))).elim
  raw := fun i v e => start_get (h.getR (slotsA_get e (fun z => by cases z)))
  sep := fun i j d es p e => (h.noOwn (slotsA_get e (fun z => by cases z))).elim
  rob := fun i d e => (h.noOl rfl (slotsA_get e (fun z => by cases z))).elim
  hc := fun q hq => .inl hq
  obs := .none fun i d e => (h.noOl rfl (slotsA_get e (fun z => by cases z))).elim
def spA (K : PySem.W.Frag) (T : Tb) (R : List Slot → (PyData → Prop) → Prop) : Sp := fun vs H Q _ => ∃ ss Post S, LsT T H S ∧ Ar K (hide H S) vs ss ∧ R ss Post ∧
  ∀ r, Post r → ∀ v H', Ext T H H' → Dt K (hide H' S) v r → Q v H'
theorem fnA {P : Program} {w : World} {mg : Str → Option Value} {base : Heap} {x : Str} {st : Stmt} {dvs : List V} {f : Addr} {fd : FuncData} {N ps : List Str} {k : Nat} {R : List Slot → (PyData → Prop) → Prop} (F : FnP K x st dvs f fd) (S : FnScope N ps (defScope st)) (len : ∀ ss p, R ss p → ss.length = ps.length)
    (hbody : ∀ (cdv : Value) (A : Around) (outer : List Env) (s : Shared) (H : Hp) (E : XK), Room k (A.deeper (PyProof.Rows.envOfC x (defScope st) s.heap.objs.size f cdv)) →
      ∃ t, PSs (cxOf CX0 P w K mg base N x (defScope st) f cdv A outer s H E).nox (defBody st) t ∧ ∀ ss Post, R ss Post → ∀ (H0 : Hp) (C : List Addr) (D : Ends), (∀ r, Post r → Rt K T H0 C D.rt r) → Tri K T H0 (hide H0 C) C (slotsA N.length ss) t D) :
    FnOk P w K mg base CX0 (k + 1) f fd ps (spA K T R) := by
  refine F.ok S (fun vs H Q E h => ?_) (fun cdv A outer s H vs Q E hr h => ?_)
  · obtain ⟨ss, p, S', l, hd, hR, _⟩ := h
    rw [hd.len]
    exact len ss p hR
  · obtain ⟨ss, p, S', l, hd, hR, hq⟩ := h
    obtain ⟨t, pt, tr⟩ := hbody cdv A outer s H E hr
    exact ⟨t, pt.nox, tr ss p hR H S' _ (fun r hr v H' e dv => hq r hr v H' e dv) _ _ ⟨S', gd_startA l hd⟩⟩
variable {ρ : List Slot}
theorem ef_slS {i : Nat} {ds : List PyData} {tl th : TO} {lo hi : Option Int} (h : ρ[i]? = some (.scr ds)) (h1 : EvP K T tl ρ lo) (h2 : EvP K T th ρ hi) : EvF K T (tSl (rSlX K) (tVar i) tl th) ρ (cutD ds lo hi) := fun H0 B C H S σ g Q hQ => by
  obtain ⟨a, xs, a1, a2, a3⟩ := g.scr i ds h
  refine ⟨.ref a, a1, ?_⟩
  refine h1 H0 B C H S σ g _ fun H2 e2 => h2 H0 B C H2 S σ (g.ex e2) _ fun H3 e3 => ?_
  have e23 := e2.trans e3
  refine .inl ⟨a, xs, rfl, (hide_kp H3 S).sql ((e23.kp.hide S).sql a2), fun p hp => ?_⟩
  refine hQ p _ _ (e23.trans (.new hp)) ((Fresh.of hp).back e23.kp) upd_same ?_
  rw [hide_new (.of hp)]
  exact (a3.kp (e23.kp.hide S)).cut lo hi
def Few (xs : List Int) : Prop := ∀ x ∈ xs, 0 ≤ x ∧ x < 9967
def Rnumbers (ss : List Slot) (Post : PyData → Prop) : Prop := ∃ (ns : List Int) (many : Nat), ns.length ≤ 63 ∧ many ≤ 100000 ∧ ss = [.scr (ns.map .int), .dat (.int many)] ∧
  Post = fun r => ∃ xs : List Int, xs.length = many ∧ Few xs ∧ r = .list (xs.map .int)
theorem Few.app {xs ys : List Int} (h : Few xs) (h' : Few ys) : Few (xs ++ ys) := fun x hx => by
  rcases List.mem_append.mp hx with z | z
  · exact h x z
  · exact h' x z
theorem Few.one {x : Int} (h0 : 0 ≤ x) (h1 : x < 9967) : Few [x] := fun y hy => by
  rw [List.mem_singleton.mp hy]
  exact ⟨h0, h1⟩
theorem q_num {H0 B : Hp} {C : List Addr} {i j many : Nat} {ns : List Int} {E : XK} {tz : TS} {D : Ends} (h : ρ[j]? = some (.scr (ns.map .int))) (hl : ns.length ≤ 63) (hm : many ≤ 100000)
    (k : ∀ xs : List Int, xs.length = many → Few xs → Tri K T H0 B C (ρ.set i (.dat (.list (xs.map .int)))) tz D) :
    Tri K T H0 B C ρ (tSeq (tAsg (tCall (spA K T Rnumbers) [] E (tCons (tVar j) (tCons (tC (.int (many : Int))) tNil))) (gName i)) tz) D := fun σ H ⟨S, g⟩ => by
  obtain ⟨a, xs, a1, a2, a3⟩ := g.scr j _ h
  refine ⟨.ref a, a1, ?_⟩
  refine ⟨[.scr (ns.map .int), .dat (.int many)], _, S, g.lsT (.refl T H), .scr a2 a3 (.dat (.int _) .nil), ⟨ns, many, hl, hm, rfl, rfl⟩, ?_⟩
  rintro r ⟨ys, hy, fy, rfl⟩ v H' e dv
  exact k ys hy fy _ _ ⟨S, (g.ex e).set dv⟩
end
def Rlaw (ss : List Slot) (Post : PyData → Prop) : Prop := ∃ ns : List Int, ns.length ≤ 63 ∧ ss = [.scr (ns.map .int)] ∧ Post = fun r => r = .bool true
end Lw

set_option Elab.async false
set_option linter.all false
set_option maxRecDepth 100000
set_option maxHeartbeats 4000000
set_option autoImplicit false
namespace Lw
open PySem L2
theorem atI_in {α : Type} {xs : List α} {i : Int} (h0 : 0 ≤ i) (h1 : i < xs.length) : atI xs i = xs[i.toNat]? := by
  unfold atI ixN
  rw [if_pos h0, if_pos h1]
  rfl
theorem fmod_in {a b : Int} (hb : 0 < b) : 0 ≤ a.fmod b ∧ a.fmod b < b := by
  rw [Int.fmod_eq_emod_of_nonneg a (by omega)]
  exact ⟨Int.emod_nonneg a (by omega), Int.emod_lt_of_pos a hb⟩
theorem cut_betweenI (xs : List Int) {i j : Int} (h0 : 0 ≤ i) (h1 : i ≤ j) (h : j ≤ xs.length) : cutD (xs.map .int) (some i) (some j) = ((xs.drop i.toNat).take (j - i).toNat).map .int := by
  obtain ⟨k, rfl⟩ := Int.eq_ofNat_of_zero_le h0
  obtain ⟨m, rfl⟩ := Int.eq_ofNat_of_zero_le (Int.le_trans h0 h1)
  unfold cutD
  rw [HT.sIx_nat, HT.sIx_nat, List.length_map, Nat.min_eq_left (by omega), Nat.min_eq_left (by omega), List.map_take, List.map_drop]
  congr 1
  omega
theorem Few.drop {xs : List Int} (h : Few xs) (n : Nat) : Few (xs.drop n) := fun x hx => h x (List.mem_of_mem_drop hx)
theorem Few.take {xs : List Int} (h : Few xs) (n : Nat) : Few (xs.take n) := fun x hx => h x (List.mem_of_mem_take hx)
end Lw

set_option Elab.async false
set_option linter.all false
set_option maxRecDepth 100000
set_option maxHeartbeats 4000000
set_option autoImplicit false
namespace Lw
open PySem L2
section
variable {X : Cx} (K : PySem.W.Frag)
theorem op_addK (h : X.K = K := by rfl) : OpR X (binaryOp .Add) (rAddA K) := h ▸ op_addA
theorem op_eqK (hu : X.A.units + 64 < cLine) (h : X.K = K := by rfl) : OpR X (compareOp .Eq) (rEqD K) := h ▸ op_eqD hu
theorem op_neK (hu : X.A.units + 64 < cLine) (h : X.K = K := by rfl) : OpR X (compareOp .NotEq) (rNeD K) := h ▸ op_neD hu
theorem op_inK (h : X.K = K := by rfl) : OpR X (compareOp .In) (rIn K false) := h ▸ op_in_seq
theorem ix_seqK (h : X.K = K := by rfl) : IxR X (rIx K) := h ▸ ix_seq
theorem sl_anyK (h : X.K = K := by rfl) : SlR X (rSlX K) := h ▸ sl_any
theorem call_lenK (h : X.K = K := by rfl) : CallR X (.builtin "len") (rLenA K) := h ▸ call_len
theorem cr_allK (hc : X.calm = true) (h : X.K = K := by rfl) : CallR X (.builtin "all") (rAll K) := h ▸ cr_all hc
theorem pi_seqK {tg l : Expr} {tl : TE} (hl : PE X l tl) (h : X.K = K := by rfl) : PI X tg l (iSeq K tl) := h ▸ pi_seq hl
theorem pg_tupK {pos : Pos} {es : List Expr} {k : Nat} {t : TGs} {n : Nat} (hc : X.calm = true) (hh : PGs X es t) (h : X.K = K := by rfl)
    (hn : (assignEach es X.env).length = n := by rfl) (hst : (assignEach es X.env).findIdx? (·.1) = none := by rfl) : PG X (.Tuple es k pos) (gTup K n t) := h ▸ pg_tup hc hh hn hst
variable {o e : Expr} {es : List Expr} {to : TE} {t : TA} {name : Str} {apos cpos : Pos} {T id : String} {r : V → List V → Hp → VK → Prop}
theorem pe_bmK (pa : PlainAttrs T) (slot : PySem.Slot T name id) (hty : typeOf (.builtin id) = pure (.type "method_descriptor")) (hm : MtR X id r) (ho : PE X o to) (ha : PA X (e :: es) t) (h : X.K = K := by rfl)
    (hbase : attributeBase o name X.env (eval o X.env) = eval o X.env := by rfl)
    (hfew : ((backTo cpos (starEach (e :: es) X.env)).all (fun x => !x.1) && (backToKw cpos (keywordEach [] X.env)).all (fun x => x.1.isSome)
      && decide ((e :: es).length + ([] : List Keyword).length + (if ([] : List Keyword).isEmpty then 0 else 1) < 30)) = true := by rfl)
    (hline : (apos.endLine == cpos.line) = true := by rfl) (hs : starEach (e :: es) X.env = (false, eval e X.env) :: starEach es X.env := by rfl) (hplain : (backTo cpos (starEach es X.env)).any (·.1) = false := by rfl) :
    PE X (.Call (.Attribute o name apos) (e :: es) [] cpos) (tBM K T r to t) := h ▸ pe_bm pa slot hty hm ho ha hbase hfew hline hs hplain
end
end Lw

set_option Elab.async false
set_option linter.all false
set_option maxRecDepth 100000
set_option maxHeartbeats 4000000
set_option autoImplicit false
namespace LwZ
open PySem
open PySem.Sem (wp)
def Quiet (A : Around) (h : Heap) : Prop := A.handled = none ∨ ∃ x1, HotX.HotAt A x1 h
theorem Quiet.keep {A : Around} {h h' : Heap} {it : Addr} {o : Obj} {vs : Array Value} (q : Quiet A h) (ho : h.get? it = some o) (hd : o.data = .fields vs) (hv : vs[2]? ≠ some .none) (k : ∀ b u, b ≠ it → h.get? b = some u → h'.get? b = some u) : Quiet A h' := by
  rcases q with q | ⟨x1, hh, o1, v1, h1, d1, c1⟩
  · exact .inl q
  · refine .inr ⟨x1, hh, o1, v1, k x1 o1 (fun z => ?_) h1, d1, c1⟩
    subst z
    rw [ho] at h1
    cases h1
    rw [hd] at d1
    cases d1
    exact hv c1
theorem Quiet.all {A : Around} {h h' : Heap} (q : Quiet A h) (k : ∀ b u, h.get? b = some u → h'.get? b = some u) : Quiet A h' := by
  rcases q with q | ⟨x1, hh, o1, v1, h1, d1, c1⟩
  · exact .inl q
  · exact .inr ⟨x1, hh, o1, v1, k x1 o1 h1, d1, c1⟩
def IsSq (tp : Bool) (h : Heap) (l : Addr) (items : Array Value) : Prop := match tp with
  | true => h.IsTuple l items
  | false => h.IsList l items
def IsIt (tp : Bool) (h : Heap) (it l : Addr) (i : Nat) : Prop := match tp with
  | true => h.IsTupleIter it l i
  | false => h.IsListIter it l i
def itN : Bool → String
  | true => "tuple_iterator"
  | false => "list_iterator"
theorem IsIt.get {tp : Bool} {h : Heap} {it l : Addr} {i : Nat} (x : IsIt tp h it l i) : ∃ o, h.get? it = some o ∧ o.cls = .type (itN tp) ∧ o.data = .fields #[.ref l, .int i 0] := by
  cases tp <;> exact x
theorem IsIt.mk {tp : Bool} {h : Heap} {it l : Addr} {i : Nat} (x : ∃ o, h.get? it = some o ∧ o.cls = .type (itN tp) ∧ o.data = .fields #[.ref l, .int i 0]) : IsIt tp h it l i := by
  cases tp <;> exact x
theorem IsIt.ext {tp : Bool} {h h' : Heap} {it l b : Addr} {i : Nat} (x : IsIt tp h it l i) (k : Heap.ExtBut b h h') (hb : it ≠ b) : IsIt tp h' it l i :=
  let ⟨o, h1, h2⟩ := x.get; .mk ⟨o, k it o hb h1, h2⟩
theorem IsIt.at {tp : Bool} {h h' : Heap} {it l : Addr} {i : Nat} (x : IsIt tp h it l i) (k : ∀ o, h.get? it = some o → h'.get? it = some o) : IsIt tp h' it l i :=
  let ⟨o, h1, h2⟩ := x.get; .mk ⟨o, k o h1, h2⟩
theorem IsSq.get {tp : Bool} {h : Heap} {l : Addr} {items : Array Value} (x : IsSq tp h l items) : ∃ o n, h.get? l = some o ∧ o.data = .seq items n := by
  cases tp
  · obtain ⟨o, a, _, n, d⟩ := x; exact ⟨o, n, a, d⟩
  · obtain ⟨o, a, _, n, d⟩ := x; exact ⟨o, n, a, d⟩
theorem IsSq.ext {tp : Bool} {h h' : Heap} {l b : Addr} {items : Array Value} (x : IsSq tp h l items) (k : Heap.ExtBut b h h') (hb : l ≠ b) : IsSq tp h' l items := by
  cases tp
  · exact Heap.IsList.extBut x k hb
  · exact Heap.IsTuple.extBut x k hb
section
variable {prog : Program} {w : World} {A : Around} {E : Value → Shared → Prop} {s : Shared}
theorem nextOf_item {tp : Bool} {it l : Addr} {i : Nat} {items : Array Value} {x : Value} {Q : Value → Shared → Prop} (hit : IsIt tp s.heap it l i) (hl : IsSq tp s.heap l items) (hx : items[i]? = some x)
    (hQ : ∀ h', IsIt tp h' it l (i + 1) → Heap.SameBut it s.heap h' → Q x { s with heap := h' }) : wpAny (model prog w) A (Builtin.SmallTypes.nextOf (.ref it)) Q E s := by
  cases tp with
  | true => exact RZ.nextOf_tuple_item hit hl hx hQ
  | false => exact wpAny_nextOf_list_item hit hl hx hQ
theorem stop_raised {Q : Fin → Shared → Prop} (q : Quiet A s.heap) (hE : ∀ h' e, (∀ b o, s.heap.get? b = some o → h'.get? b = some o) → (∃ o, h'.get? e = some o ∧ o.cls = .type "StopIteration") → E (.ref e) { s with heap := h' }) :
    wpAny (model prog w) A (Builtin.SmallTypes.stopIteration) Q E s := by
  show wpAny _ _ (newExc (.type "StopIteration") [] >>= _) _ _ _
  refine wpAny_bind ?_
  simp only [newExc, newTuple]
  refine wpAny_bind (wpAny_newObj_type ?_ (by size_fits))
  refine wpAny_bind (m := firstArgMember _ _) (wpAny_of_eq (a := Value.none) (by first | rfl | (simp only [firstArgMember]; rfl)) ?_)
  refine wpAny_newObj_type ?_ (by size_fits)
  rcases q with hh | ⟨x1, hh, o1, vs1, h1, d1, c1⟩
  · simp only [raiseNew]
    refine wpAny_bind (wpAny_handled ?_)
    rw [hh]
    refine wpAny_bind (wpAny_pure (wpAny_throw ?_))
    exact hE _ _ (fun b o e => Heap.get?_push_of_some _ (Heap.get?_push_of_some _ e)) ⟨_, Heap.get?_push_size _ rfl, rfl⟩
  · refine HotX.raiseNew_hot ⟨hh, o1, vs1, Heap.get?_push_of_some _ (Heap.get?_push_of_some _ h1), d1, c1⟩ (Nat.ne_of_lt (Heap.lt_size (Heap.get?_push_of_some _ h1))) (Heap.get?_push_size _ rfl) rfl (by first | (simp; done) | (simp; omega) | (simp only [Array.size_append]; simp; omega)) ?_
    refine hE _ _ (fun b o e => ?_) ⟨_, Heap.get?_update_self _ (Heap.get?_push_size _ rfl) rfl, rfl⟩
    rw [Heap.get?_update_other _ _ (Nat.ne_of_gt (Heap.lt_size (Heap.get?_push_of_some _ e)))]
    exact Heap.get?_push_of_some _ (Heap.get?_push_of_some _ e)
theorem nextOf_end {tp : Bool} {it l : Addr} {i : Nat} {items : Array Value} {Q : Value → Shared → Prop} (q : Quiet A s.heap) (hit : IsIt tp s.heap it l i) (hl : IsSq tp s.heap l items) (hx : items[i]? = none)
    (hE : ∀ h' e, Heap.ExtBut it s.heap h' → (∃ o, h'.get? e = some o ∧ o.cls = .type "StopIteration") → E (.ref e) { s with heap := h' }) : wpAny (model prog w) A (Builtin.SmallTypes.nextOf (.ref it)) Q E s := by
  obtain ⟨o, ho, hc, hd⟩ := hit.get
  obtain ⟨ol, nl, hol, hdl⟩ := hl.get
  have tail : ∀ (id : String) (Q' : Fin → Shared → Prop), wpAny (model prog w) A.in1 (do
      let seq ← field (.ref it) 0
      if seq == .none then rule s!"{id}.ended"; Builtin.SmallTypes.stopIteration
      let .int i _ ← field (.ref it) 1 | unsupported s!"internal:{id}"
      let some its ← seqItems? seq | unsupported s!"internal:{id}"
      match its[i.toNat]? with
      | some x => setField (.ref it) 1 (rawInt (i + 1)); ret x
      | none => rule s!"{id}.end"; setField (.ref it) 0 .none; Builtin.SmallTypes.stopIteration) Q' E s := by
    intro id Q'
    refine wpAny_bind (wpAny_field ho hd (x := .ref l) rfl ?_)
    show wpAny _ _ (if (Value.ref l == Value.none) = true then _ else _) _ _ s
    rw [if_neg (show ¬ ((Value.ref l == Value.none) = true) from Bool.false_ne_true)]
    refine wpAny_bind (wpAny_field ho hd (x := .int i 0) rfl ?_)
    refine wpAny_bind (wpAny_seqItems hol hdl ?_)
    simp only [Int.toNat_natCast, hx]
    refine wpAny_bind (wpAny_rule (wpAny_bind (wpAny_setField ho hd (by simp) ?_)))
    have q2 : Quiet A.in1 (s.heap.update it (Obj.mapFields (·.setIfInBounds 0 .none))) :=
      Quiet.keep (A := A.in1) (show Quiet A.in1 s.heap from q) ho hd (by simp) fun b u hb e => by rw [Heap.get?_update_other _ _ (Ne.symm hb)]; exact e
    refine stop_raised (s := { s with heap := s.heap.update it (Obj.mapFields (·.setIfInBounds 0 .none)) }) q2 fun h' e k ho' => hE h' e (fun b u hb z => k b u (by
      rw [Heap.get?_update_other _ _ (Ne.symm hb)]; exact z)) ho'
  unfold Builtin.SmallTypes.nextOf
  cases tp with
  | true =>
    refine wpAny_bind (wpAny_callSpecial?_slot (name := Str.ofString "__next__") (show s.TypeIs (.ref it) "tuple_iterator" from ⟨o, ho, hc⟩) F.slot_tuple_iterator_next
      (wpAny_call_entry F.slot_tuple_iterator_next ⟨o, ho, hc⟩ F.entry_tuple_iterator_next ?_ (F.args_tuple_iterator_next_1 _)))
    exact tail "tuple_iterator.__next__" _
  | false =>
    refine wpAny_bind (wpAny_callSpecial?_slot (name := Str.ofString "__next__") (show s.TypeIs (.ref it) "list_iterator" from ⟨o, ho, hc⟩) slot_listiter_next
      (wpAny_call_entry slot_listiter_next ⟨o, ho, hc⟩ entry_listiter_next ?_ (args_listiter_next _)))
    exact tail "list_iterator.__next__" _
theorem orEnd_item {tp : Bool} {it l : Addr} {i : Nat} {items : Array Value} {x : Value} {Q : Option Value → Shared → Prop} (hit : IsIt tp s.heap it l i) (hl : IsSq tp s.heap l items) (hx : items[i]? = some x)
    (hQ : ∀ h', IsIt tp h' it l (i + 1) → Heap.SameBut it s.heap h' → Q (some x) { s with heap := h' }) : wpAny (model prog w) A (Builtin.SmallTypes.nextOrEnd (.ref it)) Q E s := by
  unfold Builtin.SmallTypes.nextOrEnd
  exact wpAny_bind (wpAny_attempt (nextOf_item hit hl hx fun h' a b => wpAny_pure (hQ h' a b)))
theorem orEnd_end {tp : Bool} {it l : Addr} {i : Nat} {items : Array Value} {Q : Option Value → Shared → Prop} (q : Quiet A s.heap) (hit : IsIt tp s.heap it l i) (hl : IsSq tp s.heap l items) (hx : items[i]? = none)
    (hQ : ∀ h', Heap.ExtBut it s.heap h' → Q none { s with heap := h' }) : wpAny (model prog w) A (Builtin.SmallTypes.nextOrEnd (.ref it)) Q E s := by
  unfold Builtin.SmallTypes.nextOrEnd
  refine wpAny_bind (wpAny_attempt (nextOf_end q hit hl hx fun h' e k ho => ?_))
  obtain ⟨o, ho, hc⟩ := ho
  refine wpAny_bind (wpAny_isInstance (T := "StopIteration") (b := true) ⟨o, ho, hc⟩ isSubtype_stop ?_)
  exact wpAny_pure (hQ h' k)
abbrev IsZp (st : Bool) (h : Heap) (z TI TO : Addr) (f0 : Value) : Prop :=
  h.get? z = some { cls := .type "zip", dict := none, data := .fields #[f0, .bool false, .bool st, .ref TI, .ref TO], slots := #[] }
theorem zip_item {st p1 p2 : Bool} {z TI TO i1 i2 l1 l2 : Addr} {k1 k2 : Nat} {xs ys : Array Value} {x y a b : Value} {Q : Value → Shared → Prop} (D : ZipApart z TI TO i1 i2 l1 l2)
    (hz : IsZp st s.heap z TI TO .none) (hTI : IsPair s.heap TI (.ref i1) (.ref i2)) (hTO : IsPair s.heap TO a b)
    (h1 : IsIt p1 s.heap i1 l1 k1) (h2 : IsIt p2 s.heap i2 l2 k2) (hl1 : IsSq p1 s.heap l1 xs) (hl2 : IsSq p2 s.heap l2 ys) (hx : xs[k1]? = some x) (hy : ys[k2]? = some y)
    (hQ : ∀ h', IsZp st h' z TI TO (rawInt s.heap.objs.size) → IsPair h' TO x y → IsIt p1 h' i1 l1 (k1 + 1) → IsIt p2 h' i2 l2 (k2 + 1) → IsPair h' s.heap.objs.size x y → h'.objs.size = s.heap.objs.size + 1 →
      (∀ c o, c ≠ z → c ≠ TO → c ≠ i1 → c ≠ i2 → s.heap.get? c = some o → h'.get? c = some o) → Q (.ref s.heap.objs.size) { s with heap := h' }) :
    wpAny (model prog w) A (Builtin.«zip.__next__» ⟨[.ref z], []⟩) (fun fin s' => ∃ v, fin = .done (.ret v) ∧ Q v s') E s := by
  have draw1 : ∀ {h₁ : Heap} {Q' : Option Value → Shared → Prop} {E' : Value → Shared → Prop}, Heap.SameBut z s.heap h₁ → (∀ h₂, IsIt p1 h₂ i1 l1 (k1 + 1) → Heap.SameBut i1 h₁ h₂ → Q' (some x) { s with heap := h₂ }) →
      wpAny (model prog w) A (if st = true then Builtin.SmallTypes.nextOrEnd (.ref i1) else (do return some (← Builtin.SmallTypes.nextOf (.ref i1)))) Q' E' { s with heap := h₁ } := by
    intro h₁ Q' E' hs₁ k
    have a1 := h1.ext hs₁.extBut D.i1z
    have a2 := hl1.ext hs₁.extBut D.l1z
    cases st with
    | true => exact orEnd_item (s := { s with heap := h₁ }) a1 a2 hx k
    | false => exact wpAny_bind (nextOf_item (s := { s with heap := h₁ }) a1 a2 hx fun h₂ b1 b2 => wpAny_pure (k h₂ b1 b2))
  have draw2 : ∀ {h₁ : Heap} {Q' : Option Value → Shared → Prop} {E' : Value → Shared → Prop}, IsIt p2 h₁ i2 l2 k2 → IsSq p2 h₁ l2 ys → (∀ h₂, IsIt p2 h₂ i2 l2 (k2 + 1) → Heap.SameBut i2 h₁ h₂ → Q' (some y) { s with heap := h₂ }) →
      wpAny (model prog w) A (if st = true then Builtin.SmallTypes.nextOrEnd (.ref i2) else (do return some (← Builtin.SmallTypes.nextOf (.ref i2)))) Q' E' { s with heap := h₁ } := by
    intro h₁ Q' E' a1 a2 k
    cases st with
    | true => exact orEnd_item (s := { s with heap := h₁ }) a1 a2 hy k
    | false => exact wpAny_bind (nextOf_item (s := { s with heap := h₁ }) a1 a2 hy fun h₂ b1 b2 => wpAny_pure (k h₂ b1 b2))
  have est : (Value.bool st == Value.bool true) = st := by cases st <;> rfl
  show wpAny _ _ (field (.ref z) 2 >>= _) _ _ _
  refine wpAny_bind (wpAny_field hz rfl (x := .bool st) rfl ?_)
  rw [est]
  show wpAny _ _ (field (.ref z) 3 >>= _) _ _ _
  refine wpAny_bind (wpAny_field hz rfl (x := .ref TI) rfl ?_)
  refine wpAny_bind (wpAny_seqItems hTI rfl ?_)
  show wpAny _ _ (Builtin.SmallTypes.ownedTupleIsFree (.ref z) >>= _) _ _ _
  refine wpAny_bind ?_
  unfold Builtin.SmallTypes.ownedTupleIsFree
  refine wpAny_bind (wpAny_field hz rfl (x := .none) rfl (wpAny_pure ?_))
  simp only [if_true]
  refine wpAny_bind (wpAny_rule ?_)
  refine wpAny_bind (wpAny_field hz rfl (x := .ref TO) rfl ?_)
  refine wpAny_bind (wpAny_setField_rec hz (by simp) fun h₁ hz₁ hs₁ => ?_)
  replace hz₁ : IsZp st h₁ z TI TO .ellipsis := hz₁
  refine wpAny_bind ?_
  simp only [List.zipIdx_cons, List.zipIdx_nil, List.forIn_cons, List.forIn_nil]
  refine wpAny_bind (wpAny_bind (wpAny_onRaise ?_))
  refine draw1 hs₁ fun h₂ h1₂ hs₂ => ?_
  have hTO₂ : IsPair h₂ TO a b := hs₂.extBut _ _ D.TOi1 (hs₁.extBut _ _ D.TOz hTO)
  refine wpAny_bind (wpAny_seqItems (s := { s with heap := h₂ }) hTO₂ rfl ?_)
  refine wpAny_bind (wpAny_updateSeq_pair (s := { s with heap := h₂ }) hTO₂ fun h₃ hTO₃ hs₃ => ?_)
  replace hTO₃ : IsPair h₃ TO x b := hTO₃
  refine wpAny_bind (wpAny_letGo (wpAny_pure ?_))
  refine wpAny_bind (wpAny_bind (wpAny_onRaise ?_))
  refine draw2 (((h2.ext hs₁.extBut D.i2z).ext hs₂.extBut D.i12.symm).ext hs₃.extBut D.TOi2.symm) (((hl2.ext hs₁.extBut D.l2z).ext hs₂.extBut D.l2i1).ext hs₃.extBut D.l2TO) fun h₄ h2₄ hs₄ => ?_
  have hTO₄ : IsPair h₄ TO x b := hs₄.extBut _ _ D.TOi2 hTO₃
  refine wpAny_bind (wpAny_seqItems (s := { s with heap := h₄ }) hTO₄ rfl ?_)
  refine wpAny_bind (wpAny_updateSeq_pair (s := { s with heap := h₄ }) hTO₄ fun h₅ hTO₅ hs₅ => ?_)
  replace hTO₅ : IsPair h₅ TO x y := hTO₅
  refine wpAny_bind (wpAny_letGo (wpAny_pure (wpAny_pure ?_)))
  refine wpAny_bind (wpAny_seqItems (s := { s with heap := h₅ }) hTO₅ rfl ?_)
  refine wpAny_bind (wpAny_newTuple ?_)
  have hsz : h₅.objs.size = s.heap.objs.size := by rw [hs₅.1, hs₄.1, hs₃.1, hs₂.1, hs₁.1]
  have hz₅ : IsZp st h₅ z TI TO .ellipsis := hs₅.extBut _ _ D.TOz.symm (hs₄.extBut _ _ D.i2z.symm (hs₃.extBut _ _ D.TOz.symm (hs₂.extBut _ _ D.i1z.symm hz₁)))
  have hk₅ : ∀ c o, c ≠ z → c ≠ TO → c ≠ i1 → c ≠ i2 → s.heap.get? c = some o → h₅.get? c = some o := fun c o c1 c2 c3 c4 e =>
    hs₅.extBut _ _ c2 (hs₄.extBut _ _ c4 (hs₃.extBut _ _ c2 (hs₂.extBut _ _ c3 (hs₁.extBut _ _ c1 e))))
  have h1₅ : IsIt p1 h₅ i1 l1 (k1 + 1) := ((h1₂.ext hs₃.extBut D.TOi1.symm).ext hs₄.extBut D.i12).ext hs₅.extBut D.TOi1.symm
  have h2₅ : IsIt p2 h₅ i2 l2 (k2 + 1) := h2₄.ext hs₅.extBut D.TOi2.symm
  have hzlt : z < h₅.objs.size := Heap.lt_size hz₅
  show wpAny _ _ (Builtin.SmallTypes.ownedTupleHandOut (.ref z) (.ref h₅.objs.size) >>= _) _ _ _
  refine wpAny_bind ?_
  unfold Builtin.SmallTypes.ownedTupleHandOut
  have hz₆ : IsZp st (h₅.push { cls := .type "tuple", data := .seq #[x, y] }) z TI TO .ellipsis := Heap.get?_push_of_some _ hz₅
  refine wpAny_bind (wpAny_setField_rec hz₆ (by simp) fun h₇ hz₇ hs₇ => ?_)
  replace hz₇ : IsZp st h₇ z TI TO (rawInt h₅.objs.size) := hz₇
  refine wpAny_setField_rec hz₇ (by simp) fun h₈ hz₈ hs₈ => ?_
  replace hz₈ : IsZp st h₈ z TI TO (rawInt h₅.objs.size) := hz₈
  have up : ∀ c o, c ≠ z → h₅.get? c = some o → h₈.get? c = some o := fun c o c1 e => hs₈.extBut _ _ c1 (hs₇.extBut _ _ c1 (Heap.get?_push_of_some _ e))
  have hT₈ : IsPair h₈ h₅.objs.size x y := hs₈.extBut _ _ (Nat.ne_of_gt hzlt) (hs₇.extBut _ _ (Nat.ne_of_gt hzlt) (Heap.get?_push_size _ rfl))
  have hz8 : h₈.objs.size = h₅.objs.size + 1 := by rw [hs₈.1, hs₇.1, Heap.size_push]
  rw [hsz] at hz₈ hT₈ hz8
  refine wpAny_pure ⟨_, rfl, ?_⟩
  show Q (.ref h₅.objs.size) _
  rw [hsz]
  exact hQ h₈ hz₈ (up _ _ D.TOz hTO₅) (h1₅.at fun o e => up _ o D.i1z e) (h2₅.at fun o e => up _ o D.i2z e) hT₈ hz8 fun c o c1 c2 c3 c4 e => up c o c1 (hk₅ c o c1 c2 c3 c4 e)

theorem Quiet.out {h h' : Heap} {tp : Bool} {it l : Addr} {i : Nat} (q : Quiet A h) (x : IsIt tp h it l i) (k : Heap.ExtBut it h h') : Quiet A h' := by
  obtain ⟨o, ho, hc, hd⟩ := x.get
  exact q.keep ho hd (by simp) k
theorem Quiet.outZ {h h' : Heap} {st : Bool} {z TI TO : Addr} {f0 : Value} (q : Quiet A h) (x : IsZp st h z TI TO f0) (k : Heap.ExtBut z h h') : Quiet A h' :=
  q.keep x rfl (by simp) k
theorem Quiet.outP {h h' : Heap} {a : Addr} {x y : Value} (q : Quiet A h) (p : IsPair h a x y) (k : Heap.ExtBut a h h') : Quiet A h' := by
  rcases q with q | ⟨x1, hh, o1, v1, h1, d1, c1⟩
  · exact .inl q
  · refine .inr ⟨x1, hh, o1, v1, k x1 o1 (fun z => ?_) h1, d1, c1⟩
    subst z
    rw [p] at h1
    cases h1
    cases d1
theorem zip_end {st p1 p2 : Bool} {z TI TO i1 i2 l1 l2 : Addr} {k1 k2 : Nat} {xs ys : Array Value} {a b : Value} {Q : Fin → Shared → Prop} (q : Quiet A s.heap) (D : ZipApart z TI TO i1 i2 l1 l2)
    (hz : IsZp st s.heap z TI TO .none) (hTI : IsPair s.heap TI (.ref i1) (.ref i2)) (hTO : IsPair s.heap TO a b)
    (h1 : IsIt p1 s.heap i1 l1 k1) (h2 : IsIt p2 s.heap i2 l2 k2) (hl1 : IsSq p1 s.heap l1 xs) (hl2 : IsSq p2 s.heap l2 ys) (hend : (xs[k1]? = none ∧ ys[k2]? = none) ∨ (st = false ∧ (xs[k1]? = none ∨ ys[k2]? = none)))
    (hE : ∀ h' e, (∀ c o, c ≠ z → c ≠ TO → c ≠ i1 → c ≠ i2 → s.heap.get? c = some o → h'.get? c = some o) → (∃ o, h'.get? e = some o ∧ o.cls = .type "StopIteration") → E (.ref e) { s with heap := h' }) :
    wpAny (model prog w) A (Builtin.«zip.__next__» ⟨[.ref z], []⟩) Q E s := by
  have est : (Value.bool st == Value.bool true) = st := by cases st <;> rfl
  show wpAny _ _ (field (.ref z) 2 >>= _) _ _ _
  refine wpAny_bind (wpAny_field hz rfl (x := .bool st) rfl ?_)
  rw [est]
  show wpAny _ _ (field (.ref z) 3 >>= _) _ _ _
  refine wpAny_bind (wpAny_field hz rfl (x := .ref TI) rfl ?_)
  refine wpAny_bind (wpAny_seqItems hTI rfl ?_)
  show wpAny _ _ (Builtin.SmallTypes.ownedTupleIsFree (.ref z) >>= _) _ _ _
  refine wpAny_bind ?_
  unfold Builtin.SmallTypes.ownedTupleIsFree
  refine wpAny_bind (wpAny_field hz rfl (x := .none) rfl (wpAny_pure ?_))
  simp only [if_true]
  refine wpAny_bind (wpAny_rule ?_)
  refine wpAny_bind (wpAny_field hz rfl (x := .ref TO) rfl ?_)
  refine wpAny_bind (wpAny_setField_rec hz (by simp) fun h₁ hz₁ hs₁ => ?_)
  replace hz₁ : IsZp st h₁ z TI TO .ellipsis := hz₁
  have q₁ : Quiet A h₁ := q.outZ hz hs₁.extBut
  have a1 := h1.ext hs₁.extBut D.i1z
  have a2 := hl1.ext hs₁.extBut D.l1z
  refine wpAny_bind ?_
  simp only [List.zipIdx_cons, List.zipIdx_nil, List.forIn_cons, List.forIn_nil]
  refine wpAny_bind (wpAny_bind (wpAny_onRaise ?_))
  cases st with
  | false =>
    show wpAny _ _ (Builtin.SmallTypes.nextOf (.ref i1) >>= _) _ _ _
    replace hend : xs[k1]? = none ∨ ys[k2]? = none := by
      rcases hend with ⟨h, _⟩ | ⟨_, h⟩
      · exact .inl h
      · exact h
    cases hx : xs[k1]? with
    | none =>
      refine wpAny_bind (nextOf_end (s := { s with heap := h₁ }) q₁ a1 a2 hx fun h₂ e hs₂ he => ?_)
      obtain ⟨oe, hoe, hce⟩ := he
      have hz₂ : IsZp false h₂ z TI TO .ellipsis := hs₂ _ _ D.i1z.symm hz₁
      have hez : e ≠ z := fun x => by subst x; rw [hz₂] at hoe; cases hoe; simp at hce
      refine wpAny_setField_rec hz₂ (by simp) fun h₃ _ hs₃ => hE h₃ e (fun c o c1 _ c3 _ x => hs₃.extBut _ _ c1 (hs₂ _ _ c3 (hs₁.extBut _ _ c1 x))) ⟨oe, hs₃.extBut _ _ hez hoe, hce⟩
    | some x =>
      have hy : ys[k2]? = none := by rcases hend with h | h; rw [hx] at h; cases h; exact h
      refine wpAny_bind (nextOf_item (s := { s with heap := h₁ }) a1 a2 hx fun h₂ h1₂ hs₂ => wpAny_pure ?_)
      have q₂ : Quiet A h₂ := q₁.out a1 hs₂.extBut
      have hTO₂ : IsPair h₂ TO a b := hs₂.extBut _ _ D.TOi1 (hs₁.extBut _ _ D.TOz hTO)
      refine wpAny_bind (wpAny_seqItems (s := { s with heap := h₂ }) hTO₂ rfl ?_)
      refine wpAny_bind (wpAny_updateSeq_pair (s := { s with heap := h₂ }) hTO₂ fun h₃ hTO₃ hs₃ => ?_)
      have q₃ : Quiet A h₃ := q₂.outP hTO₂ hs₃.extBut
      refine wpAny_bind (wpAny_letGo (wpAny_pure ?_))
      refine wpAny_bind (wpAny_bind (wpAny_onRaise ?_))
      show wpAny _ _ (Builtin.SmallTypes.nextOf (.ref i2) >>= _) _ _ _
      refine wpAny_bind (nextOf_end (s := { s with heap := h₃ }) q₃ (((h2.ext hs₁.extBut D.i2z).ext hs₂.extBut D.i12.symm).ext hs₃.extBut D.TOi2.symm)
        (((hl2.ext hs₁.extBut D.l2z).ext hs₂.extBut D.l2i1).ext hs₃.extBut D.l2TO) hy fun h₄ e hs₄ he => ?_)
      obtain ⟨oe, hoe, hce⟩ := he
      have hz₄ : IsZp false h₄ z TI TO .ellipsis := hs₄ _ _ D.i2z.symm (hs₃.extBut _ _ D.TOz.symm (hs₂.extBut _ _ D.i1z.symm hz₁))
      have hez : e ≠ z := fun x => by subst x; rw [hz₄] at hoe; cases hoe; simp at hce
      refine wpAny_setField_rec hz₄ (by simp) fun h₅ _ hs₅ => hE h₅ e (fun c o c1 c2 c3 c4 x => hs₅.extBut _ _ c1 (hs₄ _ _ c4 (hs₃.extBut _ _ c2 (hs₂.extBut _ _ c3 (hs₁.extBut _ _ c1 x))))) ⟨oe, hs₅.extBut _ _ hez hoe, hce⟩
  | true =>
    obtain ⟨hx, hy⟩ : xs[k1]? = none ∧ ys[k2]? = none := by
      rcases hend with h | ⟨h, _⟩
      · exact h
      · cases h
    show wpAny _ _ (Builtin.SmallTypes.nextOrEnd (.ref i1)) _ _ _
    refine orEnd_end (s := { s with heap := h₁ }) q₁ a1 a2 hx fun h₂ hs₂ => ?_
    have q₂ : Quiet A h₂ := q₁.out a1 hs₂
    have hz₂ : IsZp true h₂ z TI TO .ellipsis := hs₂ _ _ D.i1z.symm hz₁
    refine wpAny_bind (wpAny_setField_rec hz₂ (by simp) fun h₃ _ hs₃ => ?_)
    have q₃ : Quiet A h₃ := q₂.outZ hz₂ hs₃.extBut
    have b1 := (((h2.ext hs₁.extBut D.i2z).ext hs₂ D.i12.symm).ext hs₃.extBut D.i2z)
    have b2 := (((hl2.ext hs₁.extBut D.l2z).ext hs₂ D.l2i1).ext hs₃.extBut D.l2z)
    refine wpAny_bind (wpAny_bind ?_)
    simp only [List.drop_succ_cons, List.drop_zero, List.zipIdx_cons, List.zipIdx_nil, List.forIn_cons, List.forIn_nil]
    refine wpAny_bind (wpAny_bind (orEnd_end (s := { s with heap := h₃ }) q₃ b1 b2 hy fun h₄ hs₄ => ?_))
    have q₄ : Quiet A h₄ := q₃.out b1 hs₄
    refine wpAny_pure (wpAny_pure (wpAny_bind (wpAny_rule ?_)))
    exact stop_raised (s := { s with heap := h₄ }) q₄ fun h₅ e k he => hE h₅ e (fun c o c1 c2 c3 c4 x => k _ _ (hs₄ _ _ c4 (hs₃.extBut _ _ c1 (hs₂ _ _ c3 (hs₁.extBut _ _ c1 x))))) he
end
end LwZ

set_option Elab.async false
set_option linter.all false
set_option maxRecDepth 100000
set_option maxHeartbeats 4000000
set_option autoImplicit false
namespace LwZ
open PySem PySem.Spec PyProof.Rows L2 Lw
open PySem.Sem (wp)
theorem F_typeCall_zip_strict (a b v : Value) : checkTypeCall "zip" ⟨[a, b], [(Str.ofString "strict", v)]⟩ = pure () := by kernel_rfl
theorem F_newCall_zip_strict (a b v : Value) : checkBuiltinCall "zip.__new__" ⟨[.type "zip", a, b], [(Str.ofString "strict", v)]⟩ = pure () := by kernel_rfl
theorem F_args_object_init_strict (obj a b v : Value) : argsOk "object.__init__" ⟨[obj, a, b], [(Str.ofString "strict", v)]⟩ := by unfold argsOk; kernel_rfl
abbrev gzS2 (h : Heap) (o1 o2 : Obj) : Heap := (gzO2 h o1 o2).push { cls := .type "zip", data := .fields #[.none, .bool false, .bool true, .ref ((h.push o1).push o2).objs.size, .ref (gzT2 h o1 o2).objs.size] }
theorem meets_zip_newS2 {v1 v2 : Value} {o1 o2 : Obj} {H1 H2 : Heap → Prop} (B1 : Begins v1 o1 H1) (B2 : Begins v2 o2 H2) :
    Meets (Builtin.«zip.__new__» ⟨[.type "zip", v1, v2], [(Str.ofString "strict", .bool true)]⟩) (fun _ R s => (H1 s.heap ∧ H2 s.heap) ∧
      R (.ok (.ret (.ref (gzO2 s.heap o1 o2).objs.size))) { s with heap := gzS2 s.heap o1 o2 }) :=
  .of_wp fun prog w A R s h => by
    obtain ⟨hp, g, d, tk, os⟩ := s; obtain ⟨⟨h1, h2⟩, h⟩ := h
    have hsub := sub_zip
    have q1 : ∀ {A' : Around} {E : Value → Shared → Prop} {Q : Value → Shared → Prop}, Q (.ref hp.objs.size) ⟨(hp.push o1), g, d, tk, os⟩ → wpAny (model prog w) A' (pyIter v1) Q E ⟨hp, g, d, tk, os⟩ :=
      fun q => B1.iter prog w _ _ ⟨hp, g, d, tk, os⟩ _ (B1.keeps _ _ h1 fun b o' e => e) q
    have q2 : ∀ {A' : Around} {E : Value → Shared → Prop} {Q : Value → Shared → Prop}, Q (.ref (hp.push o1).objs.size) ⟨((hp.push o1).push o2), g, d, tk, os⟩ → wpAny (model prog w) A' (pyIter v2) Q E ⟨(hp.push o1), g, d, tk, os⟩ :=
      fun q => B2.iter prog w _ _ ⟨(hp.push o1), g, d, tk, os⟩ _ (B2.keeps _ _ h2 fun b o' e => (Heap.get?_push_of_some _ e)) q
    have e1 : (Str.ofString "strict" == ("strict" : Str)) = true := by decide +kernel
    have e2 : (Str.ofString "strict" != ("strict" : Str)) = false := by decide +kernel
    wp_walk using q1, q2
    exact ⟨_, rfl, h⟩
def itO (tp : Bool) (l : Addr) : Obj := { cls := .type (itN tp), data := .fields #[.ref l, .int 0 0] }
theorem begins_sq (tp : Bool) (l : Addr) (items : Array Value) : Begins (.ref l) (itO tp l) fun h => IsSq tp h l items := by
  cases tp
  · exact begins_list l items
  · exact begins_tuple l items
section
variable {prog : Program} {w : World} {A : Around} {E : Value → Shared → Prop} {s : Shared}
theorem zip_beginsS {v1 v2 : Value} {o1 o2 : Obj} {H1 H2 : Heap → Prop} {Q : Value → Shared → Prop} (B1 : Begins v1 o1 H1) (B2 : Begins v2 o2 H2) (h1 : H1 s.heap) (h2 : H2 s.heap)
    (h : ∀ h', IsZp true h' (s.heap.objs.size + 4) (s.heap.objs.size + 2) (s.heap.objs.size + 3) .none → IsTupOf2 h' (s.heap.objs.size + 2) (.ref s.heap.objs.size) (.ref (s.heap.objs.size + 1)) →
      IsTupOf2 h' (s.heap.objs.size + 3) .none .none → h'.get? s.heap.objs.size = some o1 → h'.get? (s.heap.objs.size + 1) = some o2 → h'.objs.size = s.heap.objs.size + 5 →
      (∀ c o, s.heap.get? c = some o → h'.get? c = some o) → Q (.ref (s.heap.objs.size + 4)) { s with heap := h' }) :
    wpAny (model prog w) A (call (.type "zip") [v1, v2] [(Str.ofString "strict", .bool true)]) Q E s := by
  refine callType_newKw F.called_zip (by decide) (F_typeCall_zip_strict _ _ _) (F_newCall_zip_strict _ _ _) (fun obj => F_args_object_init_strict obj _ _ _) F.entry_zip_new
    (meets_zip_newS2 B1 B2) ⟨⟨h1, h2⟩, ?_⟩
  have z1 : (s.heap.push o1).objs.size = s.heap.objs.size + 1 := by rw [Heap.size_push]
  have z2 : ((s.heap.push o1).push o2).objs.size = s.heap.objs.size + 2 := by rw [Heap.size_push, z1]
  have zT : (gzT2 s.heap o1 o2).objs.size = s.heap.objs.size + 3 := by rw [Heap.size_push, z2]
  have zO : (gzO2 s.heap o1 o2).objs.size = s.heap.objs.size + 4 := by rw [Heap.size_push, zT]
  have zZ : (gzS2 s.heap o1 o2).objs.size = s.heap.objs.size + 5 := by rw [Heap.size_push, zO]
  have gZ : (gzS2 s.heap o1 o2).get? (gzO2 s.heap o1 o2).objs.size = some { cls := .type "zip", data := .fields #[.none, .bool false, .bool true, .ref ((s.heap.push o1).push o2).objs.size, .ref (gzT2 s.heap o1 o2).objs.size] } := Heap.get?_push_size _ rfl
  have gO : (gzS2 s.heap o1 o2).get? (gzT2 s.heap o1 o2).objs.size = some { cls := .type "tuple", data := .seq #[.none, .none] } := Heap.get?_push_of_some _ (Heap.get?_push_size _ rfl)
  have gT : (gzS2 s.heap o1 o2).get? ((s.heap.push o1).push o2).objs.size = some { cls := .type "tuple", data := .seq #[.ref s.heap.objs.size, .ref (s.heap.push o1).objs.size] } := Heap.get?_push_of_some _ (Heap.get?_push_of_some _ (Heap.get?_push_size _ rfl))
  have g1 : (gzS2 s.heap o1 o2).get? s.heap.objs.size = some o1 := Heap.get?_push_of_some _ (Heap.get?_push_of_some _ (Heap.get?_push_of_some _ (Heap.get?_push_of_some _ (Heap.get?_push_size _ B1.free))))
  have g2 : (gzS2 s.heap o1 o2).get? (s.heap.push o1).objs.size = some o2 := Heap.get?_push_of_some _ (Heap.get?_push_of_some _ (Heap.get?_push_of_some _ (Heap.get?_push_size _ B2.free)))
  rw [zO, zT, z2] at gZ
  rw [zT] at gO
  rw [z2, z1] at gT
  rw [z1] at g2
  show _ ∧ _
  rw [zO]
  exact ⟨⟨_, gZ, rfl⟩, h _ gZ gT gO g1 g2 zZ fun c o x => Heap.get?_push_of_some _ (Heap.get?_push_of_some _ (Heap.get?_push_of_some _ (Heap.get?_push_of_some _ (Heap.get?_push_of_some _ x))))⟩
def zkw : Bool → List (Str × Value)
  | true => [(Str.ofString "strict", .bool true)]
  | false => []
theorem call_zp {st p1 p2 : Bool} {l1 l2 : Addr} {xs ys : Array Value} {Q : Value → Shared → Prop} (hl1 : IsSq p1 s.heap l1 xs) (hl2 : IsSq p2 s.heap l2 ys)
    (h : ∀ h', IsZp st h' (s.heap.objs.size + 4) (s.heap.objs.size + 2) (s.heap.objs.size + 3) .none → IsPair h' (s.heap.objs.size + 2) (.ref s.heap.objs.size) (.ref (s.heap.objs.size + 1)) →
      IsPair h' (s.heap.objs.size + 3) .none .none → IsIt p1 h' s.heap.objs.size l1 0 → IsIt p2 h' (s.heap.objs.size + 1) l2 0 → h'.objs.size = s.heap.objs.size + 5 →
      (∀ c o, s.heap.get? c = some o → h'.get? c = some o) → Q (.ref (s.heap.objs.size + 4)) { s with heap := h' }) :
    wpAny (model prog w) A (call (.type "zip") [.ref l1, .ref l2] (zkw st)) Q E s := by
  cases st with
  | false => exact zip_begins2 (begins_sq p1 l1 xs) (begins_sq p2 l2 ys) hl1 hl2 fun h' a1 a2 a3 a4 a5 a6 a7 => h h' a1 a2 a3 (.mk ⟨_, a4, rfl, rfl⟩) (.mk ⟨_, a5, rfl, rfl⟩) a6 a7
  | true => exact zip_beginsS (begins_sq p1 l1 xs) (begins_sq p2 l2 ys) hl1 hl2 fun h' a1 a2 a3 a4 a5 a6 a7 => h h' a1 a2 a3 (.mk ⟨_, a4, rfl, rfl⟩) (.mk ⟨_, a5, rfl, rfl⟩) a6 a7
theorem pyNext_zp_item {st p1 p2 : Bool} {z TI TO i1 i2 l1 l2 : Addr} {k1 k2 : Nat} {xs ys : Array Value} {x y a b : Value} {Q : Option Value → Shared → Prop} (D : ZipApart z TI TO i1 i2 l1 l2)
    (hz : IsZp st s.heap z TI TO .none) (hTI : IsPair s.heap TI (.ref i1) (.ref i2)) (hTO : IsPair s.heap TO a b)
    (h1 : IsIt p1 s.heap i1 l1 k1) (h2 : IsIt p2 s.heap i2 l2 k2) (hl1 : IsSq p1 s.heap l1 xs) (hl2 : IsSq p2 s.heap l2 ys) (hx : xs[k1]? = some x) (hy : ys[k2]? = some y)
    (hQ : ∀ h', IsZp st h' z TI TO (rawInt s.heap.objs.size) → IsPair h' TO x y → IsIt p1 h' i1 l1 (k1 + 1) → IsIt p2 h' i2 l2 (k2 + 1) → IsPair h' s.heap.objs.size x y → h'.objs.size = s.heap.objs.size + 1 →
      (∀ c o, c ≠ z → c ≠ TO → c ≠ i1 → c ≠ i2 → s.heap.get? c = some o → h'.get? c = some o) → Q (some (.ref s.heap.objs.size)) { s with heap := h' }) :
    wpAny (model prog w) A (pyNext (.ref z)) Q E s := by
  have hT : s.TypeIs (.ref z) "zip" := ⟨_, hz, rfl⟩
  unfold pyNext
  exact wpAny_bind (wpAny_attempt (wpAny_callSpecial?_slot (name := Str.ofString "__next__") hT F.slot_zip_next
    (wpAny_call_entry F.slot_zip_next hT F.entry_zip_next
      (zip_item D hz hTI hTO h1 h2 hl1 hl2 hx hy fun h' a1 a2 a3 a4 a5 a6 a7 => wpAny_pure (hQ h' a1 a2 a3 a4 a5 a6 a7)) (F.args_zip_next_1 _))))
theorem pyNext_zp_end {st p1 p2 : Bool} {z TI TO i1 i2 l1 l2 : Addr} {k1 k2 : Nat} {xs ys : Array Value} {a b : Value} {Q : Option Value → Shared → Prop} (q : Quiet A s.heap) (D : ZipApart z TI TO i1 i2 l1 l2)
    (hz : IsZp st s.heap z TI TO .none) (hTI : IsPair s.heap TI (.ref i1) (.ref i2)) (hTO : IsPair s.heap TO a b)
    (h1 : IsIt p1 s.heap i1 l1 k1) (h2 : IsIt p2 s.heap i2 l2 k2) (hl1 : IsSq p1 s.heap l1 xs) (hl2 : IsSq p2 s.heap l2 ys) (hend : (xs[k1]? = none ∧ ys[k2]? = none) ∨ (st = false ∧ (xs[k1]? = none ∨ ys[k2]? = none)))
    (hQ : ∀ h', (∀ c o, c ≠ z → c ≠ TO → c ≠ i1 → c ≠ i2 → s.heap.get? c = some o → h'.get? c = some o) → Q none { s with heap := h' }) : wpAny (model prog w) A (pyNext (.ref z)) Q E s := by
  have hT : s.TypeIs (.ref z) "zip" := ⟨_, hz, rfl⟩
  unfold pyNext
  refine wpAny_bind (wpAny_attempt (wpAny_callSpecial?_slot (name := Str.ofString "__next__") hT F.slot_zip_next
    (wpAny_call_entry F.slot_zip_next hT F.entry_zip_next (zip_end (A := A.in1) q D hz hTI hTO h1 h2 hl1 hl2 hend fun h' e hk he => ?_) (F.args_zip_next_1 _))))
  obtain ⟨o, ho, hc⟩ := he
  refine wpAny_bind (wpAny_isInstance (T := "StopIteration") (b := true) ⟨o, ho, hc⟩ isSubtype_stop ?_)
  exact wpAny_pure (hQ _ hk)
theorem pyIter_zp {st : Bool} {z TI TO : Addr} {f0 : Value} {Q : Value → Shared → Prop} (hz : IsZp st s.heap z TI TO f0) (h : Q (.ref z) s) : wpAny (model prog w) A (pyIter (.ref z)) Q E s := by
  have hT : s.TypeIs (.ref z) "zip" := ⟨_, hz, rfl⟩
  refine wpAny_pyIter_slot hT F.slot_zip_iter (wpAny_call_entry F.slot_zip_iter hT F.entry_zip_iter ?_ (F.args_zip_iter_1 _))
  show wpAny _ _ (ret (.ref z)) _ _ s
  exact wpAny_pure ⟨_, rfl, "zip", _, hT, F.slot_zip_next.lookup, h⟩
theorem letGo_zp {st : Bool} {elts : List Expr} {kk : Nat} {tpos : Pos} {z TI TO T : Addr} {Q : Unit → Shared → Prop} (hz : IsZp st s.heap z TI TO (rawInt T))
    (h : ∀ h', IsZp st h' z TI TO .none → Heap.SameBut z s.heap h' → Q () { s with heap := h' }) : wpAny (model prog w) A (letOwnedTupleGo (.Tuple elts kk tpos) (.ref z) (.ref T)) Q E s := by
  unfold letOwnedTupleGo
  refine wpAny_bind (wpAny_load hz ?_)
  show wpAny _ _ (if (["enumerate", "zip", "dict_itemiterator", "dict_reverseitemiterator", "odict_iterator", "itertools.zip_longest", "itertools.pairwise"].contains "zip" &&
      (#[rawInt T, .bool false, .bool st, .ref TI, .ref TO] : Array Value)[0]? == some (rawInt T)) = true then _ else _) Q E s
  rw [if_pos (by simp)]
  refine wpAny_bind (wpAny_rule ?_)
  show wpAny _ _ (setField (.ref z) 0 .none) Q E s
  exact wpAny_setField_rec hz (by simp) fun h' hz' hs' => h h' hz' hs'
end
def SqB (K : PySem.W.Frag) (tp : Bool) (H : Hp) (a : Addr) (xs : List V) : Prop := match tp with
  | true => SqT K H a xs
  | false => SqL K H a xs
theorem inv_sq {X : Cx} {pins : List (Addr × Obj)} {σ : L2.St} {H : Hp} {s : Shared} {tp : Bool} {a : Addr} {xs : List V} (I : Inv X pins σ H s) (h : SqB X.K tp H a xs) : ∃ its : List Value, Vals xs its ∧ IsSq tp s.heap a its.toArray := by
  cases tp
  · obtain ⟨its, rv, p, _⟩ := I.list h
    exact ⟨its, rv, p.isList⟩
  · obtain ⟨its, rv, p, _⟩ := I.tuple h
    exact ⟨its, rv, p⟩
theorem inv_sq_inj {X : Cx} {pins : List (Addr × Obj)} {σ : L2.St} {H : Hp} {s : Shared} {tp : Bool} {a : Addr} {xs ys : List V} (I : Inv X pins σ H s) (h : SqB X.K tp H a xs) (h2 : SqB X.K tp H a ys) : xs = ys := by
  cases tp
  · exact I.list_inj h h2
  · exact I.tuple_inj h h2
def ItZ (K : PySem.W.Frag) (st p1 p2 : Bool) (a b : Addr) : It :=
  ⟨fun i H => ∃ (xs ys : List V) (x y : V), SqB K p1 H a xs ∧ SqB K p2 H b ys ∧ xs[i]? = some x ∧ ys[i]? = some y,
    fun i H v H' => ∃ T x y, v = .ref T ∧ H T = none ∧ H' = upd H T (.tup [x, y]) ∧ (∀ xs, SqB K p1 H a xs → xs[i]? = some x) ∧ ∀ ys, SqB K p2 H b ys → ys[i]? = some y,
    fun i H => ∃ xs ys : List V, SqB K p1 H a xs ∧ SqB K p2 H b ys ∧ ((xs.length ≤ i ∧ ys.length ≤ i) ∨ (st = false ∧ (xs.length ≤ i ∨ ys.length ≤ i)))⟩
abbrev zTn (st p1 p2 : Bool) (a b z TI TO i1 i2 : Addr) (i : Nat) (h : Heap) : Prop := IsZp st h z TI TO .none ∧ IsPair h TI (.ref i1) (.ref i2) ∧ (∃ x y, IsPair h TO x y) ∧ IsIt p1 h i1 a i ∧ IsIt p2 h i2 b i
section
variable {st p1 p2 : Bool} {a b z TI TO i1 i2 : Addr}
theorem zp_obj (i : Nat) (h : Heap) (t : zTn st p1 p2 a b z TI TO i1 i2 i h) (c : Addr) (hc : c ∈ [z, TI, TO, i1, i2]) : ∃ o, h.get? c = some o ∧ ∀ v, o.data ≠ .cell v := by
  obtain ⟨hz, hTI, ⟨x, y, hTO⟩, j1, j2⟩ := t
  obtain ⟨o1, e1, _, d1⟩ := j1.get
  obtain ⟨o2, e2, _, d2⟩ := j2.get
  have e' : c = z ∨ c = TI ∨ c = TO ∨ c = i1 ∨ c = i2 := by simpa using hc
  rcases e' with q | q | q | q | q
  · rw [q]; exact ⟨_, hz, fun v q => nomatch q⟩
  · rw [q]; exact ⟨_, hTI, fun v q => nomatch q⟩
  · rw [q]; exact ⟨_, hTO, fun v q => nomatch q⟩
  · rw [q]; exact ⟨o1, e1, fun v q => by rw [d1] at q; cases q⟩
  · rw [q]; exact ⟨o2, e2, fun v q => by rw [d2] at q; cases q⟩
theorem zp_keep (i : Nat) (h h' : Heap) (t : zTn st p1 p2 a b z TI TO i1 i2 i h) (k : ∀ c ∈ [z, TI, TO, i1, i2], ∀ o, h.get? c = some o → h'.get? c = some o) : zTn st p1 p2 a b z TI TO i1 i2 i h' := by
  obtain ⟨hz, hTI, ⟨x, y, hTO⟩, h1, h2⟩ := t
  exact ⟨k z (by simp) _ hz, k TI (by simp) _ hTI, ⟨x, y, k TO (by simp) _ hTO⟩, h1.at fun o q => k i1 (by simp) o q, h2.at fun o q => k i2 (by simp) o q⟩
theorem zp_item {elts : List Expr} {kk : Nat} {tpos : Pos} (D : ZipApart z TI TO i1 i2 a b) (X : Cx) (i : Nat) (pins : List (Addr × Obj)) (s : Shared) (σ : L2.St) (H : Hp) (E : Value → Shared → Prop) (I : Inv X pins σ H s) (hf : ∀ c ∈ [z, TI, TO, i1, i2], FpOk X pins H c)
    (t : zTn st p1 p2 a b z TI TO i1 i2 i s.heap) (hg : (ItZ X.K st p1 p2 a b).go i H) :
    wpAny (model X.prog X.w) X.A (pyNext (.ref z)) (fun r s1 => ∃ u, r = some u ∧
      wpAny (model X.prog X.w) X.A (letOwnedTupleGo (.Tuple elts kk tpos) (.ref z) u) (fun _ s2 => ∃ x H', Inv X pins σ H' s2 ∧ RelV x u ∧ (ItZ X.K st p1 p2 a b).yld i H x H' ∧ zTn st p1 p2 a b z TI TO i1 i2 (i + 1) s2.heap ∧ ∀ b ∈ [z, TI, TO, i1, i2], H' b = none) E s1) E s := by
  obtain ⟨hz, hTI, ⟨x0, y0, hTO⟩, h1, h2⟩ := t
  obtain ⟨xs, ys, x, y, hqx, hqy, hx, hy⟩ := hg
  obtain ⟨its, rv, p⟩ := inv_sq I hqx
  obtain ⟨its2, rv2, p2⟩ := inv_sq I hqy
  obtain ⟨u, hu, ru⟩ := rv.get hx
  obtain ⟨u2, hu2, ru2⟩ := rv2.get hy
  have hzl : z < s.heap.objs.size := Heap.lt_size hz
  refine pyNext_zp_item D hz hTI hTO h1 h2 p p2 (x := u) (y := u2) (by simpa using hu) (by simpa using hu2) fun h' z' TO' h1' h2' hT hsz hk => ?_
  refine ⟨_, rfl, letGo_zp (s := { s with heap := h' }) z' fun h'' z'' sb => ?_⟩
  have hT2 : h''.get? s.heap.objs.size = some { cls := .type "tuple", data := .seq #[u, u2] } := (sb.2 _ (Nat.ne_of_gt hzl)).trans hT
  have new : ObjOk X.prog X.w (upd H s.heap.objs.size (.tup [x, y])) h'' s.heap.objs.size (.tup [x, y]) :=
    ⟨by show 2 ≤ sizeLine; decide, [u, u2], .cons ru (.cons ru2 .nil), ⟨_, hT2, rfl, _, rfl⟩⟩
  have I1 : Inv X pins σ (upd H s.heap.objs.size (.tup [x, y])) { s with heap := h'' } :=
    I.turnedNew (t' := s.toks) (ch := [z, TI, TO, i1, i2]) (fun c o hb q => (sb.2 c (fun q' => hb (by simp [q']))).trans (hk c o (fun q' => hb (by simp [q'])) (fun q' => hb (by simp [q'])) (fun q' => hb (by simp [q'])) (fun q' => hb (by simp [q'])) q)) hf (Nat.le_refl _) new
  refine ⟨.ref s.heap.objs.size, _, I1, rfl, ⟨_, x, y, rfl, I.hok.fresh (Nat.le_refl _), rfl, fun l hl => by rw [inv_sq_inj I hl hqx]; exact hx, fun l hl => by rw [inv_sq_inj I hl hqy]; exact hy⟩, ⟨z'', ?_, ⟨u, u2, ?_⟩, ?_, ?_⟩, fun c hcm => ?_⟩
  · exact (sb.2 _ D.TIz).trans (hk _ _ D.TIz D.TITO D.TIi1 D.TIi2 hTI)
  · exact (sb.2 _ D.TOz).trans TO'
  · exact h1'.at fun o q => (sb.2 _ D.i1z).trans q
  · exact h2'.at fun o q => (sb.2 _ D.i2z).trans q
  · have hlt : c < s.heap.objs.size := by
      have e' : c = z ∨ c = TI ∨ c = TO ∨ c = i1 ∨ c = i2 := by simpa using hcm
      rcases e' with q | q | q | q | q
      · rw [q]; exact hzl
      · rw [q]; exact Heap.lt_size hTI
      · rw [q]; exact Heap.lt_size hTO
      · rw [q]; obtain ⟨_, e1, _⟩ := h1.get; exact Heap.lt_size e1
      · rw [q]; obtain ⟨_, e2, _⟩ := h2.get; exact Heap.lt_size e2
    rw [upd_ne (Nat.ne_of_lt hlt)]
    exact (hf c hcm).1
theorem zp_done (D : ZipApart z TI TO i1 i2 a b) (X : Cx) (i : Nat) (pins : List (Addr × Obj)) (s : Shared) (σ : L2.St) (H : Hp) (E : Value → Shared → Prop) (qt : Quiet X.A s.heap) (I : Inv X pins σ H s) (hf : ∀ c ∈ [z, TI, TO, i1, i2], FpOk X pins H c)
    (t : zTn st p1 p2 a b z TI TO i1 i2 i s.heap) (hg : (ItZ X.K st p1 p2 a b).stop i H) : wpAny (model X.prog X.w) X.A (pyNext (.ref z)) (fun r s1 => r = none ∧ Inv X pins σ H s1) E s := by
  obtain ⟨hz, hTI, ⟨x0, y0, hTO⟩, h1, h2⟩ := t
  obtain ⟨xs, ys, hqx, hqy, hend⟩ := hg
  obtain ⟨its, rv, p⟩ := inv_sq I hqx
  obtain ⟨its2, rv2, p2⟩ := inv_sq I hqy
  have l1 := rv.length
  have l2 := rv2.length
  have he : (its.toArray[i]? = none ∧ its2.toArray[i]? = none) ∨ (st = false ∧ (its.toArray[i]? = none ∨ its2.toArray[i]? = none)) := by
    rcases hend with ⟨q, q2⟩ | ⟨e, q | q⟩
    · exact .inl ⟨by simp; omega, by simp; omega⟩
    · exact .inr ⟨e, .inl (by simp; omega)⟩
    · exact .inr ⟨e, .inr (by simp; omega)⟩
  exact pyNext_zp_end qt D hz hTI hTO h1 h2 p p2 he fun h' hk => ⟨rfl, I.turnedL (t' := s.toks) (ch := [z, TI, TO, i1, i2]) (fun c o hb q =>
    hk c o (fun q' => hb (by simp [q'])) (fun q' => hb (by simp [q'])) (fun q' => hb (by simp [q'])) (fun q' => hb (by simp [q'])) q) hf⟩
end
def iZip (K : PySem.W.Frag) (st : Bool) (ta : TA) : TI := fun σ H R => ta σ H fun vs H1 => ∃ a b p1 p2 xs ys, vs = [.ref a, .ref b] ∧ SqB K p1 H1 a xs ∧ SqB K p2 H1 b ys ∧ R (ItZ K st p1 p2 a b) H1
section
variable {X : Cx} {pins : List (Addr × Obj)} {σ : L2.St} {H1 : Hp} {s1 : Shared} {R : It → Hp → Prop} {elts : List Expr} {kk : Nat} {tpos : Pos} {st : Bool}
theorem zp_go {Q : Value → Shared → Prop} {us : List Value} {vs : List V} (hD : ∀ {p1 p2 : Bool} {a b : Addr} {xs ys : List V}, SqB X.K p1 H1 a xs → SqB X.K p2 H1 b ys → R (ItZ X.K st p1 p2 a b) H1 →
      ∀ h', zTn st p1 p2 a b (s1.heap.objs.size + 4) (s1.heap.objs.size + 2) (s1.heap.objs.size + 3) s1.heap.objs.size (s1.heap.objs.size + 1) 0 h' → ZipApart (s1.heap.objs.size + 4) (s1.heap.objs.size + 2) (s1.heap.objs.size + 3) s1.heap.objs.size (s1.heap.objs.size + 1) a b →
      Inv X pins σ H1 { s1 with heap := h' } → (∀ c, c ∈ [s1.heap.objs.size + 4, s1.heap.objs.size + 2, s1.heap.objs.size + 3, s1.heap.objs.size, s1.heap.objs.size + 1] → FpOk X pins H1 c) → wpAny (model X.prog X.w) X.A (pyIter (.ref (s1.heap.objs.size + 4))) Q X.xe { s1 with heap := h' })
    (I1 : Inv X pins σ H1 s1) (r1 : Vals vs us) (q1 : ∃ a b p1 p2 xs ys, vs = [.ref a, .ref b] ∧ SqB X.K p1 H1 a xs ∧ SqB X.K p2 H1 b ys ∧ R (ItZ X.K st p1 p2 a b) H1) :
    wpAny (model X.prog X.w) X.A (call (.type "zip") us (zkw st)) (fun v s2 => wpAny (model X.prog X.w) X.A (pyIter v) Q X.xe s2) X.xe s1 := by
  obtain ⟨a, b, p1, p2, xs, ys, ex, hqx, hqy, q⟩ := q1
  subst ex
  cases r1 with
  | cons r rr =>
    cases rr with
    | cons r' rr =>
      cases rr
      cases r
      cases r'
      have fresh5 : ∀ c, c ∈ [s1.heap.objs.size + 4, s1.heap.objs.size + 2, s1.heap.objs.size + 3, s1.heap.objs.size, s1.heap.objs.size + 1] → FpOk X pins H1 c := fun c hcm => by
        have e' : c = s1.heap.objs.size + 4 ∨ c = s1.heap.objs.size + 2 ∨ c = s1.heap.objs.size + 3 ∨ c = s1.heap.objs.size ∨ c = s1.heap.objs.size + 1 := by simpa using hcm
        have hle : s1.heap.objs.size ≤ c := by
          rcases e' with z | z | z | z | z <;> rw [z] <;> first | exact Nat.le_add_right _ _ | exact Nat.le_refl _
        exact I1.fpOk hle (I1.hok.fresh hle)
      obtain ⟨its, rv, e1⟩ := inv_sq I1 hqx
      obtain ⟨its2, rv2, e2⟩ := inv_sq I1 hqy
      obtain ⟨o1, n1, ho1, _⟩ := e1.get
      obtain ⟨o2, n2, ho2, _⟩ := e2.get
      refine call_zp e1 e2 fun h' hz hTI hTO h1 h2 hsz hk => ?_
      exact hD hqx hqy q h' ⟨hz, hTI, ⟨_, _, hTO⟩, h1, h2⟩ (PySem.W.ktu_apart s1.heap.objs.size a b (Heap.lt_size ho1) (Heap.lt_size ho2)) (I1.kept (t' := s1.toks) hk) fresh5
end
inductive SeqD : PyData → List PyData → Prop
  | lst (ds : List PyData) : SeqD (.list ds) ds
  | tup (ds : List PyData) : SeqD (.tuple ds) ds
def zipD (ds es : List PyData) : List PyData := List.zipWith (fun a b => .tuple [a, b]) ds es
section
variable {K : PySem.W.Frag} {T : Tb} {ρ : List Slot} {ta : TA}
theorem seqD_sq {H : Hp} {S : List Addr} {v : V} {d : PyData} {ds : List PyData} (hd : SeqD d ds) (dv : Dt K (hide H S) v d) : ∃ (a : Addr) (tp : Bool) (xs : List V), v = .ref a ∧ DtAll K (hide H S) xs ds ∧
    ∀ (H' : Hp) (S' : List Addr), Kp (hide H S) (hide H' S') → SqB K tp H' a xs := by
  cases hd with
  | lst =>
    cases dv with
    | lst h1 a1 => exact ⟨_, false, _, rfl, a1, fun H' S' k => SqL.of (hide_get (k _ _ h1 rfl))⟩
  | tup =>
    cases dv with
    | tup h1 a1 => exact ⟨_, true, _, rfl, a1, fun H' S' k => sqt_hide (k.sqt h1)⟩
theorem feeds_zip {st : Bool} {B : Hp} {a b : Addr} {p1 p2 : Bool} {xs ys : List V} {ds es : List PyData} (hl : st = true → ds.length = es.length) (d1 : DtAll K B xs ds) (d2 : DtAll K B ys es)
    (s1 : ∀ (H' : Hp) (S' : List Addr), Kp B (hide H' S') → SqB K p1 H' a xs) (s2 : ∀ (H' : Hp) (S' : List Addr), Kp B (hide H' S') → SqB K p2 H' b ys) : Feeds K T (ItZ K st p1 p2 a b) B (zipD ds es) := by
  intro i H S k l
  have q1 := s1 H S k
  have q2 := s2 H S k
  refine ⟨fun d hd => ?_, fun hle => ⟨xs, ys, q1, q2, ?_⟩⟩
  · have hz : (zipD ds es)[i]? = some d := hd
    unfold zipD at hz
    rw [List.getElem?_zipWith] at hz
    cases hx : ds[i]? with
    | none => rw [hx] at hz; cases hz
    | some x =>
      cases hy : es[i]? with
      | none => rw [hx, hy] at hz; cases hz
      | some y =>
        rw [hx, hy] at hz
        cases hz
        obtain ⟨v1, hv1, e1⟩ := d1.get hx
        obtain ⟨v2, hv2, e2⟩ := d2.get hy
        refine ⟨⟨xs, ys, v1, v2, q1, q2, hv1, hv2⟩, fun x' H2 hyl => ?_⟩
        obtain ⟨Ta, w1, w2, rfl, hT, rfl, f1, f2⟩ := hyl
        have g1 := f1 _ q1
        have g2 := f2 _ q2
        rw [hv1] at g1
        rw [hv2] at g2
        cases g1
        cases g2
        have k2 : Kp B (hide (upd H Ta (.tup [v1, v2])) S) := k.trans ((Ext.new (T := T) hT).kp.hide S)
        exact ⟨.new hT, .tup (.inl (.inl (hide_at l (.of hT) rfl))) (.cons (e1.kp k2) (.cons (e2.kp k2) .nil))⟩
  · have hz : (zipD ds es).length = min ds.length es.length := by simp [zipD]
    rw [hz] at hle
    rw [d1.len, d2.len]
    cases st with
    | true => have := hl rfl; exact .inl ⟨by omega, by omega⟩
    | false => exact .inr ⟨rfl, by omega⟩
theorem it_zip {st : Bool} {d e : PyData} {ds es : List PyData} (h : EvA K T ta ρ [d, e]) (hd : SeqD d ds) (he : SeqD e es) (hl : st = true → ds.length = es.length) : IterD K T (iZip K st ta) ρ (zipD ds es) := fun H0 B C H S σ g R hR =>
  h H0 B C H S σ g _ fun vs H2 ex dv => by
    cases dv with
    | cons b1 b2 =>
      cases b2 with
      | cons b2 b3 =>
        cases b3
        obtain ⟨a, p1, xs, rfl, a1, q1⟩ := seqD_sq hd b1
        obtain ⟨b, p2, ys, rfl, a2, q2⟩ := seqD_sq he b2
        exact ⟨a, b, p1, p2, xs, ys, rfl, q1 _ _ (.refl _), q2 _ _ (.refl _), hR _ _ ex (feeds_zip hl a1 a2 q1 q2)⟩
end
end LwZ

set_option Elab.async false
set_option linter.all false
set_option maxRecDepth 100000
set_option maxHeartbeats 4000000
set_option autoImplicit false
namespace Lw
open PySem L2
section
variable (K : PySem.W.Frag) (T : Tb)
def EvX (te : TE) (ρ : List Slot) (Po : PyData → Prop) : Prop := ∀ (H0 B : Hp) (C : List Addr) (H : Hp) (S : List Addr) (σ : St), Gd K T H0 B C H S σ ρ →
  ∀ Q : VK, (∀ d v H2, Po d → Ext T H H2 → Dt K (hide H2 S) v d → Q v H2) → te σ H Q
def EvXF (te : TE) (ρ : List Slot) (Po : List PyData → Prop) : Prop := ∀ (H0 B : Hp) (C : List Addr) (H : Hp) (S : List Addr) (σ : St), Gd K T H0 B C H S σ ρ →
  ∀ Q : VK, (∀ ds p xs H2, Po ds → Ext T H H2 → Fresh H p → H2 p = some (.lst xs) → DtAll K (hide H2 (p :: S)) xs ds → Q (.ref p) H2) → te σ H Q
def EvXA (ta : TA) (ρ : List Slot) (Po : List PyData → Prop) : Prop := ∀ (H0 B : Hp) (C : List Addr) (H : Hp) (S : List Addr) (σ : St), Gd K T H0 B C H S σ ρ →
  ∀ Q : List V → Hp → Prop, (∀ ds vs H2, Po ds → Ext T H H2 → DtAll K (hide H2 S) vs ds → Q vs H2) → ta σ H Q
def EvXT (tt : TT) (ρ : List Slot) (Po : Bool → Prop) : Prop := ∀ (H0 B : Hp) (C : List Addr) (H : Hp) (S : List Addr) (σ : St), Gd K T H0 B C H S σ ρ →
  ∀ Q : Bool → Hp → Prop, (∀ b H2, Po b → Ext T H H2 → Q b H2) → tt σ H Q
end
section
variable {K : PySem.W.Frag} {T : Tb} {ρ : List Slot} {te : TE} {ta : TA} {Po : PyData → Prop} {d : PyData}
theorem Ev.x (h : Ev K T te ρ d) : EvX K T te ρ (fun x => x = d) := fun H0 B C H S σ g Q hQ => h H0 B C H S σ g Q fun v H2 e dv => hQ d v H2 rfl e dv
theorem EvX.mono {Po' : PyData → Prop} (h : EvX K T te ρ Po) (i : ∀ d, Po d → Po' d) : EvX K T te ρ Po' := fun H0 B C H S σ g Q hQ => h H0 B C H S σ g Q fun d v H2 p e dv => hQ d v H2 (i d p) e dv
theorem EvF.x {ds : List PyData} (h : EvF K T te ρ ds) : EvXF K T te ρ (fun x => x = ds) := fun H0 B C H S σ g Q hQ => h H0 B C H S σ g Q fun p xs H2 e f a b => hQ ds p xs H2 rfl e f a b
theorem EvXF.mono {Po Po' : List PyData → Prop} (h : EvXF K T te ρ Po) (i : ∀ d, Po d → Po' d) : EvXF K T te ρ Po' := fun H0 B C H S σ g Q hQ => h H0 B C H S σ g Q fun ds p xs H2 q e f a b => hQ ds p xs H2 (i ds q) e f a b
theorem EvXF.ev {Po : List PyData → Prop} (h : EvXF K T te ρ Po) : EvX K T te ρ (fun d => ∃ ds, d = .list ds ∧ Po ds) := fun H0 B C H S σ g Q hQ => h H0 B C H S σ g Q fun ds p xs H2 q e f a b =>
  hQ (.list ds) _ H2 ⟨ds, rfl, q⟩ e (.lst (hide_some.mpr ⟨(g.lst.not f), a, rfl⟩) (b.kp (hide_sub fun c hc => List.mem_cons_of_mem _ hc)))
theorem EvA.x {ds : List PyData} (h : EvA K T ta ρ ds) : EvXA K T ta ρ (fun x => x = ds) := fun H0 B C H S σ g Q hQ => h H0 B C H S σ g Q fun v H2 e dv => hQ ds v H2 rfl e dv
theorem EvXA.mono {Po Po' : List PyData → Prop} (h : EvXA K T ta ρ Po) (i : ∀ d, Po d → Po' d) : EvXA K T ta ρ Po' := fun H0 B C H S σ g Q hQ => h H0 B C H S σ g Q fun d v H2 p e dv => hQ d v H2 (i d p) e dv
variable {H0 B : Hp} {C : List Addr} {D : Ends} {tz : TS} {i : Nat}
variable {wi : TI} {g : TG} {tt : TT} {vs : List Nat} {items : List PyData}
theorem EvT.x {b : Bool} {t : TT} (h : EvT K T t ρ b) : EvXT K T t ρ (fun x => x = b) := fun H0 B C H S σ g Q hQ => h H0 B C H S σ g Q fun H2 e => hQ b H2 rfl e
inductive All2 (P : PyData → PyData → Prop) : List PyData → List PyData → Prop
  | nil : All2 P [] []
  | cons {x y : PyData} {xs ys : List PyData} : P x y → All2 P xs ys → All2 P (x :: xs) (y :: ys)
end
end Lw

set_option Elab.async false
set_option linter.all false
set_option maxRecDepth 100000
set_option maxHeartbeats 4000000
set_option autoImplicit false
namespace Lw
open PySem L2
section
variable (K : PySem.W.Frag) (T : Tb)
def EvS (te : TE) (ρ : List Slot) (Po : PyData → List Slot → Prop) : Prop := ∀ (H0 B : Hp) (C : List Addr) (H : Hp) (S : List Addr) (σ : St), Gd K T H0 B C H S σ ρ →
  ∀ Q : VK, (∀ d ρ' v H2, Po d ρ' → Gd K T H0 B C H2 S σ ρ' → Kp (hide H S) (hide H2 S) → Dt K (hide H2 S) v d → Q v H2) → te σ H Q
end
section
variable {K : PySem.W.Frag} {T : Tb} {ρ : List Slot} {te : TE} {ta tb : TE} {Po : PyData → List Slot → Prop} {d : PyData}
theorem EvX.s {P : PyData → Prop} (h : EvX K T te ρ P) : EvS K T te ρ (fun d ρ' => P d ∧ ρ' = ρ) := fun H0 B C H S σ g Q hQ => h H0 B C H S σ g Q fun d v H2 p e dv => hQ d ρ v H2 ⟨p, rfl⟩ (g.ex e) (e.kp.hide S) dv
theorem EvS.mono {Po' : PyData → List Slot → Prop} (h : EvS K T te ρ Po) (i : ∀ d ρ', Po d ρ' → Po' d ρ') : EvS K T te ρ Po' := fun H0 B C H S σ g Q hQ => h H0 B C H S σ g Q fun d ρ' v H2 p a b c => hQ d ρ' v H2 (i d ρ' p) a b c
variable {H0 B : Hp} {C : List Addr} {D : Ends} {tz : TS} {i j : Nat}
end
end Lw

set_option Elab.async false
set_option linter.all false
set_option maxRecDepth 100000
set_option maxHeartbeats 4000000
set_option autoImplicit false
namespace Lw
open PySem L2
def seerB (K : PySem.W.Frag) : Bool := He.eqO (PySem.W.nsIn K cStatics "sys.audit-hooks") (some none) && (He.eqO (PySem.W.nsIn K cStatics "sys.dict") (some none) &&
  ((match K.lookup sysModules with
    | some ⟨_, _, .dict es _, _⟩ => (es.toList.all fun e => match e.key with | .str _ _ => true | _ => false) && He.eqO (some (nsFind es "_pylong")) (some none)
    | _ => false) &&
  (match PySem.W.nsIn K mainGlobals "__builtins__" with
    | some (some (.ref bm)) => (match K.lookup bm with
      | some ⟨.type c, some d, _, _⟩ => decide (c = "module") && decide (d = builtinsNs)
      | _ => false)
    | _ => false)))
structure Seer (P : Program) (K : PySem.W.Frag) : Prop where
  tree : P.given.tree = none
  ok : seerB K = true
theorem ns_none_of {K : PySem.W.Frag} {h : Heap} {a : Addr} {mg : Str → Option Value} {n : Str} (X : K.In h) (G : h.Ns a mg) (e : PySem.W.nsIn K a n = some none) : mg n = none := by
  obtain ⟨o, es, ep, ho, hd, hk, hf⟩ := G
  unfold PySem.W.nsIn at e
  split at e
  · rename_i c d es' n' sl q
    have := X _ _ q
    rw [ho] at this
    cases this
    cases hd
    rw [← hf]
    split at e
    · cases e
    · rename_i q2
      unfold nsFind findBy
      rw [← Array.find?_toList, q2]
      rfl
  · cases e
theorem seer_heap {K : PySem.W.Frag} {mg : Str → Option Value} {base : Heap} (c : seerB K = true) (M : Mod K mg base) : base.NoSeer := by
  unfold seerB at c
  obtain ⟨c1, c⟩ := He.ba c
  obtain ⟨c2, c⟩ := He.ba c
  obtain ⟨c3, c4⟩ := He.ba c
  refine ⟨?_, ?_, M.blt, ?_⟩
  · obtain ⟨mc, n, _⟩ := M.nolimit
    exact ⟨mc, n, ns_none_of M.kin n (He.eqO_ok c1), ns_none_of M.kin n (He.eqO_ok c2)⟩
  · split at c3
    · rename_i cl d es ep sl q
      obtain ⟨k1, k2⟩ := He.ba c3
      refine ⟨fun x => nsFind es x, ⟨_, es, ep, M.kin _ _ q, rfl, fun e he => ?_, fun _ => rfl⟩, ?_⟩
      · have := List.all_eq_true.mp k1 e (Array.mem_toList_iff.mpr he)
        split at this
        · rename_i n t hk
          exact ⟨n, t, hk⟩
        · cases this
      · exact Option.some.inj (He.eqO_ok k2)
    · cases c3
  · split at c4
    · rename_i bm q
      split at c4
      · rename_i cl d dt sl q2
        obtain ⟨k1, k2⟩ := He.ba c4
        exact ⟨mg, bm, _, M.glob, PySem.W.mg_of M.kin M.glob q, M.kin _ _ q2, congrArg Value.type (of_decide_eq_true k1), congrArg some (of_decide_eq_true k2)⟩
      · cases c4
    · cases c4
theorem op_fdB {X : Cx} {k : Nat} {env : Env} {l : List Env} (Se : Seer X.prog X.K) (hr : Room k X.A) (hk : 32 ≤ k) (hst : X.stack = env :: l) (h1 : env.scope.isGenerator = false) (h2 : env.scope.isCoroutine = false) (h3 : env.builtins = builtinsNs) (h4 : env.globals = mainGlobals) :
    OpR X (binaryOp .FloorDiv) (rI (fun _ j => j ≠ 0) fun i j => .int (i.fdiv j)) := fun pins s σ H x y v u Q I rx ry h => by
  obtain ⟨i, j, rfl, rfl, hj, q⟩ := h
  obtain ⟨t1, rfl⟩ := rx
  obtain ⟨t2, rfl⟩ := ry
  have sa : SeerAt (model X.prog X.w) X.A s.heap := SeerAt.of ((seer_heap Se.ok I.ok.mod).keeps I.bk) Se.tree (by rw [I.ok.frames, hst]) h1 h2 h3 h4
  refine PyProof.Rows.floordiv_int hj ?_ (.inr (PylongRoom.of I.nolimit (by have := hr.dp; have e : Builtin.pylongFrames = 100 := rfl; omega) sa))
  exact ⟨.int (i.fdiv j), H, I.tok _, ⟨_, rfl⟩, q⟩
section
variable {K : PySem.W.Frag} {T : Tb} {ρ : List Slot}
abbrev rFdB : R2 := rI (fun _ j => j ≠ 0) fun i j => .int (i.fdiv j)
theorem rv_fdB {i j : Int} (h : j ≠ 0) : RV K T rFdB (.int i) (.int j) (.int (i.fdiv j)) := fun H S v u l dv du Q hQ => by
  cases dv
  cases du
  exact ⟨i, j, rfl, rfl, h, hQ _ _ (.refl T H) (.int _)⟩
structure CstV (mg : Str → Option Value) (K : PySem.W.Frag) (x : Str) (v : V) (u : Value) (d : PyData) : Prop where
  m : mg x = some u
  r : RelV v u
  e : ∀ H, Dt K H v d
def Cst (mg : Str → Option Value) (K : PySem.W.Frag) (x : Str) (d : PyData) : Prop := ∃ v u, CstV mg K x v u d
theorem ev_cst {mg : Str → Option Value} {x : Str} {v : V} {u : Value} {d : PyData} (g : CstV mg K x v u d) : Ev K T (tC v) ρ d := fun H0 B C H S σ gd Q hQ => hQ v H (.refl T H) (g.e _)
end
theorem cst_str {K : PySem.W.Frag} {mg : Str → Option Value} {x z : Str} (m : ∃ t, mg x = some (.str z t)) : Cst mg K x (.str z) := let ⟨t, e⟩ := m; ⟨.str z, _, e, ⟨t, rfl⟩, fun H => .str z⟩
end Lw

set_option Elab.async false
set_option linter.all false
set_option maxRecDepth 100000
set_option maxHeartbeats 4000000
set_option autoImplicit false
namespace Lw
open PySem L2 LwZ
def ShD (n : Nat) (d : PyData) : Prop := d.canLay0 = true ∧ d.depth ≤ n
theorem ShD.mono {n m : Nat} {d : PyData} (h : ShD n d) (l : n ≤ m) : ShD m d := ⟨h.1, Nat.le_trans h.2 l⟩
theorem ShD.shaped {n : Nat} {d : PyData} (h : ShD n d) (l : n ≤ 64) : SeqAt.shaped d = true := by
  unfold SeqAt.shaped
  rw [h.1, decide_eq_true (Nat.le_trans h.2 l)]
  rfl
theorem ShD.refl {n : Nat} {d : PyData} (h : ShD n d) : PyData.eqv d d = true := PySem.SeqAt.eqv_refl d h.1
theorem lay_all : ∀ {ds : List PyData}, (∀ d ∈ ds, d.canLay0 = true) → PyData.canLayAll0 ds = true
  | [], _ => by simp only [PyData.canLayAll0]
  | d :: ds, h => by
    simp only [PyData.canLayAll0]
    rw [h d (List.mem_cons_self ..), lay_all fun x hx => h x (List.mem_cons_of_mem _ hx)]
    rfl
theorem depth_all {n : Nat} : ∀ {ds : List PyData}, (∀ d ∈ ds, d.depth ≤ n) → PyData.depthAll ds ≤ n
  | [], _ => by simp only [PyData.depthAll]; exact Nat.zero_le _
  | d :: ds, h => by
    simp only [PyData.depthAll]
    exact Nat.max_le.mpr ⟨h d (List.mem_cons_self ..), depth_all fun x hx => h x (List.mem_cons_of_mem _ hx)⟩
theorem shd_list {n : Nat} {ds : List PyData} (h : ∀ d ∈ ds, ShD n d) : ShD (n + 1) (.list ds) := by
  refine ⟨by simp only [PyData.canLay0]; exact lay_all fun d hd => (h d hd).1, ?_⟩
  simp only [PyData.depth]
  have := depth_all fun d hd => (h d hd).2
  omega
theorem shd_tuple {n : Nat} {ds : List PyData} (h : ∀ d ∈ ds, ShD n d) : ShD (n + 1) (.tuple ds) := by
  refine ⟨by simp only [PyData.canLay0]; exact lay_all fun d hd => (h d hd).1, ?_⟩
  simp only [PyData.depth]
  have := depth_all fun d hd => (h d hd).2
  omega
theorem shd_int (i : Int) : ShD 0 (.int i) := ⟨by simp only [PyData.canLay0], by simp only [PyData.depth]; exact Nat.le_refl _⟩
theorem shd_bool (b : Bool) : ShD 0 (.bool b) := ⟨by simp only [PyData.canLay0], by simp only [PyData.depth]; exact Nat.le_refl _⟩
theorem shd_none : ShD 0 .none := ⟨by simp only [PyData.canLay0], by simp only [PyData.depth]; exact Nat.le_refl _⟩
section
variable {K : PySem.W.Frag} {T : Tb} {ρ : List Slot} {te ta tb : TE} {d : PyData} {ds : List PyData}
theorem it_sq (h : Ev K T te ρ d) (hd : SeqD d ds) : IterD K T (iSeq K te) ρ ds := by
  cases hd with
  | lst => exact it_list h
  | tup => exact it_tup h
theorem ev_lenSq (h : Ev K T te ρ d) (hd : SeqD d ds) : Ev K T (tCB (rLenA K) (tCons te tNil)) ρ (.int ds.length) := by
  cases hd with
  | lst => exact ev_cb (ea_cons h ea_nil) rc_lenL
  | tup => exact ev_cb (ea_cons h ea_nil) rc_lenT
theorem ev_ixSq {i : Int} {x : PyData} (h : Ev K T ta ρ d) (hd : SeqD d ds) (h2 : Ev K T tb ρ (.int i)) (hx : atI ds i = some x) : Ev K T (tOp (rIx K) ta tb) ρ x := by
  cases hd with
  | lst => exact ev_op h h2 (rv_ixL hx)
  | tup => exact ev_op h h2 (rv_ixT hx)
theorem ru_neg {i : Int} : RU K T (rU fun i => .int (-i)) (.int i) (.int (-i)) := fun H S v l dv Q hQ => by
  cases dv
  exact ⟨i, rfl, hQ _ _ (.refl T H) (.int _)⟩
theorem et_same {n : Nat} (h1 : Ev K T ta ρ d) (h2 : Ev K T tb ρ d) (s1 : ShD n d) (l1 : n ≤ 64) : EvT K T (tTest (tOp (rNeD K) ta tb)) ρ false := by
  have q := et_test (ev_op h1 h2 (rv_ne (s1.shaped l1) (s1.shaped l1)))
  rw [s1.refl] at q
  exact q
end
section
variable {K : PySem.W.Frag} {T : Tb} {ρ : List Slot} {te : TE} {wi : TI} {g : TG} {vs : List Nat} {items : List PyData}
theorem ev_allLc (F : PyData → Bool) (hi : IterD K T wi ρ items) (hz : items.length ≤ 1000000)
    (hs : ∀ (i : Nat) (d : PyData), items[i]? = some d → ∃ js f, TgD K T g d js f ∧ (∀ j ∈ js, j ∈ vs) ∧ Ev K T te (f (wipeS ρ vs)) (.bool (F d))) : Ev K T (tCB (rAll K) (tCons (tLc wi g tYes te vs) tNil)) ρ (.bool (items.all F)) := by
  have q := ef_lcM (K := K) (T := T) (fun d => .bool (F d)) hi hz hs
  have e : items.map (fun d => PyData.bool (F d)) = (items.map F).map PyData.bool := by rw [List.map_map]; rfl
  rw [e] at q
  have r := ev_cb (ea_cons q.ev ea_nil) (rc_all (K := K) (T := T))
  rw [List.all_map] at r
  exact r
end
inductive RowsD : List PyData → List (List Rat) → Prop
  | nil : RowsD [] []
  | cons {d : PyData} {ds : List PyData} {r : List Rat} {rs : List (List Rat)} : SeqD d (r.map encR) → RowsD ds rs → RowsD (d :: ds) (r :: rs)
theorem RowsD.len {ds : List PyData} {rs : List (List Rat)} (h : RowsD ds rs) : ds.length = rs.length := by
  induction h with
  | nil => rfl
  | cons a b ih => simp [ih]
theorem RowsD.get {ds : List PyData} {rs : List (List Rat)} (h : RowsD ds rs) : ∀ {i : Nat} {d : PyData}, ds[i]? = some d → ∃ r, rs[i]? = some r ∧ SeqD d (r.map encR) := by
  induction h with
  | nil => intro i d e; cases e
  | cons a b ih =>
    intro i d e
    cases i with
    | zero => cases e; exact ⟨_, rfl, a⟩
    | succ i => exact ih e
section
variable {K : PySem.W.Frag} {T : Tb} {ρ : List Slot} {te : TE} {wi : TI} {ta : TA} {vs : List Nat}
end
end Lw

set_option Elab.async false
set_option linter.all false
set_option maxRecDepth 100000
set_option maxHeartbeats 4000000
set_option autoImplicit false
namespace Lw
open PySem L2 LwZ
def tyN : PyData → String
  | .none => "NoneType"
  | .bool _ => "bool"
  | .int _ => "int"
  | .str _ => "str"
  | .list _ => "list"
  | .tuple _ => "tuple"
  | .dict _ => "dict"
section
variable {K : PySem.W.Frag} {T : Tb} {ρ : List Slot} {te : TE} {d : PyData}
theorem dt_ty {H : Hp} {S : List Addr} {v : V} (h : Dt K (hide H S) v d) : TyX K H v (.type (tyN d)) := by
  cases h with
  | non => exact .base .non
  | bl b => exact .base (.bl b)
  | int i => exact .base (.int i)
  | str x => exact .base (.str x)
  | lst h1 _ => exact .base (.lst (hide_get h1))
  | tup h1 _ =>
    rcases sqt_hide h1 with (e | ⟨o, e⟩) | ⟨o, its, n, e, c, _⟩
    · exact .base (.tup e)
    · exact .fTuple e
    · exact .kTuple e c
  | dct h1 _ _ => exact .base (.dK (hide_get h1))
theorem ev_isi {t : String} {b : Bool} (h : Ev K T te ρ d) (hb : kitB (tyN d) t = some b) : Ev K T (tCB (rIsi K) (tCons te (tCons (tC (.ty t)) tNil))) ρ (.bool b) := fun H0 B C H S σ g Q hQ =>
  h H0 B C H S σ g _ fun v H2 e dv => ⟨v, .ty t, _, _, b, rfl, .ty t, dt_ty dv, kit_ty hb, hQ _ _ e (.bl b)⟩
theorem ev_isi2 {t u : String} {b c : Bool} (h : Ev K T te ρ d) (hb : kitB (tyN d) t = some b) (hc : kitB (tyN d) u = some c) :
    Ev K T (tCB (rIsiT K) (tCons te (tCons (tTup (tCons (tC (.ty t)) (tCons (tC (.ty u)) tNil))) tNil))) ρ (.bool (b || c)) := fun H0 B C H S σ g Q hQ =>
  h H0 B C H S σ g _ fun v H2 e dv => ⟨by show 2 ≤ sizeLine; decide, fun p hp => by
    have e2 : Ext T H2 (upd H2 p (.tup [.ty t, .ty u])) := .new hp
    refine ⟨v, p, [.ty t, .ty u], .type (tyN d), [.type t, .type u], b || c, rfl, upd_same, .cons (.ty t) (.cons (.ty u) .nil), dt_ty (dv.kp (e2.kp.hide S)), ?_, hQ _ _ (e.trans e2) (.bl _)⟩
    refine kitAny_cons (kit_ty hb) (fun z => kitAny_cons (kit_ty hc) (fun z2 => ?_) fun z2 => ?_) fun z => ?_
    · rw [z, z2]; exact kitAny_nil
    · rw [z2, Bool.or_true]
    · rw [z]; rfl⟩
end
theorem call_isiK {X : Cx} (K : PySem.W.Frag) (h : X.K = K := by rfl) : CallR X (.builtin "isinstance") (rIsi K) := h ▸ call_isi
theorem call_isiTK {X : Cx} (K : PySem.W.Frag) (h : X.K = K := by rfl) : CallR X (.builtin "isinstance") (rIsiT K) := h ▸ call_isiT
structure ExF (K : PySem.W.Frag) (mg : Str → Option Value) (x : Str) (bm : List Value) (nw : String) : Prop where
  g : mg x = some (.ref (He.ga K x))
  q : PySem.W.excIn K (He.ga K x) bm nw = true
  k : PySem.W.keepIn K (.ref (He.ga K x)) = true
  s : PySem.W.subIn K (.ref (He.ga K x)) (.type "BaseException") = some true
  t : PySem.W.typeIn K (.ref (He.ga K x)) = some (.type "type")
def tRaise (K : PySem.W.Frag) (x : Str) (W : WX) : TS := fun _ σ H => W (.ref (He.ga K x)) none σ H
theorem ps_raiseX {X : Cx} {x m : Str} {j : Nat} {p p2 pos pos' : Pos} {bm : List Value} {B nw ini : String} {W : WX} (hc : X.calm = true) (tk : L2N.Takes X W) (F : ExcBaseFacts B nw ini bm) (e : ExF X.K X.mg x bm nw) (hg : Gl X x)
    (hdb : (x == ("__debug__" : Str)) = false := by decide) : PS X (.Raise (some (.Call (.Name x p) [.Constant (.str m) j p2] [] pos)) none pos') (tRaise X.K x W) :=
  L2N.ps_raise hc tk (L2N.pmk_own F e.q e.g e.k (raises_own e.s e.t) hg hdb)
inductive Out where
  | ok (d : PyData)
  | ex (x : Str)
def spE (K : PySem.W.Frag) (T : Tb) (R : List PyData → Out → Prop) : Sp := fun vs H Q E => ∃ ds o S, LsT T H S ∧ DtAll K (hide H S) vs ds ∧ R ds o ∧
  match o with
  | .ok r => ∀ v H', Ext T H H' → Dt K (hide H' S) v r → Q v H'
  | .ex x => ∀ H', Ext T H H' → E (.ref (He.ga K x)) none H'
def WF (E : XK) : WX := fun cls d _ H => E cls d H
section
variable {P : Program} {w : World} {K : PySem.W.Frag} {T : Tb} {mg : Str → Option Value} {base : Heap}
end
structure CalX (P : Program) (w : World) (K : PySem.W.Frag) (mg : Str → Option Value) (base : Heap) (k : Nat) (x : Str) (ps : List Str) (dvs : List V) (sp : Sp) : Prop where
  ex : ∃ (f : Addr) (fd : FuncData) (ds : List Value), FnOk P w K mg base (L2N.CX P w) k f fd ps sp ∧ mg x = some (.ref f) ∧ PySem.W.keepIn K (.ref f) = true ∧ Binds K fd ps ds ∧ Vals dvs ds
section
variable {X : Cx} {x : Str} {ps : List Str} {dvs : List V} {sp : Sp} {k j : Nat} {e : Expr} {es : List Expr} {t : TA} {p pos : Pos} {W : WX}
theorem pe_callX (c : CalX X.prog X.w X.K X.mg X.base k x ps dvs sp) (tk : L2N.Takes X W) (hr : Room j X.A) (hg : Gl X x) (ha : PA X (e :: es) t) (hk : k ≤ j := by decide) (hdb : (x == ("__debug__" : Str)) = false := by decide)
    (he : starEach (e :: es) X.env = (false, eval e X.env) :: starEach es X.env := by rfl) (hpl : (backTo pos (starEach es X.env)).any (·.1) = false := by rfl) : PE X (.Call (.Name x p) (e :: es) [] pos) (tCallSD sp dvs (WE W) t) := by
  obtain ⟨f, fd, ds, G, m, kp, b, v⟩ := c.ex
  exact pe_callSD G (hr.mono hk) hg m kp b v (fun σ => L2N.passAt tk σ) ha hdb he hpl
end
section
variable {K : PySem.W.Frag} {T : Tb} {ρ : List Slot} {te : TE} {ta : TA} {z : PyData} {W : WX} {H0 B : Hp} {C : List Addr} {D : Ends} {tz : TS} {g : TG}
end
structure ErC where
  name : Str
  ups : List Str
  bm : List Value
  nw : String
  ini : Bool
def veB : List Value := [.type "ValueError", .type "Exception", .type "BaseException", .type "object"]
def leB : List Value := [.type "LookupError", .type "Exception", .type "BaseException", .type "object"]
def subE (c d : ErC) : Bool := (c.name :: c.ups).contains d.name
def biE : List String := ["ValueError", "ZeroDivisionError", "LookupError", "IndexError"]
def excB (K : PySem.W.Frag) (D : Addr) : Bool := He.eqO (PySem.W.findIn K (.ref D) "__getattribute__") (some (some (.builtin "BaseException.__getattribute__"))) && (He.eqO (PySem.W.findIn K (.ref D) "__getattr__") (some none) &&
  (decide (PySem.W.subIn K (.ref D) (.type "BaseException") = some true) && (PySem.W.hasDictIn K D && (He.eqO (PySem.W.findIn K (.ref D) "__class__") (some (some (.builtin "object.__class__"))) &&
  (He.eqO (PySem.W.specialIn K (.builtin "object.__class__") "__get__") (some (some (.builtin "getset_descriptor.__get__"))) && (decide (PySem.W.takesIn K (.builtin "object.__class__") = some true) && decide (PySem.W.mroIn K D (.type "object") = some true)))))))
theorem excB_ok {K : PySem.W.Frag} {D : Addr} (h : excB K D = true) : ExcC K D := by
  unfold excB at h
  obtain ⟨h1, h⟩ := He.ba h
  obtain ⟨h2, h⟩ := He.ba h
  obtain ⟨h3, h⟩ := He.ba h
  obtain ⟨h4, h⟩ := He.ba h
  obtain ⟨h5, h⟩ := He.ba h
  obtain ⟨h6, h⟩ := He.ba h
  obtain ⟨h7, h8⟩ := He.ba h
  exact ⟨He.eqO_ok h1, He.eqO_ok h2, of_decide_eq_true h3, h4, He.eqO_ok h5, He.eqO_ok h6, of_decide_eq_true h7, of_decide_eq_true h8⟩
def erOne (K : PySem.W.Frag) (cl : List ErC) (c : ErC) : Bool := He.eqO (PySem.W.nsIn K mainGlobals c.name) (some (some (.ref (He.ga K c.name)))) && ((c.ini || PySem.W.excIn K (He.ga K c.name) c.bm c.nw) && (PySem.W.keepIn K (.ref (He.ga K c.name)) &&
  (decide (PySem.W.typeIn K (.ref (He.ga K c.name)) = some (.type "type")) && (excB K (He.ga K c.name) && ((cl.all fun d => decide (PySem.W.exmOne K (.ref (He.ga K c.name)) (.ref (He.ga K d.name)) = some (subE c d)) && decide (PySem.W.kitOne K (.ref (He.ga K c.name)) (.ref (He.ga K d.name)) = some (subE c d))) &&
  biE.all fun t => decide (PySem.W.kitOne K (.ref (He.ga K c.name)) (.type t) = some (c.bm.contains (.type t))))))))
def erB (cl : List ErC) (K : PySem.W.Frag) : Bool := cl.all (erOne K cl)
structure ErF (K : PySem.W.Frag) (mg : Str → Option Value) (cl : List ErC) (c : ErC) : Prop where
  g : mg c.name = some (.ref (He.ga K c.name))
  f : c.ini = false → ExF K mg c.name c.bm c.nw
  k : PySem.W.keepIn K (.ref (He.ga K c.name)) = true
  t : PySem.W.typeIn K (.ref (He.ga K c.name)) = some (.type "type")
  x : ExcC K (He.ga K c.name)
  m : ∀ d ∈ cl, PySem.W.exmOne K (.ref (He.ga K c.name)) (.ref (He.ga K d.name)) = some (subE c d) ∧ PySem.W.kitOne K (.ref (He.ga K c.name)) (.ref (He.ga K d.name)) = some (subE c d)
  b : ∀ t ∈ biE, PySem.W.kitOne K (.ref (He.ga K c.name)) (.type t) = some (c.bm.contains (.type t))
def ErrT (K : PySem.W.Frag) (mg : Str → Option Value) (cl : List ErC) : Prop := ∀ c ∈ cl, ErF K mg cl c
theorem erB_ok {K : PySem.W.Frag} {h : Heap} {mg : Str → Option Value} {cl : List ErC} (X : K.In h) (G : h.Ns mainGlobals mg) (e : erB cl K = true) : ErrT K mg cl := fun c hc => by
  have q := List.all_eq_true.mp e c hc
  unfold erOne at q
  obtain ⟨h1, q⟩ := He.ba q
  obtain ⟨h2, q⟩ := He.ba q
  obtain ⟨h3, q⟩ := He.ba q
  obtain ⟨h4, q⟩ := He.ba q
  obtain ⟨h5, q⟩ := He.ba q
  obtain ⟨h6, h7⟩ := He.ba q
  have g := PySem.W.mg_of X G (He.eqO_ok h1)
  have c5 := excB_ok h5
  refine ⟨g, fun z => ⟨g, ?_, h3, c5.hs, of_decide_eq_true h4⟩, h3, of_decide_eq_true h4, c5, fun d hd => ?_, fun t ht => of_decide_eq_true (List.all_eq_true.mp h7 t ht)⟩
  · rw [z, Bool.false_or] at h2
    exact h2
  · obtain ⟨a, b⟩ := He.ba (List.all_eq_true.mp h6 d hd)
    exact ⟨of_decide_eq_true a, of_decide_eq_true b⟩
theorem CalX.calm {P : Program} {w : World} {K : PySem.W.Frag} {T : Tb} {mg : Str → Option Value} {base : Heap} {k : Nat} {x : Str} {ps : List Str} {dvs : List V} {R : List PyData → Out → Prop} (c : CalX P w K mg base k x ps dvs (spE K T R)) :
    Cal P w K mg base k x ps dvs (spR K T fun ds r => R ds (.ok r)) := by
  obtain ⟨f, fd, ds, G, m, kp, b, v⟩ := c.ex
  refine ⟨f, fd, ds, ⟨fun vs H Q E h => ?_, fun A outer s H args us vs Q E hr e0 hb hv h => ?_⟩, m, kp, b, v⟩
  · obtain ⟨ds, r, S, l, hd, hR, hq⟩ := h
    exact G.len vs H Q (fun _ _ _ => False) ⟨ds, .ok r, S, l, hd, hR, hq⟩
  · obtain ⟨ds, r, S, l, hd, hR, hq⟩ := h
    refine codeAny_mono (G.run A outer s H args us vs Q (fun _ _ _ => False) hr e0 hb hv ⟨ds, .ok r, S, l, hd, hR, hq⟩) fun o s' h' => ?_
    cases o with
    | error e =>
      obtain ⟨_, _, _, _, _, _, _, _, _, _, _, _, z⟩ := h'
      exact z.elim
    | ok fl => cases fl <;> exact h'
section
variable {K : PySem.W.Frag} {T : Tb} {ρ : List Slot} {H0 B : Hp} {C : List Addr} {D : Ends} {H : Hp} {S : List Addr} {σ : St}
theorem Gd.setRaw (g : Gd K T H0 B C H S σ ρ) {i : Nat} {v : V} : Gd K T H0 B C H S (σ.set i (some v)) (ρ.set i (.raw v)) where
  ext := g.ext
  vis := g.vis
  bno := g.bno
  hid := g.hid
  lst := g.lst
  sub := g.sub
  cl := g.cl
  len := by rw [List.length_set, List.length_set]; exact g.len
  dat := fun j d e => by
    by_cases z : i = j
    · subst z; cases set_get e
    · rw [List.getElem?_set_ne z] at e ⊢
      exact g.dat j d e
  scr := fun j d e => by
    by_cases z : i = j
    · subst z; cases set_get e
    · rw [List.getElem?_set_ne z] at e ⊢
      exact g.scr j d e
  raw := fun j d e => by
    by_cases z : i = j
    · subst z
      have hl : i < ρ.length := by
        have := (List.getElem?_eq_some_iff.mp e).1
        rwa [List.length_set] at this
      cases set_get e
      exact List.getElem?_set_self (g.len ▸ hl)
    · rw [List.getElem?_set_ne z] at e ⊢
      exact g.raw j d e
  own := fun j d e => by
    by_cases z : i = j
    · subst z; cases set_get e
    · rw [List.getElem?_set_ne z] at e ⊢
      exact g.own j d e
  sep := fun a b ds es p ha hb sa sb => by
    have za : i ≠ a := fun z => by subst z; cases set_get ha
    have zb : i ≠ b := fun z => by subst z; cases set_get hb
    rw [List.getElem?_set_ne za] at ha sa
    rw [List.getElem?_set_ne zb] at hb sb
    exact g.sep a b ds es p ha hb sa sb
  rob := g.rob.step (.set rfl)
  hc := g.hc
  obs := g.obs.step (.set rfl) (.refl _) (fun _ _ _ _ h => h) (fun _ _ _ h => h) (fun a j q o ha hb f => by
    have zb : i ≠ j := fun z => by subst z; cases set_get ha
    rw [List.getElem?_set_ne zb] at ha hb
    exact g.obs.dl a j q o f ha hb)
theorem tri_app {ts : TS} (σ : St) (H : Hp) (g : Good K T H0 B C ρ σ H) (h : Tri K T H0 B C ρ ts D) : ts D σ H := h σ H g
abbrev clEnds (i : Nat) (D : Ends) : Ends := { nx := fun σ' H' => D.nx (σ'.set i none) H', rt := D.rt, bk := fun σ' H' => D.bk (σ'.set i none) H', ct := fun σ' H' => D.ct (σ'.set i none) H' }
end
end Lw

set_option Elab.async false
set_option linter.all false
set_option maxRecDepth 100000
set_option maxHeartbeats 4000000
set_option autoImplicit false
namespace Lw
open PySem PySem.Spec PyProof.Rows L2
theorem flying_keeps {base h h' : Heap} {l : List Env} {e : Addr} {Z : Obj → Prop} (f : HandSPX.FlyingZ base l e Z h) (k : ∀ b o, h.get? b = some o → h'.get? b = some o) : HandSPX.FlyingZ base l e Z h' := by
  obtain ⟨f1, f2, f3, oe, vs, T, oT, ts, a1, a2, a3, a4, a5, a6, a7, a8, a9⟩ := f
  exact ⟨fun b o q => k b o (f1 b o q), f2, f3.of_keeps fun b o q _ => ⟨o, k b o q, rfl⟩, oe, vs, T, oT, ts, k _ _ a1, a2, a3, a4, a5, a6, k _ _ a7, a8, a9⟩
inductive Cl2 where
  | one (c : Value)
  | two (c d : Value)
def exmC (K : PySem.W.Frag) (cls : Value) : Cl2 → Option Bool
  | .one c => PySem.W.exmOne K cls c
  | .two c d => PySem.W.exmAny K cls [c, d]
inductive TestOk (X : Cx) : Expr → Cl2 → Prop
  | one {x : Str} {c : Value} {np : Pos} (h : Names X x c) : TestOk X (.Name x np) (.one c)
  | two {x y : Str} {c d : Value} {p q pos : Pos} {k : Nat} (h : Names X x c) (h2 : Names X y d) : TestOk X (.Tuple [.Name x p, .Name y q] k pos) (.two c d)
abbrev Sui := Addr → Value → Option Addr → TS
def wManyA (K : PySem.W.Frag) (i : Nat) (Wout : WX) (D : Ends) : List (Cl2 × Sui) → WX
  | [] => Wout
  | (c, ts) :: r => fun cls d σ H => ∃ b, exmC K cls c = some b ∧ (b = true → ∀ a, H a = none → ts a cls d (clEnds i D) (σ.set i (some (.ref a))) H) ∧ (b = false → wManyA K i Wout D r cls d σ H)
inductive HdsA (X : Cx) (n : Str) : List ExceptHandler → List (Cl2 × Sui) → Prop
  | nil : HdsA X n [] []
  | cons {e : Expr} {c : Cl2} {ts : Sui} {b₀ : Stmt} {suite : List Stmt} {pos' : Pos} {hds : List ExceptHandler} {l : List (Cl2 × Sui)} (hc : TestOk X e c)
      (hsu : ∀ (a : Addr) (oe : Obj) (cls : Value) (d : Option Addr) (pn : List (Addr × Obj)), L2N.Zn cls d oe → (∃ vs, oe.data = .fields vs) → PSs (X.suite a ((a, oe) :: pn)) (b₀ :: suite) (ts a cls d)) (r : HdsA X n hds l) :
      HdsA X n (.ExceptHandler (some e) (some n) (b₀ :: suite) pos' :: hds) ((c, ts) :: l)
section
variable {X : Cx} {body : List Stmt} {h₀ : ExceptHandler} {hds : List ExceptHandler} {l : List (Cl2 × Sui)} {pos : Pos} {tb : WX → TS} {Wout : WX} {n : Str} {i : Nat}
theorem ps_try_manyA (hs : X.stack = X.env :: X.outer) (hf : X.env.frame = some X.env.locals) (hN : X.N.Nodup) (hi : X.N[i]? = some n) (hln : X.env.kindOf n = some .local) (tk : L2N.Takes X Wout)
    (hb : ∀ (W : WX) (pn : List (Addr × Obj)) (xe : Value → Shared → Prop), L2N.Takes (X.tr pn xe) W → PassesOwn (model X.prog X.w) X.A X.env xe → PSs (X.tr pn xe) body (tb W))
    (hh : HdsA X n (h₀ :: hds) l) : PS X (.Try body (h₀ :: hds) [] [] pos) (fun D σ H => tb (wManyA X.K i Wout D l) D σ H) := by
  refine ⟨fun pins s σ H D I h => ?_⟩
  have ok := I.ok
  have hfr : X.A.frames = some (X.env :: X.outer) := by rw [ok.frames, hs]
  have hloc : Loc X.env.scope n := .inl hln
  refine wpAny_Try_except ?_
  refine wpAny_mono ((hb (wManyA X.K i Wout D l) (X.pn ++ pins) (fun e s₁ => wpAny (model X.prog X.w) X.A (noteFrame e X.env) (fun _ s₂ => wpAny (model X.prog X.w) X.A (setFlight e none) (fun _ s₃ =>
    wpAny (model X.prog X.w) X.A (handleBy e X.env (h₀ :: hds)) (SP X pins D) X.xe s₃) X.xe s₂) X.xe s₁) (fun u s' xx => ?_) PassesOwn.looking).run [] s σ H D (I.toTry _) h) (fun f s1 hsp => ?_) (fun e s1 he => he)
  · -- the catch
    obtain ⟨a, B, sI, pins', σ', H', cls, d, rfl, J', nb, up, sky, na, os, ag, w⟩ := xx
    have J : Inv X pins σ' H' sI := J'.ofTry ok
    have sky' : Sky B (X.env :: X.outer) a (L2N.Zn cls d) X.env.locals s'.heap := by rw [← hs]; exact sky
    show wpAny (model X.prog X.w) X.A (noteFrame (.ref a) X.env) _ _ _
    refine L2N.Sky.land L2N.Zn.steady hfr hf sky' fun h3 fl3 up3 => ?_
    have notFr : ∀ {h : Heap} {o : Obj} {vs : Array Value}, h.FunFrames B (X.env :: X.outer) → h.get? a = some o → o.data = .fields vs → a ∉ frs (X.env :: X.outer) := fun {h o vs} ff e dd hm => by
      obtain ⟨_, o', e', hnf⟩ := ff.mem hm
      rw [e] at e'; cases e'
      exact hnf _ dd
    obtain ⟨oe3, vs3, he3, hz3, hd3⟩ := fl3.there
    have nfr := notFr fl3.2.2.1 he3 hd3
    have nL : a ≠ X.env.locals := fun z => nfr (List.mem_filterMap.mpr ⟨X.env, List.mem_cons_self, by rw [hf, z]⟩)
    have nF : a ∉ X.fs := fun hm => by
      obtain ⟨e, he, q⟩ := List.mem_filterMap.mp hm
      exact nfr (List.mem_filterMap.mpr ⟨e, List.mem_cons_of_mem _ he, q⟩)
    have go : ∀ {hds' : List ExceptHandler} {l' : List (Cl2 × Sui)}, HdsA X n hds' l' → ∀ h3 : Heap, HandSPX.FlyingZ B (X.env :: X.outer) a (L2N.Zn cls d) h3 → sI.heap.UpToSlots h3 → wManyA X.K i Wout D l' cls d σ' H' →
        wpAny (model X.prog X.w) X.A (handleBy (.ref a) X.env hds') (SP X pins D) X.xe { s' with heap := h3 } := by
      intro hds' l' hk
      induction hk with
      | nil =>
        intro h3 fl3 up3 w
        refine wpAny_handleBy_nil ?_
        obtain ⟨k1, k2, k3, oe, vs, T, oT, ts', he, hz, hd, h1, hr⟩ := id fl3
        unfold PySem.passOn
        refine wpAny_bind (wpAny_field he hd h1 ?_)
        rw [if_neg (show ¬ ((Value.ref T == Value.none) = true) from by simp)]
        have fin : wpAny (model X.prog X.w) X.A (setFlight (.ref a) X.env.frame) (fun _ s4 => wpAny (model X.prog X.w) X.A (throw (.ref a) : Sem Flow) (SP X pins D) X.xe s4) X.xe { s' with heap := h3 } := by
          rw [hf]
          refine HandSPX.setFlight_upZ fl3 fun h4 hh4 up4 => wpAny_throw (tk _ _ ?_)
          exact ⟨a, B, sI, pins, σ', H', cls, d, rfl, J, nb, up3.trans up4, .inr (.inr (by rw [hs]; exact hh4)), na, os, ag, w⟩
        first
          | exact wpAny_bind (wpAny_pure (wpAny_bind fin))
          | exact wpAny_bind fin
      | @cons te c ts b₀ suite pos' hds2 l2 hc hsu r ih =>
        intro h3 fl3 up3 w
        obtain ⟨b, hb1, hyes, hno⟩ := w
        have J3 : Inv X pins σ' H' { s' with heap := h3 } := J.landed nb fl3.1 up3 os ag
        obtain ⟨oe3, vs3, he3, hz3, hd3⟩ := fl3.there
        have S3 := J3.suite he3 hd3 na nL nF
        refine wpAny_handleBy_cons (codeAny_handlers_test ?_) (by intro q; cases q)
        have name : ∀ {x : Str} {c : Value} {np : Pos} {Q : Value → Shared → Prop} {E : Value → Shared → Prop}, Names X x c → Q c { s' with heap := h3 } → wpAny (model X.prog X.w) (X.A.mark (some (.ref a))) (eval (.Name x np) X.env) Q E { s' with heap := h3 } := fun {x c np Q E} hc q => by
          obtain ⟨hg, hdbg, hm | ⟨hm, hv, hnn⟩⟩ := hc
          · exact ld_glob (X := X.suite a ((a, oe3) :: (X.pn ++ pins))) S3 hg hm q hdbg
          · exact ld_blt (X := X.suite a ((a, oe3) :: (X.pn ++ pins))) S3 hg hm hv q hnn hdbg
        have LT : PySem.W.Looks (model X.prog X.w) h3 (typeOf (.ref a)) cls := fun A Q E s k q => wpAny_typeOf_ref (k _ _ he3) (by rw [hz3.1]; exact q)
        have tst : ∀ {Q : Value → Shared → Prop} {E : Value → Shared → Prop}, (∀ (cv : Value) (h4 : Heap), HandSPX.FlyingZ B (X.env :: X.outer) a (L2N.Zn cls d) h4 → sI.heap.UpToSlots h4 → PySem.W.Looks (model X.prog X.w) h4 (excMatches (.ref a) cv) b → Q cv { s' with heap := h4 }) →
            wpAny (model X.prog X.w) (X.A.mark (some (.ref a))) (eval te X.env) Q E { s' with heap := h3 } := by
          intro Q E hQ
          cases hc with
          | one h => exact name h (hQ _ h3 fl3 up3 (PySem.W.exm_one (M := model X.prog X.w) J3.kIn LT hb1))
          | two h h2 =>
            rename_i c1 c2 p q tp k
            refine wpAny_Tuple_spliced (args_cons (name h (args_cons (name h2 (args_nil ⟨by show 2 ≤ sizeLine; decide, ?_⟩)) rfl)) rfl)
            have kp : ∀ b o, h3.get? b = some o → (h3.push { cls := .type "tuple", data := .seq [c1, c2].toArray }).get? b = some o := fun b o e => Heap.get?_push_of_some _ e
            exact hQ _ _ (flying_keeps fl3 kp) (up3.trans (Heap.UpToSlots.of_keeps kp)) (PySem.W.exm_tup2 (M := model X.prog X.w) (J3.kIn.keeps kp) (LT.keeps kp) (Heap.get?_push_size _ rfl) hb1)
        refine tst fun cv h3b fl3b up3b LM => LM.here ?_
        cases b with
        | true =>
          refine codeAny_handlers_suite_as ?_
          refine HandSPX.lands_againZ fl3b fun h4 fl4 up4 => ?_
          have J4 : Inv X pins σ' H' { s' with heap := h4 } := J.landed nb fl4.1 (up3b.trans up4) os ag
          obtain ⟨oe4, vs4, he4, hz4, hd4⟩ := fl4.there
          have S4 := J4.suite he4 hd4 na nL nF
          refine store_ok (X := X.suite a ((a, oe4) :: (X.pn ++ pins))) (v := .ref a) S4 hN hi hloc rfl (fun s5 S5 => ?_) (.inr hln)
          refine wpAny_mono ((hsu a oe4 cls d (X.pn ++ pins) hz4 ⟨_, hd4⟩).run [] s5 _ H' _ S5 (hyes rfl a na)) (fun f s6 hsp => ?_) (fun _ _ z => False.elim z)
          have end_ : ∀ {σ6 : L2.St} {H6 : Hp} {Q : Shared → Prop}, Inv (X.suite a ((a, oe4) :: (X.pn ++ pins))) [] σ6 H6 s6 → (∀ s7, Inv X pins (σ6.set i none) H6 s7 → Q s7) →
              wpAny (model X.prog X.w) X.A (do bindName X.env n .none; unbindBehindTheSuite X.env n pos') (fun _ s7 => Q s7) X.xe s6 := fun {σ6 H6 Q} S6 hq => gone_ok (S6.unsuite ok) hN hi hln hq
          cases f with
          | next =>
            obtain ⟨σ6, H6, S6, q6⟩ := hsp
            exact end_ S6 fun s7 J7 => ⟨_, _, J7, q6⟩
          | brk =>
            obtain ⟨σ6, H6, S6, q6⟩ := hsp
            exact end_ S6 fun s7 J7 => ⟨_, _, J7, q6⟩
          | cont =>
            obtain ⟨σ6, H6, S6, q6⟩ := hsp
            exact end_ S6 fun s7 J7 => ⟨_, _, J7, q6⟩
          | ret u =>
            obtain ⟨v6, σ6, H6, S6, r6, q6⟩ := hsp
            exact end_ S6 fun s7 J7 => ⟨_, _, _, J7, r6, q6⟩
        | false =>
          show wpAny _ X.A (handleBy (.ref a) X.env hds2) _ _ _
          exact ih h3b fl3b up3b (hno rfl)
    exact go hh h3 fl3 (up.trans up3) w
  · cases f with
    | next =>
      obtain ⟨σ', H', J', q⟩ := hsp
      exact wpAny_execs_nil ⟨σ', H', J'.ofTry ok, q⟩
    | brk =>
      obtain ⟨σ', H', J', q⟩ := hsp
      exact ⟨σ', H', J'.ofTry ok, q⟩
    | cont =>
      obtain ⟨σ', H', J', q⟩ := hsp
      exact ⟨σ', H', J'.ofTry ok, q⟩
    | ret u =>
      obtain ⟨v, σ', H', J', r, q⟩ := hsp
      exact ⟨v, σ', H', J'.ofTry ok, r, q⟩
end
end Lw

set_option Elab.async false
set_option linter.all false
set_option maxRecDepth 100000
set_option maxHeartbeats 4000000
set_option autoImplicit false
namespace LwZ
open PySem PySem.Spec PyProof.Rows L2
structure TurnQ (P : Program) (w : World) (K : PySem.W.Frag) (tg : Expr) (J : It) (fp : List Addr) (it : Addr) (tn : Nat → Heap → Prop) : Prop where
  mem : it ∈ fp
  obj : ∀ i h, tn i h → ∀ b ∈ fp, ∃ o, h.get? b = some o ∧ ∀ v, o.data ≠ .cell v
  keep : ∀ i h h', tn i h → (∀ b ∈ fp, ∀ o, h.get? b = some o → h'.get? b = some o) → tn i h'
  item : ∀ (X : Cx), X.prog = P → X.w = w → X.K = K → ∀ (i : Nat) (pins : List (Addr × Obj)) (s : Shared) (σ : L2.St) (H : Hp) (E : Value → Shared → Prop), Inv X pins σ H s → (∀ b ∈ fp, FpOk X pins H b) → tn i s.heap → J.go i H →
    wpAny (model P w) X.A (pyNext (.ref it)) (fun r s1 => ∃ u, r = some u ∧
      wpAny (model P w) X.A (letOwnedTupleGo tg (.ref it) u) (fun _ s2 => ∃ x H', Inv X pins σ H' s2 ∧ RelV x u ∧ J.yld i H x H' ∧ tn (i + 1) s2.heap ∧ ∀ b ∈ fp, H' b = none) E s1) E s
  done : ∀ (X : Cx), X.prog = P → X.w = w → X.K = K → ∀ (i : Nat) (pins : List (Addr × Obj)) (s : Shared) (σ : L2.St) (H : Hp) (E : Value → Shared → Prop), Quiet X.A s.heap → Inv X pins σ H s → (∀ b ∈ fp, FpOk X pins H b) → tn i s.heap → J.stop i H →
    wpAny (model P w) X.A (pyNext (.ref it)) (fun r s1 => r = none ∧ Inv X pins σ H s1) E s
  self : ∀ (A : Around) (i : Nat) (s : Shared) (Q : Value → Shared → Prop) (E : Value → Shared → Prop), tn i s.heap → Q (.ref it) s → wpAny (model P w) A (pyIter (.ref it)) Q E s
theorem turn_zpQ {st p1 p2 : Bool} {a b z TI TO i1 i2 : Addr} {P : Program} {w : World} {K : PySem.W.Frag} {elts : List Expr} {kk : Nat} {tpos : Pos} (D : ZipApart z TI TO i1 i2 a b) :
    TurnQ P w K (.Tuple elts kk tpos) (ItZ K st p1 p2 a b) [z, TI, TO, i1, i2] z (zTn st p1 p2 a b z TI TO i1 i2) where
  mem := by simp
  obj := zp_obj
  keep := zp_keep
  item := by
    intro X hP hw hK i pins s σ H E I hf t hg
    subst hP hw hK
    exact zp_item D X i pins s σ H E I hf t hg
  done := by
    intro X hP hw hK i pins s σ H E q I hf t hg
    subst hP hw hK
    exact zp_done D X i pins s σ H E q I hf t hg
  self := fun A i s Q E t h => pyIter_zp t.1 h
def PIEQ (X : Cx) (pins : List (Addr × Obj)) (σ : L2.St) (tg : Expr) (R : It → Hp → Prop) (itv : Value) (s2 : Shared) : Prop :=
  ∃ (it : Addr) (fp : List Addr) (tn : Nat → Heap → Prop) (J : It) (H' : Hp), itv = .ref it ∧ Inv X pins σ H' s2 ∧ TurnQ X.prog X.w X.K tg J fp it tn ∧ tn 0 s2.heap ∧ (∀ b ∈ fp, FpOk X pins H' b) ∧ R J H'
structure PIQ (X : Cx) (tg iter : Expr) (wi : TI) : Prop where
  run : ∀ (pins : List (Addr × Obj)) (s : Shared) (σ : L2.St) (H : Hp) (R : It → Hp → Prop), Inv X pins σ H s → wi σ H R →
    wpAny (model X.prog X.w) X.A (eval iter X.env) (fun v s1 => wpAny (model X.prog X.w) X.A (pyIter v) (PIEQ X pins σ tg R) X.xe s1) X.xe s
theorem pi_zipQ {X : Cx} (K : PySem.W.Frag) {e e2 : Expr} {ta : TA} {p pos tpos : Pos} {elts : List Expr} {kk : Nat} (hg : Gl X "zip") (hm : X.mg "zip" = none) (ha : PA X [e, e2] ta) (hK : X.K = K := by rfl)
    (hs : starEach [e, e2] X.env = (false, eval e X.env) :: starEach [e2] X.env := by rfl) (hpl : (backTo pos (starEach [e2] X.env)).any (·.1) = false := by rfl) :
    PIQ X (.Tuple elts kk tpos) (.Call (.Name "zip" p) [e, e2] [] pos) (iZip K false ta) := by
  subst hK
  refine ⟨fun pins s σ H R I h => ?_⟩
  refine Call_ (ld_blt I hg hm PyProof.Rows.boot_zip (PyProof.Rows.callWith_type1 (thn (ha.run pos pins s σ H _ I h) fun us s1 ⟨vs, H1, I1, r1, q1⟩ => ?_) hs hpl))
  exact zp_go (st := false) (fun {p1 p2 a b xs ys} hqx hqy q h' t D I2 f => pyIter_zp t.1 ⟨_, _, _, _, H1, rfl, I2, turn_zpQ D, t, f, q⟩) I1 r1 q1
section
variable {prog : Program} {w : World} {A : Around} {E : Value → Shared → Prop} {s : Shared}
theorem iter_end {tp : Bool} {it l : Addr} {i : Nat} {items : Array Value} {id : String} {Q' : Fin → Shared → Prop} (q : Quiet A s.heap) (hit : IsIt tp s.heap it l i) (hl : IsSq tp s.heap l items) (hx : items[i]? = none)
    (hE : ∀ h' e, Heap.ExtBut it s.heap h' → (∃ o, h'.get? e = some o ∧ o.cls = .type "StopIteration") → E (.ref e) { s with heap := h' }) : wpAny (model prog w) A.in1 (do
      let seq ← field (.ref it) 0
      if seq == .none then rule s!"{id}.ended"; Builtin.SmallTypes.stopIteration
      let .int i _ ← field (.ref it) 1 | unsupported s!"internal:{id}"
      let some its ← seqItems? seq | unsupported s!"internal:{id}"
      match its[i.toNat]? with
      | some x => setField (.ref it) 1 (rawInt (i + 1)); ret x
      | none => rule s!"{id}.end"; setField (.ref it) 0 .none; Builtin.SmallTypes.stopIteration) Q' E s := by
  obtain ⟨o, ho, hc, hd⟩ := hit.get
  obtain ⟨ol, nl, hol, hdl⟩ := hl.get
  refine wpAny_bind (wpAny_field ho hd (x := .ref l) rfl ?_)
  show wpAny _ _ (if (Value.ref l == Value.none) = true then _ else _) _ _ s
  rw [if_neg (show ¬ ((Value.ref l == Value.none) = true) from Bool.false_ne_true)]
  refine wpAny_bind (wpAny_field ho hd (x := .int i 0) rfl ?_)
  refine wpAny_bind (wpAny_seqItems hol hdl ?_)
  simp only [Int.toNat_natCast, hx]
  refine wpAny_bind (wpAny_rule (wpAny_bind (wpAny_setField ho hd (by simp) ?_)))
  have q2 : Quiet A.in1 (s.heap.update it (Obj.mapFields (·.setIfInBounds 0 .none))) :=
    Quiet.keep (A := A.in1) (show Quiet A.in1 s.heap from q) ho hd (by simp) fun b u hb e => by rw [Heap.get?_update_other _ _ (Ne.symm hb)]; exact e
  refine stop_raised (s := { s with heap := s.heap.update it (Obj.mapFields (·.setIfInBounds 0 .none)) }) q2 fun h' e k ho' => hE h' e (fun b u hb z => k b u (by
    rw [Heap.get?_update_other _ _ (Ne.symm hb)]; exact z)) ho'
theorem next_endQ {tp : Bool} {it l : Addr} {i : Nat} {items : Array Value} {Q : Option Value → Shared → Prop} (q : Quiet A s.heap) (hit : IsIt tp s.heap it l i) (hl : IsSq tp s.heap l items) (hx : items[i]? = none)
    (hQ : ∀ h', Heap.ExtBut it s.heap h' → Q none { s with heap := h' }) : wpAny (model prog w) A (pyNext (.ref it)) Q E s := by
  obtain ⟨o, ho, hc, hd⟩ := hit.get
  have fin : ∀ h' e, Heap.ExtBut it s.heap h' → (∃ o, h'.get? e = some o ∧ o.cls = .type "StopIteration") → wpAny (model prog w) A (do if ← isInstance (.ref e) (.type "StopIteration") then return none else throw (.ref e)) Q E { s with heap := h' } := fun h' e k ⟨oe, he, hce⟩ =>
    wpAny_bind (wpAny_isInstance (T := "StopIteration") (b := true) ⟨oe, he, hce⟩ isSubtype_stop (wpAny_pure (hQ _ k)))
  unfold pyNext
  cases tp with
  | true =>
    exact wpAny_bind (wpAny_attempt (wpAny_callSpecial?_slot (name := Str.ofString "__next__") (show s.TypeIs (.ref it) "tuple_iterator" from ⟨o, ho, hc⟩) F.slot_tuple_iterator_next
      (wpAny_call_entry F.slot_tuple_iterator_next ⟨o, ho, hc⟩ F.entry_tuple_iterator_next (iter_end (id := "tuple_iterator.__next__") q hit hl hx fin) (F.args_tuple_iterator_next_1 _))))
  | false =>
    exact wpAny_bind (wpAny_attempt (wpAny_callSpecial?_slot (name := Str.ofString "__next__") (show s.TypeIs (.ref it) "list_iterator" from ⟨o, ho, hc⟩) slot_listiter_next
      (wpAny_call_entry slot_listiter_next ⟨o, ho, hc⟩ entry_listiter_next (iter_end (id := "list_iterator.__next__") q hit hl hx fin) (args_listiter_next _))))
end
section
variable {prog : Program} {w : World} {A : Around} {E : Value → Shared → Prop} {s : Shared}
theorem unpackItemsQ {t : Addr} {items : Array Value} {Q : List Value → Shared → Prop} (q : Quiet A s.heap) (ht : IsTup s.heap t items)
    (hQ : ∀ h', Heap.ExtBut s.heap.objs.size s.heap h' → Q items.toList { s with heap := h' }) : wpAny (model prog w) A (unpackItems (.ref t) items.size none) Q E s := by
  have hlt : t ≠ s.heap.objs.size := by obtain ⟨o, ho, _⟩ := ht; exact Nat.ne_of_lt (Heap.lt_size ho)
  unfold unpackItems
  refine wpAny_bind ?_
  · unfold notIterableAtAll
    refine wpAny_bind (wpAny_specialOf ht.typeIs slot_tuple_iter.lookup ?_)
    refine wpAny_pure ?_
    simp only [Bool.false_eq_true, if_false]
    refine wpAny_bind (wpAny_holding (iter_tuple ht ?_))
    refine wpAny_bind (wpAny_holding (draw_tuple hlt items.size 0 _ _ ⟨_, Heap.get?_push_size _ rfl, rfl, rfl⟩ (ht.push _) (by omega) fun h₁ hit₁ hs₁ => ?_))
    have hall : List.take items.size (List.drop 0 items.toList) = items.toList := by
      rw [List.drop_zero]; exact List.take_of_length_le (by simp)
    rw [hall]
    rw [if_neg (by simp)]
    have ht₁ : IsTup h₁ t items := (ht.push _).extBut hs₁.extBut hlt
    have q1 : Quiet A (s.heap.push { cls := .type "tuple_iterator", data := .fields #[.ref t, .int 0 0] }) := q.all fun b u e => Heap.get?_push_of_some _ e
    have q2 : Quiet A h₁ := Quiet.keep q1 (Heap.get?_push_size _ rfl) rfl (by simp) hs₁.extBut
    refine wpAny_bind (wpAny_holding (next_endQ (tp := true) q2 hit₁ ht₁ (by simp) fun h₂ he₂ => ?_))
    simp only [Option.isSome_none, Bool.false_eq_true, if_false]
    refine wpAny_pure (hQ h₂ fun b o hb e => he₂ b o hb (hs₁.extBut b o hb (Heap.get?_push_of_some _ e)))
theorem assign_TupleQ {env : Env} {elts : List Expr} {x1} {pos : Pos} {t : Addr} {items : Array Value} {Q : Unit → Shared → Prop} (q : Quiet A s.heap) (ht : IsTup s.heap t items)
    (hn : (assignEach elts env).length = items.size) (hstar : (assignEach elts env).findIdx? (·.1) = none)
    (h : ∀ h', Heap.ExtBut s.heap.objs.size s.heap h' → wpAny (model prog w) A (assignInOrder ((assignEach elts env).map (·.2)) items.toList) Q E { s with heap := h' }) :
    wpAny (model prog w) A (assign (.Tuple elts x1 pos) env (.ref t)) Q E s := by
  rw [assign_Tuple]
  refine wpAny_bind (wpAny_standAt ?_)
  unfold unpack
  rw [hn, hstar]
  exact wpAny_bind (wpAny_holding (unpackItemsQ q ht h))
end
structure PGQ (X : Cx) (target : Expr) (t : TG) : Prop where
  run : ∀ (pins : List (Addr × Obj)) (s : Shared) (σ : L2.St) (H : Hp) (v : V) (u : Value) (Q : L2.St → Hp → Prop), Quiet X.A s.heap → Inv X pins σ H s → RelV v u → t v σ H Q →
    wpAny (model X.prog X.w) X.A (assign target X.env u) (fun _ s' => ∃ σ' H', Inv X pins σ' H' s' ∧ Q σ' H') X.xe s
theorem pgq_tup {X : Cx} (K : PySem.W.Frag) {pos : Pos} {es : List Expr} {k : Nat} {t : TGs} {n : Nat} (h : PGs X es t) (hK : X.K = K := by rfl)
    (hn : (assignEach es X.env).length = n := by rfl) (hst : (assignEach es X.env).findIdx? (·.1) = none := by rfl) : PGQ X (.Tuple es k pos) (gTup K n t) := by
  subst hK
  refine ⟨fun pins s σ H v u Q q I r hw => ?_⟩
  obtain ⟨a, xs, e1, hq, hl, hw⟩ := hw
  subst e1
  cases r
  obtain ⟨its, rv, ht, hz⟩ := I.tuple hq
  refine assign_TupleQ q ht (by simp [hn, ← hl, rv.length]) hst fun h' hx => ?_
  have I1 : Inv X pins σ H { s with heap := h' } := I.kept (t' := s.toks) fun b o e => hx b o (Nat.ne_of_lt (Heap.lt_size e)) e
  exact h.run pins _ σ H xs _ Q I1 (by simpa using rv) hw
section
variable {X : Cx}
theorem lc_coreQ {pins : List (Addr × Obj)} {s : Shared} {σ : L2.St} {H : Hp} {Q : VK} {elt tg iter : Expr} {ifs : List Expr} {scope : Scope} {own : List (Str × Nat)} {pos pos' : Pos} {wi : TI} {g : TG} {tt : TT} {te : TE} {use : Option (Value → Sem Unit)} {Qf : Value → Shared → Prop}
    (qt : X.A.handled = none ∨ L2H.HotC X) (hN : X.N.Nodup) (I : Inv X pins σ H s) (hi : PIQ X tg iter wi) (ok : BlkOk X.N X.env.scope scope own)
    (hg : ∀ (s : Shared) (H : Hp) (C : Addr) (cl : List (Str × Addr)) (fp : List Addr), PGQ (X.blk s H scope (compEnvC scope cl C X.env) fp) tg g) (ht : ∀ (s : Shared) (H : Hp) (C : Addr) (cl : List (Str × Addr)) (fp : List Addr), PTs (X.blk s H scope (compEnvC scope cl C X.env) fp) ifs tt)
    (he : ∀ (s : Shared) (H : Hp) (C : Addr) (cl : List (Str × Addr)) (fp : List Addr), PE (X.blk s H scope (compEnvC scope cl C X.env) fp) elt te) (hs : ∀ x, foldedSetIterable iter X.env x = pure x)
    (h : tLc wi g tt te (own.map (·.2)) σ H Q)
    (hRR : ∀ D C s' m H', Inv X pins σ H' s' → Q (.ref D) H' → s'.heap.Ns C m → FpOk X pins H' C → compPost (model X.prog X.w) X.A X.xe use Qf (.ref D) C (.ok .next) s') :
    wpAny (model X.prog X.w) X.A (comprehension (.ListComp elt [⟨tg, iter, ifs, 0⟩] scope pos) scope X.env pos' (newList []) false (eval iter X.env) use) Qf X.xe s := by
  have hfree : ∀ y ∈ scope.names, y.2 = .free → ∃ c, X.env.cells.lookup y.1 = some c := fun y hy e => by
    rcases ok.free y hy e with k | k
    · exact I.ok.has _ (.inl k)
    · exact I.ok.has _ (.inr k)
  refine wpAny_comprehension_free (use := use) rfl hs (closure_ok hfree) ok.kind (fun y hy e => by rw [ok.uniq y hy, e])
    (thn (hi.run pins s σ H _ I h) fun xv s1 hx => thn hx fun itv s2 h2 => ?_)
  obtain ⟨it, fp, tn, J, H2, e, I2, T, st2, f2, q⟩ := h2
  subst e
  refine wpAny_newObj_type (newEnv_comp ?_) (by show 0 ≤ sizeLine; decide)
  generalize hD : s2.heap.objs.size = D
  have hDn : H2 D = none := I2.hok.fresh (Nat.le_of_eq hD)
  obtain ⟨W, ⟨m0, w0⟩, turn⟩ := q D hDn
  -- the new list
  generalize hs3 : ({ s2 with heap := s2.heap.push { cls := .type "list", data := .seq ([] : List Value).toArray } } : Shared) = s3
  have I3 : Inv X pins σ (upd H2 D (.lst [])) s3 := by
    rw [← hs3]
    refine I2.laid (t' := s2.toks) (fun b o e => Heap.get?_push_of_some _ e) (Nat.le_of_eq hD) ⟨Nat.zero_le _, [], 0, .nil, ?_⟩
    rw [← hD]
    exact Heap.get?_push_size _ rfl
  have h3 : s3.heap = s2.heap.push { cls := .type "list", data := .seq ([] : List Value).toArray } := by rw [← hs3]
  have sz : ∀ b ∈ fp, b < s2.heap.objs.size := fun b hb => by
    obtain ⟨o, e, _⟩ := T.obj _ _ st2 b hb
    exact Heap.lt_size e
  have f3 : ∀ b ∈ fp, FpOk X pins (upd H2 D (.lst [])) b ∧ b < s3.heap.objs.size := fun b hb => by
    have hlt := sz b hb
    refine ⟨⟨?_, (f2 b hb).2⟩, by rw [h3, Heap.size_push]; exact Nat.lt_succ_of_lt hlt⟩
    rw [upd_ne (by rw [← hD]; exact Nat.ne_of_lt hlt)]
    exact (f2 b hb).1
  have st3 : tn 0 s3.heap := T.keep _ _ _ st2 fun b _ o e => by rw [h3]; exact Heap.get?_push_of_some _ e
  have I4 := block_start I3 ok hN f3
  have pg := hg s3 (upd H2 D (.lst [])) s3.heap.objs.size (cellsFrom (s3.heap.objs.size + 1) scope.names (cloFrom X.env.cells scope.names [])) fp
  have pt := ht s3 (upd H2 D (.lst [])) s3.heap.objs.size (cellsFrom (s3.heap.objs.size + 1) scope.names (cloFrom X.env.cells scope.names [])) fp
  have pe := he s3 (upd H2 D (.lst [])) s3.heap.objs.size (cellsFrom (s3.heap.objs.size + 1) scope.names (cloFrom X.env.cells scope.names [])) fp
  show codeAny _ _ (.compStart (.ListComp elt [⟨tg, iter, ifs, 0⟩] scope pos) 0 (.ref it) (.ref D) (compEnvC scope (cellsFrom (s3.heap.objs.size + 1) scope.names (cloFrom X.env.cells scope.names [])) s3.heap.objs.size X.env)) (compPost (model X.prog X.w) X.A X.xe use Qf (.ref D) s3.heap.objs.size) { s3 with heap := pushCells (s3.heap.push { cls := .type "dict", data := .dict #[] }) scope.names }
  have nfp : ∀ b ∈ fp, (upd H2 D (.lst [])) b = none := fun b hb => (f3 b hb).1.1
  generalize hce : compEnvC scope (cellsFrom (s3.heap.objs.size + 1) scope.names (cloFrom X.env.cells scope.names [])) s3.heap.objs.size X.env = ce at I4 pg pt pe ⊢
  have cL : ce.locals = s3.heap.objs.size := by subst hce; rfl
  generalize hH3 : upd H2 D (.lst []) = H3 at I3 I4 pg pt pe w0 nfp f3
  generalize hs4 : ({ s3 with heap := pushCells (s3.heap.push { cls := .type "dict", data := .dict #[] }) scope.names } : Shared) = s4 at I4 ⊢
  have st4 : tn 0 s4.heap := T.keep _ _ _ st3 fun b _ o e => by rw [← hs4]; exact pushCells_keeps _ _ _ _ (Heap.get?_push_of_some _ e)
  have stat : ∀ {σ' : L2.St} {H' : Hp} {s' : Shared}, Inv (X.blk s3 H3 scope ce fp) [] σ' H' s' → (∀ b ∈ fp, H' b = none) → ∀ b ∈ fp, FpOk (X.blk s3 H3 scope ce fp) [] H' b := fun {σ' H' s'} I' hn b hb =>
    ⟨hn b hb, (I'.ok.exf b hb).1, I'.ok.exfs b hb, .inl hb, fun x c e => (I'.ok.exf b hb).2 x c e, fun p hp => absurd (show p ∈ ([] : List (Addr × Obj)) ++ [] from hp) (by simp)⟩
  have qb : ∀ {pp : List (Addr × Obj)} {σ' : L2.St} {H' : Hp} {s' : Shared}, Inv (X.blk s3 H3 scope ce fp) pp σ' H' s' → Quiet X.A s'.heap := fun {pp σ' H' s'} I' => by
    rcases qt with q | ⟨p, ⟨hh, v1, e1, c1⟩, hp⟩
    · exact .inl q
    · have P1 := I3.pin p (List.mem_append_left _ hp)
      exact .inr ⟨p.1, hh, p.2, v1, I'.base.keep p.1 p.2 P1.1 P1.2.1 (fun hm => (List.mem_cons.mp (I3.stkSub p.1 hm)).elim P1.2.2.1 P1.2.2.2.1) (fun hb => (f3 p.1 hb).1.2.2.2.2.2 p (List.mem_append_left _ hp) rfl), e1, c1⟩
  have loop : codeAny (model X.prog X.w) X.A (.compLoop (.ListComp elt [⟨tg, iter, ifs, 0⟩] scope pos) 0 (.ref it) (.ref D) ce) (compPost (model X.prog X.w) X.A X.xe use Qf (.ref D) s3.heap.objs.size) s4 := by
    refine compLoop_any (fun n s' => ∃ i H', Inv (X.blk s3 H3 scope ce fp) [] (wipe σ (own.map (·.2))) H' s' ∧ tn i s'.heap ∧ (∀ b ∈ fp, H' b = none) ∧ W i n H') ?_ m0 ⟨0, H3, I4, st4, nfp, w0⟩
    rintro n s5 ⟨i, H5, I5, st5, n5, w5⟩
    rcases turn i n H5 w5 with ⟨stop, qq⟩ | ⟨go, Nx, hNx, step⟩
    · have td := T.done (X.blk s3 H3 scope ce fp) rfl rfl rfl i [] s5 _ H5 (fun _ _ => False) (qb I5) I5 (stat I5 n5) st5 stop
      refine thnF td fun r s6 ⟨hr, I6⟩ => ?_
      subst hr
      -- back in the def's context
      have I7 : Inv X pins σ H5 s6 := I3.call' (ch := fp) I6.os I6.base I6.hok I6.bare fun b hb => ⟨(f3 b hb).1.2.2.2.1, (f3 b hb).1.2.1, (f3 b hb).1.2.2.2.2.1, (f3 b hb).1.2.2.2.2.2⟩
      have nC : H5 s3.heap.objs.size = none := by
        have z : H5 ce.locals = none := I6.free
        rw [cL] at z
        exact z
      obtain ⟨m, hn, _⟩ := I6.loc
      have hn : s6.heap.Ns ce.locals m := hn
      rw [cL] at hn
      exact hRR D s3.heap.objs.size s6 m H5 I7 qq hn (I3.fpOk (Nat.le_refl _) nC)
    · have ti := T.item (X.blk s3 H3 scope ce fp) rfl rfl rfl i [] s5 _ H5 (fun _ _ => False) I5 (stat I5 n5) st5 go
      refine thnF ti fun r s6 ⟨u, hr, h6⟩ => ?_
      subst hr
      refine thnF h6 fun _ s7 ⟨x, H7, I7, r7, y7, st7, n7⟩ => ?_
      have I7' := I7.pinned (stat I7 n7) (T.obj _ _ st7)
      refine thnF (pg.run _ s7 _ H7 x u _ (qb I7') I7' r7 (step x H7 y7)) fun _ s8 ⟨σ8, H8, I8, hw8, q8⟩ => ?_
      refine thnF (pt.run _ s8 σ8 H8 _ I8 q8) fun b s9 ⟨H9, I9, q9⟩ => ?_
      -- the turn's end
      have fin : ∀ {s' : Shared} {H' : Hp}, Inv (X.blk s3 H3 scope ce fp) ([] ++ pinsAt fp s7.heap) σ8 H' s' → Nx H' → ∃ m, m < n ∧ ∃ i H', Inv (X.blk s3 H3 scope ce fp) [] (wipe σ (own.map (·.2))) H' s' ∧ tn i s'.heap ∧ (∀ b ∈ fp, H' b = none) ∧ W i m H' := fun {s' H'} I' nx => by
        obtain ⟨m', hm, w'⟩ := hNx H' nx
        have pin' : ∀ b ∈ fp, ∀ o, s7.heap.get? b = some o → s'.heap.get? b = some o ∧ H' b = none := fun b hb o e =>
          let z := I'.pin (b, o) (List.mem_append_right _ (List.mem_append_right _ (mem_pinsAt hb e)))
          ⟨z.1, z.2.1⟩
        have hl : (wipe σ (own.map (·.2))).length = σ8.length := by rw [← hw8, wipe_length]
        refine ⟨m', hm, i + 1, H', (I'.unpinned (pins := [])).weak hl (fun j v e => ?_), T.keep _ _ _ st7 fun b hb o e => (pin' b hb o e).1, fun b hb => ?_, w'⟩
        · rw [← hw8] at e
          exact (wipe_some e).1
        · obtain ⟨o, e, _⟩ := T.obj _ _ st7 b hb
          exact (pin' b hb o e).2
      cases b with
      | false =>
        simp only [Bool.false_eq_true, if_false] at q9 ⊢
        exact fin I9 q9
      | true =>
        simp only [if_true] at q9 ⊢
        refine thnF (pe.run _ s9 σ8 H9 _ I9 q9) fun z s10 ⟨yv, H10, I10, r10, acc, hD10, hz10, nx⟩ => ?_
        exact app_ok (X := X.blk s3 H3 scope ce fp) I10 hD10 hz10 r10 fun s11 I11 => fin I11 nx
  exact codeAny_compStart_list loop (T.self X.A 0 _ _ _ st4 loop)
theorem pe_lcQ {elt tg iter : Expr} {ifs : List Expr} {scope : Scope} {own : List (Str × Nat)} {pos : Pos} {wi : TI} {g : TG} {tt : TT} {te : TE} (qt : X.A.handled = none ∨ L2H.HotC X) (hN : X.N.Nodup) (hi : PIQ X tg iter wi) (ok : BlkOk X.N X.env.scope scope own)
    (hg : ∀ (s : Shared) (H : Hp) (C : Addr) (cl : List (Str × Addr)) (fp : List Addr), PGQ (X.blk s H scope (compEnvC scope cl C X.env) fp) tg g) (ht : ∀ (s : Shared) (H : Hp) (C : Addr) (cl : List (Str × Addr)) (fp : List Addr), PTs (X.blk s H scope (compEnvC scope cl C X.env) fp) ifs tt)
    (he : ∀ (s : Shared) (H : Hp) (C : Addr) (cl : List (Str × Addr)) (fp : List Addr), PE (X.blk s H scope (compEnvC scope cl C X.env) fp) elt te) (hs : ∀ x, foldedSetIterable iter X.env x = pure x := by intro _; rfl) :
    PE X (.ListComp elt [⟨tg, iter, ifs, 0⟩] scope pos) (tLc wi g tt te (own.map (·.2))) := by
  refine ⟨fun pins s σ H Q I h => ?_⟩
  rw [eval_ListComp]
  refine lc_coreQ qt hN I hi ok hg ht he hs h fun D C s' m H' I' q hn f => ⟨m, hn, fun h'' sb => ?_⟩
  obtain ⟨f0, f1, f2, f3, f4, f5⟩ := f
  exact ⟨.ref D, H', I'.turned (t' := s'.toks) (fun b o hb e => (sb.2 b hb).trans e) f0 f1 f3 f4 f5, rfl, q⟩
end
end LwZ

set_option Elab.async false
set_option linter.all false
set_option maxRecDepth 100000
set_option maxHeartbeats 4000000
set_option autoImplicit false
namespace LwZ
open PySem PySem.Spec PyProof.Rows L2 Lw
set_option maxHeartbeats 4000000 in
section
variable {prog : Program} {w : World} {A : Around} {E : Value → Shared → Prop} {s : Shared}
end
section
variable {K : PySem.W.Frag} {T : Tb} {ρ : List Slot} {ta : TA}
end
end LwZ

set_option Elab.async false
set_option linter.all false
set_option maxRecDepth 100000
set_option maxHeartbeats 4000000
set_option autoImplicit false
namespace LwM
open PySem PySem.Spec PyProof.Rows L2 HotX L2H
structure FnHX (P : Program) (w : World) (K : PySem.W.Frag) (mg : Str → Option Value) (base : Heap) (CX : CXT) (k : Nat) (f : Addr) (fd : FuncData) (ps : List Str) (sp : Addr → Value → Option Addr → Sp) : Prop where
  len : ∀ a cls d vs H Q E, sp a cls d vs H Q E → vs.length = ps.length
  run : ∀ (A : Around) (outer : List Env) (s : Shared) (H : Hp) (args : Args) (us : List Value) (vs : List V) (Q : VK) (E : XK) (p : Addr × Obj) (cls : Value) (d : Option Addr), RoomH k A → Hot1 A p → Zc cls d p.2 → PinOk outer H s p → Env0 P w K mg base A outer s H → BindsTo s fd args (ps.zip us) → Vals vs us → sp p.1 cls d vs H Q E →
    codeAny (model P w) A (.call (.ref f) args) (CR CX outer P w H s Q E) s
theorem fn_ofHX {CX : CXT} {P : Program} {w : World} {K : PySem.W.Frag} {mg : Str → Option Value} {base : Heap} {k : Nat} {f : Addr} {name qual : Str} {params : Arguments} {body : List Stmt} {scope : Scope} {dV kV doc pm cdv ct oc : Value} {an od : Option Addr}
    {osl : Array (Option Value)} {N ps : List Str} {sp : Addr → Value → Option Addr → Sp} (lk : K.lookup f = some ⟨oc, od, .func (PySem.W.fnOf name qual params body scope dV kV doc pm an cdv ct), osl⟩) (hcd : PySem.W.codeIn K cdv qual = true) (S : FnScope N ps scope)
    (len : ∀ a cls d vs H Q E, sp a cls d vs H Q E → vs.length = ps.length)
    (hbody : ∀ (A : Around) (outer : List Env) (s : Shared) (H : Hp) (vs : List V) (Q : VK) (E : XK) (p : Addr × Obj) (cls : Value) (d : Option Addr), Hot1 A p → Zc cls d p.2 → (∃ vs, p.2.data = .fields vs) → RoomH k (A.deeper (envOfC qual scope s.heap.objs.size f cdv)) → sp p.1 cls d vs H Q E →
      ∃ t, PSs (cxH CX P w K mg base N qual scope f cdv A outer s H E p) body t ∧ t { nx := fun _ H' => Q .non H', rt := Q } (L2.start N vs) H) :
    FnHX P w K mg base CX (k + 1) f (PySem.W.fnOf name qual params body scope dV kV doc pm an cdv ct) ps sp := by
  refine ⟨len, fun A outer s H args us vs Q E p cls d hr hot hz hpin e0 hb r hsp => ?_⟩
  have hl := len _ _ _ _ _ _ _ hsp
  have hfl : ∃ vs, p.2.data = .fields vs := let ⟨_, vs, e, _⟩ := hot; ⟨vs, e⟩
  have KX : K.In s.heap := e0.mod.kin.keeps fun b o e => (e0.bs b o e).1
  have lim : s.heap.NoLimit := e0.mod.nolimit.keeps fun b o e => (e0.bs b o e).1
  have hkind : ∀ y ∈ ps.zip us, scope.names.lookup y.1 = some .local ∨ (scope.names.lookup y.1 = some .cell ∧ ((cellsFrom (s.heap.objs.size + 1) scope.names []).lookup y.1).isSome = true) := fun ⟨n, v⟩ hy => by
    rcases S.par n (List.of_mem_zip hy).1 with q | q
    · exact .inl q
    · exact .inr ⟨q, PySem.W.cellsFrom_some _ _ _ (.inl q)⟩
  refine codeAny_call_function hr.depth (KX _ _ lk) rfl S.co S.gen rfl (PySem.W.codeRec_of KX hcd) (hb _ _ _ _ ?_)
  refine wpAny_newFunctionEnv_cells S.kind hkind fun env he s1 x => ?_
  subst he
  refine ⟨lim.keeps x.toInCall.keep, codeAny_func ?_⟩
  obtain ⟨t, ht, hq⟩ := hbody A outer s H vs Q E p cls d hot hz hfl (hr.deeper _) hsp
  have I : Inv (cxH CX P w K mg base N qual scope f cdv A outer s H E p) [] (L2.start N vs) H s1 := inv_startH S hpin e0 hl r x
  refine wpAny_mono (ht.run [] s1 (L2.start N vs) H _ I hq) (fun fl s' hs => ?_) fun e s' hs => hs
  have fin : ∀ {σ' : L2.St} {H' : Hp} {v : V} {u : Value}, Inv (cxH CX P w K mg base N qual scope f cdv A outer s H E p) [] σ' H' s' → RelV v u → Q v H' → CE outer P w H s Q u s' :=
    fun {σ' H' v u} J rv q => ⟨v, H', J.os, J.bare, J.base, J.hok, rv, q⟩
  cases fl with
  | ret u =>
    obtain ⟨v, σ', H', J, rv, q⟩ := hs
    exact fin J rv q
  | next =>
    obtain ⟨σ', H', J, q⟩ := hs
    exact fin (v := V.non) (u := Value.none) J rfl q
  | brk =>
    obtain ⟨_, _, _, q⟩ := hs
    exact False.elim q
  | cont =>
    obtain ⟨_, _, _, q⟩ := hs
    exact False.elim q


end LwM

set_option Elab.async false
set_option linter.all false
set_option maxRecDepth 100000
set_option maxHeartbeats 4000000
set_option autoImplicit false
namespace Lw
open PySem L2 LwZ
structure Exn where
  cls : Str
  fs : List (Str × PyData)
inductive Rz (α : Type) where
  | ok (a : α)
  | ex (x : Exn)
  | bad
def Rz.bind {α β : Type} (m : Rz α) (k : α → Rz β) : Rz β := match m with
  | .ok a => k a
  | .ex x => .ex x
  | .bad => .bad
def Rz.of {α : Type} : Option α → Rz α
  | some a => .ok a
  | none => .bad
def Rz.calm {α : Type} : Rz α → Rz α
  | .ok a => .ok a
  | _ => .bad
theorem Rz.bind_ok {α β : Type} (a : α) (k : α → Rz β) : (Rz.ok a).bind k = k a := rfl
theorem Rz.of_some {α : Type} (a : α) : Rz.of (some a) = .ok a := rfl
theorem Rz.calm_ok {α : Type} (a : α) : (Rz.ok a).calm = .ok a := rfl
inductive XD (K : PySem.W.Frag) (H : Hp) : Option Addr → List (Str × PyData) → Prop
  | no : XD K H none []
  | fs {a : Addr} {kvs : List (Str × V)} {fs : List (Str × PyData)} : H a = some (.xd kvs) → kvs.map (·.1) = fs.map (·.1) → DtAll K H (kvs.map (·.2)) (fs.map (·.2)) → fs ≠ [] → XD K H (some a) fs
theorem XD.kp {K : PySem.W.Frag} {H H' : Hp} {d : Option Addr} {fs : List (Str × PyData)} (h : XD K H d fs) (e : Kp H H') : XD K H' d fs := by
  cases h with
  | no => exact .no
  | fs h1 h2 h3 h4 => exact .fs (e _ _ h1 rfl) h2 (h3.kp e) h4
section
variable (K : PySem.W.Frag) (T : Tb)
def EvRx {α : Type} (te : St → Hp → (α → Hp → Prop) → Prop) (ρ : List Slot) (x : Exn) (W : WX) : Prop := ∀ (H0 B : Hp) (C : List Addr) (H : Hp) (S : List Addr) (σ : St), Gd K T H0 B C H S σ ρ →
  ∀ Q : α → Hp → Prop, (∀ d H2, Ext T H H2 → XD K (hide H2 S) d x.fs → W (.ref (He.ga K x.cls)) d σ H2) → te σ H Q
abbrev ME := List Slot → Rz PyData
abbrev MT := List Slot → Rz Bool
abbrev MA := List Slot → Rz (List PyData)
abbrev MO := List Slot → Rz (Option Int)
def EzE (te : TE) (ρ : List Slot) (W : WX) : Rz PyData → Prop
  | .ok d => Ev K T te ρ d
  | .ex x => EvRx K T te ρ x W
  | .bad => True
def EzF (te : TE) (ρ : List Slot) (W : WX) : Rz (List PyData) → Prop
  | .ok ds => EvF K T te ρ ds
  | .ex x => EvRx K T te ρ x W
  | .bad => True
def EzT (te : TT) (ρ : List Slot) (W : WX) : Rz Bool → Prop
  | .ok d => EvT K T te ρ d
  | .ex x => EvRx K T te ρ x W
  | .bad => True
def EzA (te : TA) (ρ : List Slot) (W : WX) : Rz (List PyData) → Prop
  | .ok d => EvA K T te ρ d
  | .ex x => EvRx K T te ρ x W
  | .bad => True
def EzP (te : TO) (ρ : List Slot) (W : WX) : Rz (Option Int) → Prop
  | .ok d => EvP K T te ρ d
  | .ex x => EvRx K T te ρ x W
  | .bad => True
def SimE (te : TE) (W : WX) (m : ME) : Prop := ∀ ρ, EzE K T te ρ W (m ρ)
def SimF (te : TE) (W : WX) (m : MA) : Prop := ∀ ρ, EzF K T te ρ W (m ρ)
def SimT (te : TT) (W : WX) (m : MT) : Prop := ∀ ρ, EzT K T te ρ W (m ρ)
def SimA (te : TA) (W : WX) (m : MA) : Prop := ∀ ρ, EzA K T te ρ W (m ρ)
def SimP (te : TO) (W : WX) (m : MO) : Prop := ∀ ρ, EzP K T te ρ W (m ρ)
def ROp (r : R2) (f : PyData → PyData → Option PyData) : Prop := ∀ x y z, f x y = some z → RV K T r x y z
def ROpF (r : R2) (f : PyData → PyData → Option (List PyData)) : Prop := ∀ x y z, f x y = some z → RVF K T r x y z
def RCb (r : List V → Hp → VK → Prop) (f : List PyData → Option PyData) : Prop := ∀ xs z, f xs = some z → RC K T r xs z
end
def xC (d : PyData) : ME := fun _ => .ok d
def xV (i : Nat) : ME := fun ρ => match ρ[i]? with
  | some (.dat d) => .ok d
  | _ => .bad
def xOp (f : PyData → PyData → Option PyData) (a b : ME) : ME := fun ρ => (a ρ).bind fun x => (b ρ).bind fun y => .of (f x y)
def fOp (f : PyData → PyData → Option (List PyData)) (a b : ME) : MA := fun ρ => (a ρ).bind fun x => (b ρ).bind fun y => .of (f x y)
def xUn (f : PyData → Option PyData) (a : ME) : ME := fun ρ => (a ρ).bind fun x => .of (f x)
def asB : PyData → Option Bool
  | .bool b => some b
  | _ => none
def asI : PyData → Option Int
  | .int i => some i
  | _ => none
def xNot (a : ME) : ME := fun ρ => (a ρ).bind fun x => (Rz.of (asB x)).bind fun c => .ok (.bool (!c))
def xAnd (a b : ME) : ME := fun ρ => (a ρ).bind fun x => (Rz.of (asB x)).bind fun c => match c with
  | true => b ρ
  | false => .ok (.bool false)
def xOr (a b : ME) : ME := fun ρ => (a ρ).bind fun x => (Rz.of (asB x)).bind fun c => match c with
  | true => .ok (.bool true)
  | false => b ρ
def xIf (t : MT) (a b : ME) : ME := fun ρ => (t ρ).bind fun c => match c with
  | true => a ρ
  | false => b ρ
def xChain (f g : PyData → PyData → Option PyData) (a b c : ME) : ME := fun ρ => (a ρ).bind fun x => (b ρ).bind fun y => (Rz.of (f x y)).bind fun z => (Rz.of (asB z)).bind fun k => match k with
  | true => (c ρ).bind fun w => .of (g y w)
  | false => .ok (.bool false)
def zNil : MA := fun _ => .ok []
def zCons (a : ME) (r : MA) : MA := fun ρ => (a ρ).bind fun x => (r ρ).bind fun xs => .ok (x :: xs)
def xTup (a : MA) : ME := fun ρ => (a ρ).bind fun xs => if xs.length ≤ 1000000 then .ok (.tuple xs) else .bad
def fLst (a : MA) : MA := fun ρ => (a ρ).bind fun xs => if xs.length ≤ 1000000 then .ok xs else .bad
def xL (a : MA) : ME := fun ρ => (a ρ).bind fun xs => .ok (.list xs)
def xCB (f : List PyData → Option PyData) (a : MA) : ME := fun ρ => (a ρ).bind fun xs => .of (f xs)
def fCB (f : List PyData → Option (List PyData)) (a : MA) : MA := fun ρ => (a ρ).bind fun xs => .of (f xs)
def xF (f : List PyData → Rz PyData) (a : MA) : ME := fun ρ => (a ρ).bind f
def xFc (f : List PyData → Rz PyData) (a : MA) : ME := fun ρ => (a ρ).bind fun ds => (f ds).calm
def oNo : MO := fun _ => .ok none
def oAt (a : ME) : MO := fun ρ => (a ρ).bind fun x => (Rz.of (asI x)).bind fun i => .ok (some i)
def fSl (f : PyData → Option Int → Option Int → Option (List PyData)) (a : ME) (lo hi : MO) : MA := fun ρ => (a ρ).bind fun x => (lo ρ).bind fun l => (hi ρ).bind fun h => .of (f x l h)
def xSl (f : PyData → Option Int → Option Int → Option PyData) (a : ME) (lo hi : MO) : ME := fun ρ => (a ρ).bind fun x => (lo ρ).bind fun l => (hi ρ).bind fun h => .of (f x l h)
def yV (a : ME) : MT := fun ρ => (a ρ).bind fun x => .of (asB x)
def yAnd (a b : MT) : MT := fun ρ => (a ρ).bind fun c => match c with
  | true => b ρ
  | false => .ok false
def yOr (a b : MT) : MT := fun ρ => (a ρ).bind fun c => match c with
  | true => .ok true
  | false => b ρ
def yNot (a : MT) : MT := fun ρ => (a ρ).bind fun c => .ok (!c)
def yYes : MT := fun _ => .ok true
def ownL : Option Slot → Option (List PyData)
  | some (.own (.lst ds)) => some ds
  | _ => none
def ownD : Option Slot → Option (List (Key × PyData))
  | some (.own (.dct es)) => some es
  | _ => none
def xIxO (k : Nat) (b : ME) : ME := fun ρ => (Rz.of (ownL ρ[k]?)).bind fun ds => (b ρ).bind fun y => (Rz.of (asI y)).bind fun i => .of (atI ds i)
def xLenO (k : Nat) : ME := fun ρ => (Rz.of (ownL ρ[k]?)).bind fun ds => .ok (.int ds.length)
section
variable {K : PySem.W.Frag} {T : Tb} {W : WX} {te ta tb tc : TE} {t u : TT} {ma mb mc : ME} {mt mu : MT}
theorem sim_int {i : Int} : SimE K T (tC (.int i)) W (xC (.int i)) := fun ρ => ev_int
theorem sim_bl {b : Bool} : SimE K T (tC (.bl b)) W (xC (.bool b)) := fun ρ => ev_bl
theorem sim_str {s : Str} : SimE K T (tC (.str s)) W (xC (.str s)) := fun ρ => ev_str
theorem sim_non : SimE K T (tC .non) W (xC .none) := fun ρ => ev_non
theorem sim_cst {mg : Str → Option Value} {x : Str} {v : V} {u : Value} {d : PyData} (g : CstV mg K x v u d) : SimE K T (tC v) W (xC d) := fun ρ => ev_cst g
theorem sim_V {i : Nat} : SimE K T (tVar i) W (xV i) := fun ρ => by
  unfold xV
  split
  · rename_i d h
    exact ev_var h
  · exact True.intro
theorem sim_op {r : R2} {f : PyData → PyData → Option PyData} (hr : ROp K T r f) (ha : SimE K T ta W ma) (hb : SimE K T tb W mb) : SimE K T (tOp r ta tb) W (xOp f ma mb) := fun ρ => by
  have a := ha ρ
  have b := hb ρ
  unfold xOp
  cases h1 : ma ρ with
  | bad => exact True.intro
  | ex x => rw [h1] at a; exact fun H0 B C H S σ g Q hQ => a H0 B C H S σ g _ hQ
  | ok x =>
    rw [h1] at a
    cases h2 : mb ρ with
    | bad => exact True.intro
    | ex y => rw [h2] at b; exact fun H0 B C H S σ g Q hQ => a H0 B C H S σ g _ fun v H1 e1 d1 => b H0 B C H1 S σ (g.ex e1) _ fun d H2 e2 xd => hQ d H2 (e1.trans e2) xd
    | ok y =>
      rw [h2] at b
      show EzE K T _ ρ W (Rz.of (f x y))
      cases h3 : f x y with
      | none => exact True.intro
      | some z => exact ev_op a b (hr x y z h3)
theorem asB_eq {x : PyData} {b : Bool} (h : asB x = some b) : x = .bool b := by
  cases x <;> first | cases h; rfl | cases h
theorem asI_eq {x : PyData} {b : Int} (h : asI x = some b) : x = .int b := by
  cases x <;> first | cases h; rfl | cases h
theorem sim_and (ha : SimE K T ta W ma) (hb : SimE K T tb W mb) : SimE K T (tAndV ta tb) W (xAnd ma mb) := fun ρ => by
  have a := ha ρ
  have b := hb ρ
  unfold xAnd
  cases h1 : ma ρ with
  | bad => exact True.intro
  | ex x => rw [h1] at a; exact fun H0 B C H S σ g Q hQ => a H0 B C H S σ g _ hQ
  | ok x =>
    rw [h1] at a
    show EzE K T _ ρ W ((Rz.of (asB x)).bind _)
    cases h2 : asB x with
    | none => exact True.intro
    | some c =>
      cases asB_eq h2
      cases c with
      | false =>
        exact fun H0 B C H S σ g Q hQ => a H0 B C H S σ g _ fun v H1 e1 d1 => by
          cases d1
          exact ⟨false, rfl, iteF (hQ _ H1 e1 (.bl false))⟩
      | true =>
        show EzE K T _ ρ W (mb ρ)
        cases h3 : mb ρ with
        | bad => exact True.intro
        | ex y =>
          rw [h3] at b
          exact fun H0 B C H S σ g Q hQ => a H0 B C H S σ g _ fun v H1 e1 d1 => by
            cases d1
            exact ⟨true, rfl, iteT (b H0 B C H1 S σ (g.ex e1) _ fun d H2 e2 xd => hQ d H2 (e1.trans e2) xd)⟩
        | ok y =>
          rw [h3] at b
          exact fun H0 B C H S σ g Q hQ => a H0 B C H S σ g _ fun v H1 e1 d1 => by
            cases d1
            exact ⟨true, rfl, iteT (b H0 B C H1 S σ (g.ex e1) _ fun d H2 e2 xd => hQ d H2 (e1.trans e2) xd)⟩
theorem sim_or (ha : SimE K T ta W ma) (hb : SimE K T tb W mb) : SimE K T (tOrV ta tb) W (xOr ma mb) := fun ρ => by
  have a := ha ρ
  have b := hb ρ
  unfold xOr
  cases h1 : ma ρ with
  | bad => exact True.intro
  | ex x => rw [h1] at a; exact fun H0 B C H S σ g Q hQ => a H0 B C H S σ g _ hQ
  | ok x =>
    rw [h1] at a
    show EzE K T _ ρ W ((Rz.of (asB x)).bind _)
    cases h2 : asB x with
    | none => exact True.intro
    | some c =>
      cases asB_eq h2
      cases c with
      | true =>
        exact fun H0 B C H S σ g Q hQ => a H0 B C H S σ g _ fun v H1 e1 d1 => by
          cases d1
          exact ⟨true, rfl, iteT (hQ _ H1 e1 (.bl true))⟩
      | false =>
        show EzE K T _ ρ W (mb ρ)
        cases h3 : mb ρ with
        | bad => exact True.intro
        | ex y =>
          rw [h3] at b
          exact fun H0 B C H S σ g Q hQ => a H0 B C H S σ g _ fun v H1 e1 d1 => by
            cases d1
            exact ⟨false, rfl, iteF (b H0 B C H1 S σ (g.ex e1) _ fun d H2 e2 xd => hQ d H2 (e1.trans e2) xd)⟩
        | ok y =>
          rw [h3] at b
          exact fun H0 B C H S σ g Q hQ => a H0 B C H S σ g _ fun v H1 e1 d1 => by
            cases d1
            exact ⟨false, rfl, iteF (b H0 B C H1 S σ (g.ex e1) _ fun d H2 e2 xd => hQ d H2 (e1.trans e2) xd)⟩
theorem sim_if (ht : SimT K T t W mt) (ha : SimE K T ta W ma) (hb : SimE K T tb W mb) : SimE K T (tIf t ta tb) W (xIf mt ma mb) := fun ρ => by
  have c := ht ρ
  have a := ha ρ
  have b := hb ρ
  unfold xIf
  cases h1 : mt ρ with
  | bad => exact True.intro
  | ex x => rw [h1] at c; exact fun H0 B C H S σ g Q hQ => c H0 B C H S σ g _ hQ
  | ok k =>
    rw [h1] at c
    cases k with
    | true =>
      show EzE K T _ ρ W (ma ρ)
      cases h2 : ma ρ with
      | bad => exact True.intro
      | ex y => rw [h2] at a; exact fun H0 B C H S σ g Q hQ => c H0 B C H S σ g _ fun H1 e1 => iteT (a H0 B C H1 S σ (g.ex e1) _ fun d H2 e2 xd => hQ d H2 (e1.trans e2) xd)
      | ok y => rw [h2] at a; exact ev_ifT c a
    | false =>
      show EzE K T _ ρ W (mb ρ)
      cases h2 : mb ρ with
      | bad => exact True.intro
      | ex y => rw [h2] at b; exact fun H0 B C H S σ g Q hQ => c H0 B C H S σ g _ fun H1 e1 => iteF (b H0 B C H1 S σ (g.ex e1) _ fun d H2 e2 xd => hQ d H2 (e1.trans e2) xd)
      | ok y => rw [h2] at b; exact ev_ifF c b
theorem sim_nil : SimA K T tNil W zNil := fun ρ => ea_nil
theorem sim_cons {tr : TA} {mr : MA} (ha : SimE K T ta W ma) (hr : SimA K T tr W mr) : SimA K T (tCons ta tr) W (zCons ma mr) := fun ρ => by
  have a := ha ρ
  have b := hr ρ
  unfold zCons
  cases h1 : ma ρ with
  | bad => exact True.intro
  | ex x => rw [h1] at a; exact fun H0 B C H S σ g Q hQ => a H0 B C H S σ g _ hQ
  | ok x =>
    rw [h1] at a
    cases h2 : mr ρ with
    | bad => exact True.intro
    | ex y => rw [h2] at b; exact fun H0 B C H S σ g Q hQ => a H0 B C H S σ g _ fun v H1 e1 d1 => b H0 B C H1 S σ (g.ex e1) _ fun d H2 e2 xd => hQ d H2 (e1.trans e2) xd
    | ok y => rw [h2] at b; exact ea_cons a b
variable {tr : TA} {mr : MA}
theorem sim_tup (h : SimA K T tr W mr) : SimE K T (tTup tr) W (xTup mr) := fun ρ => by
  have a := h ρ
  unfold xTup
  cases h1 : mr ρ with
  | bad => exact True.intro
  | ex x => rw [h1] at a; exact fun H0 B C H S σ g Q hQ => a H0 B C H S σ g _ hQ
  | ok xs =>
    rw [h1] at a
    show EzE K T _ ρ W (if _ then _ else _)
    by_cases hl : xs.length ≤ 1000000
    · rw [if_pos hl]; exact ev_tup a hl
    · rw [if_neg hl]; exact True.intro
theorem sim_lstF (h : SimA K T tr W mr) : SimF K T (tLst tr) W (fLst mr) := fun ρ => by
  have a := h ρ
  unfold fLst
  cases h1 : mr ρ with
  | bad => exact True.intro
  | ex x => rw [h1] at a; exact fun H0 B C H S σ g Q hQ => a H0 B C H S σ g _ hQ
  | ok xs =>
    rw [h1] at a
    show EzF K T _ ρ W (if _ then _ else _)
    by_cases hl : xs.length ≤ 1000000
    · rw [if_pos hl]; exact ef_lst a hl
    · rw [if_neg hl]; exact True.intro
theorem sim_L (h : SimF K T te W mr) : SimE K T te W (xL mr) := fun ρ => by
  have a := h ρ
  unfold xL
  cases h1 : mr ρ with
  | bad => exact True.intro
  | ex x => rw [h1] at a; exact a
  | ok xs => rw [h1] at a; exact EvF.ev a
theorem sim_cb {r : List V → Hp → VK → Prop} {f : List PyData → Option PyData} (hr : RCb K T r f) (h : SimA K T tr W mr) : SimE K T (tCB r tr) W (xCB f mr) := fun ρ => by
  have a := h ρ
  unfold xCB
  cases h1 : mr ρ with
  | bad => exact True.intro
  | ex x => rw [h1] at a; exact fun H0 B C H S σ g Q hQ => a H0 B C H S σ g _ hQ
  | ok xs =>
    rw [h1] at a
    show EzE K T _ ρ W (Rz.of (f xs))
    cases h3 : f xs with
    | none => exact True.intro
    | some z => exact ev_cb a (hr xs z h3)
theorem sim_oNo : SimP K T tNoPart W oNo := fun ρ => ep_none
theorem sim_oAt (h : SimE K T te W ma) : SimP K T (tPart te) W (oAt ma) := fun ρ => by
  have a := h ρ
  unfold oAt
  cases h1 : ma ρ with
  | bad => exact True.intro
  | ex x => rw [h1] at a; exact fun H0 B C H S σ g Q hQ => a H0 B C H S σ g _ hQ
  | ok x =>
    rw [h1] at a
    show EzP K T _ ρ W ((Rz.of (asI x)).bind _)
    cases h2 : asI x with
    | none => exact True.intro
    | some i => cases asI_eq h2; exact ep_some a
theorem sim_sl {r : V → Option Int → Option Int → Hp → VK → Prop} {f : PyData → Option Int → Option Int → Option PyData} {tl th : TO} {ml mh : MO} (hr : ∀ x l h z, f x l h = some z → RS K T r x l h z) (ha : SimE K T te W ma) (h1 : SimP K T tl W ml) (h2 : SimP K T th W mh) : SimE K T (tSl r te tl th) W (xSl f ma ml mh) := fun ρ => by
  have a := ha ρ
  have b := h1 ρ
  have c := h2 ρ
  unfold xSl
  cases e1 : ma ρ with
  | bad => exact True.intro
  | ex x => rw [e1] at a; exact fun H0 B C H S σ g Q hQ => a H0 B C H S σ g _ hQ
  | ok x =>
    rw [e1] at a
    cases e2 : ml ρ with
    | bad => exact True.intro
    | ex y => rw [e2] at b; exact fun H0 B C H S σ g Q hQ => a H0 B C H S σ g _ fun v H1 e1 d1 => b H0 B C H1 S σ (g.ex e1) _ fun d H2 e2 xd => hQ d H2 (e1.trans e2) xd
    | ok lo =>
      rw [e2] at b
      cases e3 : mh ρ with
      | bad => exact True.intro
      | ex y => rw [e3] at c; exact fun H0 B C H S σ g Q hQ => a H0 B C H S σ g _ fun v H1 e1 d1 => b H0 B C H1 S σ (g.ex e1) _ fun H2 e2 => c H0 B C H2 S σ ((g.ex e1).ex e2) _ fun d H3 e3 xd => hQ d H3 (e1.trans (e2.trans e3)) xd
      | ok hi =>
        rw [e3] at c
        show EzE K T _ ρ W (Rz.of (f x lo hi))
        cases e4 : f x lo hi with
        | none => exact True.intro
        | some z => exact ev_sl a b c (hr x lo hi z e4)
theorem sim_yT (h : SimE K T te W ma) : SimT K T (tTest te) W (yV ma) := fun ρ => by
  have a := h ρ
  unfold yV
  cases h1 : ma ρ with
  | bad => exact True.intro
  | ex x => rw [h1] at a; exact fun H0 B C H S σ g Q hQ => a H0 B C H S σ g _ hQ
  | ok x =>
    rw [h1] at a
    show EzT K T _ ρ W (Rz.of (asB x))
    cases h2 : asB x with
    | none => exact True.intro
    | some i => cases asB_eq h2; exact et_test a
theorem sim_yB (h : SimE K T te W ma) : SimT K T (tB te) W (yV ma) := fun ρ => by
  have a := h ρ
  unfold yV
  cases h1 : ma ρ with
  | bad => exact True.intro
  | ex x => rw [h1] at a; exact fun H0 B C H S σ g Q hQ => a H0 B C H S σ g _ hQ
  | ok x =>
    rw [h1] at a
    show EzT K T _ ρ W (Rz.of (asB x))
    cases h2 : asB x with
    | none => exact True.intro
    | some i => cases asB_eq h2; exact et_B a
theorem sim_yNot (h : SimT K T t W mt) : SimT K T (tNot t) W (yNot mt) := fun ρ => by
  have a := h ρ
  unfold yNot
  cases h1 : mt ρ with
  | bad => exact True.intro
  | ex x => rw [h1] at a; exact fun H0 B C H S σ g Q hQ => a H0 B C H S σ g _ hQ
  | ok x => rw [h1] at a; exact et_not a
theorem sim_yYes : SimT K T tYes W yYes := fun ρ => et_yes
theorem sim_yAnd (h : SimT K T t W mt) (h' : SimT K T u W mu) : SimT K T (tAnd t u) W (yAnd mt mu) := fun ρ => by
  have a := h ρ
  have b := h' ρ
  unfold yAnd
  cases h1 : mt ρ with
  | bad => exact True.intro
  | ex x => rw [h1] at a; exact fun H0 B C H S σ g Q hQ => a H0 B C H S σ g _ hQ
  | ok x =>
    rw [h1] at a
    cases x with
    | false => exact fun H0 B C H S σ g Q hQ => a H0 B C H S σ g _ fun H1 e1 => iteF (hQ H1 e1)
    | true =>
      show EzT K T _ ρ W (mu ρ)
      cases h2 : mu ρ with
      | bad => exact True.intro
      | ex y => rw [h2] at b; exact fun H0 B C H S σ g Q hQ => a H0 B C H S σ g _ fun H1 e1 => iteT (b H0 B C H1 S σ (g.ex e1) _ fun d H2 e2 xd => hQ d H2 (e1.trans e2) xd)
      | ok y => rw [h2] at b; exact fun H0 B C H S σ g Q hQ => a H0 B C H S σ g _ fun H1 e1 => iteT (b H0 B C H1 S σ (g.ex e1) _ fun H2 e2 => hQ H2 (e1.trans e2))
theorem sim_yOr (h : SimT K T t W mt) (h' : SimT K T u W mu) : SimT K T (tOr t u) W (yOr mt mu) := fun ρ => by
  have a := h ρ
  have b := h' ρ
  unfold yOr
  cases h1 : mt ρ with
  | bad => exact True.intro
  | ex x => rw [h1] at a; exact fun H0 B C H S σ g Q hQ => a H0 B C H S σ g _ hQ
  | ok x =>
    rw [h1] at a
    cases x with
    | true => exact fun H0 B C H S σ g Q hQ => a H0 B C H S σ g _ fun H1 e1 => iteT (hQ H1 e1)
    | false =>
      show EzT K T _ ρ W (mu ρ)
      cases h2 : mu ρ with
      | bad => exact True.intro
      | ex y => rw [h2] at b; exact fun H0 B C H S σ g Q hQ => a H0 B C H S σ g _ fun H1 e1 => iteF (b H0 B C H1 S σ (g.ex e1) _ fun d H2 e2 xd => hQ d H2 (e1.trans e2) xd)
      | ok y => rw [h2] at b; exact fun H0 B C H S σ g Q hQ => a H0 B C H S σ g _ fun H1 e1 => iteF (b H0 B C H1 S σ (g.ex e1) _ fun H2 e2 => hQ H2 (e1.trans e2))
end
end Lw

set_option Elab.async false
set_option linter.all false
set_option maxRecDepth 100000
set_option maxHeartbeats 4000000
set_option autoImplicit false
namespace Lw
open PySem L2 LwZ
abbrev MG := PyData → Option (List Slot → List Slot)
abbrev MGs := List PyData → Option (List Slot → List Slot)
def SimG (K : PySem.W.Frag) (T : Tb) (g : TG) (js : List Nat) (m : MG) : Prop := ∀ d f, m d = some f → TgD K T g d js f
def SimGs (K : PySem.W.Frag) (T : Tb) (g : TGs) (js : List Nat) (m : MGs) : Prop := ∀ d f, m d = some f → TgDs K T g d js f
def gN (i : Nat) : MG := fun d => some fun ρ => ρ.set i (.dat d)
def gs0 : MGs := fun ds => match ds with
  | [] => some fun ρ => ρ
  | _ => none
def gsC (g : MG) (r : MGs) : MGs := fun ds => match ds with
  | d :: ds => (g d).bind fun f => (r ds).bind fun h => some fun ρ => h (f ρ)
  | [] => none
def gT (n : Nat) (r : MGs) : MG := fun d => match d with
  | .tuple ds => if ds.length = n then r ds else none
  | _ => none
def gU (n : Nat) (r : MGs) : MG := fun d => match d with
  | .list ds => if ds.length = n then r ds else none
  | _ => none
section
variable {K : PySem.W.Frag} {T : Tb}
theorem simG_N {i : Nat} : SimG K T (gName i) [i] (gN i) := fun d f h => by
  cases h; exact tg_name
theorem simG_0 : SimGs K T gNil [] gs0 := fun d f h => by
  unfold gs0 at h
  split at h
  · cases h; exact tgs_nil
  · cases h
theorem simG_C {g : TG} {u : TGs} {js ks : List Nat} {m : MG} {r : MGs} (h1 : SimG K T g js m) (h2 : SimGs K T u ks r) : SimGs K T (gCons g u) (js ++ ks) (gsC m r) := fun d f h => by
  unfold gsC at h
  split at h
  · rename_i d ds
    cases e1 : m d with
    | none => rw [e1] at h; cases h
    | some f1 =>
      rw [e1] at h
      cases e2 : r ds with
      | none => rw [Option.bind_some, e2] at h; cases h
      | some f2 =>
        rw [Option.bind_some, e2] at h
        cases h
        exact tgs_cons (h1 d f1 e1) (h2 ds f2 e2)
  · cases h
theorem simG_T {u : TGs} {js : List Nat} {n : Nat} {r : MGs} (h2 : SimGs K T u js r) : SimG K T (gTup K n u) js (gT n r) := fun d f h => by
  unfold gT at h
  split at h
  · rename_i ds
    by_cases hl : ds.length = n
    · rw [if_pos hl] at h; exact tg_tup (h2 ds f h) hl
    · rw [if_neg hl] at h; cases h
  · cases h
end
def SimI (K : PySem.W.Frag) (T : Tb) (wi : TI) (W : WX) (m : MA) : Prop := ∀ ρ, match m ρ with
  | .ok items => IterD K T wi ρ items
  | .ex x => EvRx K T wi ρ x W
  | .bad => True
def seqOf : PyData → Option (List PyData)
  | .list ds => some ds
  | .tuple ds => some ds
  | _ => none
theorem seqOf_eq {d : PyData} {ds : List PyData} (h : seqOf d = some ds) : SeqD d ds := by
  cases d with
  | list xs => cases h; exact .lst _
  | tuple xs => cases h; exact .tup _
  | none => cases h
  | bool b => cases h
  | int i => cases h
  | str s => cases h
  | dict k => cases h
def iS (a : ME) : MA := fun ρ => (a ρ).bind fun d => .of (seqOf d)
def fitR (i : Int) : Bool := Nat.ble i.natAbs 4611686018427387903
def rng1 : List PyData → Option (List PyData)
  | [.int j] => if fitR j then some (rgD 0 j.toNat) else none
  | _ => none
def zipO (st : Bool) : List PyData → Option (List PyData)
  | [d, e] => (seqOf d).bind fun ds => (seqOf e).bind fun es => if st && decide (ds.length ≠ es.length) then none else some (zipD ds es)
  | _ => none
def iA (f : List PyData → Option (List PyData)) (a : MA) : MA := fun ρ => (a ρ).bind fun ds => .of (f ds)
section
variable {K : PySem.W.Frag} {T : Tb} {W : WX} {te : TE} {ta : TA} {m : ME} {ma : MA}
theorem sim_iS (h : SimE K T te W m) : SimI K T (iSeq K te) W (iS m) := fun ρ => by
  have a := h ρ
  unfold iS
  cases h1 : m ρ with
  | bad => exact True.intro
  | ex x => rw [h1] at a; exact fun H0 B C H S σ g Q hQ => a H0 B C H S σ g _ hQ
  | ok d =>
    rw [h1] at a
    show match Rz.of (seqOf d) with | .ok items => _ | .ex x => _ | .bad => _
    cases h2 : seqOf d with
    | none => exact True.intro
    | some ds => exact it_sq a (seqOf_eq h2)
theorem sim_iA {wi : TI} {f : List PyData → Option (List PyData)} (hf : ∀ ρ ds items, f ds = some items → EvA K T ta ρ ds → IterD K T wi ρ items) (hx : ∀ ρ x, EvRx K T ta ρ x W → EvRx K T wi ρ x W) (h : SimA K T ta W ma) : SimI K T wi W (iA f ma) := fun ρ => by
  have a := h ρ
  unfold iA
  cases h1 : ma ρ with
  | bad => exact True.intro
  | ex x => rw [h1] at a; exact hx ρ x a
  | ok ds =>
    rw [h1] at a
    show match Rz.of (f ds) with | .ok items => _ | .ex x => _ | .bad => _
    cases h2 : f ds with
    | none => exact True.intro
    | some items => exact hf ρ ds items h2 a
theorem fitR_eq {i : Int} (h : fitR i = true) : -(2 ^ 62) ≤ i ∧ i < 2 ^ 62 := by
  have h := Nat.le_of_ble_eq_true h
  exact ⟨by omega, by omega⟩
theorem sim_rng1 (h : SimA K T ta W ma) : SimI K T (iRng1 ta) W (iA rng1 ma) := sim_iA (fun ρ ds items e ea => by
  unfold rng1 at e
  split at e
  · rename_i j
    by_cases hf : fitR j = true
    · rw [if_pos hf] at e; cases e; exact it_range1 ea (fitR_eq hf).1 (fitR_eq hf).2
    · rw [if_neg hf] at e; cases e
  · cases e) (fun ρ x a H0 B C H S σ g Q hQ => a H0 B C H S σ g _ hQ) h
theorem sim_zip {st : Bool} (h : SimA K T ta W ma) : SimI K T (iZip K st ta) W (iA (zipO st) ma) := sim_iA (fun ρ ds items e ea => by
  unfold zipO at e
  split at e
  · rename_i d e'
    cases h1 : seqOf d with
    | none => rw [h1] at e; cases e
    | some xs =>
      rw [h1, Option.bind_some] at e
      cases h2 : seqOf e' with
      | none => rw [h2] at e; cases e
      | some ys =>
        rw [h2, Option.bind_some] at e
        split at e
        · cases e
        · rename_i hl
          cases e
          refine it_zip ea (seqOf_eq h1) (seqOf_eq h2) fun hs => ?_
          subst hs
          simpa using hl
  · cases e) (fun ρ x a H0 B C H S σ g Q hQ => a H0 B C H S σ g _ hQ) h
end
def lcL (g : MG) (mt : MT) (me : ME) (ρ : List Slot) : List PyData → Rz (List PyData)
  | [] => .ok []
  | d :: ds => match g d with
    | none => .bad
    | some f => (mt (f ρ)).calm.bind fun b => match b with
      | true => (me (f ρ)).calm.bind fun y => (lcL g mt me ρ ds).bind fun ys => .ok (y :: ys)
      | false => lcL g mt me ρ ds
def fLc (vs : List Nat) (it : MA) (g : MG) (mt : MT) (me : ME) : MA := fun ρ => (it ρ).bind fun items => if items.length ≤ 1000000 then lcL g mt me (wipeS ρ vs) items else .bad
def lcF (g : MG) (mt : MT) (me : ME) (ρ : List Slot) (d : PyData) : Option PyData := match g d with
  | none => none
  | some f => match mt (f ρ) with
    | .ok true => match me (f ρ) with
      | .ok y => some y
      | _ => none
    | _ => none
theorem calm_inv {α β : Type} {m : Rz α} {k : α → Rz β} {y : β} (h : m.calm.bind k = .ok y) : ∃ a, m = .ok a ∧ k a = .ok y := by
  cases m with
  | ok a => exact ⟨a, rfl, h⟩
  | ex x => cases h
  | bad => cases h
theorem bind_inv {α β : Type} {m : Rz α} {k : α → Rz β} {y : β} (h : m.bind k = .ok y) : ∃ a, m = .ok a ∧ k a = .ok y := by
  cases m with
  | ok a => exact ⟨a, rfl, h⟩
  | ex x => cases h
  | bad => cases h
theorem lcL_inv {g : MG} {mt : MT} {me : ME} {ρ : List Slot} : ∀ {items ys : List PyData}, lcL g mt me ρ items = .ok ys →
    ys = items.filterMap (lcF g mt me ρ) ∧ ∀ d ∈ items, ∃ f b, g d = some f ∧ mt (f ρ) = .ok b ∧ (b = true → ∃ y, lcF g mt me ρ d = some y ∧ me (f ρ) = .ok y) ∧ (b = false → lcF g mt me ρ d = none)
  | [], ys, h => by
    cases h
    exact ⟨rfl, fun d hd => by cases hd⟩
  | d :: ds, ys, h => by
    unfold lcL at h
    cases hg : g d with
    | none => rw [hg] at h; cases h
    | some f =>
      rw [hg] at h
      obtain ⟨b, hb, h⟩ := calm_inv h
      cases b with
      | true =>
        obtain ⟨y, hy, h⟩ := calm_inv h
        obtain ⟨zs, hz, h⟩ := bind_inv h
        cases h
        obtain ⟨e1, e2⟩ := lcL_inv hz
        have hF : lcF g mt me ρ d = some y := by unfold lcF; rw [hg]; simp only; rw [hb]; simp only; rw [hy]
        refine ⟨by rw [List.filterMap_cons, hF, e1], fun x hx => ?_⟩
        rcases List.mem_cons.mp hx with z | z
        · subst z; exact ⟨f, true, hg, hb, fun _ => ⟨y, hF, hy⟩, fun z => by cases z⟩
        · exact e2 x z
      | false =>
        obtain ⟨e1, e2⟩ := lcL_inv (show lcL g mt me ρ ds = .ok ys from h)
        have hF : lcF g mt me ρ d = none := by unfold lcF; rw [hg]; simp only; rw [hb]
        refine ⟨by rw [List.filterMap_cons, hF, e1], fun x hx => ?_⟩
        rcases List.mem_cons.mp hx with z | z
        · subst z; exact ⟨f, false, hg, hb, nofun, fun _ => hF⟩
        · exact e2 x z
theorem lcL_noex {g : MG} {mt : MT} {me : ME} {ρ : List Slot} {x : Exn} : ∀ {items : List PyData}, lcL g mt me ρ items ≠ .ex x
  | [], h => by cases h
  | d :: ds, h => by
    unfold lcL at h
    cases hg : g d with
    | none => rw [hg] at h; cases h
    | some f =>
      rw [hg] at h
      simp only at h
      cases hm : mt (f ρ) with
      | bad => rw [hm] at h; cases h
      | ex y => rw [hm] at h; cases h
      | ok b =>
        rw [hm] at h
        cases b with
        | false => exact lcL_noex (show lcL g mt me ρ ds = .ex x from h)
        | true =>
          have h : (me (f ρ)).calm.bind _ = Rz.ex x := h
          cases he : me (f ρ) with
          | bad => rw [he] at h; cases h
          | ex y => rw [he] at h; cases h
          | ok y =>
            rw [he] at h
            have h : (lcL g mt me ρ ds).bind _ = Rz.ex x := h
            cases hz : lcL g mt me ρ ds with
            | bad => rw [hz] at h; cases h
            | ex y => exact lcL_noex hz
            | ok zs => rw [hz] at h; cases h
section
variable {K : PySem.W.Frag} {T : Tb} {W W' : WX} {wi : TI} {tg : TG} {tt : TT} {te : TE} {vs js : List Nat} {mi : MA} {g : MG} {mt : MT} {me : ME}
theorem sim_lc (hi : SimI K T wi W mi) (hg : SimG K T tg js g) (ht : SimT K T tt W' mt) (he : SimE K T te W' me) (hj : ∀ j ∈ js, j ∈ vs) : SimF K T (tLc wi tg tt te vs) W (fLc vs mi g mt me) := fun ρ => by
  have a := hi ρ
  unfold fLc
  cases h1 : mi ρ with
  | bad => exact True.intro
  | ex x => rw [h1] at a; exact fun H0 B C H S σ g Q hQ => a H0 B C H S σ g _ hQ
  | ok items =>
    rw [h1] at a
    show EzF K T _ ρ W (if _ then _ else _)
    by_cases hl : items.length ≤ 1000000
    · rw [if_pos hl]
      cases h2 : lcL g mt me (wipeS ρ vs) items with
      | bad => exact True.intro
      | ex x => exact (lcL_noex h2).elim
      | ok ys =>
        obtain ⟨e1, e2⟩ := lcL_inv h2
        rw [e1]
        refine ef_lc (lcF g mt me (wipeS ρ vs)) a hl fun i d hd => ?_
        obtain ⟨f, b, q1, q2, q3, q4⟩ := e2 d (List.mem_of_getElem? hd)
        refine ⟨js, f, b, hg d f q1, hj, ?_, fun hb => ?_, q4⟩
        · have := ht (f (wipeS ρ vs)); rw [q2] at this; exact this
        · obtain ⟨y, r1, r2⟩ := q3 hb
          have := he (f (wipeS ρ vs)); rw [r2] at this
          exact ⟨y, r1, this⟩
    · rw [if_neg hl]; exact True.intro
end
inductive Fr where
  | no | yes | two
inductive Rs where
  | nx (ρ : List Slot)
  | rt (d : PyData)
  | bk (ρ : List Slot)
  | ct (ρ : List Slot)
  | ex (x : Exn) (ρ : List Slot)
  | rs (d : PyData) (ρ : List Slot)
  | ro (i : Nat) (ρ : List Slot)
  | bad
abbrev MS := List Slot → Rs
section
variable (K : PySem.W.Frag) (T : Tb)
def pairL : PyData → Option (List PyData × List PyData)
  | .tuple [.list a, .list b] => some (a, b)
  | _ => none
def RtK (fr : Fr) (H0 : Hp) (C : List Addr) (rt : VK) (d : PyData) : Prop := match fr with
  | .no => Rt K T H0 C rt d
  | .yes => (match d with
    | .list ds => ∀ p xs H', Ext T H0 H' → Fresh H0 p → H' p = some (.lst xs) → DtAll K (hide H' (p :: C)) xs ds → rt (.ref p) H'
    | _ => Rt K T H0 C rt d)
  | .two => (match pairL d with
    | some (a, b) => ∀ t p q xs ys H', Ext T H0 H' → Fresh H0 p → Fresh H0 q → p ≠ q → t ∉ q :: p :: C → H' t = some (.tup [.ref p, .ref q]) → H' p = some (.lst xs) → H' q = some (.lst ys) → DtAll K (hide H' (q :: p :: C)) xs a → DtAll K (hide H' (q :: p :: C)) ys b → rt (.ref t) H'
    | none => Rt K T H0 C rt d)
def EscX (H0 B : Hp) (C : List Addr) (ρ : List Slot) (x : Exn) (W : WX) : Prop := ∀ (σ : St) (H : Hp) (S : List Addr), Gd K T H0 B C H S σ ρ → ∀ d, XD K (hide H S) d x.fs → W (.ref (He.ga K x.cls)) d σ H
def PostS (fr : Fr) (H0 B : Hp) (C : List Addr) (D : Ends) (W : WX) : Rs → Prop
  | .nx ρ => Tri K T H0 B C ρ tNext D
  | .rt d => RtK K T fr H0 C D.rt d
  | .bk ρ => Tri K T H0 B C ρ tBreak D
  | .ct ρ => Tri K T H0 B C ρ tCont D
  | .ex x ρ => EscX K T H0 B C ρ x W
  | .rs d ρ => ∀ (σ : St) (H : Hp) (S : List Addr), Gd K T H0 B C H S σ ρ → ∀ v, Dt K (hide H S) v d → D.rt v H
  | .ro i ρ => ∀ (σ : St) (H : Hp) (S : List Addr), Gd K T H0 B C H S σ ρ → ∀ v, σ[i]? = some (some v) → D.rt v H
  | .bad => False
def SimS (fr : Fr) (ts : TS) (W : WX) (m : MS) : Prop := ∀ ρ H0 B C D, PostS K T fr H0 B C D W (m ρ) → Tri K T H0 B C ρ ts D
end
def kSeq (a b : MS) : MS := fun ρ => match a ρ with
  | .nx ρ' => b ρ'
  | r => r
def kNx : MS := fun ρ => .nx ρ
def kE {α : Type} (m : List Slot → Rz α) (k : α → Rs) : MS := fun ρ => match m ρ with
  | .ok a => k a
  | .ex x => .ex x ρ
  | .bad => .bad
def kAsg (m : ME) (i : Nat) : MS := fun ρ => kE m (fun d => .nx (ρ.set i (.dat d))) ρ
def kOwn (m : MA) (i : Nat) : MS := fun ρ => kE m (fun ds => .nx (ρ.set i (.own (.lst ds)))) ρ
def kDrop (m : ME) : MS := fun ρ => kE m (fun _ => .nx ρ) ρ
def kRet (m : ME) : MS := fun ρ => kE m (fun d => .rt d) ρ
def kRetP (m : ME) : MS := fun ρ => kE m (fun d => match d with | .list _ => .bad | _ => .rt d) ρ
def kRetF (m : MA) : MS := fun ρ => kE m (fun ds => .rt (.list ds)) ρ
def kRetO (i : Nat) : MS := fun ρ => match ownL ρ[i]? with
  | some ds => .rt (.list ds)
  | none => .bad
def kRetN : MS := fun _ => .rt .none
def kIf (t : MT) (a b : MS) : MS := fun ρ => kE t (fun c => match c with | true => a ρ | false => b ρ) ρ
def kBk : MS := fun ρ => .bk ρ
def kCt : MS := fun ρ => .ct ρ
def kTg (m : ME) (g : MG) : MS := fun ρ => kE m (fun d => match g d with | some f => .nx (f ρ) | none => .bad) ρ
def kPar (m : MA) (i j : Nat) : MS := fun ρ => kE m (fun ds => match ds with | [a, b] => .nx ((ρ.set i (.dat a)).set j (.dat b)) | _ => .bad) ρ
def kApp (i : Nat) (m : ME) : MS := fun ρ => match ownL ρ[i]? with
  | some ds => kE m (fun d => if ds.length < 1000000 then .nx (ρ.set i (.own (.lst (ds ++ [d])))) else .bad) ρ
  | none => .bad
def kPut (i : Nat) (j m : ME) : MS := fun ρ => match ownL ρ[i]? with
  | some ds => kE m (fun d => kE j (fun e => match (asI e).bind (ixN ds.length) with | some n => .nx (ρ.set i (.own (.lst (ds.set n d)))) | none => .bad) ρ) ρ
  | none => .bad
def kFrz (i : Nat) (a : MS) : MS := fun ρ => match ownL ρ[i]? with
  | some ds => a (ρ.set i (.dat (.list ds)))
  | none => .bad
def forL (g : MG) (wp : List Nat) (b : MS) : List PyData → MS
  | [] => fun ρ => .nx ρ
  | d :: ds => fun ρ => match g d with
    | none => .bad
    | some f => match b (f ρ) with
      | .nx ρ' => forL g wp b ds (wipeS ρ' wp)
      | .ct ρ' => forL g wp b ds (wipeS ρ' wp)
      | .bk ρ' => .nx ρ'
      | r => r
def kFor (it : MA) (g : MG) (wp : List Nat) (b : MS) : MS := fun ρ => kE it (fun items => forL g wp b items ρ) ρ
def whileN (t : MT) (wp : List Nat) (b : MS) : Nat → MS
  | 0 => fun _ => .bad
  | n + 1 => fun ρ => kE t (fun c => match c with
    | false => .nx ρ
    | true => match b ρ with
      | .nx ρ' => whileN t wp b n (wipeS ρ' wp)
      | .ct ρ' => whileN t wp b n (wipeS ρ' wp)
      | .bk ρ' => .nx ρ'
      | r => r) ρ
open Classical in
noncomputable def kWhile (t : MT) (wp : List Nat) (b : MS) : MS := fun ρ => if h : ∃ n, whileN t wp b n ρ ≠ .bad then whileN t wp b (choose h) ρ else .bad
theorem whileN_mono {t : MT} {wp : List Nat} {b : MS} : ∀ {n : Nat} {ρ : List Slot} {m : Nat}, whileN t wp b n ρ ≠ .bad → n ≤ m → whileN t wp b m ρ = whileN t wp b n ρ
  | 0, ρ, m, h, _ => (h rfl).elim
  | n + 1, ρ, 0, h, l => by omega
  | n + 1, ρ, m + 1, h, l => by
    have ih : ∀ ρ', whileN t wp b n ρ' ≠ .bad → whileN t wp b m ρ' = whileN t wp b n ρ' := fun ρ' h' => whileN_mono h' (by omega)
    unfold whileN at h ⊢
    unfold kE at h ⊢
    cases ht : t ρ with
    | bad => rfl
    | ex x => rfl
    | ok c =>
      rw [ht] at h
      cases c with
      | false => rfl
      | true =>
        simp only at h ⊢
        cases hb : b ρ with
        | nx ρ' => rw [hb] at h; exact ih _ h
        | ct ρ' => rw [hb] at h; exact ih _ h
        | bk ρ' => rfl
        | rt d => rfl
        | ex x ρ' => rfl
        | rs d ρ' => rfl
        | ro j ρ' => rfl
        | bad => rfl
theorem kWhile_of {t : MT} {wp : List Nat} {b : MS} {ρ : List Slot} {n : Nat} {r : Rs} (h : whileN t wp b n ρ = r) (hr : r ≠ .bad) : kWhile t wp b ρ = r := by
  have hx : ∃ n, whileN t wp b n ρ ≠ .bad := ⟨n, by rw [h]; exact hr⟩
  unfold kWhile
  rw [dif_pos hx]
  rcases Nat.le_total n (Classical.choose hx) with l | l
  · rw [whileN_mono (by rw [h]; exact hr) l, h]
  · rw [← whileN_mono (Classical.choose_spec hx) l, h]
theorem kWhile_inv {t : MT} {wp : List Nat} {b : MS} {ρ : List Slot} (h : kWhile t wp b ρ ≠ .bad) : ∃ n, whileN t wp b n ρ = kWhile t wp b ρ := by
  unfold kWhile at h ⊢
  split at h
  · rename_i hx
    rw [dif_pos hx]
    exact ⟨_, rfl⟩
  · exact (h rfl).elim
theorem kWhile_stop {t : MT} {wp : List Nat} {b : MS} {ρ : List Slot} (h : t ρ = .ok false) : kWhile t wp b ρ = .nx ρ := kWhile_of (n := 1) (by unfold whileN kE; rw [h]) nofun
theorem kWhile_go {t : MT} {wp : List Nat} {b : MS} {ρ ρ' : List Slot} {r : Rs} (h : t ρ = .ok true) (hb : b ρ = .nx ρ') (h' : kWhile t wp b (wipeS ρ' wp) = r) (hr : r ≠ .bad) : kWhile t wp b ρ = r := by
  obtain ⟨n, hn⟩ := kWhile_inv (h'.symm ▸ hr)
  exact kWhile_of (n := n + 1) (by unfold whileN kE; rw [h]; simp only; rw [hb]; simp only; rw [hn, h']) hr
theorem Le.trans : ∀ {a b c : List Slot}, Le a b → Le b c → Le a c
  | _, _, _, .nil, .nil => .nil
  | _, _, _, .no h, .no k => .no (Le.trans h k)
  | _, _, _, .no h, .eq k => .no (Le.trans h k)
  | _, _, _, .eq h, .no k => .no (Le.trans h k)
  | _, _, _, .eq h, .eq k => .eq (Le.trans h k)
theorem le_setNo : ∀ (ρ : List Slot) (i : Nat), Le (ρ.set i .no) ρ
  | [], i => by simp; exact .nil
  | s :: ρ, 0 => .no (Le.refl ρ)
  | s :: ρ, i + 1 => .eq (le_setNo ρ i)
theorem le_wipe (ρ : List Slot) : ∀ vs : List Nat, Le (wipeS ρ vs) ρ
  | [] => Le.refl ρ
  | v :: vs => (le_setNo (wipeS ρ vs) v).trans (le_wipe ρ vs)
section
variable {K : PySem.W.Frag} {T : Tb} {fr : Fr} {W : WX} {te : TE} {t : TT} {ta : TA} {tu tz : TS} {m : ME} {ma : MA} {mt : MT} {a b : MS} {i j : Nat}
theorem sim_seq (h1 : SimS K T fr tu W a) (h2 : SimS K T fr tz W b) : SimS K T fr (tSeq tu tz) W (kSeq a b) := fun ρ H0 B C D p => by
  refine s_seq (h1 ρ H0 B C _ ?_)
  unfold kSeq at p
  cases h : a ρ with
  | nx ρ' => rw [h] at p; exact h2 ρ' H0 B C D p
  | rt d => rw [h] at p; exact p
  | bk ρ' => rw [h] at p; exact p
  | ct ρ' => rw [h] at p; exact p
  | ex x ρ' => rw [h] at p; exact p
  | rs d ρ' => rw [h] at p; exact p
  | ro j ρ' => rw [h] at p; exact p
  | bad => rw [h] at p; exact p
theorem sim_kNx : SimS K T fr tNext W kNx := fun ρ H0 B C D p => p
theorem tri_ex {ρ : List Slot} {H0 B : Hp} {C : List Addr} {D : Ends} {x : Exn} {ts : TS} (h : ∀ σ H S, Gd K T H0 B C H S σ ρ → (∀ d H2, Ext T H H2 → XD K (hide H2 S) d x.fs → W (.ref (He.ga K x.cls)) d σ H2) → ts D σ H) (p : EscX K T H0 B C ρ x W) : Tri K T H0 B C ρ ts D := fun σ H ⟨S, g⟩ =>
  h σ H S g fun d H2 e xd => p σ H2 S (g.ex e) d xd
theorem sim_asg (h : SimE K T te W m) : SimS K T fr (tAsg te (gName i)) W (kAsg m i) := fun ρ H0 B C D p => by
  have a := h ρ
  unfold kAsg kE at p
  cases h1 : m ρ with
  | bad => rw [h1] at p; exact p.elim
  | ex x => rw [h1] at p a; exact tri_ex (fun σ H S g hQ => a H0 B C H S σ g _ hQ) p
  | ok d => rw [h1] at p a; exact s_asg a p
theorem sim_ret (h : SimE K T te W m) : SimS K T .no (tRet te) W (kRet m) := fun ρ H0 B C D p => by
  have a := h ρ
  unfold kRet kE at p
  cases h1 : m ρ with
  | bad => rw [h1] at p; exact p.elim
  | ex x => rw [h1] at p a; exact tri_ex (fun σ H S g hQ => a H0 B C H S σ g _ hQ) p
  | ok d => rw [h1] at p a; exact s_ret a p
theorem pairL_eq {d : PyData} {a b : List PyData} (h : pairL d = some (a, b)) : d = .tuple [.list a, .list b] := by
  unfold pairL at h
  split at h
  · cases h; rfl
  · cases h
theorem rtK_of {fr : Fr} {H : Hp} {S : List Addr} {Q : VK} {r : PyData} (l : Lsts H S) (hQ : ∀ v H2, Ext T H H2 → Dt K (hide H2 S) v r → Q v H2) : RtK K T fr H S Q r := by
  cases fr with
  | no => exact hQ
  | yes =>
    cases r with
    | list rs => exact fun p xs H' e2 hp h3 ha => hQ _ H' e2 (.lst (hide_some.mpr ⟨l.not hp, h3, rfl⟩) (ha.kp (hide_sub fun a m => List.mem_cons_of_mem _ m)))
    | none => exact hQ
    | bool b => exact hQ
    | int b => exact hQ
    | str b => exact hQ
    | tuple b => exact hQ
    | dict b => exact hQ
  | two =>
    unfold RtK
    cases h : pairL r with
    | none => exact hQ
    | some ab =>
      obtain ⟨a, b⟩ := ab
      have e := pairL_eq h
      subst e
      intro t p q xs ys H' e2 hp hq hpq ht h1 h2 h3 ha hb
      have sub : ∀ c, c ∈ S → c ∈ q :: p :: S := fun c hc => List.mem_cons_of_mem _ (List.mem_cons_of_mem _ hc)
      exact hQ _ H' e2 (.tup (SqT.of (hide_some.mpr ⟨fun z => ht (sub t z), h1, rfl⟩)) (.cons (.lst (hide_some.mpr ⟨l.not hp, h2, rfl⟩) (ha.kp (hide_sub sub))) (.cons (.lst (hide_some.mpr ⟨l.not hq, h3, rfl⟩) (hb.kp (hide_sub sub))) .nil)))
def kRet2 (i j : Nat) : MS := fun ρ => match ownL ρ[i]?, ownL ρ[j]? with
  | some a, some b => if i ≠ j then .rt (.tuple [.list a, .list b]) else .bad
  | _, _ => .bad
theorem sim_kIf (h : SimT K T t W mt) (h1 : SimS K T fr tu W a) (h2 : SimS K T fr tz W b) : SimS K T fr (tIfS t tu tz) W (kIf mt a b) := fun ρ H0 B C D p => by
  have c := h ρ
  unfold kIf kE at p
  cases e : mt ρ with
  | bad => rw [e] at p; exact p.elim
  | ex x => rw [e] at p c; exact tri_ex (fun σ H S g hQ => c H0 B C H S σ g _ hQ) p
  | ok k =>
    rw [e] at p c
    cases k with
    | true => exact s_ifT c (h1 ρ H0 B C D p)
    | false => exact s_ifF c (h2 ρ H0 B C D p)
theorem sim_tg {g : TG} {js : List Nat} {mg : MG} (h : SimE K T te W m) (hg : SimG K T g js mg) : SimS K T fr (tAsg te g) W (kTg m mg) := fun ρ H0 B C D p => by
  have a := h ρ
  unfold kTg kE at p
  cases h1 : m ρ with
  | bad => rw [h1] at p; exact p.elim
  | ex x => rw [h1] at p a; exact tri_ex (fun σ H S g hQ => a H0 B C H S σ g _ hQ) p
  | ok d =>
    rw [h1] at p a
    simp only at p
    cases h2 : mg d with
    | none => rw [h2] at p; exact p.elim
    | some f => rw [h2] at p; exact s_asgT a (hg d f h2) p
theorem sim_par (h : SimA K T ta W ma) : SimS K T fr (tPar i j ta) W (kPar ma i j) := fun ρ H0 B C D p => by
  have a := h ρ
  unfold kPar kE at p
  cases h1 : ma ρ with
  | bad => rw [h1] at p; exact p.elim
  | ex x => rw [h1] at p a; exact tri_ex (fun σ H S g hQ => a H0 B C H S σ g _ hQ) p
  | ok ds =>
    rw [h1] at p a
    match ds, p, a with
    | [x, y], p, a => exact s_par a p
    | [], p, a => exact p.elim
    | [x], p, a => exact p.elim
    | x :: y :: z :: r, p, a => exact p.elim
theorem tri_base {H0 B B' : Hp} {C : List Addr} {ρ : List Slot} {ts : TS} {D : Ends} (e : Kp B B') (hb : ∀ b o, B b = some o → isTbl o = false) (h : Tri K T H0 B C ρ ts D) : Tri K T H0 B' C ρ ts D := fun σ H ⟨S, g⟩ => h σ H ⟨S, g.unbase e hb⟩
theorem sim_for {wi : TI} {g : TG} {js wp : List Nat} {mi : MA} {mg : MG} (hi : SimI K T wi W mi) (hg : SimG K T g js mg) (hb : SimS K T fr tu W b) : SimS K T fr (tFor wi g tu) W (kFor mi mg wp b) := fun ρ H0 B C D p => by
  have a := hi ρ
  unfold kFor kE at p
  cases h1 : mi ρ with
  | bad => rw [h1] at p; exact p.elim
  | ex x => rw [h1] at p a; exact tri_ex (fun σ H S g hQ => a H0 B C H S σ g _ hQ) p
  | ok items =>
    rw [h1] at p a
    simp only at p
    intro σ H hgood
    have bno : ∀ b o, B b = some o → isTbl o = false := let ⟨S, g⟩ := hgood; g.bno
    generalize hTot : forL mg wp b items ρ = Tot at p
    refine s_forG (D := D) a (fun i ρi => forL mg wp b (items.drop i) ρi = Tot) (by rw [List.drop_zero]; exact hTot) (fun B' i d ρi kb hd hI => ?_) (fun ρn hn => ?_) σ H hgood
    · have hlt := (List.getElem?_eq_some_iff.mp hd).1
      have hdrop : items.drop i = d :: items.drop (i + 1) := by
        rw [List.drop_eq_getElem_cons hlt, (List.getElem?_eq_some_iff.mp hd).2]
      rw [hdrop] at hI
      unfold forL at hI
      cases hm : mg d with
      | none => rw [hm] at hI; rw [← hI] at p; exact p.elim
      | some f =>
        rw [hm] at hI
        simp only at hI
        refine ⟨js, f, hg d f hm, hb (f ρi) H0 B' C _ ?_⟩
        cases hr : b (f ρi) with
        | nx ρ' => rw [hr] at hI; exact s_nxt (I := fun ρi => forL mg wp b (items.drop (i + 1)) ρi = Tot) hI (le_wipe ρ' wp) rfl
        | ct ρ' => rw [hr] at hI; exact s_cont (I := fun ρi => forL mg wp b (items.drop (i + 1)) ρi = Tot) hI (le_wipe ρ' wp) rfl
        | bk ρ' => rw [hr] at hI; rw [← hI] at p; exact fun σ H gd => tri_base kb bno p σ H gd
        | rt d => rw [hr] at hI; rw [← hI] at p; exact p
        | ex x ρ' => rw [hr] at hI; rw [← hI] at p; exact fun σ H S gd d xd => p σ H S (gd.unbase kb bno) d xd
        | rs r ρ' => rw [hr] at hI; rw [← hI] at p; exact fun σ H S gd v dv => p σ H S (gd.unbase kb bno) v dv
        | ro j ρ' => rw [hr] at hI; rw [← hI] at p; exact fun σ H S gd v dv => p σ H S (gd.unbase kb bno) v dv
        | bad => rw [hr] at hI; rw [← hI] at p; exact p.elim
    · rw [List.drop_length] at hn
      have hn : Rs.nx ρn = Tot := hn
      rw [← hn] at p
      exact p
theorem sim_whileN {wp : List Nat} (ht : SimT K T t W mt) (hb : SimS K T fr tu W b) (n : Nat) : SimS K T fr (tWhile t tu) W (whileN mt wp b n) := fun ρ H0 B C D p => by
  intro σ H hgood
  refine ⟨fun k σ H => ∃ ρ', Good K T H0 B C ρ' σ H ∧ PostS K T fr H0 B C D W (whileN mt wp b k ρ'), ⟨n, ρ, hgood, p⟩, ?_⟩
  rintro k σ H ⟨ρ', ⟨S, g⟩, q⟩
  cases k with
  | zero => exact q.elim
  | succ k =>
    have c := ht ρ'
    unfold whileN kE at q
    cases e : mt ρ' with
    | bad => rw [e] at q; exact q.elim
    | ex x => rw [e] at q c; exact c H0 B C H S σ g _ fun d H2 e2 xd => q σ H2 S (g.ex e2) d xd
    | ok k' =>
      rw [e] at q c
      refine c H0 B C H S σ g _ fun H1 e1 => ?_
      cases k' with
      | false => exact iteF (q σ H1 ⟨S, g.ex e1⟩)
      | true =>
        refine iteT ?_
        simp only at q
        have go : ∀ r, b ρ' = r → ∃ N : St → Hp → Prop, (∀ σ' H', N σ' H' → ∃ m', m' < k + 1 ∧ ∃ ρ', Good K T H0 B C ρ' σ' H' ∧ PostS K T fr H0 B C D W (whileN mt wp b m' ρ')) ∧ tu { D with nx := N, ct := N, bk := D.nx } σ H1 := fun r hr => by
          refine ⟨fun σ' H' => ∃ m', m' < k + 1 ∧ ∃ ρ', Good K T H0 B C ρ' σ' H' ∧ PostS K T fr H0 B C D W (whileN mt wp b m' ρ'), fun _ _ h => h, hb ρ' H0 B C _ ?_ σ H1 ⟨S, g.ex e1⟩⟩
          cases hr' : b ρ' with
          | nx ρ2 => rw [hr'] at q; exact fun σ2 H2 g2 => ⟨k, Nat.lt_succ_self k, _, g2.weak (le_wipe ρ2 wp), q⟩
          | ct ρ2 => rw [hr'] at q; exact fun σ2 H2 g2 => ⟨k, Nat.lt_succ_self k, _, g2.weak (le_wipe ρ2 wp), q⟩
          | bk ρ2 => rw [hr'] at q; exact q
          | rt d => rw [hr'] at q; exact q
          | ex x ρ2 => rw [hr'] at q; exact q
          | rs r ρ2 => rw [hr'] at q; exact q
          | ro j ρ2 => rw [hr'] at q; exact q
          | bad => rw [hr'] at q; exact q.elim
        exact go _ rfl
theorem sim_while {wp : List Nat} (ht : SimT K T t W mt) (hb : SimS K T fr tu W b) : SimS K T fr (tWhile t tu) W (kWhile mt wp b) := fun ρ H0 B C D p => by
  have hn : kWhile mt wp b ρ ≠ .bad := fun z => by rw [z] at p; exact p
  obtain ⟨n, e⟩ := kWhile_inv hn
  exact sim_whileN (wp := wp) ht hb n ρ H0 B C D (by rw [e]; exact p)
end
end Lw

set_option Elab.async false
set_option linter.all false
set_option maxRecDepth 100000
set_option maxHeartbeats 4000000
set_option autoImplicit false
namespace Lw
open PySem L2 LwZ
def spZ (K : PySem.W.Frag) (T : Tb) (fr : Fr) (f : List PyData → Rz PyData) : Sp := fun vs H Q E => ∃ ds S, LsT T H S ∧ DtAll K (hide H S) vs ds ∧ match f ds with
  | .ok r => RtK K T fr H S Q r
  | .ex x => ∀ d H', Ext T H H' → XD K (hide H' S) d x.fs → E (.ref (He.ga K x.cls)) d H'
  | .bad => False
def fnD (np n : Nat) (m : MS) (ds : List PyData) : Rz PyData := if ds.length = np then match m (slots n ds) with
  | .rt d => .ok d
  | .nx _ => .ok .none
  | .ex x _ => .ex x
  | _ => .bad
  else .bad
section
variable {P : Program} {w : World} {K : PySem.W.Frag} {T : Tb} {mg : Str → Option Value} {base : Heap}
abbrev FnQ (K : PySem.W.Frag) (x : Str) (st : Stmt) (dvs : List V) (kws : List (Str × V)) (f : Addr) (fd : FuncData) : Prop := FunD K x x (defArgs st) (defBody st) (defScope st) dvs kws f fd
theorem spZ_len {fr : Fr} {np n : Nat} {m : MS} {vs : List V} {H : Hp} {Q : VK} {E : XK} (h : spZ K T fr (fnD np n m) vs H Q E) : vs.length = np := by
  obtain ⟨ds, S', l, hd, hR⟩ := h
  rw [hd.len]
  by_cases hl : ds.length = np
  · exact hl
  · unfold fnD at hR
    rw [if_neg hl] at hR
    exact hR.elim
theorem fnZ {fr : Fr} {x : Str} {st : Stmt} {dvs : List V} {kws : List (Str × V)} {f : Addr} {fd : FuncData} {N ps : List Str} {k : Nat} {m : MS} {n np : Nat} (F : FnQ K x st dvs kws f fd) (S : FnScope N ps (defScope st)) (hn : N.length = n) (hp : ps.length = np)
    (hbody : ∀ (cdv : Value) (A : Around) (outer : List Env) (s : Shared) (H : Hp) (E : XK), Room k (A.deeper (PyProof.Rows.envOfC x (defScope st) s.heap.objs.size f cdv)) →
      ∃ t, PSs (cxOf (L2N.CX P w) P w K mg base N x (defScope st) f cdv A outer s H E) (defBody st) t ∧ SimS K T fr t (WF E) m) :
    FnOk P w K mg base (L2N.CX P w) (k + 1) f fd ps (spZ K T fr (fnD np n m)) := by
  subst hn hp
  refine F.ok S (fun vs H Q E h => spZ_len h) (fun cdv A outer s H vs Q E hr h => ?_)
  have hl := spZ_len h
  obtain ⟨ds, S', l, hd, hR⟩ := h
  have hld : ds.length = ps.length := hd.len ▸ hl
  obtain ⟨t, pt, sm⟩ := hbody cdv A outer s H E hr
  refine ⟨t, pt, ?_⟩
  refine sm (slots N.length ds) H (hide H S') S' { nx := fun _ H' => Q .non H', rt := Q } ?_ _ _ ⟨S', gd_start l hd⟩
  unfold fnD at hR
  rw [if_pos hld] at hR
  cases hm : m (slots N.length ds) with
  | nx ρ' =>
    rw [hm] at hR
    exact fun σ H' ⟨S2, g⟩ => by
      have hR : RtK K T fr H S' Q .none := hR
      cases fr <;> exact hR .non H' g.ext .non
  | rt d => rw [hm] at hR; exact hR
  | bk ρ' => rw [hm] at hR; exact hR.elim
  | rs r ρ' => rw [hm] at hR; exact hR.elim
  | ro j ρ' => rw [hm] at hR; exact hR.elim
  | ct ρ' => rw [hm] at hR; exact hR.elim
  | ex y ρ' => rw [hm] at hR; exact fun σ H' S2 g d xd => hR d H' g.ext (xd.kp (hide_sub g.sub))
  | bad => rw [hm] at hR; exact hR.elim
theorem CalX.calmZ {k : Nat} {x : Str} {ps : List Str} {dvs : List V} {fr : Fr} {F : List PyData → Rz PyData} (c : CalX P w K mg base k x ps dvs (spZ K T fr F)) :
    Cal P w K mg base k x ps dvs (spZ K T fr fun ds => (F ds).calm) := by
  have key : ∀ {vs : List V} {H : Hp} {Q : VK} {E : XK}, spZ K T fr (fun ds => (F ds).calm) vs H Q E → spZ K T fr F vs H Q (fun _ _ _ => False) := fun {vs H Q E} h => by
    obtain ⟨ds, S, l, hd, hR⟩ := h
    refine ⟨ds, S, l, hd, ?_⟩
    cases hf : F ds with
    | ok r => simp only [hf] at hR; exact hR
    | ex x => simp only [hf] at hR; exact hR.elim
    | bad => simp only [hf] at hR; exact hR.elim
  obtain ⟨f, fd, ds, G, m, kp, b, v⟩ := c.ex
  refine ⟨f, fd, ds, ⟨fun vs H Q E h => ?_, fun A outer s H args us vs Q E hr e0 hb hv h => ?_⟩, m, kp, b, v⟩
  · exact G.len vs H Q (fun _ _ _ => False) (key h)
  · refine codeAny_mono (G.run A outer s H args us vs Q (fun _ _ _ => False) hr e0 hb hv (key h)) fun o s' h' => ?_
    cases o with
    | error e =>
      obtain ⟨_, _, _, _, _, _, _, _, _, _, _, _, z⟩ := h'
      exact z.elim
    | ok fl => cases fl <;> exact h'
end
section
variable {K : PySem.W.Frag} {T : Tb} {W : WX} {ta : TA} {ma : MA} {dvs : List V} {es : List PyData} {F : List PyData → Rz PyData}
def zApp (a : MA) (es : List PyData) : MA := fun ρ => (a ρ).bind fun ds => .ok (ds ++ es)
theorem sim_call {fr : Fr} (hd : ∀ H, DtAll K H dvs es) (h : SimA K T ta W ma) : SimE K T (tCallSD (spZ K T fr F) dvs (WE W) ta) W (xF F (zApp ma es)) := fun ρ => by
  have a := h ρ
  unfold xF zApp
  cases h1 : ma ρ with
  | bad => exact True.intro
  | ex x => rw [h1] at a; exact fun H0 B C H S σ g Q hQ => a H0 B C H S σ g _ hQ
  | ok ds =>
    rw [h1] at a
    show EzE K T _ ρ W (F (ds ++ es))
    cases h2 : F (ds ++ es) with
    | bad => exact True.intro
    | ex x =>
      exact fun H0 B C H S σ g Q hQ => a H0 B C H S σ g _ fun vs H1 e1 d1 => ⟨ds ++ es, S, g.lsT e1, d1.app (hd _), by rw [h2]; exact fun d H' e2 xd => hQ d H' (e1.trans e2) xd⟩
    | ok r =>
      exact fun H0 B C H S σ g Q hQ => a H0 B C H S σ g _ fun vs H1 e1 d1 => ⟨ds ++ es, S, g.lsT e1, d1.app (hd _), by
        rw [h2]
        have l1 := g.lst.kp e1.kp
        exact rtK_of l1 fun v H2 e2 d2 => hQ v H2 (e1.trans e2) d2⟩
def asL : PyData → Option (List PyData)
  | .list ds => some ds
  | _ => none
def fF (f : List PyData → Rz PyData) (a : MA) : MA := fun ρ => (a ρ).bind fun ds => (f ds).bind fun r => .of (asL r)
theorem sim_callC {fr : Fr} {E : XK} (hd : ∀ H, DtAll K H dvs es) (h : SimA K T ta W ma) : SimE K T (tCall (spZ K T fr fun ds => (F ds).calm) dvs E ta) W (xFc F (zApp ma es)) := fun ρ => by
  have a := h ρ
  unfold xFc zApp
  cases h1 : ma ρ with
  | bad => exact True.intro
  | ex x => rw [h1] at a; exact fun H0 B C H S σ g Q hQ => a H0 B C H S σ g _ hQ
  | ok ds =>
    rw [h1] at a
    show EzE K T _ ρ W (F (ds ++ es)).calm
    cases h2 : F (ds ++ es) with
    | bad => exact True.intro
    | ex x => exact True.intro
    | ok r =>
      exact fun H0 B C H S σ g Q hQ => a H0 B C H S σ g _ fun vs H1 e1 d1 => ⟨ds ++ es, S, g.lsT e1, d1.app (hd _), by
        simp only [h2]
        have l1 := g.lst.kp e1.kp
        exact rtK_of l1 fun v H2 e2 d2 => hQ v H2 (e1.trans e2) d2⟩
def fP (f : List PyData → Rz PyData) (a : MA) (k : Int) : MA := fun ρ => (a ρ).bind fun ds => (f ds).bind fun r => match pairL r with
  | some (x, y) => .ok (if k = 0 then x else y)
  | none => .bad
def fFc (f : List PyData → Rz PyData) (a : MA) : MA := fun ρ => (a ρ).bind fun ds => (f ds).calm.bind fun r => .of (asL r)
end
def kRaise (x : Str) : MS := fun ρ => .ex ⟨x, []⟩ ρ
theorem sim_raise {K : PySem.W.Frag} {T : Tb} {W : WX} {fr : Fr} {x : Str} : SimS K T fr (tRaise K x W) W (kRaise x) := fun ρ H0 B C D p => fun σ H ⟨S, g⟩ => p σ H S g none .no
def bitsOk (i j : Int) : Bool := decide (i.natAbs < 18446744073709551616) || decide (j.natAbs < 18446744073709551616) || decide (i.natAbs.log2 + j.natAbs.log2 + 2 ≤ 100000000)
def zAdd : PyData → PyData → Option PyData
  | .int i, .int j => some (.int (i + j))
  | .str a, .str b => if a.length + b.length ≤ 1000000 then some (.str (a ++ b)) else none
  | .tuple a, .tuple b => if a.length + b.length ≤ 1000000 then some (.tuple (a ++ b)) else none
  | _, _ => none
def zAddL : PyData → PyData → Option (List PyData)
  | .list a, .list b => if a.length + b.length ≤ 1000000 then some (a ++ b) else none
  | _, _ => none
def zSub : PyData → PyData → Option PyData
  | .int i, .int j => some (.int (i - j))
  | _, _ => none
def zMul : PyData → PyData → Option PyData
  | .int i, .int j => if bitsOk i j then some (.int (i * j)) else none
  | _, _ => none
def zRep : PyData → PyData → Option (List PyData)
  | .list a, .int j => if Nat.ble j.natAbs 4611686018427387903 && Nat.ble (a.length * j.toNat) 1000000 then some (List.replicate j.toNat a).flatten else none
  | _, _ => none
def zFd : PyData → PyData → Option PyData
  | .int i, .int j => if j ≠ 0 ∧ j.natAbs < 1073741824 then some (.int (i.fdiv j)) else none
  | _, _ => none
def zFdB : PyData → PyData → Option PyData
  | .int i, .int j => if j ≠ 0 then some (.int (i.fdiv j)) else none
  | _, _ => none
def zMod : PyData → PyData → Option PyData
  | .int i, .int j => if j ≠ 0 then some (.int (i.fmod j)) else none
  | _, _ => none
def zPow : PyData → PyData → Option PyData
  | .int i, .int j => if 0 ≤ j ∧ j ≤ 1000000 ∧ i.natAbs < 18446744073709551616 then some (.int (i ^ j.toNat)) else none
  | _, _ => none
def zLt : PyData → PyData → Option PyData
  | .int i, .int j => some (.bool (decide (i < j)))
  | _, _ => none
def zLe : PyData → PyData → Option PyData
  | .int i, .int j => some (.bool (decide (i ≤ j)))
  | _, _ => none
def zGt : PyData → PyData → Option PyData
  | .int i, .int j => some (.bool (decide (j < i)))
  | _, _ => none
def zGe : PyData → PyData → Option PyData
  | .int i, .int j => some (.bool (decide (j ≤ i)))
  | _, _ => none
def zEq (x y : PyData) : Option PyData := if SeqAt.shaped x && SeqAt.shaped y then some (.bool (PyData.eqv x y)) else none
def zNe (x y : PyData) : Option PyData := if SeqAt.shaped x && SeqAt.shaped y then some (.bool (!PyData.eqv x y)) else none
def zIsN (x y : PyData) : Option PyData := if isNone y then some (.bool (isNone x)) else none
def zNotN (x y : PyData) : Option PyData := if isNone y then some (.bool (!isNone x)) else none
def zIx (x y : PyData) : Option PyData := match x, y with
  | .list ds, .int i => atI ds i
  | .tuple ds, .int i => atI ds i
  | .str s, .int i => if s.length ≤ 1000000 then (atI s.cps.toList i).map fun c => .str ⟨#[c]⟩ else none
  | _, _ => none
def zNeg : PyData → Option PyData
  | .int i => some (.int (-i))
  | _ => none
def zLen : List PyData → Option PyData
  | [.list ds] => some (.int ds.length)
  | [.tuple ds] => some (.int ds.length)
  | [.str s] => if s.length ≤ 1000000 then some (.int s.length) else none
  | _ => none
def zAbs : List PyData → Option PyData
  | [.int i] => some (.int (if i < 0 then -i else i))
  | _ => none
def zInt : List PyData → Option PyData
  | [.int i] => some (.int i)
  | [.bool b] => some (.int (if b then 1 else 0))
  | _ => none
def zList : List PyData → Option (List PyData)
  | [.list ds] => some ds
  | [.tuple ds] => some ds
  | _ => none
def zTuple : List PyData → Option PyData
  | [.list ds] => some (.tuple ds)
  | [.tuple ds] => some (.tuple ds)
  | _ => none
def allB : List PyData → Option (List Bool)
  | [] => some []
  | d :: ds => (asB d).bind fun b => (allB ds).bind fun bs => some (b :: bs)
def zAll : List PyData → Option PyData
  | [.list ds] => (allB ds).bind fun bs => some (.bool (bs.all id))
  | _ => none
def zAny : List PyData → Option PyData
  | [.list ds] => (allB ds).bind fun bs => some (.bool (bs.any id))
  | _ => none
def zSlL : PyData → Option Int → Option Int → Option (List PyData)
  | .list ds, l, h => some (cutD ds l h)
  | _, _, _ => none
def zSlT : PyData → Option Int → Option Int → Option PyData
  | .tuple ds, l, h => some (.tuple (cutD ds l h))
  | _, _, _ => none
theorem allB_eq : ∀ {ds : List PyData} {bs : List Bool}, allB ds = some bs → ds = bs.map PyData.bool
  | [], bs, h => by cases h; rfl
  | d :: ds, bs, h => by
    unfold allB at h
    cases h1 : asB d with
    | none => rw [h1] at h; cases h
    | some b =>
      rw [h1, Option.bind_some] at h
      cases h2 : allB ds with
      | none => rw [h2] at h; cases h
      | some cs =>
        rw [h2, Option.bind_some] at h
        cases h
        rw [asB_eq h1, allB_eq h2]
        rfl
theorem bits_ok {i j : Int} (h : bitsOk i j = true) : IntMulOk i j := by
  unfold bitsOk at h
  simp only [Bool.or_eq_true, decide_eq_true_eq] at h
  rcases h with (h | h) | h
  · exact mulOkL h
  · exact mulOkR h
  · exact mulOk (n := i.natAbs.log2 + 1) (m := j.natAbs.log2 + 1) Nat.lt_log2_self Nat.lt_log2_self (by omega)
section
variable {K : PySem.W.Frag} {T : Tb}
theorem r_add : ROp K T (rAddA K) zAdd := fun x y z h => by
  unfold zAdd at h
  split at h
  · cases h; exact rv_add
  · split at h
    · rename_i hl; cases h; exact rv_addS hl
    · cases h
  · split at h
    · rename_i hl; cases h; exact rv_addT hl
    · cases h
  · cases h
theorem r_addL : ROpF K T (rAddA K) zAddL := fun x y z h => by
  unfold zAddL at h
  split at h
  · split at h
    · rename_i hl; cases h; exact rf_addL hl
    · cases h
  · cases h
theorem r_sub : ROp K T rSubA zSub := fun x y z h => by
  unfold zSub at h
  split at h
  · cases h; exact rv_sub
  · cases h
theorem r_mul : ROp K T rMulA zMul := fun x y z h => by
  unfold zMul at h
  split at h
  · split at h
    · rename_i hl; cases h; exact rv_mul (bits_ok hl)
    · cases h
  · cases h
theorem r_rep : ROpF K T rMulA zRep := fun x y z h => by
  unfold zRep at h
  split at h
  · split at h
    · rename_i hl
      simp only [Bool.and_eq_true] at hl
      have h1 := Nat.le_of_ble_eq_true hl.1
      cases h
      exact rf_rep (by omega) (by omega) (Nat.le_of_ble_eq_true hl.2)
    · cases h
  · cases h
theorem r_fd : ROp K T rFdA zFd := fun x y z h => by
  unfold zFd at h
  split at h
  · split at h
    · rename_i hl; cases h; exact rv_fd (fdOkS hl.1 hl.2)
    · cases h
  · cases h
theorem r_fdB : ROp K T rFdB zFdB := fun x y z h => by
  unfold zFdB at h
  split at h
  · split at h
    · rename_i hl; cases h; exact rv_fdB hl
    · cases h
  · cases h
theorem r_mod : ROp K T rModA zMod := fun x y z h => by
  unfold zMod at h
  split at h
  · split at h
    · rename_i hl; cases h; exact rv_mod hl
    · cases h
  · cases h
theorem r_pow : ROp K T rPowA zPow := fun x y z h => by
  unfold zPow at h
  split at h
  · split at h
    · rename_i hl; cases h; exact rv_pow (cpowOk hl)
    · cases h
  · cases h
theorem r_lt : ROp K T rLtA zLt := fun x y z h => by
  unfold zLt at h
  split at h
  · cases h; exact rv_lt
  · cases h
theorem r_gt : ROp K T rGtA zGt := fun x y z h => by
  unfold zGt at h
  split at h
  · cases h; exact rv_gt
  · cases h
theorem r_eq : ROp K T (rEqD K) zEq := fun x y z h => by
  unfold zEq at h
  split at h
  · rename_i hl; rw [Bool.and_eq_true] at hl; cases h; exact rv_eq hl.1 hl.2
  · cases h
theorem r_ne : ROp K T (rNeD K) zNe := fun x y z h => by
  unfold zNe at h
  split at h
  · rename_i hl; rw [Bool.and_eq_true] at hl; cases h; exact rv_ne hl.1 hl.2
  · cases h
theorem isNone_eq {y : PyData} (h : isNone y = true) : y = .none := by cases y <;> first | rfl | cases h
theorem r_isN : ROp K T rIsNA zIsN := fun x y z h => by
  unfold zIsN at h
  split at h
  · rename_i hl; cases h; cases isNone_eq hl; exact rv_isN
  · cases h
theorem r_notN : ROp K T rNotNA zNotN := fun x y z h => by
  unfold zNotN at h
  split at h
  · rename_i hl; cases h; cases isNone_eq hl; exact rv_notN
  · cases h
theorem r_ix : ROp K T (rIx K) zIx := fun x y z h => by
  unfold zIx at h
  split at h
  · exact rv_ixL h
  · exact rv_ixT h
  · split at h
    · rename_i s i hl
      cases h1 : atI s.cps.toList i with
      | none => rw [h1] at h; cases h
      | some c => rw [h1] at h; cases h; exact rv_ixS hl h1
    · cases h
  · cases h
theorem r_len : RCb K T (rLenA K) zLen := fun xs z h => by
  unfold zLen at h
  split at h
  · cases h; exact rc_lenL
  · cases h; exact rc_lenT
  · split at h
    · rename_i hl; cases h; exact rc_lenS hl
    · cases h
  · cases h
theorem r_abs : RCb K T rAbsA zAbs := fun xs z h => by
  unfold zAbs at h
  split at h
  · cases h; exact rc_abs
  · cases h
theorem r_int : RCb K T rIntA zInt := fun xs z h => by
  unfold zInt at h
  split at h
  · cases h; exact rc_intI
  · cases h; exact rc_intB
  · cases h
theorem r_all : RCb K T (rAll K) zAll := fun xs z h => by
  unfold zAll at h
  split at h
  · rename_i ds
    cases h1 : allB ds with
    | none => rw [h1] at h; cases h
    | some bs => rw [h1, Option.bind_some] at h; cases h; rw [allB_eq h1]; exact rc_all
  · cases h
theorem r_slL (x : PyData) (l h : Option Int) (z : List PyData) (e : zSlL x l h = some z) : RSF K T (rSlX K) x l h z := by
  unfold zSlL at e
  split at e
  · cases e; exact rf_slL
  · cases e
theorem r_slT (x : PyData) (l h : Option Int) (z : PyData) (e : zSlT x l h = some z) : RS K T (rSlX K) x l h z := by
  unfold zSlT at e
  split at e
  · cases e; exact rs_slT
  · cases e
end
def keyD : PyData → Option Key
  | .int i => some (.inl i)
  | .str s => some (.inr s)
  | _ => none
def getD? (k : Key) : List (Key × PyData) → Option PyData
  | [] => none
  | e :: es => if e.1 = k then some e.2 else getD? k es
def putD (es : List (Key × PyData)) (k : Key) (d : PyData) : List (Key × PyData) :=
  if (es.any fun e => decide (e.1 = k)) = true then es.map (fun e => if e.1 = k then (e.1, d) else e) else es ++ [(k, d)]
def kDict (i : Nat) : MS := fun ρ => .nx (ρ.set i (.own (.dct [])))
def kDput (i : Nat) (mk mv : ME) : MS := fun ρ => match ownD ρ[i]? with
  | some es => kE mv (fun v => kE mk (fun k => match keyD k with | some k => if es.length < 1000000 then .nx (ρ.set i (.own (.dct (putD es k v)))) else .bad | none => .bad) ρ) ρ
  | none => .bad
def xDg (i : Nat) (mk : ME) : ME := fun ρ => (Rz.of (ownD ρ[i]?)).bind fun es => (mk ρ).bind fun k => (Rz.of (keyD k)).bind fun k => .of (getD? k es)
def xDin (mk : ME) (i : Nat) : ME := fun ρ => (mk ρ).bind fun k => (Rz.of (ownD ρ[i]?)).bind fun es => (Rz.of (keyD k)).bind fun k => .ok (.bool (getD? k es).isSome)
def xDnotin (mk : ME) (i : Nat) : ME := fun ρ => (mk ρ).bind fun k => (Rz.of (ownD ρ[i]?)).bind fun es => (Rz.of (keyD k)).bind fun k => .ok (.bool (!(getD? k es).isSome))
section
variable {K : PySem.W.Frag} {T : Tb} {W : WX} {fr : Fr} {i : Nat} {tk tv : TE} {mk mv : ME}
end
end Lw

set_option Elab.async false
set_option linter.all false
set_option maxRecDepth 100000
set_option maxHeartbeats 4000000
set_option autoImplicit false
namespace Lw
open PySem L2 LwZ
def zAddV (x y : PyData) : Option PyData := match zAdd x y with
  | some z => some z
  | none => (zAddL x y).map .list
def zMulV (x y : PyData) : Option PyData := match zMul x y with
  | some z => some z
  | none => (zRep x y).map .list
def zSlV (x : PyData) (l h : Option Int) : Option PyData := match zSlT x l h with
  | some z => some z
  | none => (zSlL x l h).map .list
def zListV (xs : List PyData) : Option PyData := (zList xs).map .list
def flatD : PyData → Bool
  | .none => true
  | .bool _ => true
  | .int _ => true
  | .str _ => true
  | _ => false
def zIn (x y : PyData) : Option PyData := (seqOf y).bind fun ds => if flatD x && ds.all flatD then some (.bool (ds.any fun z => PyData.eqv z x)) else none
section
variable {K : PySem.W.Frag} {T : Tb}
theorem r_addV : ROp K T (rAddA K) zAddV := fun x y z h => by
  unfold zAddV at h
  cases h1 : zAdd x y with
  | some w => rw [h1] at h; cases h; exact r_add x y _ h1
  | none =>
    rw [h1] at h
    cases h2 : zAddL x y with
    | none => rw [h2] at h; cases h
    | some ds => rw [h2] at h; cases h; exact (r_addL x y ds h2).rv
theorem r_mulV : ROp K T rMulA zMulV := fun x y z h => by
  unfold zMulV at h
  cases h1 : zMul x y with
  | some w => rw [h1] at h; cases h; exact r_mul x y _ h1
  | none =>
    rw [h1] at h
    cases h2 : zRep x y with
    | none => rw [h2] at h; cases h
    | some ds => rw [h2] at h; cases h; exact (r_rep x y ds h2).rv
theorem r_slV (x : PyData) (l h : Option Int) (z : PyData) (e : zSlV x l h = some z) : RS K T (rSlX K) x l h z := by
  unfold zSlV at e
  cases h1 : zSlT x l h with
  | some w => rw [h1] at e; cases e; exact r_slT x l h _ h1
  | none =>
    rw [h1] at e
    cases h2 : zSlL x l h with
    | none => rw [h2] at e; cases e
    | some ds => rw [h2] at e; cases e; exact (r_slL x l h ds h2).rs
theorem flat_v {H : Hp} {v : V} {d : PyData} (h : Dt K H v d) (f : flatD d = true) : flatV v = true := by
  cases h <;> first | rfl | cases f
theorem eqv_v {H : Hp} {v u : V} {d e : PyData} (h : Dt K H v d) (h' : Dt K H u e) (f : flatD d = true) (f' : flatD e = true) : eqV v u = PyData.eqv d e := by
  cases h <;> cases h' <;> first | cases f; done | cases f'; done | (simp [eqV, PyData.eqv])
theorem in_v {H : Hp} {v : V} {d : PyData} (h : Dt K H v d) (f : flatD d = true) : ∀ {vs : List V} {ds : List PyData}, DtAll K H vs ds → ds.all flatD = true → vs.all flatV = true ∧ inV v vs = ds.any fun z => PyData.eqv z d
  | [], [], _, _ => ⟨rfl, rfl⟩
  | [], d :: ds, h, _ => by cases h
  | v :: vs, [], h, _ => by cases h
  | w :: vs, e :: ds, h2, fa => by
    cases h2 with
    | cons a b =>
      rw [List.all_cons, Bool.and_eq_true] at fa
      obtain ⟨i1, i2⟩ := in_v h f b fa.2
      unfold inV at i2 ⊢
      rw [List.all_cons, List.any_cons, List.any_cons, i2, eqv_v a h fa.1 f, flat_v a fa.1, i1]
      exact ⟨rfl, rfl⟩
theorem r_in : ROp K T (rIn K false) zIn := fun x y z h => fun H S v u l dv du Q hQ => by
  unfold zIn at h
  cases h1 : seqOf y with
  | none => rw [h1] at h; cases h
  | some ds =>
    rw [h1, Option.bind_some] at h
    split at h
    · rename_i hf
      rw [Bool.and_eq_true] at hf
      cases h
      cases seqOf_eq h1 with
      | lst _ =>
        cases du with
        | lst h3 a3 =>
          obtain ⟨q1, q2⟩ := in_v dv hf.1 a3 hf.2
          exact ⟨_, _, rfl, .inl (SqL.of (hide_get h3)), flat_v dv hf.1, q1, by rw [q2]; exact hQ _ H (.refl T H) (.bl _)⟩
      | tup _ =>
        cases du with
        | tup h3 a3 =>
          obtain ⟨q1, q2⟩ := in_v dv hf.1 a3 hf.2
          exact ⟨_, _, rfl, .inr (sqt_hide h3), flat_v dv hf.1, q1, by rw [q2]; exact hQ _ H (.refl T H) (.bl _)⟩
    · cases h
end
structure CalK (P : Program) (w : World) (K : PySem.W.Frag) (mg : Str → Option Value) (base : Heap) (k : Nat) (x : Str) (ps : List Str) (n : Nat) (ks : List Str) (gV : List V → List V → List V) (sp : Sp) : Prop where
  ex : ∃ (f : Addr) (fd : FuncData) (g : List Value → List Value → List Value), FnOk P w K mg base (L2N.CX P w) k f fd ps sp ∧ mg x = some (.ref f) ∧ PySem.W.keepIn K (.ref f) = true ∧ KBn K fd ps n ks g gV
structure CalKc (P : Program) (w : World) (K : PySem.W.Frag) (mg : Str → Option Value) (base : Heap) (k : Nat) (x : Str) (ps : List Str) (n : Nat) (ks : List Str) (gV : List V → List V → List V) (sp : Sp) : Prop where
  ex : ∃ (f : Addr) (fd : FuncData) (g : List Value → List Value → List Value), FnOk P w K mg base CX0 k f fd ps sp ∧ mg x = some (.ref f) ∧ PySem.W.keepIn K (.ref f) = true ∧ KBn K fd ps n ks g gV
section
variable {X : Cx} {k j n : Nat} {ps ks : List Str} {sp : Sp} {W : WX} {x : Str} {p pos : Pos} {e : Expr} {es : List Expr} {kws : List Keyword} {t tk : TA} {gV : List V → List V → List V}
end
section
variable {P : Program} {w : World} {K : PySem.W.Frag} {T : Tb} {mg : Str → Option Value} {base : Heap}
theorem CalK.calmZ {k n : Nat} {x : Str} {ps ks : List Str} {gV : List V → List V → List V} {fr : Fr} {F : List PyData → Rz PyData} (c : CalK P w K mg base k x ps n ks gV (spZ K T fr F)) :
    CalKc P w K mg base k x ps n ks gV (spZ K T fr fun ds => (F ds).calm) := by
  have key : ∀ {vs : List V} {H : Hp} {Q : VK} {E : XK}, spZ K T fr (fun ds => (F ds).calm) vs H Q E → spZ K T fr F vs H Q (fun _ _ _ => False) := fun {vs H Q E} h => by
    obtain ⟨ds, S, l, hd, hR⟩ := h
    refine ⟨ds, S, l, hd, ?_⟩
    cases hf : F ds with
    | ok r => simp only [hf] at hR; exact hR
    | ex x => simp only [hf] at hR; exact hR.elim
    | bad => simp only [hf] at hR; exact hR.elim
  obtain ⟨f, fd, ds, G, m, kp, b⟩ := c.ex
  refine ⟨f, fd, ds, ⟨fun vs H Q E h => ?_, fun A outer s H args us vs Q E hr e0 hb hv h => ?_⟩, m, kp, b⟩
  · exact G.len vs H Q (fun _ _ _ => False) (key h)
  · refine codeAny_mono (G.run A outer s H args us vs Q (fun _ _ _ => False) hr e0 hb hv (key h)) fun o s' h' => ?_
    cases o with
    | error e =>
      obtain ⟨_, _, _, _, _, _, _, _, _, _, _, _, z⟩ := h'
      exact z.elim
    | ok fl => cases fl <;> exact h'
end
def zKw (n m : Nat) (gD : List PyData → List PyData → List PyData) (a k : MA) : MA := fun ρ => (a ρ).bind fun ds => (k ρ).bind fun es => if ds.length = n ∧ es.length = m then .ok (gD ds es) else .bad
section
variable {K : PySem.W.Frag} {T : Tb} {W : WX} {ta tk : TA} {ma mk : MA} {F : List PyData → Rz PyData} {n m : Nat} {gV : List V → List V → List V} {gD : List PyData → List PyData → List PyData}
end
end Lw

set_option Elab.async false
set_option linter.all false
set_option maxRecDepth 100000
set_option maxHeartbeats 4000000
set_option autoImplicit false
namespace Lw
open PySem L2 LwZ
inductive Arg where
  | p (i : Nat)
  | k (j : Nat)
  | d (j : Nat)
def Arg.get {α : Type} (us mv ws : List α) : Arg → Option α
  | .p i => us[i]?
  | .k j => ws[j]?
  | .d j => mv[j]?
def sel {α : Type} (o : List Arg) (us mv ws : List α) : List α := o.filterMap (Arg.get us mv ws)
section
variable {K : PySem.W.Frag} {x qual : Str} {params : Arguments} {body : List Stmt} {scope : Scope} {kws : List (Str × V)} {f : Addr} {fd : FuncData} {ps : List Str}
end
section
variable {K : PySem.W.Frag} {T : Tb} {W : WX} {ta tk : TA} {ma mk : MA} {F : List PyData → Rz PyData} {n m : Nat} {o : List Arg} {mz : List V} {ms : List PyData} {fr : Fr}
theorem zApp_nil (ma : MA) : zApp ma [] = ma := by
  funext ρ
  unfold zApp
  cases ma ρ with
  | ok a => show Rz.ok (a ++ []) = _; rw [List.append_nil]
  | ex x => rfl
  | bad => rfl
theorem sim_call0 (h : SimA K T ta W ma) : SimE K T (tCallSD (spZ K T fr F) [] (WE W) ta) W (xF F ma) := by
  have := sim_call (F := F) (fr := fr) (es := []) (fun _ => .nil) h
  rw [zApp_nil] at this; exact this
theorem sim_callC0 {E : XK} (h : SimA K T ta W ma) : SimE K T (tCall (spZ K T fr fun ds => (F ds).calm) [] E ta) W (xFc F ma) := by
  have := sim_callC (F := F) (fr := fr) (E := E) (es := []) (fun _ => .nil) h
  rw [zApp_nil] at this; exact this
end
theorem tri_sim {K : PySem.W.Frag} {T : Tb} {fr : Fr} {H0 B : Hp} {C : List Addr} {ρ : List Slot} {ts : TS} {D : Ends} {W : WX} {m : MS} (h : SimS K T fr ts W m) (p : PostS K T fr H0 B C D W (m ρ)) : Tri K T H0 B C ρ ts D := h ρ H0 B C D p
def pop0 (ρ : List Slot) (k : Nat) : Option (PyData × List Slot) := match ownL ρ[k]? with
  | some (x :: xs) => if xs.length < 1000000 then some (x, ρ.set k (.own (.lst xs))) else none
  | _ => none
section
variable {K : PySem.W.Frag} {T : Tb} {fr : Fr} {W : WX} {te ta tb : TE} {t : TT} {i j l r : Nat}
end
end Lw

set_option Elab.async false
set_option linter.all false
set_option maxRecDepth 100000
set_option maxHeartbeats 4000000
set_option autoImplicit false
namespace Lw
open PySem L2 LwZ
theorem nr {α : Sort _} {a b : α} (h : a = b) : a = b := h
section
variable (ρ : List Slot)
theorem fnD_a (np n : Nat) (m : MS) (ds : List PyData) : fnD np n m ds = if ds.length = np then (match m (slots n ds) with | .rt d => .ok d | .nx _ => .ok .none | .ex x _ => .ex x | _ => .bad) else .bad := nr rfl
theorem kSeq_a (a b : MS) : kSeq a b ρ = (match a ρ with | .nx ρ' => b ρ' | r => r) := nr rfl
theorem kNx_a : kNx ρ = .nx ρ := nr rfl
theorem kE_a {α : Type} (m : List Slot → Rz α) (k : α → Rs) : kE m k ρ = (match m ρ with | .ok a => k a | .ex x => .ex x ρ | .bad => .bad) := nr rfl
theorem kAsg_a (m : ME) (i : Nat) : kAsg m i ρ = kE m (fun d => .nx (ρ.set i (.dat d))) ρ := nr rfl
theorem kOwn_a (m : MA) (i : Nat) : kOwn m i ρ = kE m (fun ds => .nx (ρ.set i (.own (.lst ds)))) ρ := nr rfl
theorem kDrop_a (m : ME) : kDrop m ρ = kE m (fun _ => .nx ρ) ρ := nr rfl
theorem kRet_a (m : ME) : kRet m ρ = kE m (fun d => .rt d) ρ := nr rfl
theorem kRetP_a (m : ME) : kRetP m ρ = kE m (fun d => match d with | .list _ => .bad | _ => .rt d) ρ := nr rfl
theorem kRetF_a (m : MA) : kRetF m ρ = kE m (fun ds => .rt (.list ds)) ρ := nr rfl
theorem kRetO_a (i : Nat) : kRetO i ρ = (match ownL ρ[i]? with | some ds => .rt (.list ds) | none => .bad) := nr rfl
theorem kRetN_a : kRetN ρ = .rt .none := nr rfl
theorem kIf_a (t : MT) (a b : MS) : kIf t a b ρ = kE t (fun c => match c with | true => a ρ | false => b ρ) ρ := nr rfl
theorem kBk_a : kBk ρ = .bk ρ := nr rfl
theorem kCt_a : kCt ρ = .ct ρ := nr rfl
theorem kTg_a (m : ME) (g : MG) : kTg m g ρ = kE m (fun d => match g d with | some f => .nx (f ρ) | none => .bad) ρ := nr rfl
theorem kPar_a (m : MA) (i j : Nat) : kPar m i j ρ = kE m (fun ds => match ds with | [a, b] => .nx ((ρ.set i (.dat a)).set j (.dat b)) | _ => .bad) ρ := nr rfl
theorem kApp_a (i : Nat) (m : ME) : kApp i m ρ = (match ownL ρ[i]? with | some ds => kE m (fun d => if ds.length < 1000000 then .nx (ρ.set i (.own (.lst (ds ++ [d])))) else .bad) ρ | none => .bad) := nr rfl
theorem kPut_a (i : Nat) (j m : ME) : kPut i j m ρ = (match ownL ρ[i]? with | some ds => kE m (fun d => kE j (fun e => match (asI e).bind (ixN ds.length) with | some n => .nx (ρ.set i (.own (.lst (ds.set n d)))) | none => .bad) ρ) ρ | none => .bad) := nr rfl
theorem kRet2_a (i j : Nat) : kRet2 i j ρ = (match ownL ρ[i]?, ownL ρ[j]? with | some a, some b => if i ≠ j then .rt (.tuple [.list a, .list b]) else .bad | _, _ => .bad) := nr rfl
theorem fP_a (f : List PyData → Rz PyData) (a : MA) (k : Int) : fP f a k ρ = (a ρ).bind fun ds => (f ds).bind fun r => match pairL r with | some (x, y) => .ok (if k = 0 then x else y) | none => .bad := nr rfl
theorem pairL_a (a b : List PyData) : pairL (.tuple [.list a, .list b]) = some (a, b) := nr rfl
theorem kFrz_a (i : Nat) (a : MS) : kFrz i a ρ = (match ownL ρ[i]? with | some ds => a (ρ.set i (.dat (.list ds))) | none => .bad) := nr rfl
theorem kFor_a (it : MA) (g : MG) (wp : List Nat) (b : MS) : kFor it g wp b ρ = kE it (fun items => forL g wp b items ρ) ρ := nr rfl
theorem forL_cons (g : MG) (wp : List Nat) (b : MS) (d : PyData) (ds : List PyData) : forL g wp b (d :: ds) ρ = (match g d with
    | none => .bad
    | some f => match b (f ρ) with
      | .nx ρ' => forL g wp b ds (wipeS ρ' wp)
      | .ct ρ' => forL g wp b ds (wipeS ρ' wp)
      | .bk ρ' => .nx ρ'
      | r => r) := nr rfl
theorem kRaise_a (x : Str) : kRaise x ρ = .ex ⟨x, []⟩ ρ := nr rfl
theorem kDict_a (i : Nat) : kDict i ρ = .nx (ρ.set i (.own (.dct []))) := nr rfl
theorem kDput_a (i : Nat) (mk mv : ME) : kDput i mk mv ρ = (match ownD ρ[i]? with | some es => kE mv (fun v => kE mk (fun k => match keyD k with | some k => if es.length < 1000000 then .nx (ρ.set i (.own (.dct (putD es k v)))) else .bad | none => .bad) ρ) ρ | none => .bad) := nr rfl
theorem xC_a (d : PyData) : xC d ρ = .ok d := nr rfl
theorem xV_a (i : Nat) : xV i ρ = (match ρ[i]? with | some (.dat d) => .ok d | _ => .bad) := nr rfl
theorem xOp_a (f : PyData → PyData → Option PyData) (a b : ME) : xOp f a b ρ = (a ρ).bind fun x => (b ρ).bind fun y => .of (f x y) := nr rfl
theorem fOp_a (f : PyData → PyData → Option (List PyData)) (a b : ME) : fOp f a b ρ = (a ρ).bind fun x => (b ρ).bind fun y => .of (f x y) := nr rfl
theorem xUn_a (f : PyData → Option PyData) (a : ME) : xUn f a ρ = (a ρ).bind fun x => .of (f x) := nr rfl
theorem xNot_a (a : ME) : xNot a ρ = (a ρ).bind fun x => (Rz.of (asB x)).bind fun c => .ok (.bool (!c)) := nr rfl
theorem xAnd_a (a b : ME) : xAnd a b ρ = (a ρ).bind fun x => (Rz.of (asB x)).bind fun c => match c with | true => b ρ | false => .ok (.bool false) := nr rfl
theorem xOr_a (a b : ME) : xOr a b ρ = (a ρ).bind fun x => (Rz.of (asB x)).bind fun c => match c with | true => .ok (.bool true) | false => b ρ := nr rfl
theorem xIf_a (t : MT) (a b : ME) : xIf t a b ρ = (t ρ).bind fun c => match c with | true => a ρ | false => b ρ := nr rfl
theorem xChain_a (f g : PyData → PyData → Option PyData) (a b c : ME) : xChain f g a b c ρ = (a ρ).bind fun x => (b ρ).bind fun y => (Rz.of (f x y)).bind fun z => (Rz.of (asB z)).bind fun k => match k with
  | true => (c ρ).bind fun w => .of (g y w)
  | false => .ok (.bool false) := nr rfl
theorem zNil_a : zNil ρ = .ok [] := nr rfl
theorem zCons_a (a : ME) (r : MA) : zCons a r ρ = (a ρ).bind fun x => (r ρ).bind fun xs => .ok (x :: xs) := nr rfl
theorem xTup_a (a : MA) : xTup a ρ = (a ρ).bind fun xs => if xs.length ≤ 1000000 then .ok (.tuple xs) else .bad := nr rfl
theorem fLst_a (a : MA) : fLst a ρ = (a ρ).bind fun xs => if xs.length ≤ 1000000 then .ok xs else .bad := nr rfl
theorem xL_a (a : MA) : xL a ρ = (a ρ).bind fun xs => .ok (.list xs) := nr rfl
theorem xCB_a (f : List PyData → Option PyData) (a : MA) : xCB f a ρ = (a ρ).bind fun xs => .of (f xs) := nr rfl
theorem fCB_a (f : List PyData → Option (List PyData)) (a : MA) : fCB f a ρ = (a ρ).bind fun xs => .of (f xs) := nr rfl
theorem xF_a (f : List PyData → Rz PyData) (a : MA) : xF f a ρ = (a ρ).bind f := nr rfl
theorem xFc_a (f : List PyData → Rz PyData) (a : MA) : xFc f a ρ = (a ρ).bind fun ds => (f ds).calm := nr rfl
theorem fF_a (f : List PyData → Rz PyData) (a : MA) : fF f a ρ = (a ρ).bind fun ds => (f ds).bind fun r => .of (asL r) := nr rfl
theorem fFc_a (f : List PyData → Rz PyData) (a : MA) : fFc f a ρ = (a ρ).bind fun ds => (f ds).calm.bind fun r => .of (asL r) := nr rfl
theorem zApp_a (a : MA) (es : List PyData) : zApp a es ρ = (a ρ).bind fun ds => .ok (ds ++ es) := nr rfl
theorem zKw_a (n m : Nat) (gD : List PyData → List PyData → List PyData) (a k : MA) : zKw n m gD a k ρ = (a ρ).bind fun ds => (k ρ).bind fun es => if ds.length = n ∧ es.length = m then .ok (gD ds es) else .bad := nr rfl
theorem oNo_a : oNo ρ = .ok none := nr rfl
theorem oAt_a (a : ME) : oAt a ρ = (a ρ).bind fun x => (Rz.of (asI x)).bind fun i => .ok (some i) := nr rfl
theorem fSl_a (f : PyData → Option Int → Option Int → Option (List PyData)) (a : ME) (lo hi : MO) : fSl f a lo hi ρ = (a ρ).bind fun x => (lo ρ).bind fun l => (hi ρ).bind fun h => .of (f x l h) := nr rfl
theorem xSl_a (f : PyData → Option Int → Option Int → Option PyData) (a : ME) (lo hi : MO) : xSl f a lo hi ρ = (a ρ).bind fun x => (lo ρ).bind fun l => (hi ρ).bind fun h => .of (f x l h) := nr rfl
theorem yV_a (a : ME) : yV a ρ = (a ρ).bind fun x => .of (asB x) := nr rfl
theorem yAnd_a (a b : MT) : yAnd a b ρ = (a ρ).bind fun c => match c with | true => b ρ | false => .ok false := nr rfl
theorem yOr_a (a b : MT) : yOr a b ρ = (a ρ).bind fun c => match c with | true => .ok true | false => b ρ := nr rfl
theorem yNot_a (a : MT) : yNot a ρ = (a ρ).bind fun c => .ok (!c) := nr rfl
theorem yYes_a : yYes ρ = .ok true := nr rfl
theorem xIxO_a (k : Nat) (b : ME) : xIxO k b ρ = (Rz.of (ownL ρ[k]?)).bind fun ds => (b ρ).bind fun y => (Rz.of (asI y)).bind fun i => .of (atI ds i) := nr rfl
theorem xLenO_a (k : Nat) : xLenO k ρ = (Rz.of (ownL ρ[k]?)).bind fun ds => .ok (.int ds.length) := nr rfl
theorem xDg_a (i : Nat) (mk : ME) : xDg i mk ρ = (Rz.of (ownD ρ[i]?)).bind fun es => (mk ρ).bind fun k => (Rz.of (keyD k)).bind fun k => .of (getD? k es) := nr rfl
theorem xDin_a (mk : ME) (i : Nat) : xDin mk i ρ = (mk ρ).bind fun k => (Rz.of (ownD ρ[i]?)).bind fun es => (Rz.of (keyD k)).bind fun k => .ok (.bool (getD? k es).isSome) := nr rfl
theorem xDnotin_a (mk : ME) (i : Nat) : xDnotin mk i ρ = (mk ρ).bind fun k => (Rz.of (ownD ρ[i]?)).bind fun es => (Rz.of (keyD k)).bind fun k => .ok (.bool (!(getD? k es).isSome)) := nr rfl
theorem iS_a (a : ME) : iS a ρ = (a ρ).bind fun d => .of (seqOf d) := nr rfl
theorem iA_a (f : List PyData → Option (List PyData)) (a : MA) : iA f a ρ = (a ρ).bind fun ds => .of (f ds) := nr rfl
theorem fLc_a (vs : List Nat) (it : MA) (g : MG) (mt : MT) (me : ME) : fLc vs it g mt me ρ = (it ρ).bind fun items => if items.length ≤ 1000000 then lcL g mt me (wipeS ρ vs) items else .bad := nr rfl
theorem lcL_nil (g : MG) (mt : MT) (me : ME) : lcL g mt me ρ [] = .ok [] := nr rfl
theorem lcL_cons (g : MG) (mt : MT) (me : ME) (d : PyData) (ds : List PyData) : lcL g mt me ρ (d :: ds) = (match g d with
    | none => .bad
    | some f => (mt (f ρ)).calm.bind fun b => match b with
      | true => (me (f ρ)).calm.bind fun y => (lcL g mt me ρ ds).bind fun ys => .ok (y :: ys)
      | false => lcL g mt me ρ ds) := nr rfl
theorem wipeS_nil : wipeS ρ [] = ρ := nr rfl
theorem wipeS_cons (v : Nat) (vs : List Nat) : wipeS ρ (v :: vs) = (wipeS ρ vs).set v .no := nr rfl
end
theorem gN_a (i : Nat) (d : PyData) : gN i d = some fun ρ => ρ.set i (.dat d) := nr rfl
theorem gs0_a : gs0 [] = some fun ρ => ρ := nr rfl
theorem gsC_a (g : MG) (r : MGs) (d : PyData) (ds : List PyData) : gsC g r (d :: ds) = (g d).bind fun f => (r ds).bind fun h => some fun ρ => h (f ρ) := nr rfl
theorem gT_a (n : Nat) (r : MGs) (ds : List PyData) : gT n r (.tuple ds) = if ds.length = n then r ds else none := nr rfl
theorem gU_a (n : Nat) (r : MGs) (ds : List PyData) : gU n r (.list ds) = if ds.length = n then r ds else none := nr rfl
theorem ownL_a (ds : List PyData) : ownL (some (.own (.lst ds))) = some ds := nr rfl
theorem ownD_a (es : List (Key × PyData)) : ownD (some (.own (.dct es))) = some es := nr rfl
theorem asB_a (b : Bool) : asB (.bool b) = some b := nr rfl
theorem asI_a (b : Int) : asI (.int b) = some b := nr rfl
theorem asL_a (ds : List PyData) : asL (.list ds) = some ds := nr rfl
theorem seqOf_l (ds : List PyData) : seqOf (.list ds) = some ds := nr rfl
theorem seqOf_t (ds : List PyData) : seqOf (.tuple ds) = some ds := nr rfl
theorem keyD_i (i : Int) : keyD (.int i) = some (.inl i) := nr rfl
theorem keyD_s (s : Str) : keyD (.str s) = some (.inr s) := nr rfl
theorem bind_ex {α β : Type} (x : Exn) (k : α → Rz β) : (Rz.ex x : Rz α).bind k = .ex x := nr rfl
theorem bind_bad {α β : Type} (k : α → Rz β) : (Rz.bad : Rz α).bind k = .bad := nr rfl
theorem of_none {α : Type} : (Rz.of (none : Option α)) = .bad := nr rfl
theorem zAddV_i (i j : Int) : zAddV (.int i) (.int j) = some (.int (i + j)) := nr rfl
theorem zAddV_l {a b : List PyData} (h : a.length + b.length ≤ 1000000) : zAddV (.list a) (.list b) = some (.list (a ++ b)) := by unfold zAddV zAdd zAddL; simp only [if_pos h]; rfl
theorem zAddV_s {a b : Str} (h : a.length + b.length ≤ 1000000) : zAddV (.str a) (.str b) = some (.str (a ++ b)) := by unfold zAddV zAdd; simp only [if_pos h]
theorem zSub_i (i j : Int) : zSub (.int i) (.int j) = some (.int (i - j)) := nr rfl
theorem zMulV_l {i j : Int} (h : i.natAbs < 18446744073709551616) : zMulV (.int i) (.int j) = some (.int (i * j)) := by
  have hb : bitsOk i j = true := by unfold bitsOk; simp only [Bool.or_eq_true, decide_eq_true_eq]; exact .inl (.inl h)
  unfold zMulV zMul
  simp only [if_pos hb]
theorem zMulV_r {i j : Int} (h : j.natAbs < 18446744073709551616) : zMulV (.int i) (.int j) = some (.int (i * j)) := by
  have hb : bitsOk i j = true := by unfold bitsOk; simp only [Bool.or_eq_true, decide_eq_true_eq]; exact .inl (.inr h)
  unfold zMulV zMul
  simp only [if_pos hb]
theorem zFd_i {i j : Int} (h : 0 < j) (h2 : j < 1073741824) : zFd (.int i) (.int j) = some (.int (i.fdiv j)) := by
  unfold zFd
  simp only [if_pos (show j ≠ 0 ∧ j.natAbs < 1073741824 from ⟨by omega, by omega⟩)]
theorem zFdB_i {i j : Int} (h : j ≠ 0) : zFdB (.int i) (.int j) = some (.int (i.fdiv j)) := by
  unfold zFdB
  simp only [if_pos h]
theorem zMod_i {i j : Int} (h : j ≠ 0) : zMod (.int i) (.int j) = some (.int (i.fmod j)) := by
  unfold zMod
  simp only [if_pos h]
theorem zLt_i (i j : Int) : zLt (.int i) (.int j) = some (.bool (decide (i < j))) := nr rfl
theorem zLe_i (i j : Int) : zLe (.int i) (.int j) = some (.bool (decide (i ≤ j))) := nr rfl
theorem zGt_i (i j : Int) : zGt (.int i) (.int j) = some (.bool (decide (j < i))) := nr rfl
theorem zGe_i (i j : Int) : zGe (.int i) (.int j) = some (.bool (decide (j ≤ i))) := nr rfl
theorem zEq_sh {x y : PyData} (h : SeqAt.shaped x = true) (h' : SeqAt.shaped y = true) : zEq x y = some (.bool (PyData.eqv x y)) := by unfold zEq; rw [h, h']; rfl
theorem zNe_sh {x y : PyData} (h : SeqAt.shaped x = true) (h' : SeqAt.shaped y = true) : zNe x y = some (.bool (!PyData.eqv x y)) := by unfold zNe; rw [h, h']; rfl
theorem zEq_i (i j : Int) : zEq (.int i) (.int j) = some (.bool (decide (i = j))) := by rw [zEq_sh rfl rfl, eqv_int]
theorem zNe_i (i j : Int) : zNe (.int i) (.int j) = some (.bool (!decide (i = j))) := by rw [zNe_sh rfl rfl, eqv_int]
theorem zEq_s {i j : Str} (h : SeqAt.shaped (.str i) = true) (h' : SeqAt.shaped (.str j) = true) : zEq (.str i) (.str j) = some (.bool (i == j)) := by rw [zEq_sh h h']; simp [PyData.eqv]
theorem zNe_s {i j : Str} (h : SeqAt.shaped (.str i) = true) (h' : SeqAt.shaped (.str j) = true) : zNe (.str i) (.str j) = some (.bool (!(i == j))) := by rw [zNe_sh h h']; simp [PyData.eqv]
theorem zEq_r (a b : Rat) : zEq (encR a) (encR b) = some (.bool (decide (a = b))) := by rw [zEq_sh (shaped_encR _) (shaped_encR _), eqv_encR]
theorem zNe_r (a b : Rat) : zNe (encR a) (encR b) = some (.bool (!decide (a = b))) := by rw [zNe_sh (shaped_encR _) (shaped_encR _), eqv_encR]
theorem zIx_r0 (q : Rat) : zIx (encR q) (.int 0) = some (.int q.num) := nr rfl
theorem zIx_r1 (q : Rat) : zIx (encR q) (.int 1) = some (.int (q.den : Int)) := nr rfl
theorem zIx_t (ds : List PyData) (i : Int) : zIx (.tuple ds) (.int i) = atI ds i := nr rfl
theorem zIx_l (ds : List PyData) (i : Int) : zIx (.list ds) (.int i) = atI ds i := nr rfl
theorem zNeg_i (i : Int) : zNeg (.int i) = some (.int (-i)) := nr rfl
theorem zLen_l (ds : List PyData) : zLen [.list ds] = some (.int ds.length) := nr rfl
theorem zLen_t (ds : List PyData) : zLen [.tuple ds] = some (.int ds.length) := nr rfl
theorem zAbs_i (i : Int) : zAbs [.int i] = some (.int (if i < 0 then -i else i)) := nr rfl
theorem zInt_b (b : Bool) : zInt [.bool b] = some (.int (if b then 1 else 0)) := nr rfl
theorem zInt_i (i : Int) : zInt [.int i] = some (.int i) := nr rfl
theorem zListV_l (ds : List PyData) : zListV [.list ds] = some (.list ds) := nr rfl
theorem zListV_t (ds : List PyData) : zListV [.tuple ds] = some (.list ds) := nr rfl
theorem zList_l (ds : List PyData) : zList [.list ds] = some ds := nr rfl
theorem zList_t (ds : List PyData) : zList [.tuple ds] = some ds := nr rfl
theorem zTuple_l (ds : List PyData) : zTuple [.list ds] = some (.tuple ds) := nr rfl
theorem zTuple_t (ds : List PyData) : zTuple [.tuple ds] = some (.tuple ds) := nr rfl
theorem allB_map : ∀ bs : List Bool, allB (bs.map PyData.bool) = some bs
  | [] => rfl
  | b :: bs => by rw [List.map_cons]; unfold allB; rw [allB_map bs]; rfl
theorem zAll_l (bs : List Bool) : zAll [.list (bs.map PyData.bool)] = some (.bool (bs.all id)) := by unfold zAll; simp only [allB_map]; rfl
theorem zAny_l (bs : List Bool) : zAny [.list (bs.map PyData.bool)] = some (.bool (bs.any id)) := by unfold zAny; simp only [allB_map]; rfl
theorem zAll_m {α : Type} (xs : List α) (f : α → Bool) : zAll [.list (xs.map fun x => .bool (f x))] = some (.bool (xs.all f)) := by
  have e : (xs.map fun x => PyData.bool (f x)) = (xs.map f).map PyData.bool := by rw [List.map_map]; rfl
  rw [e, zAll_l, List.all_map]; rfl
theorem zSlV_l (ds : List PyData) (l h : Option Int) : zSlV (.list ds) l h = some (.list (cutD ds l h)) := nr rfl
theorem zSlV_t (ds : List PyData) (l h : Option Int) : zSlV (.tuple ds) l h = some (.tuple (cutD ds l h)) := nr rfl
theorem zIsN_a (x : PyData) : zIsN x .none = some (.bool (isNone x)) := nr rfl
theorem zNotN_a (x : PyData) : zNotN x .none = some (.bool (!isNone x)) := nr rfl
theorem rng1_a {j : Int} (h1 : -4611686018427387903 ≤ j) (h2 : j < 4611686018427387904) : rng1 [.int j] = some (rgD 0 j.toNat) := by
  have h : fitR j = true := Nat.ble_eq_true_of_le (by omega)
  unfold rng1; simp only [h, if_true]
theorem rng1_n {n : Nat} (h : n ≤ 1000000) : rng1 [.int (n : Int)] = some (rgD 0 n) := by
  rw [rng1_a (by omega) (by omega)]; simp
theorem lcL_map {α : Type} {g : MG} {mt : MT} {me : ME} {ρ : List Slot} {enc : α → PyData} {F : α → List Slot → List Slot} {out : α → PyData} : ∀ {xs : List α}, (∀ x ∈ xs, g (enc x) = some (F x)) → (∀ x ∈ xs, mt (F x ρ) = .ok true) → (∀ x ∈ xs, me (F x ρ) = .ok (out x)) →
    lcL g mt me ρ (xs.map enc) = .ok (xs.map out)
  | [], _, _, _ => rfl
  | x :: xs, h1, h2, h3 => by
    have ih := lcL_map (fun y hy => h1 y (List.mem_cons_of_mem _ hy)) (fun y hy => h2 y (List.mem_cons_of_mem _ hy)) (fun y hy => h3 y (List.mem_cons_of_mem _ hy))
    rw [List.map_cons, lcL_cons, h1 x (List.mem_cons_self ..)]
    simp only [h2 x (List.mem_cons_self ..), h3 x (List.mem_cons_self ..), ih, Rz.calm_ok, Rz.bind_ok, List.map_cons]
theorem seq_step {a b : MS} {ρ ρ' : List Slot} {r : Rs} (h : a ρ = .nx ρ') (h2 : b ρ' = r) : kSeq a b ρ = r := by rw [kSeq_a, h]; exact h2
theorem forL_id {α : Type} {g : MG} {wp : List Nat} {b : MS} {enc : α → PyData} {F : α → List Slot → List Slot} {ρ : List Slot} : ∀ {xs : List α}, (∀ x ∈ xs, g (enc x) = some (F x)) → (∀ x ∈ xs, ∃ ρ', b (F x ρ) = .nx ρ' ∧ wipeS ρ' wp = ρ) → forL g wp b (xs.map enc) ρ = .nx ρ
  | [], _, _ => rfl
  | x :: xs, h1, h2 => by
    obtain ⟨ρ', e1, e2⟩ := h2 x (List.mem_cons_self ..)
    have ih := forL_id (fun y hy => h1 y (List.mem_cons_of_mem _ hy)) (fun y hy => h2 y (List.mem_cons_of_mem _ hy))
    rw [List.map_cons, forL_cons, h1 x (List.mem_cons_self ..)]
    simp only [e1, e2]
    exact ih
theorem forL_ex {α : Type} {g : MG} {wp : List Nat} {b : MS} {enc : α → PyData} {F : α → List Slot → List Slot} (P : Nat → List Slot → Prop) : ∀ (xs : List α) (k : Nat) (ρ : List Slot), (∀ x ∈ xs, g (enc x) = some (F x)) → P k ρ →
    (∀ i x ρ, xs[i]? = some x → P (k + i) ρ → ∃ ρ', b (F x ρ) = .nx ρ' ∧ P (k + i + 1) (wipeS ρ' wp)) → ∃ ρ', forL g wp b (xs.map enc) ρ = .nx ρ' ∧ P (k + xs.length) ρ'
  | [], k, ρ, _, hp, _ => ⟨ρ, rfl, hp⟩
  | x :: xs, k, ρ, h1, hp, h2 => by
    obtain ⟨ρ', e1, e2⟩ := h2 0 x ρ rfl hp
    obtain ⟨ρ2, e3, e4⟩ := forL_ex P xs (k + 1) (wipeS ρ' wp) (fun y hy => h1 y (List.mem_cons_of_mem _ hy)) e2 (fun i y ρ hi hp => by
      have := h2 (i + 1) y ρ hi (by rw [show k + (i + 1) = k + 1 + i from by omega]; exact hp)
      rw [show k + (i + 1) + 1 = k + 1 + i + 1 from by omega] at this
      exact this)
    refine ⟨ρ2, ?_, by rw [List.length_cons, show k + (xs.length + 1) = k + 1 + xs.length from by omega]; exact e4⟩
    rw [List.map_cons, forL_cons, h1 x (List.mem_cons_self ..)]
    simp only [e1, e3]
end Lw

set_option Elab.async false
set_option linter.all false
set_option maxRecDepth 100000
set_option maxHeartbeats 4000000
set_option autoImplicit false
namespace Lw
open PySem PySem.Spec PyProof.Rows L2 HotX L2H LwM LwZ
structure CalH (P : Program) (w : World) (K : PySem.W.Frag) (mg : Str → Option Value) (base : Heap) (k : Nat) (x : Str) (ps : List Str) (sp : Addr → Value → Option Addr → Sp) : Prop where
  ex : ∃ (f : Addr) (fd : FuncData), FnHX P w K mg base CX0 k f fd ps sp ∧ mg x = some (.ref f) ∧ PySem.W.keepIn K (.ref f) = true ∧ Binds K fd ps []
section
variable {X : Cx} {k j : Nat} {f : Addr} {fd : FuncData} {ps : List Str} {sp : Addr → Value → Option Addr → Sp} {x : Str} {q pos : Pos} {e : Expr} {es : List Expr} {t : TA} {p : Addr × Obj} {cls : Value} {d : Option Addr}
theorem run_fnHX {pins : List (Addr × Obj)} {σ : L2.St} {H : Hp} {s : Shared} {Q : VK} {us : List Value} {vs : List V} (F : FnHX X.prog X.w X.K X.mg X.base CX0 k f fd ps sp) (hr : RoomH k X.A) (hot : Hot1 X.A p) (hp : p ∈ X.pn) (hz : Zc cls d p.2) (hb : Binds X.K fd ps [])
    (I : Inv X pins σ H s) (r : Vals vs us) (h : sp p.1 cls d vs H Q (fun _ _ _ => False)) : wpAny (model X.prog X.w) X.A (call (.ref f) us) (EP X pins σ Q) X.xe s := by
  have hl : us.length = ps.length := by rw [← r.length]; exact F.len _ _ _ _ _ _ _ h
  have b := hb s us I.kIn (by rw [List.append_nil]; exact hl)
  rw [List.append_nil] at b
  have P1 := I.pin p (List.mem_append_left _ hp)
  have hpin : PinOk X.stack H s p := ⟨P1.1, P1.2.1, fun hm => (List.mem_cons.mp (I.stkSub p.1 hm)).elim P1.2.2.1 P1.2.2.2.1, P1.2.2.2.2⟩
  refine wpAny_call (codeAny_mono (F.run X.A X.stack s H ⟨us, []⟩ us vs Q _ p cls d hr hot hz hpin I.env0 b r h) fun r s' hq => ?_)
  cases r with
  | error e => exact False.elim hq
  | ok fl =>
    cases fl with
    | ret u => exact I.after hq
    | next => exact False.elim hq
    | brk => exact False.elim hq
    | cont => exact False.elim hq
theorem pe_callH1 (c : CalH X.prog X.w X.K X.mg X.base k x ps sp) (hr : RoomH j X.A) (hot : Hot1 X.A p) (hp : p ∈ X.pn) (hz : Zc cls d p.2) (hg : Gl X x)
    (ha : PA X (e :: es) t) (hk : k ≤ j := by decide) (hdb : (x == ("__debug__" : Str)) = false := by decide) (he : starEach (e :: es) X.env = (false, eval e X.env) :: starEach es X.env := by rfl) (hpl : (backTo pos (starEach es X.env)).any (·.1) = false := by rfl) :
    PE X (.Call (.Name x q) (e :: es) [] pos) (tCallS (sp p.1 cls d) (fun _ _ _ _ => False) t) := by
  obtain ⟨f, fd, F, hm, hkp, hb⟩ := c.ex
  refine ⟨fun pins s σ H Q I h => ?_⟩
  refine wpAny_Call_Name_kw (ld_glob I hg hm ?_ hdb)
  refine PySem.W.callWith_K (h₀ := X.base) I.ok.mod.kin hkp (thn (ha.run pos pins s σ H _ I h) fun us s1 ⟨vs, H1, I1, r, q⟩ => ⟨I1.kIn, ?_⟩) he hpl
  exact run_fnHX F (hr.mono hk) hot hp hz hb I1 r q
theorem pe_callH2 {a : Addr} {oe : Obj} (c : CalH X.prog X.w X.K X.mg X.base k x ps sp) (hr : RoomH j X.A) (hot : Hot1 X.A (a, oe)) (hp : (a, oe) ∈ X.pn) (hz : Zc cls d oe) (hg : Gl X x)
    (ha : PA X (e :: es) t) (hk : k ≤ j := by decide) (hdb : (x == ("__debug__" : Str)) = false := by decide) (he : starEach (e :: es) X.env = (false, eval e X.env) :: starEach es X.env := by rfl) (hpl : (backTo pos (starEach es X.env)).any (·.1) = false := by rfl) :
    PE X (.Call (.Name x q) (e :: es) [] pos) (tCallS (sp a cls d) (fun _ _ _ _ => False) t) := pe_callH1 (p := (a, oe)) c hr hot hp hz hg ha hk hdb he hpl
end
section
variable {P : Program} {w : World} {K : PySem.W.Frag} {T : Tb} {mg : Str → Option Value} {base : Heap}
theorem fnHZ {x : Str} {st : Stmt} {f : Addr} {fd : FuncData} {N ps : List Str} {k : Nat} {m : MS} {n np : Nat} (F : FnQ K x st [] [] f fd) (S : FnScope N ps (defScope st)) (hn : N.length = n) (hp : ps.length = np)
    (hbody : ∀ (cdv : Value) (A : Around) (outer : List Env) (s : Shared) (H : Hp) (E : XK) (p : Addr × Obj), Hot1 A p → RoomH k (A.deeper (PyProof.Rows.envOfC x (defScope st) s.heap.objs.size f cdv)) →
      ∃ t, PSs (cxH CX0 P w K mg base N x (defScope st) f cdv A outer s H E p).nox (defBody st) t ∧ SimS K T .no t (fun _ _ _ _ => False) m) :
    FnHX P w K mg base CX0 (k + 1) f fd ps (fun _ _ _ => spZ K T .no fun ds => (fnD np n m ds).calm) := by
  obtain ⟨oc, od, dV, kV, doc, pm, an, cdv, ct, osl, rfl, lk, hcd, _, _⟩ := F.ex
  subst hn hp
  have len : ∀ (vs : List V) (H : Hp) (Q : VK) (E : XK), spZ K T .no (fun ds => (fnD ps.length N.length m ds).calm) vs H Q E → vs.length = ps.length := fun vs H Q E h => by
    obtain ⟨ds, S', l, hd, hR⟩ := h
    rw [hd.len]
    by_cases hl : ds.length = ps.length
    · exact hl
    · unfold fnD at hR
      simp only [if_neg hl] at hR
      exact hR.elim
  refine fn_ofHX lk hcd S (fun a cls d => len) fun A outer s H vs Q E p cls d hot hz hf hr h => ?_
  have hl := len _ _ _ _ h
  obtain ⟨ds, S', l, hd, hR⟩ := h
  have hld : ds.length = ps.length := hd.len ▸ hl
  obtain ⟨t, pt, sm⟩ := hbody cdv A outer s H E p hot hr
  refine ⟨t, pt.nox, ?_⟩
  refine sm (slots N.length ds) H (hide H S') S' { nx := fun _ H' => Q .non H', rt := Q } ?_ _ _ ⟨S', gd_start l hd⟩
  unfold fnD at hR
  simp only [if_pos hld] at hR
  cases hm : m (slots N.length ds) with
  | nx ρ' =>
    rw [hm] at hR
    exact fun σ H' ⟨S2, g⟩ => hR .non H' g.ext .non
  | rt d => rw [hm] at hR; exact hR
  | bk ρ' => rw [hm] at hR; exact hR.elim
  | rs r ρ' => rw [hm] at hR; exact hR.elim
  | ro j ρ' => rw [hm] at hR; exact hR.elim
  | ct ρ' => rw [hm] at hR; exact hR.elim
  | ex y ρ' => rw [hm] at hR; exact hR.elim
  | bad => rw [hm] at hR; exact hR.elim
end
end Lw

set_option Elab.async false
set_option linter.all false
set_option maxRecDepth 100000
set_option maxHeartbeats 4000000
set_option autoImplicit false
namespace Lw
open PySem PySem.Spec PyProof.Rows L2 HotX L2H LwM LwZ LamX
abbrev lamN (X : Cx) (A : Around) (outer : List Env) (s : Shared) (H : Hp) (E : XK) (scope : Scope) (f c' : Addr) : Cx := (lamCx X A outer s H E scope f c').wish
  fun e s' => wpAny (model X.prog X.w) (A.deeper (lamEnv X scope s.heap.objs.size f c')) (leaving (lamEnv X scope s.heap.objs.size f c') e) (fun _ s'' => L2N.CX X.prog X.w outer H s E e s'') (fun e' s'' => L2N.CX X.prog X.w outer H s E e' s'') s'
section
variable {X : Cx} {pins : List (Addr × Obj)} {σ : L2.St} {H : Hp} {s : Shared}
theorem pe_actN {CXg : CXT} {Eg : XK} {Ng : List Str} {qg : Str} {sg : Scope} {g f c' : Addr} {cdg pm ctv : Value} {params : Arguments} {body : Expr} {scope : Scope} {k i : Nat} {a : Str} {pn : List (Addr × Obj)} {xe : Value → Shared → Prop} {W : WX} {tb : XK → TE} {p1 p2 : Pos}
    (I : Inv X pins σ H s) (L : LamS X.env.scope scope) (hf : s.heap.get? f = some (PySem.W.kla_obj "<lambda>" (X.env.qual ++ "<lambda>") params body scope (cloFrom X.env.cells scope.names []) pm c' ctv)) (hfn : H f = none) (hfr : f ∉ frs X.stack)
    (hbind : bindArgs (PySem.W.kla_fn "<lambda>" (X.env.qual ++ "<lambda>") params body scope (cloFrom X.env.cells scope.names []) pm (.ref c') ctv) ⟨[], []⟩ = pure [])
    (tk : L2N.Takes ((cxOf CXg X.prog X.w X.K X.mg X.base Ng qg sg g cdg X.A X.stack s H Eg).tr pn xe) W) (hr : Room (k + 1) (X.A.deeper (envOfC qg sg s.heap.objs.size g cdg)))
    (hbody : ∀ (A : Around) (outer : List Env) (s : Shared) (H : Hp) (E : XK), Room k (A.deeper (lamEnv X scope s.heap.objs.size f c')) → PE (lamN X A outer s H E scope f c') body (tb E))
    (hN : Ng[i]? = some a) (hv : Vis sg a) (hd : (a == ("__debug__" : Str)) = false := by decide) (hcd : (a == ("__classdict__" : Str)) = false := by decide) :
    PE ((cxOf CXg X.prog X.w X.K X.mg X.base Ng qg sg g cdg X.A X.stack s H Eg).tr pn xe) (.Call (.Name a p1) [] [] p2)
      (fun σZ HZ Q => σZ[i]? = some (some (.ref f)) ∧ HZ c' = some (CodeO c' (X.env.qual ++ "<lambda>")) ∧ tb (WE W σZ) σ HZ Q) := by
  refine ⟨fun pinsZ sZ σZ HZ Q IZ h => ?_⟩
  obtain ⟨hs, hc, ht⟩ := h
  refine wpAny_Call_Name_kw (thn ((pe_var (pos := p1) (i := i) hN hv hd hcd).run pinsZ sZ σZ HZ (fun v H1 => v = .ref f ∧ H1 = HZ) IZ ⟨.ref f, hs, rfl, rfl⟩) fun u s1 ⟨v, H1, I1, r1, q1⟩ => ?_)
  obtain ⟨ev, eH⟩ := q1
  subst ev
  rw [eH] at I1
  obtain rfl : u = Value.ref f := r1
  have of1 : s1.heap.get? f = some (PySem.W.kla_obj "<lambda>" (X.env.qual ++ "<lambda>") params body scope (cloFrom X.env.cells scope.names []) pm c' ctv) := I1.base.keep f _ hf hfn hfr (fun z => nomatch (show f ∈ ([] : List Addr) from z))
  refine PySem.W.callWith_F0 ⟨_, _, _, _, of1⟩ ?_
  have un : Un (frs X.stack) [] H HZ s.heap s1.heap := I1.base
  obtain ⟨⟨oc, vs, t, hoc, hdc, hvc⟩, _, _⟩ := I1.hok c' _ hc
  have rc : codeAny (model X.prog X.w) (X.A.deeper (envOfC qg sg s.heap.objs.size g cdg)) (.call (.ref f) ⟨[], []⟩) (CR (L2N.CX X.prog X.w) (envOfC qg sg s.heap.objs.size g cdg :: X.stack) X.prog X.w HZ s1 Q (WE W σZ)) s1 := by
    refine PySem.W.kla_callFunE hr.depth of1 rfl L.co L.gen rfl ⟨c', oc, vs, t, rfl, hoc, hdc, hvc⟩ ?_
    rw [hbind]
    refine wpAny_pure (wpAny_newFunctionEnv (fun y hy => (L.own y hy).2) (fun y hy => absurd hy (by simp)) (fun h₁ hns hsb => ⟨I1.nolimit.fresh _ hsb, ?_⟩) L.kind)
    show codeAny _ _ (.expr body (lamEnv X scope s1.heap.objs.size f c')) _ _
    have kp : ∀ b o, s1.heap.get? b = some o → h₁.get? b = some o := fun b o e => hsb.extBut b o (Nat.ne_of_lt (Heap.lt_size e)) (Heap.get?_push_of_some _ e)
    have J : Inv (lamCx X (X.A.deeper (envOfC qg sg s.heap.objs.size g cdg)) (envOfC qg sg s.heap.objs.size g cdg :: X.stack) s1 HZ (WE W σZ) scope f c') [] σ HZ { s1 with heap := h₁, toks := s1.toks + ([] : List (Str × Value)).length } :=
      lam_start2 I L I1.env0 hr.hd un hns kp
    refine PySem.W.kla_codeExpr (wpAny_mono ((hbody _ _ s1 HZ (WE W σZ) (hr.deeper _)).run [] _ _ HZ Q (J.wish _) ht) (fun v s' hq => ?_) fun e s' hq => hq)
    obtain ⟨w', H', J', rv, q⟩ := hq
    exact ⟨w', H', J'.os, J'.bare, J'.base, J'.hok, rv, q⟩
  refine wpAny_call (codeAny_mono rc fun r s' hq => ?_)
  cases r with
  | error e => exact L2N.passAt tk σZ pinsZ HZ s1 e s' I1 hq
  | ok fl =>
    cases fl with
    | ret u => exact I1.after hq
    | next => exact False.elim hq
    | brk => exact False.elim hq
    | cont => exact False.elim hq
end
def GivesN (X : Cx) (k : Nat) (Ng : List Str) (x : Str) (sg : Scope) (g : Addr) (cdg : Value) (bg : List Stmt) (a : Str) (q : Str) (TT : (XK → Hp → VK → Prop) → Hp → VK → Prop) : Prop :=
  ∀ (f c' : Addr) (s : Shared) (H : Hp) (Q : VK) (tl : XK → Hp → VK → Prop), Room k (X.A.deeper (envOfC x sg s.heap.objs.size g cdg)) →
    (∀ (W : WX) (pn : List (Addr × Obj)) (xe : Value → Shared → Prop) (p1 p2 : Pos), L2N.Takes ((cxOf C8.CX0 X.prog X.w X.K X.mg X.base Ng x sg g cdg X.A X.stack s H C8.E0).tr pn xe) W →
      PE ((cxOf C8.CX0 X.prog X.w X.K X.mg X.base Ng x sg g cdg X.A X.stack s H C8.E0).tr pn xe) (.Call (.Name a p1) [] [] p2) (fun σZ HZ Q => σZ[0]? = some (some (.ref f)) ∧ HZ c' = some (CodeO c' q) ∧ tl (WE W σZ) HZ Q)) →
    H c' = some (CodeO c' q) → TT tl H Q →
    ∃ t, PSs (cxOf C8.CX0 X.prog X.w X.K X.mg X.base Ng x sg g cdg X.A X.stack s H C8.E0).nox bg t ∧ t { nx := fun _ H' => Q .non H', rt := Q } (L2.start Ng [.ref f]) H
section
variable {X : Cx}
theorem pe_lamN {T : List (Addr × Str)} {TT : (XK → Hp → VK → Prop) → Hp → VK → Prop} {x a : Str} {g c P : Addr} {k : Nat} {pg : Arguments} {bg : List Stmt} {sg : Scope} {dV kV doc pm cdv ct oc : Value} {an od : Option Addr} {osl : Array (Option Value)} {Ng : List Str}
    {params : Arguments} {body : Expr} {scope : Scope} {t : XK → TE} {p lpos pos : Pos} (hg : Gl X x) (hm : X.mg x = some (.ref g)) (hk : PySem.W.keepIn X.K (.ref g) = true)
    (lk : X.K.lookup g = some ⟨oc, od, .func (PySem.W.fnOf x x pg bg sg dV kV doc pm an cdv ct), osl⟩) (hcg : PySem.W.codeIn X.K cdv x = true) (hb : L2.Binds X.K (PySem.W.fnOf x x pg bg sg dV kV doc pm an cdv ct) [a] []) (Sg : FnScope Ng [a] sg) (hNg : Ng[0]? = some a) (hva : Vis sg a)
    (hG : GivesN X (k + 1) Ng x sg g cdv bg a (X.env.qual ++ "<lambda>") TT)
    (TB : TabB X.base X.mg c P) (hcode : X.env.code = .ref c) (hmT : (P, X.env.qual ++ "<lambda>") ∈ T) (hu : ∀ p ∈ T, p.1 = P → p.2 = X.env.qual ++ "<lambda>") (hr : Room (k + 2) X.A) (L : LamS X.env.scope scope) (hdef : defaultsOf params X.env = ([], []))
    (hbind : ∀ (q : Str) (cl : List (Str × Addr)) (pm cv ctv : Value), bindArgs (PySem.W.kla_fn "<lambda>" q params body scope cl pm cv ctv) ⟨[], []⟩ = pure [])
    (hbody : ∀ (A : Around) (outer : List Env) (s : Shared) (H : Hp) (E : XK) (f c' : Addr), Room k (A.deeper (lamEnv X scope s.heap.objs.size f c')) → PE (lamN X A outer s H E scope f c') body (t E))
    (hdb : (x == ("__debug__" : Str)) = false := by decide) (hd : (a == ("__debug__" : Str)) = false := by decide) (hcd : (a == ("__classdict__" : Str)) = false := by decide) :
    PE X (.Call (.Name x p) [.Lambda params body scope lpos] [] pos) (tLam T TT t) := by
  refine ⟨fun pins s σ H Q I h => ?_⟩
  obtain ⟨hT, h⟩ := h
  refine wpAny_Call_Name_kw (ld_glob I hg hm ?_ hdb)
  refine PySem.W.callWith_K (h₀ := X.base) I.ok.mod.kin hk ?_ (by rfl) (by rfl)
  show wpAny _ _ (spliced ((false, eval (.Lambda params body scope lpos) X.env) :: backTo pos (starEach [] X.env))) _ _ s
  refine Calls.spliced_cons (lam_make2 I TB hcode hmT hu hT hdef (L.has I.ok) fun f c' pm' ctv H1 s' I1 eN T1 hf hfn hfr hco => ?_)
  refine Calls.spliced_nil ⟨I1.kIn, ?_⟩
  have rc : codeAny (model X.prog X.w) X.A (.call (.ref g) ⟨[.ref f], []⟩) (CR C8.CX0 X.stack X.prog X.w H1 s' Q C8.E0) s' := by
    refine run_ofS (N := Ng) (ps := [a]) (us := [.ref f]) (vs := [.ref f]) lk hcg Sg hr I1.env0 (hb s' [.ref f] I1.kIn rfl) (.cons rfl .nil) rfl fun hr' => ?_
    obtain ⟨t', ht', hq'⟩ := hG f c' s' H1 Q (fun E H' Q' => t E σ H' Q') hr' (fun W pn xe p1 p2 tk => pe_actN (i := 0) I1 L hf hfn hfr (hbind _ _ _ _ _) tk hr' (fun A outer s H E hr2 => hbody A outer s H E f c' hr2) hNg hva hd hcd) hco (h H1 eN T1)
    exact ⟨t', ht'.nox, hq'⟩
  refine wpAny_call (codeAny_mono rc fun r s2 hq => ?_)
  cases r with
  | error e => exact (show False from hq).elim
  | ok fl =>
    cases fl with
    | ret u => exact I1.after hq
    | next => exact False.elim hq
    | brk => exact False.elim hq
    | cont => exact False.elim hq
end
end Lw

set_option Elab.async false
set_option linter.all false
set_option maxRecDepth 100000
set_option maxHeartbeats 4000000
set_option autoImplicit false
namespace Lw
open PySem PySem.Spec PyProof.Rows L2 HotX L2H LwM LwZ LamX
def tryD (w : Exn → Option Str) : Rz PyData → Rz PyData
  | .ok d => .ok (.tuple [d, .str ""])
  | .ex x => match w x with
    | some s => .ok (.tuple [.none, .str s])
    | none => .bad
  | .bad => .bad
def xTry (w : Exn → Option Str) (m : ME) : ME := fun ρ => tryD w (m ρ)
section
variable {K : PySem.W.Frag} {T : Tb}
def Beh (K : PySem.W.Frag) (T : Tb) (H : Hp) (S : List Addr) (tl : XK → Hp → VK → Prop) : Rz PyData → Prop
  | .ok d => ∀ (E : XK) (HZ : Hp) (Q : VK), Ext T H HZ → (∀ v H', Ext T HZ H' → Dt K (hide H' S) v d → Q v H') → tl E HZ Q
  | .ex x => ∀ (E : XK) (HZ : Hp) (Q : VK), Ext T H HZ → (∀ d H', Ext T HZ H' → XD K (hide H' S) d x.fs → E (.ref (He.ga K x.cls)) d H') → tl E HZ Q
  | .bad => False
def TTr (K : PySem.W.Frag) (T : Tb) (w : Exn → Option Str) : (XK → Hp → VK → Prop) → Hp → VK → Prop := fun tl H Q => ∃ S o r, LsT T H S ∧ Beh K T H S tl o ∧ tryD w o = .ok r ∧ ∀ v H', Ext T H H' → Dt K (hide H' S) v r → Q v H'
theorem ext_N {H H1 : Hp} (e : ExtN H H1) (t : Tabs T H1) : Ext T H H1 := ⟨fun b o h n => e b o h fun ps z => (by rw [z] at n; cases n), fun _ => t⟩
theorem sim_try {w : Exn → Option Str} {t : XK → TE} {W : WX} {m : ME} (h : ∀ E, SimE K T (t E) (WF E) m) : SimE K T (tLam T (TTr K T w) t) W (xTry w m) := fun ρ => by
  have hh : ∀ E, EzE K T (t E) ρ (WF E) (m ρ) := fun E => h E ρ
  unfold xTry
  cases hm : m ρ with
  | bad => exact True.intro
  | ok d =>
    rw [hm] at hh
    exact fun H0 B C H S σ g Q hQ => ⟨(g.lsT (.refl T H)).2, fun H1 eN T1 => by
      have e1 : Ext T H H1 := ext_N eN T1
      exact ⟨S, .ok d, _, g.lsT e1, fun E HZ Q' eZ hQ' => hh E H0 B C HZ S σ (g.ex (e1.trans eZ)) Q' hQ', rfl, fun v H' e2 d2 => hQ v H' (e1.trans e2) d2⟩⟩
  | ex x =>
    rw [hm] at hh
    show EzE K T _ ρ W (match w x with
      | some s => .ok (.tuple [.none, .str s])
      | none => .bad)
    cases hw : w x with
    | none => exact True.intro
    | some s =>
      exact fun H0 B C H S σ g Q hQ => ⟨(g.lsT (.refl T H)).2, fun H1 eN T1 => by
        have e1 : Ext T H H1 := ext_N eN T1
        exact ⟨S, .ex x, .tuple [.none, .str s], g.lsT e1, fun E HZ Q' eZ hQ' => hh E H0 B C HZ S σ (g.ex (e1.trans eZ)) Q' hQ', (by simp only [tryD, hw]), fun v H' e2 d2 => hQ v H' (e1.trans e2) d2⟩⟩
noncomputable def dRel (R : List PyData → PyData → Prop) (ds : List PyData) : Rz PyData := open Classical in if h : ∃ r, R ds r then .ok h.choose else .bad
theorem sim_rel {R : List PyData → PyData → Prop} {ta : TA} {E : XK} {W : WX} {ma : MA} (h : SimA K T ta W ma) : SimE K T (tCall (spR K T R) [] E ta) W (xF (dRel R) ma) := fun ρ => by
  have a := h ρ
  unfold xF
  cases h1 : ma ρ with
  | bad => exact True.intro
  | ex x => rw [h1] at a; exact fun H0 B C H S σ g Q hQ => a H0 B C H S σ g _ hQ
  | ok ds =>
    rw [h1] at a
    show EzE K T _ ρ W (dRel R ds)
    unfold dRel
    split
    · rename_i hr
      exact ev_call a hr.choose_spec
    · exact True.intro
end
end Lw

set_option Elab.async false
set_option linter.all false
set_option maxRecDepth 100000
set_option maxHeartbeats 4000000
set_option autoImplicit false
namespace Lw
open PySem L2 LwZ
def txS : PyData → Rz Str
  | .str s => .ok s
  | _ => .bad
def xM (f : Str → List PyData → Option PyData) (m : ME) (a : MA) : ME := fun ρ => (m ρ).bind fun x => (txS x).bind fun s => (a ρ).bind fun ds => .of (f s ds)
theorem xM_a {ρ : List Slot} (f : Str → List PyData → Option PyData) (m : ME) (a : MA) : xM f m a ρ = (m ρ).bind fun x => (txS x).bind fun s => (a ρ).bind fun ds => .of (f s ds) := nr rfl
theorem txS_str (s : Str) : txS (.str s) = .ok s := nr rfl
section
variable {K : PySem.W.Frag} {T : Tb} {W : WX} {te : TE} {ta : TA} {m : ME} {ma : MA}
def RM (K : PySem.W.Frag) (T : Tb) (r : V → List V → Hp → VK → Prop) (f : Str → List PyData → Option PyData) : Prop := ∀ s ds z, f s ds = some z →
  ∀ (H : Hp) (S : List Addr) (vs : List V), Lsts H S → DtAll K (hide H S) vs ds → ∀ Q : VK, (∀ u H', Ext T H H' → Dt K (hide H' S) u z → Q u H') → r (.str s) vs H Q
theorem sim_m {r : V → List V → Hp → VK → Prop} {f : Str → List PyData → Option PyData} (hr : RM K T r f) (h : SimE K T te W m) (h' : SimA K T ta W ma) : SimE K T (tBM K "str" r te ta) W (xM f m ma) := fun ρ => by
  have a := h ρ
  have b := h' ρ
  unfold xM
  cases h1 : m ρ with
  | bad => exact True.intro
  | ex x => rw [h1] at a; exact fun H0 B C H S σ g Q hQ => a H0 B C H S σ g _ hQ
  | ok x =>
    rw [h1] at a
    show EzE K T _ ρ W ((txS x).bind fun s => (ma ρ).bind fun ds => .of (f s ds))
    cases x with
    | str s =>
      show EzE K T _ ρ W ((ma ρ).bind fun ds => .of (f s ds))
      cases h2 : ma ρ with
      | bad => exact True.intro
      | ex y =>
        rw [h2] at b
        exact fun H0 B C H S σ g Q hQ => a H0 B C H S σ g _ fun v H1 e1 d1 => by
          cases d1
          exact ⟨rfl, b H0 B C H1 S σ (g.ex e1) _ fun d H2 e2 xd => hQ d H2 (e1.trans e2) xd⟩
      | ok ds =>
        rw [h2] at b
        show EzE K T _ ρ W (Rz.of (f s ds))
        cases h3 : f s ds with
        | none => exact True.intro
        | some z =>
          exact fun H0 B C H S σ g Q hQ => a H0 B C H S σ g _ fun v H1 e1 d1 => by
            cases d1
            exact ⟨rfl, b H0 B C H1 S σ (g.ex e1) _ fun vs H2 e2 d2 => hr s ds z h3 H2 S vs ((g.lst.kp e1.kp).kp e2.kp) d2 Q fun u H' e3 d3 => hQ u H' (e1.trans (e2.trans e3)) d3⟩
    | _ => exact True.intro
def rSpl : V → List V → Hp → VK → Prop := fun x xs H Q => ∃ a b, x = .str a ∧ xs = [.str b] ∧ (b.length == 0) = false ∧ a.length + 2 ≤ sizeLine ∧ rNewStrs (Txt.split a b) H Q
theorem mt_spl {X : Cx} : MtR X "str.split" rSpl := mt_split
def zSpl (a : Str) : List PyData → Option PyData
  | [.str b] => if (b.length == 0) = false ∧ a.length ≤ 1000000 then some (.list ((Txt.split a b).map .str)) else none
  | _ => none
theorem DtAll.strs {H : Hp} : ∀ (ys : List Str), DtAll K H (ys.map V.str) (ys.map PyData.str)
  | [] => .nil
  | y :: ys => .cons (.str y) (DtAll.strs ys)
theorem r_spl : RM K T rSpl zSpl := fun s ds z h H S vs l d Q hQ => by
  unfold zSpl at h
  split at h
  · rename_i b
    split at h
    · rename_i hc
      cases h
      cases d with | cons d1 d2 =>
      cases d2
      cases d1
      refine ⟨s, b, rfl, rfl, hc.1, ?_, fun p hp => ?_⟩
      · have : (1000002 : Nat) ≤ sizeLine := by decide
        have := hc.2
        omega
      · exact hQ _ _ (.new hp) (.lst (hide_at l (.of hp) rfl) (DtAll.strs _))
    · cases h
  · cases h
def rJn (K : PySem.W.Frag) : V → List V → Hp → VK → Prop := fun x xs H Q => ∃ a p, ∃ ys : List Str, x = .str a ∧ xs = [.ref p] ∧ (SqL K H p (ys.map V.str) ∨ SqT K H p (ys.map V.str)) ∧
    (ys.map (·.length)).sum + ys.length * a.length ≤ 16777216 ∧ Q (.str (Txt.join a ys)) H
theorem mt_jn {X : Cx} (K : PySem.W.Frag) (h : X.K = K := by rfl) : MtR X "str.join" (rJn K) := h ▸ mt_join
def asStrs : List PyData → Option (List Str)
  | [] => some []
  | .str s :: r => (asStrs r).map (s :: ·)
  | _ => none
theorem asStrs_eq : ∀ {ds : List PyData} {ys : List Str}, asStrs ds = some ys → ds = ys.map .str
  | [], ys, h => by cases h; rfl
  | d :: ds, ys, h => by
    cases d with
    | str s =>
      simp only [asStrs, Option.map_eq_some_iff] at h
      obtain ⟨zs, h1, rfl⟩ := h
      rw [asStrs_eq h1]
      rfl
    | _ => simp [asStrs] at h
def zJn (a : Str) : List PyData → Option PyData
  | [.list ds] => match asStrs ds with
    | some ys => if (ys.map (·.length)).sum + ys.length * a.length ≤ 16777216 then some (.str (Txt.join a ys)) else none
    | none => none
  | _ => none
theorem r_jn : RM K T (rJn K) zJn := fun s ds z h H S vs l d Q hQ => by
  unfold zJn at h
  split at h
  · rename_i ds
    split at h
    · rename_i ys hy
      split at h
      · rename_i hc
        cases h
        cases d with | cons d1 d2 =>
        cases d2
        cases d1 with | lst h1 h2 =>
        rw [asStrs_eq hy] at h2
        have e := h2.strs_inv
        subst e
        exact ⟨s, _, ys, rfl, rfl, .inl (SqL.of (hide_get h1)), hc, hQ _ _ (.refl T H) (.str _)⟩
      · cases h
    · cases h
  · cases h
end
end Lw

set_option Elab.async false
set_option linter.all false
set_option maxRecDepth 100000
set_option maxHeartbeats 4000000
set_option autoImplicit false
namespace Lw
open PySem L2
def dd (x : Str) (st : Stmt) (dfl : List He.Dv) : He.DefD := ⟨(x, none), x, x, defArgs st, defBody st, defScope st, dfl, []⟩
theorem cal_mk {P : Program} {w : World} {K : PySem.W.Frag} {mg : Str → Option Value} {base : Heap} {k : Nat} {x : Str} {ps : List Str} {sp : Sp} {f : Addr} {fd : FuncData}
    (G : FnOk P w K mg base CX0 k f fd ps sp) (m : mg x = some (.ref f)) (kp : PySem.W.keepIn K (.ref f) = true) (b : Binds K fd ps []) : Cal P w K mg base k x ps [] sp := ⟨f, fd, [], G, m, kp, b, .nil⟩
theorem calX_mk {P : Program} {w : World} {K : PySem.W.Frag} {mg : Str → Option Value} {base : Heap} {k : Nat} {x : Str} {ps : List Str} {sp : Sp} {f : Addr} {fd : FuncData}
    (G : FnOk P w K mg base (L2N.CX P w) k f fd ps sp) (m : mg x = some (.ref f)) (kp : PySem.W.keepIn K (.ref f) = true) (b : Binds K fd ps []) : CalX P w K mg base k x ps [] sp := ⟨f, fd, [], G, m, kp, b, .nil⟩
theorem calX_mkD {P : Program} {w : World} {K : PySem.W.Frag} {mg : Str → Option Value} {base : Heap} {k : Nat} {x : Str} {ps : List Str} {dvs : List V} {sp : Sp} {f : Addr} {fd : FuncData}
    (G : FnOk P w K mg base (L2N.CX P w) k f fd ps sp) (m : mg x = some (.ref f)) (kp : PySem.W.keepIn K (.ref f) = true) (b : ∃ ds, Vals dvs ds ∧ Binds K fd ps ds) : CalX P w K mg base k x ps dvs sp :=
  let ⟨ds, v, b⟩ := b; ⟨f, fd, ds, G, m, kp, b, v⟩
theorem sql_hide {K : PySem.W.Frag} {H : Hp} {a : Addr} {xs : List V} (h : SqL K H a xs) : SqL K (hide H []) a xs := by
  have e : ∀ (b : Addr) (o : HO), H b = some o → isTbl o = false → hide H [] b = some o := fun b o h n => hide_some.mpr ⟨fun z => (by cases z), h, n⟩
  rcases h with (h | ⟨o, h⟩) | h
  · exact .inl (.inl (e _ _ h rfl))
  · exact .inl (.inr ⟨o, e _ _ h rfl⟩)
  · exact .inr h
theorem law_wish {K : PySem.W.Frag} {T : Tb} {H : Hp} {a : Addr} {ns : List Int} (hl : ns.length ≤ 63) (hS : SqL K H a (ns.map V.int)) (hT : LamX.Tabs T H) : spA K T Rlaw [.ref a] H (fun v _ => v = .bl true) fun _ _ _ => False :=
  ⟨[.scr (ns.map .int)], _, [], ⟨fun q hq => (by cases hq), hT⟩, .scr (sql_hide hS) DtAll.ints .nil, ⟨ns, hl, rfl, rfl⟩, fun r hr v H' _ dv => by
    subst hr
    cases dv
    rfl⟩
end Lw

set_option Elab.async false
set_option linter.all false
set_option maxRecDepth 100000
set_option maxHeartbeats 4000000
set_option autoImplicit false
namespace Lw
open PySem L2 LwZ
abbrev AlQ : Type := He.AlD × Bool
def tabQ (g : Addr → Option Obj) (tf : List He.Defn) (K : PySem.W.Frag) : Bool := He.tabsB g tf K && decide (tf.map fun p => (He.cT K p).2).Nodup
structure SaysQ (fa : List He.Fa) (fn : List He.DefD) (tf : List He.Defn) (ck : PySem.W.Frag → Bool) (h : Heap) (K : PySem.W.Frag) : Prop where
  d : He.SaysD fa fn K
  ck : ck K = true
  hd : ∀ p ∈ tf, PySem.W.codeHdIn K (He.cT K p).1 (He.cT K p).2 = true
  out : ∀ p ∈ tf, K.lookup (He.cT K p).2 = none
  empty : ∀ p ∈ tf, h.get? (He.cT K p).2 = some { cls := .none, data := .fields #[] }
  nd : (tf.map fun p => (He.cT K p).2).Nodup
def tabT (tf : List He.Defn) (K : PySem.W.Frag) : Tb := tf.map fun p => ((He.cT K p).2, p.1 ++ (".<locals>." : Str) ++ ("<lambda>" : Str))
theorem tabT_mem {tf : List He.Defn} {K : PySem.W.Frag} {p : He.Defn} (h : p ∈ tf) : ((He.cT K p).2, p.1 ++ (".<locals>." : Str) ++ ("<lambda>" : Str)) ∈ tabT tf K := List.mem_map.mpr ⟨p, h, rfl⟩
theorem nodup_inj {α β : Type} {f : α → β} : ∀ {l : List α}, (l.map f).Nodup → ∀ {a b : α}, a ∈ l → b ∈ l → f a = f b → a = b
  | [], _, a, b, ha, _, _ => by cases ha
  | x :: l, h, a, b, ha, hb, e => by
    rw [List.map_cons, List.nodup_cons] at h
    rcases List.mem_cons.mp ha with e1 | h1
    · rcases List.mem_cons.mp hb with e2 | h2
      · rw [e1, e2]
      · exact absurd (List.mem_map.mpr ⟨b, h2, by rw [← e, e1]⟩) h.1
    · rcases List.mem_cons.mp hb with e2 | h2
      · exact absurd (List.mem_map.mpr ⟨a, h1, by rw [e, e2]⟩) h.1
      · exact nodup_inj h.2 h1 h2 e
theorem tabT_one {tf : List He.Defn} {K : PySem.W.Frag} (nd : (tf.map fun p => (He.cT K p).2).Nodup) {p : He.Defn} (h : p ∈ tf) : ∀ q ∈ tabT tf K, q.1 = (He.cT K p).2 → q.2 = p.1 ++ (".<locals>." : Str) ++ ("<lambda>" : Str) := fun q hq e => by
  obtain ⟨r, hr, rfl⟩ := List.mem_map.mp hq
  rw [nodup_inj nd hr h e]
theorem tabs_start {tf : List He.Defn} {K : PySem.W.Frag} {H : Hp} (h : ∀ p ∈ tf.map (He.cT K), H p.2 = some (.tbl #[])) : LamX.Tabs (tabT tf K) H := fun q hq => by
  obtain ⟨r, hr, rfl⟩ := List.mem_map.mp hq
  exact LamX.TabS.nil (h _ (List.mem_map.mpr ⟨r, hr, rfl⟩))
theorem walk_ofTE {l : PySem.W.OpenLaw} {n k : Nat} {q : Program} {loose : List Str} {XP : (Str → Option Value) → Heap → Prop} {YP : World → Heap → Prop} {d : DefRec} {CX : CXT} {x : Str}
    (hn : l.most = some n) (hn2 : n ≤ sizeLine) (hdf : d.params.defaults = []) (hr : Room k callerA)
    (F : ∀ (w : World) (mg : Str → Option Value) (fa : Addr) (h : Heap), YP w h → h.Ns mainGlobals mg → mg d.name = some (.ref fa) → ∃ K : PySem.W.Frag, K.In h ∧ LamX.LawAtS l w K CX k n x mg fa h)
    (hCX : ∀ (H : Hp) (s : Shared) (e : Value) (s' : Shared), CX [] H s (fun _ _ _ => False) e s' → False) :
    PySem.W.WalkO q loose XP YP l.row.toRowW d [] (fun f vs => PySem.call f vs) := by
  refine Att.attach_callB hn hdf fun w s₀ s₁ mg mb fa o pm cd doc a vs ns G Y ho hd hcd hmg hobj hints hlen hbits hg => ?_
  obtain ⟨K, KX, fd, cs, sp, hT, nT, C, hb, hsp, hF⟩ := F w mg fa _ Y G.T.g hmg
  exact LamX.law_callTs KX G.T.g G.T.b G.T.builtins G.T.nolimit hg hT nT C G.T.bmain hobj hints (Nat.le_trans hlen hn2) hr hF hb (fun H hH hS => hsp H a ns hlen hbits hH hS) fun H e s' => hCX H s₁ e s'
end Lw

set_option Elab.async false
set_option linter.all false
set_option maxRecDepth 100000
set_option maxHeartbeats 4000000
set_option autoImplicit false
namespace Lw
open PySem PySem.Spec PyProof.Rows L2 LwZ
section
variable {K : PySem.W.Frag} {T : Tb}
end
end Lw

set_option Elab.async false
set_option linter.all false
set_option maxRecDepth 100000
set_option maxHeartbeats 4000000
set_option autoImplicit false
namespace Lw
open PySem L2 LwZ
def yVw (m : MT) : MT := fun ρ => match m (ρ.map Slot.view) with
  | .ok b => .ok b
  | _ => .bad
def flatT : PyData → Bool
  | .tuple ds => ds.all scalD
  | d => scalD d
def xVw (m : ME) : ME := fun ρ => match m (ρ.map Slot.view) with
  | .ok d => if flatT d then .ok d else .bad
  | _ => .bad
def kClr (i : Nat) : MS := fun ρ => match ownL ρ[i]? with
  | some _ => .nx (ρ.set i (.own (.lst [])))
  | none => .bad
section
variable {K : PySem.W.Frag} {T : Tb} {W : WX} {fr : Fr}
end
section
variable {K : PySem.W.Frag} {T : Tb} {W : WX} {ta tk : TA} {ma mk : MA} {F : List PyData → Rz PyData} {n m : Nat} {gV : List V → List V → List V} {gD : List PyData → List PyData → List PyData}
end
section
variable {ρ : List Slot}
theorem yVw_a (m : MT) : yVw m ρ = (match m (ρ.map Slot.view) with | .ok b => .ok b | _ => .bad) := nr rfl
theorem xVw_a (m : ME) : xVw m ρ = (match m (ρ.map Slot.view) with | .ok d => if flatT d then .ok d else .bad | _ => .bad) := nr rfl
theorem flatT_r (q : Rat) : flatT (encR q) = true := nr rfl
theorem kClr_a (i : Nat) : kClr i ρ = (match ownL ρ[i]? with | some _ => .nx (ρ.set i (.own (.lst []))) | none => .bad) := nr rfl
theorem view_no : Slot.view .no = .no := nr rfl
theorem view_dat (d : PyData) : Slot.view (.dat d) = .dat d := nr rfl
theorem view_own (ds : List PyData) : Slot.view (.own (.lst ds)) = .dat (.list ds) := nr rfl
theorem view_scr (ds : List PyData) : Slot.view (.scr ds) = .scr ds := nr rfl
end
end Lw

set_option Elab.async false
set_option linter.all false
set_option maxRecDepth 100000
set_option maxHeartbeats 4000000
set_option autoImplicit false
namespace Lw
open PySem L2 LwZ
section
variable {K : PySem.W.Frag} {T : Tb} {H0 B : Hp} {C : List Addr} {H H' : Hp} {S : List Addr} {σ : St} {ρ : List Slot}
end
def kNst (f0 f1 : MA) (x : Nat) (mt : MT) : MS := fun ρ => match f0 ρ with
  | .ok d0 => match f1 ρ with
    | .ok d1 => if d0.length < 1000000 ∧ d1.length < 1000000 ∧ x < ρ.length then (match mt ((ρ.map Slot.view).set x (.dat (.list [.list d0, .list d1]))) with
      | .ok true => .rt (.bool false)
      | .ok false => .nx (ρ.set x .no)
      | _ => .bad) else .bad
    | _ => .bad
  | _ => .bad
theorem kNst_a (f0 f1 : MA) (x : Nat) (mt : MT) (ρ : List Slot) : kNst f0 f1 x mt ρ = (match f0 ρ with
  | .ok d0 => match f1 ρ with
    | .ok d1 => if d0.length < 1000000 ∧ d1.length < 1000000 ∧ x < ρ.length then (match mt ((ρ.map Slot.view).set x (.dat (.list [.list d0, .list d1]))) with
      | .ok true => .rt (.bool false)
      | .ok false => .nx (ρ.set x .no)
      | _ => .bad) else .bad
    | _ => .bad
  | _ => .bad) := nr rfl
section
variable {K : PySem.W.Frag} {T : Tb} {W : WX}
end
section
variable {K : PySem.W.Frag} {T : Tb} {ρ : List Slot} {wi wi1 : TI} {te : TE} {vs vs1 : List Nat} {items : List PyData} {i0 i1 : Nat}
end
def lc2F (vs1 : List Nat) (i0 i1 : Nat) (mi1 : MA) (me : ME) (ρ : List Slot) (d : PyData) : Rz (List PyData) := (mi1 (ρ.set i0 (.dat d))).calm.bind fun items => lcL (gN i1) yYes me (wipeS (ρ.set i0 (.dat d)) vs1) items
def lc2L (vs1 : List Nat) (i0 i1 : Nat) (mi1 : MA) (me : ME) (ρ : List Slot) : List PyData → Rz (List PyData)
  | [] => .ok []
  | d :: ds => (lc2F vs1 i0 i1 mi1 me ρ d).calm.bind fun ys => (lc2L vs1 i0 i1 mi1 me ρ ds).calm.bind fun zs => .ok (ys ++ zs)
def fLc2 (vs vs1 : List Nat) (i0 i1 : Nat) (mi mi1 : MA) (me : ME) : MA := fun ρ => (mi ρ).bind fun items => (lc2L vs1 i0 i1 mi1 me (wipeS ρ vs) items).calm.bind fun ys => if ys.length ≤ 1000000 then .ok ys else .bad
section
variable {vs vs1 : List Nat} {i0 i1 : Nat} {mi mi1 : MA} {me : ME} {ρ : List Slot}
theorem fLc2_a : fLc2 vs vs1 i0 i1 mi mi1 me ρ = (mi ρ).bind fun items => (lc2L vs1 i0 i1 mi1 me (wipeS ρ vs) items).calm.bind fun ys => if ys.length ≤ 1000000 then .ok ys else .bad := nr rfl
end
section
variable {K : PySem.W.Frag} {T : Tb} {W W' : WX} {wi wi1 : TI} {te : TE} {vs vs1 : List Nat} {i0 i1 : Nat} {mi mi1 : MA} {me : ME}
end
def fPk2 (f0 f1 : MA) (mi : ME) : MA := fun ρ => (f0 ρ).calm.bind fun a => (f1 ρ).calm.bind fun b => (mi ρ).calm.bind fun d => match asI d with
  | some i => if i = 0 then .ok a else if i = 1 then .ok b else .bad
  | none => .bad
def fPk3 (f0 f1 f2 : MA) (mi : ME) : MA := fun ρ => (f0 ρ).calm.bind fun a => (f1 ρ).calm.bind fun b => (f2 ρ).calm.bind fun c => (mi ρ).calm.bind fun d => match asI d with
  | some i => if i = 0 then .ok a else if i = 1 then .ok b else if i = 2 then .ok c else .bad
  | none => .bad
theorem fPk2_a (f0 f1 : MA) (mi : ME) (ρ : List Slot) : fPk2 f0 f1 mi ρ = (f0 ρ).calm.bind fun a => (f1 ρ).calm.bind fun b => (mi ρ).calm.bind fun d => match asI d with
  | some i => if i = 0 then .ok a else if i = 1 then .ok b else .bad
  | none => .bad := nr rfl
theorem fPk3_a (f0 f1 f2 : MA) (mi : ME) (ρ : List Slot) : fPk3 f0 f1 f2 mi ρ = (f0 ρ).calm.bind fun a => (f1 ρ).calm.bind fun b => (f2 ρ).calm.bind fun c => (mi ρ).calm.bind fun d => match asI d with
  | some i => if i = 0 then .ok a else if i = 1 then .ok b else if i = 2 then .ok c else .bad
  | none => .bad := nr rfl
section
variable {K : PySem.W.Frag} {T : Tb} {W : WX}
end
end Lw

set_option Elab.async false
set_option linter.all false
set_option maxRecDepth 100000
set_option maxHeartbeats 4000000
set_option autoImplicit false
namespace Lw
open PySem PySem.Spec PyProof.Rows L2 HotX L2H LwM LwZ LamX
structure LamTab (K : PySem.W.Frag) (T : Tb) (mg : Str → Option Value) (base : Heap) (x : Str) : Prop where
  tb : TabB base mg (He.codeOf K (x, none)) (He.cT K (x, none)).2
  mem : ((He.cT K (x, none)).2, x ++ (".<locals>." : Str) ++ ("<lambda>" : Str)) ∈ T
  one : ∀ p ∈ T, p.1 = (He.cT K (x, none)).2 → p.2 = x ++ (".<locals>." : Str) ++ ("<lambda>" : Str)
structure CalL (K : PySem.W.Frag) (mg : Str → Option Value) (x : Str) (st : Stmt) (a : Str) : Prop where
  ex : ∃ (g : Addr) (fd : FuncData), FnQ K x st [] [] g fd ∧ mg x = some (.ref g) ∧ L2.Binds K fd [a] []
theorem pe_lamL {X : Cx} {T : Tb} {TT : (XK → Hp → VK → Prop) → Hp → VK → Prop} {x a y : Str} {k : Nat} {st : Stmt} {Ng : List Str} {params : Arguments} {body : Expr} {scope : Scope} {t : XK → TE} {p lpos pos : Pos}
    (cL : CalL X.K X.mg x st a) (Sg : FnScope Ng [a] (defScope st)) (hNg : Ng[0]? = some a) (hva : Vis (defScope st) a) (TL : LamTab X.K T X.mg X.base y) (hG : ∀ (g : Addr) (cdv : Value), GivesN X (k + 1) Ng x (defScope st) g cdv (defBody st) a (X.env.qual ++ "<lambda>") TT)
    (hg : Gl X x) (hcode : X.env.code = .ref (He.codeOf X.K (y, none))) (hq : X.env.qual = y ++ (".<locals>." : Str)) (hr : Room (k + 2) X.A) (L : LamS X.env.scope scope) (hdef : defaultsOf params X.env = ([], []))
    (hbind : ∀ (q : Str) (cl : List (Str × Addr)) (pm cv ctv : Value), bindArgs (PySem.W.kla_fn "<lambda>" q params body scope cl pm cv ctv) ⟨[], []⟩ = pure [])
    (hbody : ∀ (A : Around) (outer : List Env) (s : Shared) (H : Hp) (E : XK) (f c' : Addr), Room k (A.deeper (lamEnv X scope s.heap.objs.size f c')) → PE (lamN X A outer s H E scope f c') body (t E))
    (hdb : (x == ("__debug__" : Str)) = false := by decide) (hd : (a == ("__debug__" : Str)) = false := by decide) (hcd : (a == ("__classdict__" : Str)) = false := by decide) :
    PE X (.Call (.Name x p) [.Lambda params body scope lpos] [] pos) (tLam T TT t) := by
  obtain ⟨g, fd, F, hm, hb⟩ := cL.ex
  obtain ⟨oc, od, dV, kV, doc, pm, an, cdv, ct, osl, rfl, lk, hcg, _, _⟩ := F.ex
  exact pe_lamN hg hm F.kp lk hcg hb Sg hNg hva (hG g cdv) TL.tb hcode (by rw [hq]; exact TL.mem) (fun p hp e => by rw [hq]; exact TL.one p hp e) hr L hdef hbind hbody hdb hd hcd
section
variable {P : Program} {w : World} {K : PySem.W.Frag} {mg : Str → Option Value} {base : Heap} {T : Tb}
theorem funD_okL {CX : CXT} {x : Str} {params : Arguments} {body : List Stmt} {scope : Scope} {dvs : List V} {kws : List (Str × V)} {fd : FuncData} {N ps : List Str} {k : Nat} {sp : Sp} (F : FunD K x x params body scope dvs kws (He.ga K x) fd) (S : FnScope N ps scope) (len : ∀ vs H Q E, sp vs H Q E → vs.length = ps.length)
    (hbody : ∀ (A : Around) (outer : List Env) (s : Shared) (H : Hp) (vs : List V) (Q : VK) (E : XK), Room k (A.deeper (envOfC x scope s.heap.objs.size (He.ga K x) (.ref (He.codeOf K (x, none))))) → sp vs H Q E →
      ∃ t, PSs (cxOf CX P w K mg base N x scope (He.ga K x) (.ref (He.codeOf K (x, none))) A outer s H E) body t ∧ t { nx := fun _ H' => Q .non H', rt := Q } (L2.start N vs) H) : FnOk P w K mg base CX (k + 1) (He.ga K x) fd ps sp := by
  obtain ⟨oc, od, dV, kV, doc, pm, an, cdv, ct, osl, rfl, lk, hcd, _, _⟩ := F.ex
  obtain ⟨c, rfl⟩ := He.codeIn_ref hcd
  have e : He.codeOf K (x, none) = c := He.codeOf_eq (p := (x, none)) lk rfl
  rw [e] at hbody
  exact fn_of lk hcd S len fun A outer s H vs Q E hr hsp => hbody A outer s H vs Q E hr hsp
theorem fnAL {x : Str} {st : Stmt} {dvs : List V} {fd : FuncData} {N ps : List Str} {k : Nat} {R : List Slot → (PyData → Prop) → Prop} (F : FnP K x st dvs (He.ga K x) fd) (S : FnScope N ps (defScope st)) (len : ∀ ss p, R ss p → ss.length = ps.length)
    (hbody : ∀ (A : Around) (outer : List Env) (s : Shared) (H : Hp) (E : XK), Room k (A.deeper (PyProof.Rows.envOfC x (defScope st) s.heap.objs.size (He.ga K x) (.ref (He.codeOf K (x, none))))) →
      ∃ t, PSs (cxOf CX0 P w K mg base N x (defScope st) (He.ga K x) (.ref (He.codeOf K (x, none))) A outer s H E).nox (defBody st) t ∧ ∀ ss Post, R ss Post → ∀ (H0 : Hp) (C : List Addr) (D : Ends), (∀ r, Post r → Rt K T H0 C D.rt r) → Tri K T H0 (hide H0 C) C (slotsA N.length ss) t D) :
    FnOk P w K mg base CX0 (k + 1) (He.ga K x) fd ps (spA K T R) := by
  refine funD_okL F S (fun vs H Q E h => ?_) (fun A outer s H vs Q E hr h => ?_)
  · obtain ⟨ss, p, S', l, hd, hR, _⟩ := h
    rw [hd.len]
    exact len ss p hR
  · obtain ⟨ss, p, S', l, hd, hR, hq⟩ := h
    obtain ⟨t, pt, tr⟩ := hbody A outer s H E hr
    exact ⟨t, pt.nox, tr ss p hR H S' _ (fun r hr v H' e dv => hq r hr v H' e dv) _ _ ⟨S', gd_startA l hd⟩⟩
end
end Lw

set_option Elab.async false
set_option linter.all false
set_option maxRecDepth 100000
set_option maxHeartbeats 4000000
set_option autoImplicit false
namespace Lw
open PySem L2 LwZ
def kIns (i : Nat) (j m : ME) : MS := fun ρ => match ownL ρ[i]?, j ρ, m ρ with
  | some ds, .ok (.int k), .ok d => if 0 ≤ k ∧ k.toNat ≤ ds.length ∧ ds.length < 1000000 then .nx (ρ.set i (.own (.lst (ds.take k.toNat ++ [d] ++ ds.drop k.toNat)))) else .bad
  | _, _, _ => .bad
def kExt (i : Nat) (m : ME) : MS := fun ρ => match ownL ρ[i]?, m ρ with
  | some ds, .ok (.list es) => if ds.length + es.length ≤ 1000000 then .nx (ρ.set i (.own (.lst (ds ++ es)))) else .bad
  | _, _ => .bad
def kApp3 (i : Nat) (a e : ME) (l : Nat) : MS := fun ρ => match a ρ, e ρ with
  | .ok u, .ok x => match pop0 ρ l with
    | some (y, ρ') => match zIx x y, ownL ρ[i]? with
      | some z, some ds => if ds.length < 1000000 ∧ i ≠ l then .nx (ρ'.set i (.own (.lst (ds ++ [.tuple [u, z]])))) else .bad
      | _, _ => .bad
    | none => .bad
  | _, _ => .bad
def xIsi (t : String) (m : ME) : ME := fun ρ => (m ρ).bind fun d => Rz.of ((kitB (tyN d) t).map .bool)
section
variable {K : PySem.W.Frag} {T : Tb} {W : WX} {fr : Fr} {te tb ta : TE} {i l : Nat} {m j : ME}
end
section
variable {K : PySem.W.Frag} {T : Tb}
end
section
variable {ρ : List Slot}
theorem kIns_a (i : Nat) (j m : ME) : kIns i j m ρ = (match ownL ρ[i]?, j ρ, m ρ with
  | some ds, .ok (.int k), .ok d => if 0 ≤ k ∧ k.toNat ≤ ds.length ∧ ds.length < 1000000 then .nx (ρ.set i (.own (.lst (ds.take k.toNat ++ [d] ++ ds.drop k.toNat)))) else .bad
  | _, _, _ => .bad) := nr rfl
theorem kExt_a (i : Nat) (m : ME) : kExt i m ρ = (match ownL ρ[i]?, m ρ with
  | some ds, .ok (.list es) => if ds.length + es.length ≤ 1000000 then .nx (ρ.set i (.own (.lst (ds ++ es)))) else .bad
  | _, _ => .bad) := nr rfl
theorem kApp3_a (i : Nat) (a e : ME) (l : Nat) : kApp3 i a e l ρ = (match a ρ, e ρ with
  | .ok u, .ok x => match pop0 ρ l with
    | some (y, ρ') => match zIx x y, ownL ρ[i]? with
      | some z, some ds => if ds.length < 1000000 ∧ i ≠ l then .nx (ρ'.set i (.own (.lst (ds ++ [.tuple [u, z]])))) else .bad
      | _, _ => .bad
    | none => .bad
  | _, _ => .bad) := nr rfl
theorem xIsi_a (t : String) (m : ME) : xIsi t m ρ = (m ρ).bind fun d => Rz.of ((kitB (tyN d) t).map .bool) := nr rfl
end
end Lw

set_option Elab.async false
set_option linter.all false
set_option maxRecDepth 100000
set_option maxHeartbeats 4000000
set_option autoImplicit false
namespace LwZ
open PySem PySem.Spec PyProof.Rows L2 Lw
open PySem.Sem (wp)
open PySem.W (kdx_alive)
section
variable {prog : Program} {w : World} {A : Around} {E : Value → Shared → Prop} {s : Shared}
end
section
variable {prog : Program} {w : World}
end
end LwZ
namespace Lw
open PySem L2 LwZ
def mergeD (es more : List (Key × PyData)) : List (Key × PyData) := more.foldl (fun acc kv => putD acc kv.1 kv.2) es
def keysD : List PyData → Option (List Key)
  | [] => some []
  | d :: ds => match keyD d, keysD ds with
    | some k, some ks => some (k :: ks)
    | _, _ => none
def fDz (ma : MA) : List Slot → Rz (List (Key × PyData)) := fun ρ => (ma ρ).bind fun ds => match ds with
  | [d, e] => match seqOf d, seqOf e with
    | some xs, some ys => match keysD xs with
      | some ks => if ks.length = ys.length ∧ ks.length ≤ 1000 then .ok (mergeD [] (ks.zip ys)) else .bad
      | none => .bad
    | _, _ => .bad
  | _ => .bad
section
variable {K : PySem.W.Frag} {T : Tb}
variable (K T)
variable {K T}
def kOwnD (F : List PyData → Rz (List (Key × PyData))) (ma : MA) (i : Nat) : MS := fun ρ => match (ma ρ).bind F with
  | .ok es => .nx (ρ.set i (.own (.dct es)))
  | .ex x => .ex x ρ
  | .bad => .bad
end
def fnDD (np n : Nat) (m : List Slot → Rz (List (Key × PyData))) (ds : List PyData) : Rz (List (Key × PyData)) := if ds.length = np then m (slots n ds) else .bad
section
variable {P : Program} {w : World} {K : PySem.W.Frag} {T : Tb} {mg : Str → Option Value} {base : Heap}
end
section
variable {ρ : List Slot}
theorem kOwnD_a (F : List PyData → Rz (List (Key × PyData))) (ma : MA) (i : Nat) : kOwnD F ma i ρ = (match (ma ρ).bind F with
  | .ok es => .nx (ρ.set i (.own (.dct es)))
  | .ex x => .ex x ρ
  | .bad => .bad) := nr rfl
theorem fDz_a (ma : MA) : fDz ma ρ = (ma ρ).bind fun ds => match ds with
  | [d, e] => match seqOf d, seqOf e with
    | some xs, some ys => match keysD xs with
      | some ks => if ks.length = ys.length ∧ ks.length ≤ 1000 then .ok (mergeD [] (ks.zip ys)) else .bad
      | none => .bad
    | _, _ => .bad
  | _ => .bad := nr rfl
theorem fnDD_a (np n : Nat) (m : List Slot → Rz (List (Key × PyData))) (ds : List PyData) : fnDD np n m ds = if ds.length = np then m (slots n ds) else .bad := nr rfl
end
end Lw

set_option Elab.async false
set_option linter.all false
set_option maxRecDepth 100000
set_option maxHeartbeats 4000000
set_option autoImplicit false
namespace LwZ
open PySem PySem.Spec PyProof.Rows L2 Lw
open PySem.Sem (wp)
structure Zip3A (z TI TO i1 i2 i3 l1 l2 l3 : Addr) : Prop where
  TIz : TI ≠ z
  TOz : TO ≠ z
  i1z : i1 ≠ z
  i2z : i2 ≠ z
  i3z : i3 ≠ z
  TITO : TI ≠ TO
  TIi1 : TI ≠ i1
  TIi2 : TI ≠ i2
  TIi3 : TI ≠ i3
  TOi1 : TO ≠ i1
  TOi2 : TO ≠ i2
  TOi3 : TO ≠ i3
  i12 : i1 ≠ i2
  i13 : i1 ≠ i3
  i23 : i2 ≠ i3
  l1z : l1 ≠ z
  l1TO : l1 ≠ TO
  l1i1 : l1 ≠ i1
  l2z : l2 ≠ z
  l2TO : l2 ≠ TO
  l2i1 : l2 ≠ i1
  l2i2 : l2 ≠ i2
  l3z : l3 ≠ z
  l3TO : l3 ≠ TO
  l3i1 : l3 ≠ i1
  l3i2 : l3 ≠ i2
  l3i3 : l3 ≠ i3
section
variable {prog : Program} {w : World} {A : Around} {E : Value → Shared → Prop} {s : Shared}
end
section
variable {prog : Program} {w : World} {A : Around} {E : Value → Shared → Prop} {s : Shared}
end
section
variable {p1 p2 p3 : Bool} {a b c z TI TO i1 i2 i3 : Addr}
end
section
variable {K : PySem.W.Frag} {T : Tb} {ρ : List Slot} {ta : TA}
end
end LwZ
namespace Lw
open PySem L2 LwZ
section
variable {K : PySem.W.Frag} {T : Tb} {W : WX} {ta : TA} {ma : MA}
end
end Lw

set_option Elab.async false
set_option linter.all false
set_option maxRecDepth 100000
set_option maxHeartbeats 4000000
set_option autoImplicit false
namespace LwZ
open PySem PySem.Spec PyProof.Rows L2 Lw
open PySem.Sem (wp)
section
variable {prog : Program} {w : World} {A : Around} {E : Value → Shared → Prop} {s : Shared}
end
end LwZ
namespace LwZ
open PySem PySem.Spec PyProof.Rows L2 Lw
open PySem.Sem (wp)
end LwZ
namespace Lw
open PySem L2 LwZ
def kStar (m : ME) (i j : Nat) : MS := fun ρ => kE m (fun d => match d with
  | .tuple (x :: xs) => if xs.length ≤ 1000 then .nx ((ρ.set i (.dat x)).set j (.dat (.list xs))) else .bad
  | _ => .bad) ρ
section
variable {K : PySem.W.Frag} {T : Tb} {W : WX} {fr : Fr} {te : TE} {m : ME} {i j : Nat}
end
theorem kStar_a (ρ : List Slot) (m : ME) (i j : Nat) : kStar m i j ρ = kE m (fun d => match d with
  | .tuple (x :: xs) => if xs.length ≤ 1000 then .nx ((ρ.set i (.dat x)).set j (.dat (.list xs))) else .bad
  | _ => .bad) ρ := nr rfl
end Lw

set_option Elab.async false
set_option linter.all false
set_option maxRecDepth 100000
set_option maxHeartbeats 4000000
set_option autoImplicit false
namespace Lw
open PySem L2 LwZ
def putAt {α : Type} (k : Nat) (x : α) (xs : List α) : List α := if k < xs.length then xs.set k x else xs ++ [x]
structure ClT (K : PySem.W.Frag) (tg : Nat) : Prop where
  cl : Cls K (He.ga K (clNm tg))
  no : ∀ f ∈ clFs tg, NoAttr K (He.ga K (clNm tg)) f
section
variable {K : PySem.W.Frag} {T : Tb} {H0 B : Hp} {C : List Addr} {H H' : Hp} {S : List Addr} {σ : St} {ρ : List Slot}
def objF (tg : Nat) : Option Slot → Option (List Fd)
  | some (.rob o) => if o.tg = tg then some o.fs else none
  | some (.obj o) => if o.tg = tg then some o.fs else none
  | _ => none
theorem objF_rob (tg : Nat) (ad : Option Addr) (fs : List Fd) : objF tg (some (.rob ⟨tg, ad, fs⟩)) = some fs := if_pos rfl
theorem objF_obj (tg : Nat) (ad : Option Addr) (fs : List Fd) : objF tg (some (.obj ⟨tg, ad, fs⟩)) = some fs := if_pos rfl
theorem FdR.get : ∀ {vs : List V} {fs : List Fd} {k : Nat} {d : PyData}, FdR K H0 B vs fs → fs[k]? = some (.dat d) → ∃ v, vs[k]? = some v ∧ Dt K B v d := by
  intro vs
  induction vs with
  | nil => intro fs k d h e; cases h; simp at e
  | cons v vs ih =>
    intro fs k d h e
    cases h with
    | dat h1 h2 =>
      cases k with
      | zero => cases e; exact ⟨_, rfl, h1⟩
      | succ k => exact ih h2 e
    | own h1 h2 h3 =>
      cases k with
      | zero => cases e
      | succ k => exact ih h3 e
theorem FdO.get : ∀ {vs : List V} {fs : List Fd} {k : Nat} {d : PyData}, FdO K H0 H S vs fs → fs[k]? = some (.dat d) → ∃ v, vs[k]? = some v ∧ Dt K (hide H S) v d := by
  intro vs
  induction vs with
  | nil => intro fs k d h e; cases h; simp at e
  | cons v vs ih =>
    intro fs k d h e
    cases h with
    | dat h1 h2 =>
      cases k with
      | zero => cases e; exact ⟨_, rfl, h1⟩
      | succ k => exact ih h2 e
    | own h1 h2 h3 h4 h5 =>
      cases k with
      | zero => cases e
      | succ k => exact ih h5 e
theorem FdR.getO : ∀ {vs : List V} {fs : List Fd} {k : Nat} {ob : Ob}, FdR K H0 B vs fs → fs[k]? = some (.own ob) → ∃ q u, vs[k]? = some (.ref q) ∧ H0 q = some u ∧ ObD K B u ob := by
  intro vs
  induction vs with
  | nil => intro fs k d h e; cases h; simp at e
  | cons v vs ih =>
    intro fs k d h e
    cases h with
    | dat h1 h2 =>
      cases k with
      | zero => cases e
      | succ k => exact ih h2 e
    | own h1 h2 h3 =>
      cases k with
      | zero => cases e; exact ⟨_, _, rfl, h1, h2⟩
      | succ k => exact ih h3 e
theorem FdO.getO : ∀ {vs : List V} {fs : List Fd} {k : Nat} {ob : Ob}, FdO K H0 H S vs fs → fs[k]? = some (.own ob) → ∃ q u, vs[k]? = some (.ref q) ∧ q ∈ S ∧ Fresh H0 q ∧ H q = some u ∧ ObD K (hide H S) u ob ∧ q ∈ ownRefs vs fs := by
  intro vs
  induction vs with
  | nil => intro fs k d h e; cases h; simp at e
  | cons v vs ih =>
    intro fs k d h e
    cases h with
    | dat h1 h2 =>
      cases k with
      | zero => cases e
      | succ k =>
        obtain ⟨q, u, a, b, c, d, e, f⟩ := ih h2 e
        exact ⟨q, u, a, b, c, d, e, by cases v <;> exact f⟩
    | own h1 h2 h3 h4 h5 =>
      cases k with
      | zero => cases e; exact ⟨_, _, rfl, h1, h2, h3, h4, List.mem_cons_self ..⟩
      | succ k =>
        obtain ⟨q, u, a, b, c, d, e, f⟩ := ih h5 e
        exact ⟨q, u, a, b, c, d, e, List.mem_cons_of_mem _ f⟩
def xFd (i tg k : Nat) : ME := fun ρ => match objF tg ρ[i]? with
  | some fs => (match fs[k]? with | some (.dat d) => .ok d | _ => .bad)
  | none => .bad
def objD (tg k : Nat) (s : Option Slot) : Option (List (Key × PyData)) := match objF tg s with
  | some fs => (match fs[k]? with | some (.own (.dct es)) => some es | _ => none)
  | none => none
end
end Lw

set_option Elab.async false
set_option linter.all false
set_option maxRecDepth 100000
set_option maxHeartbeats 4000000
set_option autoImplicit false
namespace Lw
open PySem L2 LwZ
section
variable {K : PySem.W.Frag} {T : Tb} {H0 B : Hp} {C : List Addr} {H H' : Hp} {S : List Addr} {σ : St} {ρ : List Slot}
theorem FdO.frz : ∀ {vs : List V} {fs : List Fd} {k : Nat} {q : Addr} {ds : List PyData} {S' : List Addr}, FdO K H0 H S vs fs → fs[k]? = some (.own (.lst ds)) → vs[k]? = some (.ref q) → (ownRefs vs fs).Nodup → (∀ r ∈ S, r ≠ q → r ∈ S') → q ∉ S' → Kp (hide H S) (hide H S') → FdO K H0 H S' vs (fs.set k (.dat (.list ds))) := by
  intro vs
  induction vs with
  | nil => intro fs k q ds S' h e1 e2; simp at e2
  | cons v vs ih =>
    intro fs k q ds S' h e1 e2 nd hS hq hk
    cases h with
    | dat h1 h2 =>
      cases k with
      | zero => cases e1
      | succ k => exact .dat (h1.kp hk) (ih h2 e1 e2 (by cases v <;> exact nd) hS hq hk)
    | own h1 h2 h3 h4 h5 =>
      have nd' := List.nodup_cons.mp nd
      cases k with
      | zero =>
        cases e1; cases e2
        cases h4 with | lst h4 =>
        exact .dat (.lst (hide_some.mpr ⟨hq, h3, rfl⟩) (h4.kp hk)) (h5.step hk fun r m => ⟨fun w => hS r w (fun z => nd'.1 (z ▸ m)), fun u hu => hu⟩)
      | succ k =>
        rw [List.getElem?_cons_succ] at e1 e2
        obtain ⟨q', u, v1, _, _, _, _, v6⟩ := h5.getO e1
        rw [e2] at v1; cases v1
        exact .own (hS _ h1 (fun z => nd'.1 (z ▸ v6))) h2 h3 (h4.kp hk) (ih h5 e1 e2 nd'.2 hS hq hk)
end
def objW (tg : Nat) : Option Slot → Option Oj
  | some (.obj o) => if o.tg = tg then some o else none
  | _ => none
theorem objW_obj (tg : Nat) (ad : Option Addr) (fs : List Fd) : objW tg (some (.obj ⟨tg, ad, fs⟩)) = some ⟨tg, ad, fs⟩ := if_pos rfl
def kFset (i tg k : Nat) (m : ME) : MS := fun ρ => match objW tg ρ[i]? with
  | some o => kE m (fun d => if k ≤ o.fs.length then .nx (ρ.set i (.obj { o with fs := putAt k (.dat d) o.fs })) else .bad) ρ
  | none => .bad
def kFown (i tg k : Nat) (m : MA) : MS := fun ρ => match objW tg ρ[i]? with
  | some o => kE m (fun ds => if k ≤ o.fs.length then .nx (ρ.set i (.obj { o with fs := putAt k (.own (.lst ds)) o.fs })) else .bad) ρ
  | none => .bad
def fdL (k : Nat) (o : Oj) : Option (List PyData) := match o.fs[k]? with
  | some (.own (.lst ds)) => some ds
  | _ => none
def kFapp (i tg k : Nat) (m : ME) : MS := fun ρ => match objW tg ρ[i]? with
  | some o => (match fdL k o with
    | some ds => kE m (fun d => if ds.length < 1000000 then .nx (ρ.set i (.obj { o with fs := o.fs.set k (.own (.lst (ds ++ [d]))) })) else .bad) ρ
    | none => .bad)
  | none => .bad
def kFput (i tg k : Nat) (j m : ME) : MS := fun ρ => match objW tg ρ[i]? with
  | some o => (match fdL k o with
    | some ds => kE m (fun d => kE j (fun e => match (asI e).bind (ixN ds.length) with | some n => .nx (ρ.set i (.obj { o with fs := o.fs.set k (.own (.lst (ds.set n d))) })) | none => .bad) ρ) ρ
    | none => .bad)
  | none => .bad
def kFfrz (i tg k : Nat) (a : MS) : MS := fun ρ => match objW tg ρ[i]? with
  | some o => (match fdL k o with
    | some ds => a (ρ.set i (.obj { o with fs := o.fs.set k (.dat (.list ds)) }))
    | none => .bad)
  | none => .bad
section
variable {K : PySem.W.Frag} {T : Tb} {W : WX} {fr : Fr} {te tb : TE} {m mj : ME} {ma : MA} {i tg k : Nat} {f : Str} {a : MS} {tu : TS}
end
end Lw

set_option Elab.async false
set_option linter.all false
set_option maxRecDepth 100000
set_option maxHeartbeats 4000000
set_option autoImplicit false
namespace Lw
open PySem L2 LwZ
mutual
def noL : PyData → Bool
  | .list _ => false
  | .tuple ds => noLs ds
  | .dict _ => false
  | _ => true
def noLs : List PyData → Bool
  | [] => true
  | d :: ds => noL d && noLs ds
end
def NoT (H : Hp) (S S' : List Addr) : Prop := ∀ a xs, hide H S' a = some (.tup xs) → hide H S a = some (.tup xs)
def NoF (H : Hp) (S S' : List Addr) : Prop := ∀ a o xs, hide H S' a = some (.frz o (.tup xs)) → hide H S a = some (.frz o (.tup xs))
section
variable {K : PySem.W.Frag} {T : Tb} {H : Hp} {S S' : List Addr}
mutual
theorem dt_noL (h1 : NoT H S S') (h2 : NoF H S S') : ∀ (d : PyData) (v : V), noL d = true → Dt K (hide H S') v d → Dt K (hide H S) v d
  | .none, v, _, h => by cases h; exact .non
  | .bool b, v, _, h => by cases h; exact .bl b
  | .int i, v, _, h => by cases h; exact .int i
  | .str x, v, _, h => by cases h; exact .str x
  | .list ds, v, n, h => by cases n
  | .tuple ds, v, n, h => by
    cases h with
    | tup hs ha =>
      refine .tup ?_ (dt_noLs h1 h2 ds _ n ha)
      rcases hs with (hs | ⟨o, hs⟩) | hs
      · exact .inl (.inl (h1 _ _ hs))
      · exact .inl (.inr ⟨o, h2 _ _ _ hs⟩)
      · exact .inr hs
  | .dict kvs, v, n, h => by cases n
theorem dt_noLs (h1 : NoT H S S') (h2 : NoF H S S') : ∀ (ds : List PyData) (vs : List V), noLs ds = true → DtAll K (hide H S') vs ds → DtAll K (hide H S) vs ds
  | [], vs, _, h => by cases h; exact .nil
  | d :: ds, vs, n, h => by
    have n : (noL d && noLs ds) = true := n
    rw [Bool.and_eq_true] at n
    cases h with
    | cons a b => exact .cons (dt_noL h1 h2 d _ n.1 a) (dt_noLs h1 h2 ds _ n.2 b)
end
end
def Fd.view : Fd → Fd
  | .own (.lst ds) => .dat (.list ds)
  | fd => fd
def slotsM (n : Nat) (s : Slot) (ds : List PyData) : List Slot := s :: (ds.map Slot.dat ++ List.replicate (n - (ds.length + 1)) .no)
def fnO (np n tg : Nat) (m : MS) (fs : List Fd) (ds : List PyData) : Rz PyData := if ds.length + 1 = np then match m (slotsM n (.rob ⟨tg, none, fs⟩) ds) with
  | .rt d => .ok d
  | .nx _ => .ok .none
  | .ex x _ => .ex x
  | _ => .bad
  else .bad
abbrev FnM (K : PySem.W.Frag) (x qual : Str) (st : Stmt) (dvs : List V) (f : Addr) (fd : FuncData) : Prop := FunD K x qual (defArgs st) (defBody st) (defScope st) dvs [] f fd
section
variable {P : Program} {w : World} {K : PySem.W.Frag} {T : Tb} {mg : Str → Option Value} {base : Heap} {H0 B : Hp} {C : List Addr} {H H' : Hp} {S : List Addr} {σ : St} {ρ : List Slot}
theorem Obs.sub {ρ' : List Slot} (g : Obs K H0 H S σ ρ) (h1 : ∀ (j : Nat) (o : Oj), ρ'[j]? = some (.obj o) → ρ[j]? = some (.obj o)) (h2 : ∀ (j : Nat) (o : Ob), ρ'[j]? = some (.own o) → ρ[j]? = some (.own o)) : Obs K H0 H S σ ρ' := by
  have back : ∀ i q, Foot H σ ρ' i q → Foot H σ ρ i q := fun i q f => by
    obtain ⟨o, p, C, dx, fvs, a, b⟩ := f
    exact ⟨o, p, C, dx, fvs, h1 i o a, b⟩
  exact ⟨fun i o h => g.ob i o (h1 i o h), fun i j q a b => g.dj i j q (back i q a) (back j q b), fun i j q o a b c => g.dl i j q o (back i q a) (h2 j o b) c⟩
theorem fnOk_calm {k : Nat} {f : Addr} {fd : FuncData} {ps : List Str} {sp sp' : Sp} (key : ∀ {vs : List V} {H : Hp} {Q : VK} {E : XK}, sp' vs H Q E → sp vs H Q (fun _ _ _ => False)) (G : FnOk P w K mg base (L2N.CX P w) k f fd ps sp) : FnOk P w K mg base CX0 k f fd ps sp' := by
  refine ⟨fun vs H Q E h => ?_, fun A outer s H args us vs Q E hr e0 hb hv h => ?_⟩
  · exact G.len vs H Q (fun _ _ _ => False) (key h)
  · refine codeAny_mono (G.run A outer s H args us vs Q (fun _ _ _ => False) hr e0 hb hv (key h)) fun o s' h' => ?_
    cases o with
    | error e =>
      obtain ⟨_, _, _, _, _, _, _, _, _, _, _, _, z⟩ := h'
      exact z.elim
    | ok fl => cases fl <;> exact h'
end
structure MetX (P : Program) (w : World) (K : PySem.W.Frag) (mg : Str → Option Value) (base : Heap) (k tg : Nat) (m : Str) (ps : List Str) (sp : Sp) : Prop where
  ex : ∃ (f : Addr) (fd : FuncData), FnOk P w K mg base (L2N.CX P w) k f fd ps sp ∧ Meth K (He.ga K (clNm tg)) m f ∧ Binds K fd ps []
  no : m ∉ clFs tg
structure MetC (P : Program) (w : World) (K : PySem.W.Frag) (mg : Str → Option Value) (base : Heap) (k tg : Nat) (m : Str) (ps : List Str) (sp : Sp) : Prop where
  ex : ∃ (f : Addr) (fd : FuncData), FnOk P w K mg base CX0 k f fd ps sp ∧ Meth K (He.ga K (clNm tg)) m f ∧ Binds K fd ps []
theorem MetX.calm {P : Program} {w : World} {K : PySem.W.Frag} {mg : Str → Option Value} {base : Heap} {k tg : Nat} {m : Str} {ps : List Str} {sp sp' : Sp} (c : MetX P w K mg base k tg m ps sp) (key : ∀ {vs : List V} {H : Hp} {Q : VK} {E : XK}, sp' vs H Q E → sp vs H Q (fun _ _ _ => False)) : MetC P w K mg base k tg m ps sp' :=
  let ⟨f, fd, G, a, b⟩ := c.ex; ⟨f, fd, fnOk_calm key G, a, b⟩
section
variable {X : Cx} {k j tg : Nat} {m : Str} {ps : List Str} {sp : Sp} {pos apos : Pos} {o e : Expr} {es : List Expr} {ta : TE} {t : TA} {pl : Sem Bool}
end
def xMr (i tg : Nat) (F : List Fd → List PyData → Rz PyData) (ma : MA) : ME := fun ρ => match objF tg ρ[i]? with
  | some fs => (ma ρ).bind fun ds => match F (fs.map Fd.view) ds with
    | .ok r => if noL r then .ok r else .bad
    | _ => .bad
  | none => .bad
def fMr (i tg : Nat) (F : List Fd → List PyData → Rz PyData) (ma : MA) : MA := fun ρ => match objF tg ρ[i]? with
  | some fs => (ma ρ).bind fun ds => match F (fs.map Fd.view) ds with
    | .ok (.list rs) => if noLs rs then .ok rs else .bad
    | _ => .bad
  | none => .bad
section
variable {K : PySem.W.Frag} {T : Tb} {H0 B : Hp} {C : List Addr} {H H' : Hp} {S : List Addr} {σ : St} {ρ : List Slot}
theorem FdO.view {S' : List Addr} {vs : List V} {fs : List Fd} (h : FdO K H0 H S vs fs) (hS : ∀ q ∈ S', q ∈ S ∧ q ∉ ownRefs vs fs) : FdR K H (hide H S') vs (fs.map Fd.view) := by
  have hk : Kp (hide H S) (hide H S') := hide_sub fun q m => (hS q m).1
  induction h with
  | nil => exact .nil
  | @dat v d vs fs d1 h2 ih => exact .dat (d1.kp hk) (ih fun q m => ⟨(hS q m).1, fun z => (hS q m).2 (by cases v <;> exact z)⟩)
  | @own q u ob vs fs h1 h2 h3 h4 h5 ih =>
    have ih := ih fun r m => ⟨(hS r m).1, fun z => (hS r m).2 (List.mem_cons_of_mem _ z)⟩
    cases h4 with
    | lst h4 => exact .dat (.lst (hide_some.mpr ⟨fun z => (hS q z).2 (List.mem_cons_self ..), h3, rfl⟩) (h4.kp hk)) ih
    | dct h4 h6 => exact .own h3 (.dct h4 (h6.kp hk)) ih
theorem FdR.view {C' : List Addr} {vs : List V} {fs : List Fd} (h : FdR K H0 (hide H0 C) vs fs) (e : Kp H0 H) (hk : Kp (hide H0 C) (hide H C')) (hS : ∀ q ∈ C', q ∉ ownRefs vs fs) : FdR K H (hide H C') vs (fs.map Fd.view) := by
  induction h with
  | nil => exact .nil
  | @dat v d vs fs d1 h2 ih => exact .dat (d1.kp hk) (ih fun q m => fun z => hS q m (by cases v <;> exact z))
  | @own q u ob vs fs h3 h4 h5 ih =>
    have ih := ih fun r m => fun z => hS r m (List.mem_cons_of_mem _ z)
    cases h4 with
    | lst h4 => exact .dat (.lst (hide_some.mpr ⟨fun z => hS q z (List.mem_cons_self ..), e _ _ h3 rfl, rfl⟩) (h4.kp hk)) ih
    | dct h4 h6 => exact .own (e _ _ h3 rfl) (.dct h4 (h6.kp hk)) ih
theorem FdR.refs {vs : List V} {fs : List Fd} (h : FdR K H0 B vs fs) : ∀ q ∈ ownRefs vs fs, ∃ u, H0 q = some u ∧ mutO u = true := by
  induction h with
  | nil => intro q m; cases m
  | dat d _ ih => intro q m; exact ih q (by cases ‹V› <;> exact m)
  | own a b _ ih =>
    intro q m
    rcases List.mem_cons.mp m with z | z
    · subst z; exact ⟨_, a, b.mut⟩
    · exact ih q z
end
section
variable {K : PySem.W.Frag} {T : Tb} {W : WX} {fr : Fr} {ta : TA} {ma : MA} {i tg : Nat} {m : Str} {F : List Fd → List PyData → Rz PyData} {E : XK}
end
end Lw

set_option Elab.async false
set_option linter.all false
set_option maxRecDepth 100000
set_option maxHeartbeats 4000000
set_option autoImplicit false
namespace Lw
open PySem L2 LwZ
def cut (H : Hp) (M : List Addr) : Hp := fun a => if a ∈ M then none else H a
theorem cut_out {H : Hp} {M : List Addr} {a : Addr} (h : a ∉ M) : cut H M a = H a := if_neg h
theorem Fresh.cut {H : Hp} {M : List Addr} {a : Addr} (h : Fresh (cut H M) a) (n : a ∉ M) : Fresh H a := fun o e => h o (by rw [cut_out n]; exact e)
inductive Ro where
  | ok (r : PyData) (fs : List Fd)
  | ex (x : Exn) (fs : List Fd)
  | bad
structure Aft (K : PySem.W.Frag) (T : Tb) (H : Hp) (S M : List Addr) (tg : Nat) (p : Addr) (fs : List Fd) (H' : Hp) (S2 : List Addr) : Prop where
  ext : Ext T (cut H M) H'
  s1 : ∀ c ∈ S, c ∉ M → c ∈ S2
  s2 : ∀ q ∈ S2, (q ∈ S ∧ q ∉ M) ∨ Fresh (cut H M) q
  l : Lsts H' S2
  ob : ObAt K (cut H M) H' S2 p ⟨tg, some p, fs⟩
def fnW (np n tg : Nat) (m : MS) (p : Addr) (fs : List Fd) (ds : List PyData) : Ro := if ds.length + 1 = np then match m (slotsM n (.obj ⟨tg, some p, fs⟩) ds) with
  | .nx ρ' => (match (ρ' : List Slot)[0]? with
    | some (Slot.obj o) => if o.tg = tg ∧ o.ad = some p then .ok .none o.fs else .bad
    | _ => .bad)
  | .rs r ρ' => (match (ρ' : List Slot)[0]? with
    | some (Slot.obj o) => if o.tg = tg ∧ o.ad = some p then .ok r o.fs else .bad
    | _ => .bad)
  | _ => .bad
  else .bad
section
variable {P : Program} {w : World} {K : PySem.W.Frag} {T : Tb} {mg : Str → Option Value} {base : Heap} {H0 B : Hp} {C : List Addr} {H H' : Hp} {S : List Addr} {σ : St} {ρ : List Slot}
theorem FdO.fresh {H1 : Hp} {vs : List V} {fs : List Fd} (h : FdO K H0 H S vs fs) (hq : ∀ q ∈ ownRefs vs fs, Fresh H1 q) : FdO K H1 H S vs fs := by
  induction h with
  | nil => exact .nil
  | @dat v d vs fs d1 _ ih => exact .dat d1 (ih fun q m => hq q (by cases v <;> exact m))
  | own a b c d _ ih => exact .own a (hq _ (List.mem_cons_self ..)) c d (ih fun q m => hq q (List.mem_cons_of_mem _ m))
end
open Classical in
noncomputable def kMw (i tg : Nat) (F : List Fd → List PyData → Ro) (ma : MA) : MS := fun ρ => match objW tg ρ[i]? with
  | some o => kE ma (fun ds => match F o.fs ds with
    | .ok _ fs' => .nx (ρ.set i (.obj { o with fs := fs' }))
    | _ => .bad) ρ
  | none => .bad
noncomputable def kMk (i tg : Nat) (F : List Fd → List PyData → Ro) (ma : MA) : MS := fun ρ => kE ma (fun ds => match F [] ds with
    | .ok .none fs' => .nx (ρ.set i (.obj ⟨tg, none, fs'⟩))
    | _ => .bad) ρ
section
variable {K : PySem.W.Frag} {T : Tb} {W : WX} {fr : Fr} {ta : TA} {ma : MA} {i tg : Nat} {m : Str} {F : Addr → List Fd → List PyData → Ro} {E : XK} {H0 B : Hp} {C : List Addr} {H H' : Hp} {S S2 : List Addr} {σ : St} {ρ : List Slot}
end
structure MakC (P : Program) (w : World) (K : PySem.W.Frag) (mg : Str → Option Value) (base : Heap) (k tg : Nat) (ps : List Str) (sp : Sp) : Prop where
  ex : ∃ (f : Addr) (fd : FuncData), FnOk P w K mg base CX0 k f fd ps sp ∧ Mk K (He.ga K (clNm tg)) f ∧ Binds K fd ps []
  at_ : mg (clNm tg) = some (.ref (He.ga K (clNm tg)))
section
variable {X : Cx} {k j tg : Nat} {ps : List Str} {sp : Sp} {p pos : Pos} {x : Str} {e : Expr} {es : List Expr} {t : TA}
end
section
variable {X : Cx} {k j tg : Nat} {m f : Str} {ps : List Str} {sp : Sp} {pos apos : Pos} {o e : Expr} {es : List Expr} {ta : TE} {t : TA} {pl : Sem Bool}
end
section
variable {ρ : List Slot}
theorem xFd_a (i tg k : Nat) : xFd i tg k ρ = (match objF tg ρ[i]? with
  | some fs => (match fs[k]? with | some (.dat d) => .ok d | _ => .bad)
  | none => .bad) := nr rfl
theorem kFset_a (i tg k : Nat) (m : ME) : kFset i tg k m ρ = (match objW tg ρ[i]? with
  | some o => kE m (fun d => if k ≤ o.fs.length then .nx (ρ.set i (.obj { o with fs := putAt k (.dat d) o.fs })) else .bad) ρ
  | none => .bad) := nr rfl
theorem kFown_a (i tg k : Nat) (m : MA) : kFown i tg k m ρ = (match objW tg ρ[i]? with
  | some o => kE m (fun ds => if k ≤ o.fs.length then .nx (ρ.set i (.obj { o with fs := putAt k (.own (.lst ds)) o.fs })) else .bad) ρ
  | none => .bad) := nr rfl
theorem kFapp_a (i tg k : Nat) (m : ME) : kFapp i tg k m ρ = (match objW tg ρ[i]? with
  | some o => (match fdL k o with
    | some ds => kE m (fun d => if ds.length < 1000000 then .nx (ρ.set i (.obj { o with fs := o.fs.set k (.own (.lst (ds ++ [d]))) })) else .bad) ρ
    | none => .bad)
  | none => .bad) := nr rfl
theorem kFput_a (i tg k : Nat) (j m : ME) : kFput i tg k j m ρ = (match objW tg ρ[i]? with
  | some o => (match fdL k o with
    | some ds => kE m (fun d => kE j (fun e => match (asI e).bind (ixN ds.length) with | some n => .nx (ρ.set i (.obj { o with fs := o.fs.set k (.own (.lst (ds.set n d))) })) | none => .bad) ρ) ρ
    | none => .bad)
  | none => .bad) := nr rfl
theorem kFfrz_a (i tg k : Nat) (a : MS) : kFfrz i tg k a ρ = (match objW tg ρ[i]? with
  | some o => (match fdL k o with
    | some ds => a (ρ.set i (.obj { o with fs := o.fs.set k (.dat (.list ds)) }))
    | none => .bad)
  | none => .bad) := nr rfl
theorem xMr_a (i tg : Nat) (F : List Fd → List PyData → Rz PyData) (ma : MA) : xMr i tg F ma ρ = (match objF tg ρ[i]? with
  | some fs => (ma ρ).bind fun ds => match F (fs.map Fd.view) ds with
    | .ok r => if noL r then .ok r else .bad
    | _ => .bad
  | none => .bad) := nr rfl
theorem fMr_a (i tg : Nat) (F : List Fd → List PyData → Rz PyData) (ma : MA) : fMr i tg F ma ρ = (match objF tg ρ[i]? with
  | some fs => (ma ρ).bind fun ds => match F (fs.map Fd.view) ds with
    | .ok (.list rs) => if noLs rs then .ok rs else .bad
    | _ => .bad
  | none => .bad) := nr rfl
theorem kMw_a (i tg : Nat) (F : List Fd → List PyData → Ro) (ma : MA) : kMw i tg F ma ρ = (match objW tg ρ[i]? with
  | some o => kE ma (fun ds => match F o.fs ds with
    | .ok _ fs' => .nx (ρ.set i (.obj { o with fs := fs' }))
    | _ => .bad) ρ
  | none => .bad) := nr rfl
theorem kMk_a (i tg : Nat) (F : List Fd → List PyData → Ro) (ma : MA) : kMk i tg F ma ρ = kE ma (fun ds => match F [] ds with
    | .ok .none fs' => .nx (ρ.set i (.obj ⟨tg, none, fs'⟩))
    | _ => .bad) ρ := nr rfl
theorem fnO_a (np n tg : Nat) (m : MS) (fs : List Fd) (ds : List PyData) : fnO np n tg m fs ds = if ds.length + 1 = np then match m (slotsM n (.rob ⟨tg, none, fs⟩) ds) with
  | .rt d => .ok d
  | .nx _ => .ok .none
  | .ex x _ => .ex x
  | _ => .bad
  else .bad := nr rfl
theorem fnW_a (np n tg : Nat) (m : MS) (p : Addr) (fs : List Fd) (ds : List PyData) : fnW np n tg m p fs ds = if ds.length + 1 = np then match m (slotsM n (.obj ⟨tg, some p, fs⟩) ds) with
  | .nx ρ' => (match (ρ' : List Slot)[0]? with
    | some (Slot.obj o) => if o.tg = tg ∧ o.ad = some p then .ok .none o.fs else .bad
    | _ => .bad)
  | .rs r ρ' => (match (ρ' : List Slot)[0]? with
    | some (Slot.obj o) => if o.tg = tg ∧ o.ad = some p then .ok r o.fs else .bad
    | _ => .bad)
  | _ => .bad
  else .bad := nr rfl
end
end Lw

set_option Elab.async false
set_option linter.all false
set_option maxRecDepth 100000
set_option maxHeartbeats 4000000
set_option autoImplicit false
namespace Lw
open PySem L2 LwZ
def xOrL (a b : ME) : ME := fun ρ => (a ρ).bind fun x => match x with
  | .list [] => b ρ
  | .list (d :: ds) => .ok (.list (d :: ds))
  | _ => .bad
def fRev (a : ME) : MA := fun ρ => (a ρ).bind fun x => match x with
  | .list ds => .ok ds.reverse
  | _ => .bad
section
variable {K : PySem.W.Frag} {T : Tb} {W : WX} {ta tb : TE} {ma mb : ME}
end
section
variable {ρ : List Slot}
theorem xOrL_a (a b : ME) : xOrL a b ρ = (a ρ).bind fun x => match x with
  | .list [] => b ρ
  | .list (d :: ds) => .ok (.list (d :: ds))
  | _ => .bad := nr rfl
theorem fRev_a (a : ME) : fRev a ρ = (a ρ).bind fun x => match x with
  | .list ds => .ok ds.reverse
  | _ => .bad := nr rfl
end
end Lw

set_option maxRecDepth 100000
set_option linter.all false
set_option Elab.async false
namespace Lw
open PySem L2 LwZ
def zR0 := And.intro @fnD_a (And.intro @xOrL_a (And.intro @fRev_a (And.intro @fnO_a (And.intro @fnW_a (And.intro @xFd_a (And.intro @kFset_a (And.intro @kFown_a (And.intro @kFapp_a (And.intro @kFput_a (And.intro @kFfrz_a (And.intro @xMr_a (And.intro @fMr_a (And.intro @kMw_a (And.intro @kMk_a (And.intro @objF_rob (And.intro @objF_obj (And.intro @objW_obj (And.intro @kSeq_a (And.intro @kNx_a (And.intro @kE_a (And.intro @kAsg_a (And.intro @kOwn_a (@kDrop_a)))))))))))))))))))))))
def zR1 := And.intro @kRet_a (And.intro @kRetP_a (And.intro @kRetF_a (And.intro @kRetO_a (And.intro @kRet2_a (And.intro @fP_a (And.intro @pairL_a (And.intro @kRetN_a (And.intro @kIf_a (And.intro @kBk_a (And.intro @kCt_a (And.intro @kTg_a (And.intro @kPar_a (And.intro @kApp_a (And.intro @kPut_a (And.intro @kFrz_a (And.intro @kRaise_a (And.intro @kDict_a (And.intro @kDput_a (And.intro @kClr_a (And.intro @kStar_a (And.intro @kOwnD_a (And.intro @fDz_a (@fnDD_a)))))))))))))))))))))))
def zR2 := And.intro @kIns_a (And.intro @kExt_a (And.intro @kApp3_a (And.intro @xIsi_a (And.intro @kNst_a (And.intro @fLc2_a (And.intro @fPk2_a (And.intro @fPk3_a (And.intro @yVw_a (And.intro @xVw_a (And.intro @flatT_r (And.intro @view_no (And.intro @view_dat (And.intro @view_own (And.intro @view_scr (And.intro @xC_a (And.intro @xV_a (And.intro @xOp_a (And.intro @fOp_a (And.intro @xUn_a (And.intro @xNot_a (And.intro @xAnd_a (And.intro @xOr_a (@xIf_a)))))))))))))))))))))))
def zR3 := And.intro @xChain_a (And.intro @zNil_a (And.intro @zCons_a (And.intro @xTup_a (And.intro @fLst_a (And.intro @xL_a (And.intro @xCB_a (And.intro @fCB_a (And.intro @xF_a (And.intro @xFc_a (And.intro @fF_a (And.intro @fFc_a (And.intro @zApp_a (And.intro @zKw_a (And.intro @oNo_a (And.intro @oAt_a (And.intro @fSl_a (And.intro @xSl_a (And.intro @yV_a (And.intro @yAnd_a (And.intro @yOr_a (And.intro @yNot_a (And.intro @yYes_a (@xIxO_a)))))))))))))))))))))))
def zR4 := And.intro @xLenO_a (And.intro @xDg_a (And.intro @xDin_a (And.intro @xDnotin_a (And.intro @iS_a (And.intro @iA_a (And.intro @fLc_a (And.intro @wipeS_nil (And.intro @wipeS_cons (And.intro @gN_a (And.intro @gs0_a (And.intro @gsC_a (And.intro @gT_a (And.intro @gU_a (And.intro @ownL_a (And.intro @ownD_a (And.intro @asB_a (And.intro @asI_a (And.intro @asL_a (And.intro @seqOf_l (And.intro @seqOf_t (And.intro @keyD_i (And.intro @keyD_s (@bind_ex)))))))))))))))))))))))
def zR5 := And.intro @bind_bad (And.intro @of_none (And.intro @zAddV_i (And.intro @zSub_i (And.intro @zLt_i (And.intro @zLe_i (And.intro @zGt_i (And.intro @zGe_i (And.intro @zEq_i (And.intro @zNe_i (And.intro @zEq_r (And.intro @zNe_r (And.intro @zIx_r0 (And.intro @zIx_r1 (And.intro @zIx_t (And.intro @zIx_l (And.intro @zNeg_i (And.intro @zLen_l (And.intro @zLen_t (And.intro @zAbs_i (And.intro @zInt_b (And.intro @zInt_i (And.intro @zListV_l (@zListV_t)))))))))))))))))))))))
def zR6 := And.intro @zList_l (And.intro @zList_t (And.intro @zTuple_l (And.intro @zTuple_t (And.intro @zAll_l (And.intro @zAny_l (And.intro @zSlV_l (And.intro @zSlV_t (And.intro @zIsN_a (@zNotN_a)))))))))
end Lw

set_option Elab.async false
set_option linter.all false
set_option maxRecDepth 100000
set_option maxHeartbeats 4000000
set_option autoImplicit false
namespace Lw
open PySem L2 LwZ
def rf (g : Addr → Option Obj) (as : List Addr) : List Addr := as.flatMap fun a => match g a with
  | some o => He.refsD o
  | none => []
def asV (cl : List Str) (g : Addr → Option Obj) : List Addr :=
  let b0 : List Addr := [mainGlobals]
  let b1 := rf g b0
  let b2 := rf g b1
  let k := He.frT g (b0 ++ b1)
  let c := rf g (rf g (cl.map (He.ga k)))
  b0 ++ b1 ++ b2 ++ c ++ rf g c
def KV (cl : List Str) (g : Addr → Option Obj) : PySem.W.Frag := He.frT g (asV cl g ++ [cStatics, sysModules])
def obsV (cl : List Str) (fa : List He.Fa) (fn : List He.DefD) (tf : List He.Defn) (ck : PySem.W.Frag → Bool) (g : Addr → Option Obj) : AlQ := (He.obsD fa fn (KV cl g), ck (KV cl g) && tabQ g tf (KV cl g))
theorem saysV_of {cl : List Str} {fa : List He.Fa} {fn : List He.DefD} {tf : List He.Defn} {ck : PySem.W.Frag → Bool} {h : Heap} (e : obsV cl fa fn tf ck h.get? = (He.valD fn, true)) : SaysQ fa fn tf ck h (KV cl h.get?) := by
  have e1 : He.obsD fa fn (KV cl h.get?) = He.valD fn := congrArg Prod.fst e
  have e2 : (ck (KV cl h.get?) && tabQ h.get? tf (KV cl h.get?)) = true := congrArg Prod.snd e
  obtain ⟨h1, h2⟩ := He.ba e2
  unfold tabQ at h2
  obtain ⟨h2, h5⟩ := He.ba h2
  have key : ∀ p ∈ tf, PySem.W.codeHdIn (KV cl h.get?) (He.cT (KV cl h.get?) p).1 (He.cT (KV cl h.get?) p).2 = true ∧ ∃ o, h.get? (He.cT (KV cl h.get?) p).2 = some o ∧ He.emptyTab o = true := fun p hp => by
    obtain ⟨h3, h4⟩ := He.ba (List.all_eq_true.mp h2 p hp)
    refine ⟨h3, ?_⟩
    cases q : h.get? (He.cT (KV cl h.get?) p).2 with
    | none => rw [q] at h4; cases h4
    | some o => rw [q] at h4; exact ⟨o, rfl, h4⟩
  exact ⟨e1, h1, fun p hp => (key p hp).1, fun p hp => by
    obtain ⟨_, o, q, z⟩ := key p hp
    exact He.frT_none q z, fun p hp => by
    obtain ⟨_, o, q, z⟩ := key p hp
    rw [q, He.emptyTab_eq z], of_decide_eq_true h5⟩
def hookV (cl : List Str) (fa : List He.Fa) (fn : List He.DefD) (tf : List He.Defn) (ck : PySem.W.Frag → Bool) : PySem.W.Hook where
  α := AlQ
  obs := fun s => obsV cl fa fn tf ck s.heap.get?
  val := fun _ => (He.valD fn, true)
  says := fun _ h => ∃ K : PySem.W.Frag, K.In h ∧ SaysQ fa fn tf ck h K
  of := fun _ _ e => ⟨_, He.frT_in, saysV_of e⟩
  keeps := fun _ _ _ ⟨K, hK, c⟩ k => ⟨K, PySem.W.Frag.In.keeps hK k, ⟨c.d, c.ck, c.hd, c.out, fun p hp => k _ _ (c.empty p hp), c.nd⟩⟩
theorem obsV_eq {cl : List Str} {fa : List He.Fa} {fn : List He.DefD} {tf : List He.Defn} {ck : PySem.W.Frag → Bool} {g : Addr → Option Obj} {s : Shared} (h : ∀ a, g a = s.heap.get? a) : obsV cl fa fn tf ck g = (hookV cl fa fn tf ck).obs s := by
  have e : g = s.heap.get? := funext h
  rw [e] <;> rfl
open PySem.Spec PyProof.Rows in
open PySem.Spec PyProof.Rows in
section
variable {K : PySem.W.Frag} {T : Tb}
end
end Lw

set_option Elab.async false
set_option linter.all false
set_option maxRecDepth 100000
set_option maxHeartbeats 4000000
set_option autoImplicit false
namespace Lw
open PySem L2 LwZ
section
variable {K : PySem.W.Frag} {T : Tb} {W : WX} {ta : TA} {ma : MA} {F : List PyData → Rz PyData}
end
section
variable {ρ : List Slot}
end
end Lw

set_option Elab.async false
set_option linter.all false
set_option maxRecDepth 100000
set_option maxHeartbeats 4000000
set_option autoImplicit false
namespace Lw
open PySem L2 LwZ
def kRetW (m : ME) : MS := fun ρ => kE m (fun d => .rs d ρ) ρ
def kFdct (i tg k : Nat) : MS := fun ρ => match objW tg ρ[i]? with
  | some o => if k ≤ o.fs.length then .nx (ρ.set i (.obj { o with fs := putAt k (.own (.dct [])) o.fs })) else .bad
  | none => .bad
def fdK (k : Nat) (o : Oj) : Option (List (Key × PyData)) := match o.fs[k]? with
  | some (.own (.dct es)) => some es
  | _ => none
def kFdput (i tg k : Nat) (mk mv : ME) : MS := fun ρ => match objW tg ρ[i]? with
  | some o => (match fdK k o with
    | some es => kE mv (fun v => kE mk (fun e => match keyD e with | some q => if es.length < 1000000 then .nx (ρ.set i (.obj { o with fs := o.fs.set k (.own (.dct (putD es q v))) })) else .bad | none => .bad) ρ) ρ
    | none => .bad)
  | none => .bad
section
variable {K : PySem.W.Frag} {T : Tb} {W : WX} {fr : Fr} {te tb tk tv : TE} {m mk mv : ME} {ma : MA} {i tg k : Nat} {f : Str}
def xFdg (i tg k : Nat) (mk : ME) : ME := fun ρ => (Rz.of (objD tg k ρ[i]?)).bind fun es => (mk ρ).bind fun e => (Rz.of (keyD e)).bind fun q => .of (getD? q es)
def xFdin (mk : ME) (i tg k : Nat) : ME := fun ρ => (mk ρ).bind fun e => (Rz.of (objD tg k ρ[i]?)).bind fun es => (Rz.of (keyD e)).bind fun q => .ok (.bool (getD? q es).isSome)
end
noncomputable def kIfW (i tg : Nat) (F : List Fd → List PyData → Ro) (ma : MA) (a b : MS) : MS := fun ρ => match objW tg ρ[i]? with
  | some o => kE ma (fun ds => match F o.fs ds with
    | .ok (.bool true) fs' => a (ρ.set i (.obj { o with fs := fs' }))
    | .ok (.bool false) fs' => b (ρ.set i (.obj { o with fs := fs' }))
    | _ => .bad) ρ
  | none => .bad
section
variable {K : PySem.W.Frag} {T : Tb} {W : WX} {fr : Fr} {ta : TA} {ma m1 m2 : MA} {i j tg : Nat} {m : Str} {F : Addr → List Fd → List PyData → Ro} {E : XK} {H0 B : Hp} {C : List Addr} {H : Hp} {S : List Addr} {σ : St} {ρ : List Slot} {tu tz : TS} {a b : MS} {t1 t2 : TE}
end
end Lw

set_option Elab.async false
set_option linter.all false
set_option maxRecDepth 100000
set_option maxHeartbeats 4000000
set_option autoImplicit false
namespace LwZ
open PySem PySem.Spec PyProof.Rows L2 Lw
open PySem.Sem (wp)
section
variable {prog : Program} {w : World} {A : Around} {E : Value → Shared → Prop} {s : Shared}
end
end LwZ
namespace Lw
open PySem L2 LwZ
def kStarO (i j w : Nat) : MS := fun ρ => match ownL ρ[w]? with
  | some (.tuple [a, b] :: xs) => if xs.length ≤ 1000 then .nx (((ρ.set w (.own (.lst xs))).set i (.dat a)).set j (.dat b)) else .bad
  | _ => .bad
section
variable {K : PySem.W.Frag} {T : Tb} {W : WX} {fr : Fr}
end
def kEq : PyData → PyData → Bool
  | .int i, .int j => decide (i = j)
  | .str a, .str b => decide (a = b)
  | _, _ => false
def getP (k : PyData) : List (PyData × PyData) → Option PyData
  | [] => none
  | p :: r => if kEq p.1 k then some p.2 else getP k r
def zDg (d k : PyData) : Option PyData := match d, keyD k with
  | .dict es, some _ => getP k es
  | _, _ => none
def zDin (k d : PyData) : Option PyData := match d, keyD k with
  | .dict es, some _ => some (.bool (getP k es).isSome)
  | _, _ => none
def zDnotin (k d : PyData) : Option PyData := match d, keyD k with
  | .dict es, some _ => some (.bool (!(getP k es).isSome))
  | _, _ => none
def kFrzD (i : Nat) (a : MS) : MS := fun ρ => match ownD ρ[i]? with
  | some es => a (ρ.set i (.dat (.dict (dctD es))))
  | none => .bad
def fVw (m : MA) : MA := fun ρ => match m (ρ.map Slot.view) with
  | .ok ds => if noLs ds then .ok ds else .bad
  | _ => .bad
section
variable {K : PySem.W.Frag} {T : Tb} {W : WX} {fr : Fr} {te td tk : TE} {md mk : ME} {ma : MA}
end
def fLr (m : ME) : MA := fun ρ => (m ρ).bind fun d => match d with
  | .int n => if Nat.ble n.natAbs 1000000 then .ok (rgD 0 n.toNat) else .bad
  | _ => .bad
def zMin : List PyData → Option PyData
  | [.int i, .int j] => some (.int (if j < i then j else i))
  | _ => none
def zMax : List PyData → Option PyData
  | [.int i, .int j] => some (.int (if j > i then j else i))
  | _ => none
theorem zMin_i (i j : Int) : zMin [.int i, .int j] = some (.int (if j < i then j else i)) := nr rfl
theorem zMax_i (i j : Int) : zMax [.int i, .int j] = some (.int (if j > i then j else i)) := nr rfl
section
variable {ρ : List Slot}
theorem kStarO_a (i j w : Nat) : kStarO i j w ρ = (match ownL ρ[w]? with
  | some (.tuple [a, b] :: xs) => if xs.length ≤ 1000 then .nx (((ρ.set w (.own (.lst xs))).set i (.dat a)).set j (.dat b)) else .bad
  | _ => .bad) := nr rfl
theorem kFrzD_a (i : Nat) (a : MS) : kFrzD i a ρ = (match ownD ρ[i]? with
  | some es => a (ρ.set i (.dat (.dict (dctD es))))
  | none => .bad) := nr rfl
theorem fVw_a (m : MA) : fVw m ρ = (match m (ρ.map Slot.view) with | .ok ds => if noLs ds then .ok ds else .bad | _ => .bad) := nr rfl
theorem fLr_a (m : ME) : fLr m ρ = (m ρ).bind fun d => match d with
  | .int n => if Nat.ble n.natAbs 1000000 then .ok (rgD 0 n.toNat) else .bad
  | _ => .bad := nr rfl
theorem view_dct (es : List (Key × PyData)) : Slot.view (.own (.dct es)) = .dat (.dict (dctD es)) := nr rfl
theorem zDg_s (es : List (PyData × PyData)) (s : Str) : zDg (.dict es) (.str s) = getP (.str s) es := nr rfl
theorem zDg_i (es : List (PyData × PyData)) (s : Int) : zDg (.dict es) (.int s) = getP (.int s) es := nr rfl
theorem zDin_s (es : List (PyData × PyData)) (s : Str) : zDin (.str s) (.dict es) = some (.bool (getP (.str s) es).isSome) := nr rfl
theorem zDin_i (es : List (PyData × PyData)) (s : Int) : zDin (.int s) (.dict es) = some (.bool (getP (.int s) es).isSome) := nr rfl
theorem zDnotin_s (es : List (PyData × PyData)) (s : Str) : zDnotin (.str s) (.dict es) = some (.bool (!(getP (.str s) es).isSome)) := nr rfl
theorem zDnotin_i (es : List (PyData × PyData)) (s : Int) : zDnotin (.int s) (.dict es) = some (.bool (!(getP (.int s) es).isSome)) := nr rfl
theorem kRetW_a (m : ME) : kRetW m ρ = kE m (fun d => .rs d ρ) ρ := nr rfl
theorem kFdct_a (i tg k : Nat) : kFdct i tg k ρ = (match objW tg ρ[i]? with
  | some o => if k ≤ o.fs.length then .nx (ρ.set i (.obj { o with fs := putAt k (.own (.dct [])) o.fs })) else .bad
  | none => .bad) := nr rfl
theorem kFdput_a (i tg k : Nat) (mk mv : ME) : kFdput i tg k mk mv ρ = (match objW tg ρ[i]? with
  | some o => (match fdK k o with
    | some es => kE mv (fun v => kE mk (fun e => match keyD e with | some q => if es.length < 1000000 then .nx (ρ.set i (.obj { o with fs := o.fs.set k (.own (.dct (putD es q v))) })) else .bad | none => .bad) ρ) ρ
    | none => .bad)
  | none => .bad) := nr rfl
theorem xFdg_a (i tg k : Nat) (mk : ME) : xFdg i tg k mk ρ = (Rz.of (objD tg k ρ[i]?)).bind fun es => (mk ρ).bind fun e => (Rz.of (keyD e)).bind fun q => .of (getD? q es) := nr rfl
theorem xFdin_a (mk : ME) (i tg k : Nat) : xFdin mk i tg k ρ = (mk ρ).bind fun e => (Rz.of (objD tg k ρ[i]?)).bind fun es => (Rz.of (keyD e)).bind fun q => .ok (.bool (getD? q es).isSome) := nr rfl
theorem kIfW_a (i tg : Nat) (F : List Fd → List PyData → Ro) (ma : MA) (a b : MS) : kIfW i tg F ma a b ρ = (match objW tg ρ[i]? with
  | some o => kE ma (fun ds => match F o.fs ds with
    | .ok (.bool true) fs' => a (ρ.set i (.obj { o with fs := fs' }))
    | .ok (.bool false) fs' => b (ρ.set i (.obj { o with fs := fs' }))
    | _ => .bad) ρ
  | none => .bad) := nr rfl
theorem objD_rob0 (tg : Nat) (ad : Option Addr) (es : List (Key × PyData)) : objD tg 0 (some (.rob ⟨tg, ad, [.own (.dct es)]⟩)) = some es := by
  unfold objD; rw [objF_rob]; rfl
theorem objD_obj0 (tg : Nat) (ad : Option Addr) (es : List (Key × PyData)) : objD tg 0 (some (.obj ⟨tg, ad, [.own (.dct es)]⟩)) = some es := by
  unfold objD; rw [objF_obj]; rfl
theorem fdK_0 (tg : Nat) (ad : Option Addr) (es : List (Key × PyData)) : fdK 0 ⟨tg, ad, [.own (.dct es)]⟩ = some es := nr rfl
end
def zR7 := And.intro @kRetW_a (And.intro @kFdct_a (And.intro @kFdput_a (And.intro @xFdg_a (And.intro @xFdin_a (And.intro @kIfW_a (And.intro @objD_rob0 (And.intro @objD_obj0 (And.intro @fdK_0 (And.intro @kStarO_a (And.intro @kFrzD_a (And.intro @fVw_a (And.intro @fLr_a (And.intro @view_dct (And.intro @zDg_s (And.intro @zDg_i (And.intro @zDin_s (And.intro @zDin_i (And.intro @zDnotin_s (And.intro @zDnotin_i (And.intro @zMin_i @zMax_i))))))))))))))))))))
end Lw

set_option Elab.async false
set_option linter.all false
set_option maxRecDepth 100000
set_option maxHeartbeats 4000000
set_option autoImplicit false
namespace LwZ
open PySem PySem.Spec PyProof.Rows L2 Lw
open PySem.Sem (wp)
section
variable {prog : Program} {w : World} {A : Around} {E : Value → Shared → Prop} {s : Shared}
end
end LwZ
namespace Lw
open PySem L2 LwZ
def fPrs : List (ME × ME) → List Slot → Rz (List (Key × PyData))
  | [], _ => .ok []
  | p :: r, ρ => (p.1 ρ).bind fun x => (p.2 ρ).bind fun y => (Rz.of (keyD x)).bind fun q => (fPrs r ρ).bind fun ps => .ok ((q, y) :: ps)
def fDisp (l : List (ME × ME)) : List Slot → Rz (List (Key × PyData)) := fun ρ => if l.length ≤ 15 then (fPrs l ρ).bind fun ps => .ok (mergeD [] ps) else .bad
def xD (F : List Slot → Rz (List (Key × PyData))) : ME := fun ρ => (F ρ).bind fun es => .ok (.dict (dctD es))
section
variable {K : PySem.W.Frag} {T : Tb} {W : WX} {H0 B : Hp} {C : List Addr} {H H' : Hp} {S : List Addr} {σ : St} {ρ : List Slot}
inductive SimPr (K : PySem.W.Frag) (T : Tb) (W : WX) : List (TE × TE) → List (ME × ME) → Prop
  | nil : SimPr K T W [] []
  | cons {tk tv : TE} {mk mv : ME} {trs : List (TE × TE)} {l : List (ME × ME)} : SimE K T tk W mk → SimE K T tv W mv → SimPr K T W trs l → SimPr K T W ((tk, tv) :: trs) ((mk, mv) :: l)
def gS (n : Nat) (r : MGs) : MG := fun d => match d with
  | .tuple ds => if n ≤ ds.length ∧ ds.length ≤ 1000 then r (ds.take n ++ [.list (ds.drop n)]) else none
  | _ => none
def idxD (ds : List PyData) : List PyData → Rz PyData
  | [y] => if SeqAt.shaped (.list ds) && SeqAt.shaped y then (match ds.findIdx? (fun z => PyData.eqv z y) with
    | some j => .ok (.int (j : Nat))
    | none => .bad) else .bad
  | _ => .bad
def xIdx (mo : ME) (ma : MA) : ME := fun ρ => (mo ρ).bind fun x => match x with
  | .list ds => (ma ρ).bind (idxD ds)
  | _ => .bad
def kOwnDx (F : List Slot → Rz (List (Key × PyData))) (i : Nat) : MS := fun ρ => match F ρ with
  | .ok es => .nx (ρ.set i (.own (.dct es)))
  | .ex x => .ex x ρ
  | .bad => .bad
def putItems : List (PyData × PyData) → List PyData → Option (List PyData)
  | [], ds => some ds
  | (.int k, v) :: r, ds => (ixN ds.length k).bind fun n => putItems r (ds.set n v)
  | _ :: _, _ => none
def kItems (i j a b : Nat) : MS := fun ρ => match ownL ρ[i]?, ρ[j]?, ρ[a]?, ρ[b]? with
  | some ds, some (.dat (.dict es)), some _, some _ => (match putItems es ds with
    | some ds' => .nx (((ρ.set i (.own (.lst ds'))).set a .no).set b .no)
    | none => .bad)
  | _, _, _, _ => .bad
end
section
variable {ρ : List Slot}
theorem fPrs_nil : fPrs [] ρ = .ok [] := nr rfl
theorem fPrs_cons (k v : ME) (r : List (ME × ME)) : fPrs ((k, v) :: r) ρ = (k ρ).bind fun x => (v ρ).bind fun y => (Rz.of (keyD x)).bind fun q => (fPrs r ρ).bind fun ps => .ok ((q, y) :: ps) := nr rfl
theorem fDisp_a (l : List (ME × ME)) : fDisp l ρ = if l.length ≤ 15 then (fPrs l ρ).bind fun ps => .ok (mergeD [] ps) else .bad := nr rfl
theorem xD_a (F : List Slot → Rz (List (Key × PyData))) : xD F ρ = (F ρ).bind fun es => .ok (.dict (dctD es)) := nr rfl
theorem gS_a (n : Nat) (r : MGs) (ds : List PyData) : gS n r (.tuple ds) = if n ≤ ds.length ∧ ds.length ≤ 1000 then r (ds.take n ++ [.list (ds.drop n)]) else none := nr rfl
theorem xIdx_a (mo : ME) (ma : MA) : xIdx mo ma ρ = (mo ρ).bind fun x => match x with
  | .list ds => (ma ρ).bind (idxD ds)
  | _ => .bad := nr rfl
theorem kOwnDx_a (F : List Slot → Rz (List (Key × PyData))) (i : Nat) : kOwnDx F i ρ = (match F ρ with
  | .ok es => .nx (ρ.set i (.own (.dct es)))
  | .ex x => .ex x ρ
  | .bad => .bad) := nr rfl
theorem kItems_a (i j a b : Nat) : kItems i j a b ρ = (match ownL ρ[i]?, ρ[j]?, ρ[a]?, ρ[b]? with
  | some ds, some (.dat (.dict es)), some _, some _ => (match putItems es ds with
    | some ds' => .nx (((ρ.set i (.own (.lst ds'))).set a .no).set b .no)
    | none => .bad)
  | _, _, _, _ => .bad) := nr rfl
end
def zR8 := And.intro @fPrs_nil (And.intro @fPrs_cons (And.intro @fDisp_a (And.intro @xD_a (And.intro @gS_a (And.intro @xIdx_a (And.intro @kOwnDx_a @kItems_a))))))
end Lw

set_option Elab.async false
set_option linter.all false
set_option maxRecDepth 100000
set_option maxHeartbeats 4000000
set_option autoImplicit false
namespace LwZ
open PySem PySem.Spec PyProof.Rows L2 Lw
structure DTab (K : PySem.W.Frag) (w : World) (d : Addr) (tbl : List (Str × V)) : Prop where
  kd : ∃ es n, KDict K w d es n
  hit : ∀ s v, tbl.lookup s = some v → ∃ u, PySem.W.nsIn K d s = some (some u) ∧ RelV v u
  miss : ∀ s, tbl.lookup s = none → PySem.W.nsIn K d s = some none
section
variable {X : Cx} {d : Addr} {tbl : List (Str × V)} {o e f : Expr} {apos cpos pos : Pos} {to ty tx : TE}
structure HeldX (P : Program) (w : World) (K : PySem.W.Frag) (mg : Str → Option Value) (base : Heap) (k : Nat) (f : Addr) (sp : Sp) : Prop where
  ex : ∃ (k' : Nat) (fd : FuncData) (ps : List Str), k' ≤ k ∧ FnOk P w K mg base (L2N.CX P w) k' f fd ps sp ∧ PySem.W.keepIn K (.ref f) = true ∧ Binds K fd ps []
end
end LwZ
namespace Lw
open PySem L2 LwZ
def xKget (tbl : List (Str × PyData)) (mk md : ME) : ME := fun ρ => (mk ρ).bind fun k => (md ρ).bind fun z => match k with
  | .str s => .ok ((tbl.lookup s).getD z)
  | _ => .bad
structure DtT (K : PySem.W.Frag) (tv : List (Str × V)) (td : List (Str × PyData)) : Prop where
  at_ : ∀ s, (tv.lookup s = none ∧ td.lookup s = none) ∨ ∃ v d, tv.lookup s = some v ∧ td.lookup s = some d ∧ ∀ H, Dt K H v d
def kAct (iw ia il : Nat) (F : List (Str × (List PyData → Rz PyData))) (ma : MA) : MS := fun ρ => match ρ[iw]?, ρ[ia]? with
  | some (.dat (.str s)), some _ => (match F.lookup s with
    | some f => (match (ma (ρ.set ia .no)).bind f with
      | .ok d => .nx ((ρ.set ia .no).set il (.dat d))
      | .ex x => .ex x (ρ.set ia .no)
      | .bad => .bad)
    | none => .bad)
  | _, _ => .bad
abbrev FTab := List ((Str × Str) × (List PyData → Rz PyData))
def RTab (K : PySem.W.Frag) (T : Tb) (fa : Str → Addr) (l : FTab) : Addr → Sp → Prop := fun f sp => ∃ p ∈ l, f = fa p.1.2 ∧ sp = spZ K T .no p.2
inductive HeldL (P : Program) (w : World) (K : PySem.W.Frag) (T : Tb) (mg : Str → Option Value) (base : Heap) (k : Nat) : FTab → Prop
  | nil : HeldL P w K T mg base k []
  | cons {x y : Str} {F : List PyData → Rz PyData} {l : FTab} : (∀ f, mg y = some (.ref f) → HeldX P w K mg base k f (spZ K T .no F)) → HeldL P w K T mg base k l → HeldL P w K T mg base k (((x, y), F) :: l)
theorem HeldL.all {P : Program} {w : World} {K : PySem.W.Frag} {T : Tb} {mg : Str → Option Value} {base : Heap} {k : Nat} {fa : Str → Addr} {l : FTab} (h : HeldL P w K T mg base k l) (hm : ∀ p ∈ l.map (·.1), mg p.2 = some (.ref (fa p.2))) : ∀ f sp, RTab K T fa l f sp → HeldX P w K mg base k f sp := fun f sp ⟨p, hp, e1, e2⟩ => by
  subst e1 e2
  induction h with
  | nil => cases hp
  | @cons x y F l h0 _ ih =>
    rcases List.mem_cons.mp hp with z | z
    · rw [z]; exact h0 _ (hm _ (List.mem_cons_self ..))
    · exact ih (fun q hq => hm q (List.mem_cons_of_mem _ hq)) z ⟨p, z, rfl, rfl⟩
section
variable {K : PySem.W.Frag} {T : Tb} {W : WX} {fr : Fr}
end
section
variable {ρ : List Slot}
theorem xKget_a (tbl : List (Str × PyData)) (mk md : ME) : xKget tbl mk md ρ = (mk ρ).bind fun k => (md ρ).bind fun z => match k with
  | .str s => .ok ((tbl.lookup s).getD z)
  | _ => .bad := nr rfl
theorem kAct_a (iw ia il : Nat) (F : List (Str × (List PyData → Rz PyData))) (ma : MA) : kAct iw ia il F ma ρ = (match ρ[iw]?, ρ[ia]? with
  | some (.dat (.str s)), some _ => (match F.lookup s with
    | some f => (match (ma (ρ.set ia .no)).bind f with
      | .ok d => .nx ((ρ.set ia .no).set il (.dat d))
      | .ex x => .ex x (ρ.set ia .no)
      | .bad => .bad)
    | none => .bad)
  | _, _ => .bad) := nr rfl
end
def zR9 := And.intro @xKget_a @kAct_a
end Lw

set_option Elab.async false
set_option linter.all false
set_option maxRecDepth 100000
set_option maxHeartbeats 4000000
set_option autoImplicit false
namespace Lw
open PySem L2 LwZ
def fnN (np n tg : Nat) (m : MS) (ds : List PyData) : Rz (List Fd) := if ds.length = np then match m (slots n ds) with
  | .ro i ρ' => (match (ρ' : List Slot)[i]? with
    | some (Slot.obj o) => if o.tg = tg ∧ o.ad = none then .ok o.fs else .bad
    | _ => .bad)
  | .ex x _ => .ex x
  | _ => .bad
  else .bad
def kRetJ (i : Nat) : MS := fun ρ => match ρ[i]? with
  | some (.obj _) => .ro i ρ
  | _ => .bad
def kMkF (i tg : Nat) (F : List PyData → Rz (List Fd)) (ma : MA) : MS := fun ρ => kE ma (fun ds => match F ds with
  | .ok fs => .nx (ρ.set i (.obj ⟨tg, none, fs⟩))
  | _ => .bad) ρ
section
variable {P : Program} {w : World} {K : PySem.W.Frag} {T : Tb} {mg : Str → Option Value} {base : Heap}
end
section
variable {K : PySem.W.Frag} {T : Tb} {W : WX} {fr : Fr} {ta : TA} {ma : MA} {i tg : Nat}
end
section
variable {ρ : List Slot}
theorem kRetJ_a (i : Nat) : kRetJ i ρ = (match ρ[i]? with
  | some (.obj _) => .ro i ρ
  | _ => .bad) := nr rfl
theorem kMkF_a (i tg : Nat) (F : List PyData → Rz (List Fd)) (ma : MA) : kMkF i tg F ma ρ = kE ma (fun ds => match F ds with
  | .ok fs => .nx (ρ.set i (.obj ⟨tg, none, fs⟩))
  | _ => .bad) ρ := nr rfl
theorem fnN_a (np n tg : Nat) (m : MS) (ds : List PyData) : fnN np n tg m ds = if ds.length = np then (match m (slots n ds) with
  | .ro i ρ' => (match (ρ' : List Slot)[i]? with
    | some (Slot.obj o) => if o.tg = tg ∧ o.ad = none then .ok o.fs else .bad
    | _ => .bad)
  | .ex x _ => .ex x
  | _ => .bad) else .bad := nr rfl
end
def zR10 := And.intro @kRetJ_a (And.intro @kMkF_a @fnN_a)
end Lw

set_option Elab.async false
set_option linter.all false
set_option maxRecDepth 100000
set_option maxHeartbeats 4000000
set_option autoImplicit false
namespace Lw
open PySem L2 LwZ
def slotsJ (n j : Nat) (o : Oj) (ds : List PyData) : List Slot := (slotsA n ((ds.take j).map Slot.dat ++ .no :: (ds.drop j).map Slot.dat)).set j (.obj o)
def fnWJ (np n tg j : Nat) (m : MS) (p : Addr) (fs : List Fd) (ds : List PyData) : Ro := if ds.length + 1 = np then match m (slotsJ n j ⟨tg, some p, fs⟩ ds) with
  | .nx ρ' => (match (ρ' : List Slot)[j]? with
    | some (Slot.obj o) => if o.tg = tg ∧ o.ad = some p then .ok .none o.fs else .bad
    | _ => .bad)
  | .rs r ρ' => (match (ρ' : List Slot)[j]? with
    | some (Slot.obj o) => if o.tg = tg ∧ o.ad = some p then .ok r o.fs else .bad
    | _ => .bad)
  | _ => .bad
  else .bad
section
variable {P : Program} {w : World} {K : PySem.W.Frag} {T : Tb} {mg : Str → Option Value} {base : Heap} {H0 B : Hp} {C : List Addr} {H H' : Hp} {S : List Addr} {σ : St} {ρ : List Slot}
theorem Ar.app {H : Hp} {vs ws : List V} {ss ts : List Slot} (h : Ar K H vs ss) (h2 : Ar K H ws ts) : Ar K H (vs ++ ws) (ss ++ ts) := by
  induction h with
  | nil => exact h2
  | dat d _ ih => exact .dat d ih
  | scr a b _ ih => exact .scr a b ih
  | raw _ ih => exact .raw ih
end
def mB : List ME → List Slot → Rz (List PyData)
  | [], _ => .ok []
  | m :: r, ρ => (m ρ).bind fun d => (mB r ρ).bind fun ds => .ok (d :: ds)
noncomputable def kMwJ (i tg : Nat) (F : List Fd → List PyData → Ro) (mb : List ME) (ma : MA) : MS := fun ρ => match objW tg ρ[i]? with
  | some o => kE (fun ρ => (mB mb ρ).bind fun d1 => (ma ρ).bind fun d2 => .ok (d1 ++ d2)) (fun ds => match F o.fs ds with
    | .ok _ fs' => .nx (ρ.set i (.obj { o with fs := fs' }))
    | _ => .bad) ρ
  | none => .bad
section
variable {K : PySem.W.Frag} {T : Tb} {W : WX} {fr : Fr} {tb : TA} {ma : MA} {i tg : Nat}
inductive SimB (K : PySem.W.Frag) (T : Tb) (W : WX) : List TE → List ME → Prop
  | nil : SimB K T W [] []
  | cons {te : TE} {m : ME} {tes : List TE} {ms : List ME} : SimE K T te W m → SimB K T W tes ms → SimB K T W (te :: tes) (m :: ms)
end
section
variable {P : Program} {w : World} {K : PySem.W.Frag} {T : Tb} {mg : Str → Option Value} {base : Heap}
end
section
variable {ρ : List Slot}
theorem mB_nil : mB [] ρ = .ok [] := nr rfl
theorem mB_cons (m : ME) (r : List ME) : mB (m :: r) ρ = (m ρ).bind fun d => (mB r ρ).bind fun ds => .ok (d :: ds) := nr rfl
theorem kMwJ_a (i tg : Nat) (F : List Fd → List PyData → Ro) (mb : List ME) (ma : MA) : kMwJ i tg F mb ma ρ = (match objW tg ρ[i]? with
  | some o => kE (fun ρ => (mB mb ρ).bind fun d1 => (ma ρ).bind fun d2 => .ok (d1 ++ d2)) (fun ds => match F o.fs ds with
    | .ok _ fs' => .nx (ρ.set i (.obj { o with fs := fs' }))
    | _ => .bad) ρ
  | none => .bad) := nr rfl
theorem fnWJ_a (np n tg j : Nat) (m : MS) (p : Addr) (fs : List Fd) (ds : List PyData) : fnWJ np n tg j m p fs ds = if ds.length + 1 = np then (match m (slotsJ n j ⟨tg, some p, fs⟩ ds) with
  | .nx ρ' => (match (ρ' : List Slot)[j]? with
    | some (Slot.obj o) => if o.tg = tg ∧ o.ad = some p then .ok .none o.fs else .bad
    | _ => .bad)
  | .rs r ρ' => (match (ρ' : List Slot)[j]? with
    | some (Slot.obj o) => if o.tg = tg ∧ o.ad = some p then .ok r o.fs else .bad
    | _ => .bad)
  | _ => .bad) else .bad := nr rfl
theorem slotsJ_a (n j : Nat) (o : Oj) (ds : List PyData) : slotsJ n j o ds = ((((ds.take j).map Slot.dat ++ Slot.no :: (ds.drop j).map Slot.dat) ++ List.replicate (n - ((ds.take j).map Slot.dat ++ Slot.no :: (ds.drop j).map Slot.dat).length) Slot.no)).set j (.obj o) := nr rfl
end
def zR11 := And.intro @mB_nil (And.intro @mB_cons (And.intro @kMwJ_a (And.intro @fnWJ_a @slotsJ_a)))
end Lw

set_option Elab.async false
set_option linter.all false
set_option maxRecDepth 100000
set_option maxHeartbeats 4000000
set_option autoImplicit false
namespace Lw
open PySem L2 LwZ
end Lw

set_option Elab.async false
set_option linter.all false
set_option maxRecDepth 100000
set_option maxHeartbeats 4000000
set_option autoImplicit false
namespace Lw
open PySem L2 LwZ
def txF : PyData → Option PyData
  | .str s => if s.length ≤ 1000000 then some (.str s) else none
  | .int i => if i.natAbs.log2 < 1920 then some (.str (toString i)) else none
  | _ => none
def xFm (a : ME) : ME := fun ρ => (a ρ).bind fun x => .of (txF x)
def xJs : List ME → Str → ME
  | [], acc => fun _ => .ok (.str acc)
  | m :: ms, acc => fun ρ => (m ρ).bind fun x => (txS x).bind fun s => if (acc ++ s).length ≤ 1000000 then xJs ms (acc ++ s) ρ else .bad
theorem big_line : (1000000 : Nat) ≤ sizeLine := by decide
section
variable {K : PySem.W.Frag} {T : Tb} {W : WX} {te : TE} {ta : TA} {m : ME} {ma : MA}
theorem sim_fm (h : SimE K T te W m) : SimE K T (tFmt te) W (xFm m) := fun ρ => by
  have a := h ρ
  unfold xFm
  cases h1 : m ρ with
  | bad => exact True.intro
  | ex x => rw [h1] at a; exact fun H0 B C H S σ g Q hQ => a H0 B C H S σ g _ hQ
  | ok x =>
    rw [h1] at a
    show EzE K T _ ρ W (Rz.of (txF x))
    cases x with
    | str s =>
      unfold txF
      by_cases hl : s.length ≤ 1000000
      · simp only [if_pos hl]
        exact fun H0 B C H S σ g Q hQ => a H0 B C H S σ g _ fun v H1 e1 d1 => by
          cases d1
          exact .inl ⟨s, rfl, Nat.le_trans hl big_line, hQ _ H1 e1 (.str s)⟩
      · simp only [if_neg hl]; exact True.intro
    | int i =>
      unfold txF
      by_cases hl : i.natAbs.log2 < 1920
      · simp only [if_pos hl]
        exact fun H0 B C H S σ g Q hQ => a H0 B C H S σ g _ fun v H1 e1 d1 => by
          cases d1
          exact .inr ⟨i, rfl, hl, hQ _ H1 e1 (.str _)⟩
      · simp only [if_neg hl]; exact True.intro
    | none => exact True.intro
    | bool b => exact True.intro
    | list b => exact True.intro
    | tuple b => exact True.intro
    | dict b => exact True.intro
inductive SimJ (K : PySem.W.Frag) (T : Tb) (W : WX) : List TE → List ME → Prop
  | nil : SimJ K T W [] []
  | cons {t : TE} {m : ME} {ts : List TE} {ms : List ME} : SimE K T t W m → SimJ K T W ts ms → SimJ K T W (t :: ts) (m :: ms)
theorem sim_js0 {ts : List TE} {ms : List ME} (h : SimJ K T W ts ms) : ∀ (acc : Str) (ρ : List Slot), match xJs ms acc ρ with
    | .ok d => ∃ s, d = .str s ∧ ∀ (H0 B : Hp) (C : List Addr) (H : Hp) (S : List Addr) (σ : St), Gd K T H0 B C H S σ ρ → ∀ Q : Str → Hp → Prop, (∀ H2, Ext T H H2 → Q s H2) → tJs ts acc σ H Q
    | .ex x => ∀ (H0 B : Hp) (C : List Addr) (H : Hp) (S : List Addr) (σ : St), Gd K T H0 B C H S σ ρ → ∀ Q : Str → Hp → Prop, (∀ d H2, Ext T H H2 → XD K (hide H2 S) d x.fs → W (.ref (He.ga K x.cls)) d σ H2) → tJs ts acc σ H Q
    | .bad => True := by
  induction h with
  | nil => exact fun acc ρ => ⟨acc, rfl, fun H0 B C H S σ g Q hQ => hQ H (.refl T H)⟩
  | @cons t m ts ms h1 h2 ih =>
    intro acc ρ
    have a := h1 ρ
    unfold xJs
    cases e1 : m ρ with
    | bad => exact True.intro
    | ex x =>
      rw [e1] at a
      exact fun H0 B C H S σ g Q hQ => a H0 B C H S σ g _ hQ
    | ok d =>
      rw [e1] at a
      cases d with
      | str s =>
        simp only [Rz.bind_ok, txS_str]
        by_cases hl : (acc ++ s).length ≤ 1000000
        · rw [if_pos hl]
          have b := ih (acc ++ s) ρ
          cases e2 : xJs ms (acc ++ s) ρ with
          | bad => exact True.intro
          | ex x =>
            rw [e2] at b
            exact fun H0 B C H S σ g Q hQ => a H0 B C H S σ g _ fun v H1 x1 d1 => by
              cases d1
              exact ⟨s, rfl, Nat.le_trans hl big_line, b H0 B C H1 S σ (g.ex x1) Q fun d H2 x2 xd => hQ d H2 (x1.trans x2) xd⟩
          | ok d2 =>
            rw [e2] at b
            obtain ⟨z, ez, b⟩ := b
            exact ⟨z, ez, fun H0 B C H S σ g Q hQ => a H0 B C H S σ g _ fun v H1 x1 d1 => by
              cases d1
              exact ⟨s, rfl, Nat.le_trans hl big_line, b H0 B C H1 S σ (g.ex x1) Q fun H2 x2 => hQ H2 (x1.trans x2)⟩⟩
        · rw [if_neg hl]; exact True.intro
      | _ => exact True.intro
theorem sim_js {ts : List TE} {ms : List ME} (h : SimJ K T W ts ms) : SimE K T (fun σ H Q => tJs ts Str.empty σ H fun out H1 => Q (.str out) H1) W (xJs ms Str.empty) := fun ρ => by
  have a := sim_js0 h Str.empty ρ
  cases e1 : xJs ms Str.empty ρ with
  | bad => exact True.intro
  | ex x => rw [e1] at a; exact fun H0 B C H S σ g Q hQ => a H0 B C H S σ g _ hQ
  | ok d =>
    rw [e1] at a
    obtain ⟨s, rfl, a⟩ := a
    exact fun H0 B C H S σ g Q hQ => a H0 B C H S σ g _ fun H2 e2 => hQ _ H2 e2 (.str s)
def rMulS : R2 := fun x y H Q => ∃ a j, x = .str a ∧ y = .int j ∧ MulOk a j ∧ Q (.str (Txt.mul a j)) H
theorem op_mulS {X : Cx} : OpR X (binaryOp .Mult) rMulS := by
  intro pins s σ H x y v u Q I rx ry h
  obtain ⟨a, j, rfl, rfl, hm, q⟩ := h
  obtain ⟨t, rfl⟩ := rx
  obtain ⟨t', rfl⟩ := ry
  exact PySem.SB.mul hm fun t2 k => ⟨.str _, H, I.tok k, ⟨t2, rfl⟩, q⟩
def zMulS : PyData → PyData → Option PyData
  | .str a, .int j => if j = 0 then some (.str Str.empty) else if j = 1 then some (.str a) else none
  | _, _ => none
theorem r_mulS : ROp K T rMulS zMulS := fun x y z h => fun H S v u l dv du Q hQ => by
  unfold zMulS at h
  split at h
  · rename_i a j
    cases dv; cases du
    split at h
    · rename_i e; subst e; cases h
      refine ⟨a, 0, rfl, rfl, ⟨by decide, fun z => absurd (by decide) z, fun z => absurd (by decide) z⟩, hQ _ H (.refl T H) ?_⟩
      unfold Txt.mul
      rw [if_pos (by decide)]
      exact .str _
    · split at h
      · rename_i e; subst e; cases h
        refine ⟨a, 1, rfl, rfl, ⟨by decide, fun _ z => (by simp at z), fun _ z => (by simp at z)⟩, hQ _ H (.refl T H) ?_⟩
        unfold Txt.mul
        rw [if_neg (by decide), if_pos (by simp)]
        exact .str _
      · cases h
  · cases h
def rInS (neg : Bool) : R2 := fun x y H Q => ∃ (c : Nat) (z : Str), x = .str ⟨#[c]⟩ ∧ y = .str z ∧ Q (.bl (if neg then !decide (c ∈ z.cps.toList) else decide (c ∈ z.cps.toList))) H
theorem op_inS {X : Cx} : OpR X (compareOp .In) (rInS false) := op_in_sign
def oneS : PyData → Option Nat
  | .str s => match s.cps.toList with
    | [c] => some c
    | _ => none
  | _ => none
theorem oneS_eq {d : PyData} {c : Nat} (h : oneS d = some c) : d = .str ⟨#[c]⟩ := by
  unfold oneS at h
  split at h
  · rename_i s
    split at h
    · rename_i c' e
      cases h
      have : s.cps = #[c] := by rw [← Array.toList_inj]; exact e
      cases s; cases this; rfl
    · cases h
  · cases h
def zInS (x y : PyData) : Option PyData := match y with
  | .str z => (oneS x).map fun c => .bool (decide (c ∈ z.cps.toList))
  | _ => none
def zNotInS (x y : PyData) : Option PyData := match y with
  | .str z => (oneS x).map fun c => .bool (!decide (c ∈ z.cps.toList))
  | _ => none
theorem r_inS : ROp K T (rInS false) zInS := fun x y z h => fun H S v u l dv du Q hQ => by
  unfold zInS at h
  split at h
  · obtain ⟨c, h1, rfl⟩ := Option.map_eq_some_iff.mp h
    cases oneS_eq h1
    cases dv; cases du
    exact ⟨c, _, rfl, rfl, hQ _ H (.refl T H) (.bl _)⟩
  · cases h
def zSlS (x : PyData) (lo hi : Option Int) : Option PyData := match x with
  | .str z => if z.length ≤ 1000000 then some (.str (cutS z lo hi)) else none
  | _ => none
theorem r_slS (x : PyData) (l h : Option Int) (z : PyData) (e : zSlS x l h = some z) : RS K T rSlS x l h z := fun H S v ls dv Q hQ => by
  unfold zSlS at e
  split at e
  · split at e
    · rename_i hl
      cases e
      cases dv
      exact ⟨_, rfl, Nat.le_trans hl big_line, hQ _ H (.refl T H) (.str _)⟩
    · cases e
  · cases e
def rPart : V → List V → Hp → VK → Prop := fun x xs H Q => ∃ a b, x = .str a ∧ xs = [.str b] ∧ (b.length == 0) = false ∧ a.length ≤ sizeLine ∧
    ∀ p, H p = none → Q (.ref p) (upd H p (.tup [.str (Txt.partition a b).1, .str (Txt.partition a b).2.1, .str (Txt.partition a b).2.2]))
theorem mt_part {X : Cx} : MtR X "str.partition" rPart := mt_partition
def zPart (a : Str) : List PyData → Option PyData
  | [.str b] => if (b.length == 0) = false ∧ a.length ≤ 1000000 then some (.tuple [.str (Txt.partition a b).1, .str (Txt.partition a b).2.1, .str (Txt.partition a b).2.2]) else none
  | _ => none
theorem r_part : RM K T rPart zPart := fun s ds z h H S vs l d Q hQ => by
  unfold zPart at h
  split at h
  · split at h
    · rename_i hc
      cases h
      cases d with | cons d1 d2 =>
      cases d2; cases d1
      refine ⟨s, _, rfl, rfl, hc.1, Nat.le_trans hc.2 big_line, fun p hp => ?_⟩
      exact hQ _ _ (.new hp) (.tup (SqT.of (hide_at l (.of hp) rfl)) (.cons (.str _) (.cons (.str _) (.cons (.str _) .nil))))
    · cases h
  · cases h
def rIntS : List V → Hp → VK → Prop := fun xs H Q => ∃ a n, xs = [.str a] ∧ PySem.intText? a = some n ∧ a.length ≤ 640 ∧ Q (.int n) H
theorem call_intS {X : Cx} : CallR X (.type "int") rIntS := call_int_str
def zIntS : List PyData → Option PyData
  | [.str a] => if a.length ≤ 640 then (PySem.intText? a).map .int else none
  | _ => none
theorem r_intS : RCb K T rIntS zIntS := fun xs z h => fun H S vs l dv Q hQ => by
  unfold zIntS at h
  split at h
  · split at h
    · rename_i hl
      obtain ⟨n, h1, rfl⟩ := Option.map_eq_some_iff.mp h
      cases dv with | cons d1 d2 =>
      cases d2; cases d1
      exact ⟨_, n, rfl, h1, hl, hQ _ H (.refl T H) (.int n)⟩
    · cases h
  · cases h
def rStr : List V → Hp → VK → Prop := fun xs H Q => (∃ i, xs = [.int i] ∧ i.natAbs.log2 < 1920 ∧ Q (.str (toString i)) H) ∨ ∃ a, xs = [.str a] ∧ Q (.str a) H
theorem call_strK {X : Cx} : CallR X (.type "str") rStr := fun pins s σ H xs us Q I r h => by
  rcases h with h | h
  · exact call_str_int pins s σ H xs us Q I r h
  · exact SkE.call_str_str pins s σ H xs us Q I r h
def zStr : List PyData → Option PyData
  | [.int i] => if i.natAbs.log2 < 1920 then some (.str (toString i)) else none
  | [.str a] => some (.str a)
  | _ => none
theorem r_str : RCb K T rStr zStr := fun xs z h => fun H S vs l dv Q hQ => by
  unfold zStr at h
  split at h
  · split at h
    · rename_i hl
      cases h
      cases dv with | cons d1 d2 =>
      cases d2; cases d1
      exact .inl ⟨_, rfl, hl, hQ _ H (.refl T H) (.str _)⟩
    · cases h
  · cases h
    cases dv with | cons d1 d2 =>
    cases d2; cases d1
    exact .inr ⟨_, rfl, hQ _ H (.refl T H) (.str _)⟩
  · cases h
def sgD (s : Str) : List PyData := s.cps.toList.map fun c => .str ⟨#[c]⟩
def iTx (a : ME) : MA := fun ρ => (a ρ).bind fun x => (txS x).bind fun s => .ok (sgD s)
theorem sim_iTx (h : SimE K T te W m) : SimI K T (iStr te) W (iTx m) := fun ρ => by
  have a := h ρ
  unfold iTx
  cases h1 : m ρ with
  | bad => exact True.intro
  | ex x => rw [h1] at a; exact fun H0 B C H S σ g Q hQ => a H0 B C H S σ g _ hQ
  | ok d =>
    rw [h1] at a
    cases d with
    | str s =>
      exact fun H0 B C H S σ g R hR => a H0 B C H S σ g _ fun v H2 e dv => by
        cases dv
        refine ⟨s, rfl, hR _ _ e fun i H' S' k l => ⟨fun d hd => ?_, fun hl => ?_⟩⟩
        · unfold sgD at hd
          rw [List.getElem?_map] at hd
          obtain ⟨c, hc, rfl⟩ := Option.map_eq_some_iff.mp hd
          have hc' : s.cps[i]? = some c := by rw [← Array.getElem?_toList]; exact hc
          refine ⟨(Array.getElem?_eq_some_iff.mp hc').1, fun x H3 hy => ?_⟩
          obtain ⟨rfl, c2, h2, rfl⟩ := hy
          rw [hc'] at h2; cases h2
          exact ⟨.refl T _, .str _⟩
        · unfold sgD at hl
          rw [List.length_map, Array.length_toList] at hl
          exact hl
    | _ => exact True.intro
end
section
variable (ρ : List Slot)
theorem xFm_a (a : ME) : xFm a ρ = (a ρ).bind fun x => .of (txF x) := nr rfl
theorem txF_i {i : Int} (h : i.natAbs.log2 < 1920) : txF (.int i) = some (.str (toString i)) := by unfold txF; simp only [if_pos h]
theorem xJs_nil (acc : Str) : xJs [] acc ρ = .ok (.str acc) := nr rfl
theorem xJs_cons (m : ME) (ms : List ME) (acc : Str) : xJs (m :: ms) acc ρ = (m ρ).bind fun x => (txS x).bind fun s => if (acc ++ s).length ≤ 1000000 then xJs ms (acc ++ s) ρ else .bad := nr rfl
theorem iTx_a (a : ME) : iTx a ρ = (a ρ).bind fun x => (txS x).bind fun s => .ok (sgD s) := nr rfl
theorem zMulS_0 (a : Str) : zMulS (.str a) (.int 0) = some (.str Str.empty) := nr rfl
theorem zMulS_1 (a : Str) : zMulS (.str a) (.int 1) = some (.str a) := nr rfl
theorem zInS_a (c : Nat) (z : Str) : zInS (.str ⟨#[c]⟩) (.str z) = some (.bool (decide (c ∈ z.cps.toList))) := nr rfl
theorem zNotInS_a (c : Nat) (z : Str) : zNotInS (.str ⟨#[c]⟩) (.str z) = some (.bool (!decide (c ∈ z.cps.toList))) := nr rfl
theorem zSlS_a {z : Str} {lo hi : Option Int} (h : z.length ≤ 1000000) : zSlS (.str z) lo hi = some (.str (cutS z lo hi)) := by unfold zSlS; simp only [if_pos h]
theorem zPart_a {a b : Str} (h : (b.length == 0) = false ∧ a.length ≤ 1000000) : zPart a [.str b] = some (.tuple [.str (Txt.partition a b).1, .str (Txt.partition a b).2.1, .str (Txt.partition a b).2.2]) := by unfold zPart; simp only [if_pos h]
theorem zSpl_a {a b : Str} (h : (b.length == 0) = false ∧ a.length ≤ 1000000) : zSpl a [.str b] = some (.list ((Txt.split a b).map .str)) := by unfold zSpl; simp only [if_pos h]
theorem zIntS_a {a : Str} {n : Int} (h : a.length ≤ 640) (h2 : PySem.intText? a = some n) : zIntS [.str a] = some (.int n) := by unfold zIntS; simp only [if_pos h, h2]; rfl
theorem zStr_i {i : Int} (h : i.natAbs.log2 < 1920) : zStr [.int i] = some (.str (toString i)) := by unfold zStr; simp only [if_pos h]
theorem zStr_s (a : Str) : zStr [.str a] = some (.str a) := nr rfl
end
def zR12 := And.intro @xFm_a (And.intro @xJs_nil (And.intro @xJs_cons (And.intro @iTx_a (And.intro @zMulS_0 (And.intro @zMulS_1 (And.intro @zInS_a (And.intro @zNotInS_a (And.intro @zStr_s (And.intro @xM_a @txS_str)))))))))
end Lw

set_option Elab.async false
set_option linter.all false
set_option maxRecDepth 100000
set_option maxHeartbeats 4000000
set_option autoImplicit false
namespace PySem
namespace LwE
open PySem.W PySem.Calls PyProof.Rows PySem.HandSPX PySem.OEX
open Builtin Builtin.ObjectAttr
section
variable {prog : Program} {w : World} {A : Around} {E : Value → Shared → Prop} {R : Result → Shared → Prop} {hp : Heap} {g : Array GenState} {d : Drawn} {t : Nat} {os : OsState}
theorem osaN {K : W.Frag} {name : Str} {tk : Tok} {v : Value} {x C : Addr} {fv : Array Value} {cd : ClassData} {B : String} {bmB bm : List Value}
    (X : K.In hp) (hx : hp.get? x = some { cls := .ref C, data := .fields fv }) (hcd : W.clsIn K C = some cd) (SB : StoreFacts B bmB "object.__setattr__" "object") (hmr : cd.mro = .ref C :: bm) (htl : W.excTail bmB bm = true) (hh : cd.hasDict = true) (ha : W.findIn K (.ref C) name = some none)
    (hq : ∀ h' tk' dx, (∀ b o, b ≠ x → hp.get? b = some o → h'.get? b = some o) → hp.objs.size ≤ dx → dx ≠ x → h'.get? x = some { cls := .ref C, dict := some dx, data := .fields fv } →
      h'.Ns1 dx (fun y => if y = name then some v else none) → R (.ok (.ret .none)) ⟨h', g, d, tk', os⟩) :
    codeAny (model prog w) A (.call (.builtin "object.__setattr__") ⟨[.ref x, .str name tk, v], []⟩) R ⟨hp, g, d, t, os⟩ := by
  have I : W.InstAt hp x { cls := .ref C, data := .fields fv } C none := ⟨hx, rfl, rfl, trivial⟩
  have SF := F.store_object
  have ne : cd.mro.isEmpty = false := by rw [hmr]; rfl
  have hob : cd.mro.contains (.type "object") = true := by rw [hmr, List.contains_cons, W.excTail_contains "object" _ htl, SB.hasOwner, Bool.or_true]
  have hpass : refuseLoop (.ref x) "__setattr__" cd.mro = pure () := by rw [hmr, refuseLoop_ref]; exact W.excTail_pass _ (SB.passes _) _ htl
  have hxs : x ≠ hp.objs.size := Nat.ne_of_lt (Heap.lt_size hx)
  have sub : W.Looks (model prog w) hp (isInstance (.ref x) (.type "object")) true := I.type.andThen (W.looks_mroIn X (by unfold W.mroIn; rw [hcd, Option.bind_some, if_neg (by rw [ne]; decide), hob]))
  refine codeAny_call_builtin SF.slot.plain SF.entry (@W.check_slot (model prog w) _ _ ⟨hp, g, d, t, os⟩ "object.__setattr__" "object" "__setattr__" (.ref x) [.str name tk, v] [] _ SF.kind SF.split sub (SF.args (.ref x) (.str name tk) v) ?_)
  have hmr : W.Looks (model prog w) hp (mroOf (.ref C)) cd.mro := (W.looks_clsIn X hcd).andThen .now
  have L3 : W.Looks (model prog w) hp (storeTaker? none) none := .now
  have hcls : W.Looks (model prog w) hp (classData C) cd := W.looks_clsIn X hcd
  rw [W.osa_eq, refuse_eq]
  refine wpAny_bind (wpAny_bind (I.type.at (wpAny_bind (hmr.at ?_))))
  rw [hpass]
  refine wpAny_pure (wpAny_bind (I.type.at (wpAny_bind ((W.looks_findIn X ha).at (wpAny_bind (L3.at ?_))))))
  show wpAny _ _ (storeInOwnDict (.ref x) (.ref C) (.str name tk) name v false) _ _ _
  obtain ⟨nm, bs, mro, ns, qn, hd, sn, sb, ab, col, del⟩ := cd
  dsimp only at hh
  subst hh
  unfold storeInOwnDict ownDictForStores
  repeat (first | with_reducible refine store_in_new ?_ ?_ | with_reducible refine wpAny_loadPart_at hx ?_ | with_reducible refine hcls.at ?_ | wp_step)
  · exact ⟨_, #[], _, (Heap.get?_update_ne _ _ _ _ hxs.symm).trans (Heap.get?_push_at rfl rfl), rfl, fun e he => absurd he (by simp), fun _ => rfl⟩
  · intro h' tk' hn' hs
    have hx₁ : (hp.push { cls := .type "dict", data := .dict #[] }).get? x = some { cls := .ref C, data := .fields fv } := Heap.get?_push_of_some _ hx
    refine hq h' tk' hp.objs.size (fun b o hb ho => ?_) (Nat.le_refl _) hxs.symm ?_ hn'
    · exact (hs.2 b (Nat.ne_of_lt (Heap.lt_size ho))).trans ((Heap.get?_update_ne _ _ _ _ hb).trans (Heap.get?_push_of_some _ ho))
    · exact (hs.2 x hxs).trans (Heap.get?_update_self _ hx₁ rfl)
theorem osaO {K : W.Frag} {name : Str} {tk : Tok} {v : Value} {x C dx : Addr} {fv : Array Value} {cd : ClassData} {m0 : Str → Option Value} {nl : List Str} {B : String} {bmB bm : List Value}
    (X : K.In hp) (hx : hp.get? x = some { cls := .ref C, dict := some dx, data := .fields fv }) (hns : hp.Ns1 dx m0) (hw : Within m0 nl) (hz : nl.length ≤ 1000) (hcd : W.clsIn K C = some cd) (SB : StoreFacts B bmB "object.__setattr__" "object") (hmr : cd.mro = .ref C :: bm) (htl : W.excTail bmB bm = true) (hh : cd.hasDict = true)
    (ha : W.findIn K (.ref C) name = some none)
    (hq : ∀ h' tk', (∀ b o, b ≠ dx → hp.get? b = some o → h'.get? b = some o) → h'.Ns1 dx (fun y => if y = name then some v else m0 y) → R (.ok (.ret .none)) ⟨h', g, d, tk', os⟩) :
    codeAny (model prog w) A (.call (.builtin "object.__setattr__") ⟨[.ref x, .str name tk, v], []⟩) R ⟨hp, g, d, t, os⟩ := by
  obtain ⟨oD, esD, epD, hoD, hdD, _⟩ := hns.count hw
  have I : W.InstAt hp x { cls := .ref C, dict := some dx, data := .fields fv } C (some oD) := ⟨hx, rfl, rfl, hoD⟩
  have SF := F.store_object
  have ne : cd.mro.isEmpty = false := by rw [hmr]; rfl
  have hob : cd.mro.contains (.type "object") = true := by rw [hmr, List.contains_cons, W.excTail_contains "object" _ htl, SB.hasOwner, Bool.or_true]
  have hpass : refuseLoop (.ref x) "__setattr__" cd.mro = pure () := by rw [hmr, refuseLoop_ref]; exact W.excTail_pass _ (SB.passes _) _ htl
  have sub : W.Looks (model prog w) hp (isInstance (.ref x) (.type "object")) true := I.type.andThen (W.looks_mroIn X (by unfold W.mroIn; rw [hcd, Option.bind_some, if_neg (by rw [ne]; decide), hob]))
  refine codeAny_call_builtin SF.slot.plain SF.entry (@W.check_slot (model prog w) _ _ ⟨hp, g, d, t, os⟩ "object.__setattr__" "object" "__setattr__" (.ref x) [.str name tk, v] [] _ SF.kind SF.split sub (SF.args (.ref x) (.str name tk) v) ?_)
  have hmr : W.Looks (model prog w) hp (mroOf (.ref C)) cd.mro := (W.looks_clsIn X hcd).andThen .now
  have L3 : W.Looks (model prog w) hp (storeTaker? none) none := .now
  have hcls : W.Looks (model prog w) hp (classData C) cd := W.looks_clsIn X hcd
  rw [W.osa_eq, refuse_eq]
  refine wpAny_bind (wpAny_bind (I.type.at (wpAny_bind (hmr.at ?_))))
  rw [hpass]
  refine wpAny_pure (wpAny_bind (I.type.at (wpAny_bind ((W.looks_findIn X ha).at (wpAny_bind (L3.at ?_))))))
  show wpAny _ _ (storeInOwnDict (.ref x) (.ref C) (.str name tk) name v false) _ _ _
  obtain ⟨nm, bs, mro, ns, qn, hd, sn, sb, ab, col, del⟩ := cd
  dsimp only at hh
  subst hh
  unfold storeInOwnDict ownDictForStores
  repeat (first | with_reducible refine store_in_old hns hw hz ?_ | with_reducible refine wpAny_loadPart_at hx ?_ | with_reducible refine hcls.at ?_ | wp_step)
  intro h' tk' hn' hs
  exact hq h' tk' (fun b o hb ho => (hs.2 b hb).trans ho) hn'
end
end LwE
end PySem
namespace Lw
open PySem PySem.Spec PyProof.Rows L2 LwZ
structure OexG (K : PySem.W.Frag) (C : Addr) : Prop where
  cls : ∃ nm q N bs bm sn sub ab col dd k0 k1 k2 k3 k5 B nw ini bmB, K.lookup C = some (excClassObj nm q C N bs bm true sn sub ab col dd k0 k1 k2 k3 k5 nw) ∧ ExcBaseFacts B nw ini bmB ∧ PySem.W.excTail bmB bm = true ∧ StoreFacts B bmB "object.__setattr__" "object"
  sa : PySem.W.findIn K (.ref C) "__setattr__" = some (some (.builtin "object.__setattr__"))
  exC : PySem.W.subIn K (.ref C) (.type "BaseException") = some true
  tyC : PySem.W.typeIn K (.ref C) = some (.type "type")
  kC : PySem.W.keepIn K (.ref C) = true
def oexB (K : PySem.W.Frag) (C : Addr) : Bool := (PySem.W.excInitIn K C veB "ValueError.__new__" || PySem.W.excInitIn K C leB "LookupError.__new__") && (PySem.W.hasDictIn K C && (He.eqO (PySem.W.findIn K (.ref C) "__setattr__") (some (some (.builtin "object.__setattr__"))) &&
  (decide (PySem.W.subIn K (.ref C) (.type "BaseException") = some true) && (decide (PySem.W.typeIn K (.ref C) = some (.type "type")) && PySem.W.keepIn K (.ref C)))))
theorem excInit_K {K : PySem.W.Frag} {C : Addr} {bmB : List Value} {nw : String} (q : PySem.W.excInitIn K C bmB nw = true) (hd : PySem.W.hasDictIn K C = true) :
    ∃ nm qn N bs bm sn sub ab col dd k0 k1 k2 k3 k5, K.lookup C = some (excClassObj nm qn C N bs bm true sn sub ab col dd k0 k1 k2 k3 k5 nw) ∧ PySem.W.excTail bmB bm = true := by
  unfold PySem.W.excInitIn at q
  split at q
  · rename_i dd cd sl ho
    split at q
    · rename_i C' bm k0 k1 k2 k3 n k5 hm hs
      simp only [Bool.and_eq_true, beq_iff_eq, Bool.not_eq_true'] at q
      obtain ⟨⟨⟨rfl, rfl⟩, hdel⟩, ht⟩ := q
      obtain ⟨nm, bs, mro, ns, qn, hdd, sn, sub, ab, col, del⟩ := cd
      dsimp only at hm hdel
      subst hm hdel
      have hsl : sl = #[k0, k1, k2, k3, some (.builtin n), k5] := by
        obtain ⟨l⟩ := sl
        simp only at hs
        rw [hs]
      subst hsl
      have hdd' : hdd = true := by
        obtain ⟨cd, hc, h⟩ := PySem.W.any_some hd
        unfold PySem.W.clsIn at hc
        rw [ho] at hc
        cases hc
        exact h
      subst hdd'
      exact ⟨nm, qn, ns, bs, bm, sn, sub, ab, col, dd, k0, k1, k2, k3, k5, ho, ht⟩
    · cases q
  · cases q
theorem oexB_ok {K : PySem.W.Frag} {C : Addr} (h : oexB K C = true) : OexG K C := by
  unfold oexB at h
  obtain ⟨h1, h⟩ := He.ba h
  obtain ⟨h2, h⟩ := He.ba h
  obtain ⟨h3, h⟩ := He.ba h
  obtain ⟨h4, h⟩ := He.ba h
  obtain ⟨h5, h6⟩ := He.ba h
  refine ⟨?_, He.eqO_ok h3, of_decide_eq_true h4, of_decide_eq_true h5, h6⟩
  rcases Bool.or_eq_true_iff.mp h1 with z | z
  · obtain ⟨nm, qn, N, bs, bm, sn, sub, ab, col, dd, k0, k1, k2, k3, k5, a, b⟩ := excInit_K z h2
    exact ⟨nm, qn, N, bs, bm, sn, sub, ab, col, dd, k0, k1, k2, k3, k5, _, _, _, _, a, PySem.F.excBase_ValueError, b, PySem.F.store_ValueError⟩
  · obtain ⟨nm, qn, N, bs, bm, sn, sub, ab, col, dd, k0, k1, k2, k3, k5, a, b⟩ := excInit_K z h2
    exact ⟨nm, qn, N, bs, bm, sn, sub, ab, col, dd, k0, k1, k2, k3, k5, _, _, _, _, a, PySem.F.excBase_LookupError, b, PySem.F.store_LookupError⟩
section
variable {X : Cx} {pins : List (Addr × Obj)} {σ : L2.St} {H : Hp} {s : Shared} {a C dx : Addr} {f : Str} {y : V} {u : Value} {fs : List (Str × V)} {Q : Unit → Shared → Prop} {E : Value → Shared → Prop} {A : Around}
theorem ostG_new (T : OexG X.K C) (I : Inv X pins σ H s) (e : H a = some (exo a C none)) (hno : PySem.W.findIn X.K (.ref C) f = some none) (ry : RelV y u)
    (h : ∀ dx s', H dx = none → dx ≠ a → Inv X pins σ (upd (upd H dx (exd dx [(f, y)])) a (exo a C (some dx))) s' → Q () s') : wpAny (model X.prog X.w) A (setAttr (.ref a) f u) Q E s := by
  obtain ⟨nm, q, N, bs, bm, sn, sub, ab, col, dd, k0, k1, k2, k3, k5, B, nw, ini, bmB, hC, FB, htl, SB⟩ := T.cls
  have hcl : PySem.W.clsIn X.K C = some { name := nm, bases := bs, mro := .ref C :: bm, ns := N, qualname := q, hasDict := true, slotNames := sn, subclasses := sub, abstract := ab, collection := col, hasDel := false } := by unfold PySem.W.clsIn; rw [hC] <;> rfl
  obtain ⟨t1, ho⟩ := exo_at I.hok e
  obtain ⟨hp, g, d, t, os⟩ := s
  refine PySem.W.set_plain I.kIn (ox := { cls := .ref C, dict := none, data := .fields #[.ref t1, .none, .none, .none, .bool false, .none] }) (od := none) ⟨ho, rfl, rfl, trivial⟩ T.sa ?_
  refine PySem.LwE.osaN I.kIn ho hcl SB rfl htl rfl hno (fun h' tk' dx k dn dne hx hn => ?_)
  have hnd : H dx = none := I.hok.fresh dn
  have nd : ∀ {b : Addr} {o : Obj}, hp.get? b = some o → b ≠ dx := fun {b o} q => Nat.ne_of_lt (Nat.lt_of_lt_of_le (Heap.lt_size q) dn)
  have na : ∀ {b : Addr}, H b = none → b ≠ a := fun {b} n z => by
    rw [z, e] at n
    cases n
  have Un1 : Un X.fs [] H (upd (upd H dx (exd dx [(f, y)])) a (exo a C (some dx))) hp h' := {
    keep := fun b o q n _ _ => k b o (na n) q
    slot := fun b o q n _ _ => ⟨o.slots, k b o (na n) q⟩
    free := fun b o q n _ => by rw [upd_ne (na n), upd_ne (nd q)]; exact n
    there := fun b o q _ => by
      by_cases hb : b = a
      · exact ⟨_, by rw [hb]; exact hx⟩
      · exact ⟨o, k b o hb q⟩
    tups := fun b xs q => by rw [upd_ne (at_ne e q exo_tup), upd_ne (ne_of_none q hnd)]; exact q
    frzs := fun b o v q => by rw [upd_ne (at_ne e q exo_frz), upd_ne (ne_of_none q hnd)]; exact q
    tbls := fun b ps q => ⟨#[], by rw [upd_ne (at_ne e q exo_tbl), upd_ne (ne_of_none q hnd), q]; simp⟩ }
  refine h dx _ hnd dne (I.un (t' := tk') Un1 fun b o q => ?_)
  by_cases hb : b = a
  · subst hb
    rw [upd_same] at q
    cases q
    exact exo_ok hx
  · rw [upd_ne hb] at q
    by_cases hd : b = dx
    · subst hd
      rw [upd_same] at q
      cases q
      exact exd_ok hn (relO_put (fs := []) ry fun g => True.intro)
    · rw [upd_ne hd] at q
      exact (I.hok b o q).stay (fun c v hc z => k c v (by
          rcases hc with hc | hc
          · rw [hc]
            exact hb
          · exact at_ne e hc exo_own) z)
        (fun c hc => by rw [upd_ne (at_ne e hc exo_own), upd_ne (ne_of_none hc hnd)]; exact hc) (fun c xs hc => by rw [upd_ne (at_ne e hc exo_tup), upd_ne (ne_of_none hc hnd)]; exact hc)
theorem ostG_old (T : OexG X.K C) (I : Inv X pins σ H s) (e : H a = some (exo a C (some dx))) (ed : H dx = some (exd dx fs)) (hl : fs.length ≤ 900) (hno : PySem.W.findIn X.K (.ref C) f = some none) (ry : RelV y u)
    (h : ∀ s', Inv X pins σ (upd H dx (exd dx ((f, y) :: fs))) s' → Q () s') : wpAny (model X.prog X.w) A (setAttr (.ref a) f u) Q E s := by
  obtain ⟨nm, q, N, bs, bm, sn, sub, ab, col, dd, k0, k1, k2, k3, k5, B, nw, ini, bmB, hC, FB, htl, SB⟩ := T.cls
  have hcl : PySem.W.clsIn X.K C = some { name := nm, bases := bs, mro := .ref C :: bm, ns := N, qualname := q, hasDict := true, slotNames := sn, subclasses := sub, abstract := ab, collection := col, hasDel := false } := by unfold PySem.W.clsIn; rw [hC] <;> rfl
  obtain ⟨t1, ho⟩ := exo_at I.hok e
  obtain ⟨mA, hns, rel⟩ := exd_at I.hok ed
  have hw := within_of rel
  obtain ⟨hp, g, d, t, os⟩ := s
  obtain ⟨oD, _, _, hoD, _, _⟩ := hns.count hw
  refine PySem.W.set_plain I.kIn (ox := { cls := .ref C, dict := some dx, data := .fields #[.ref t1, .none, .none, .none, .bool false, .none] }) (od := some oD) ⟨ho, rfl, rfl, hoD⟩ T.sa ?_
  refine PySem.LwE.osaO I.kIn ho hns hw (by rw [List.length_map]; omega) hcl SB rfl htl rfl hno (fun h' tk' k hn => ?_)
  have hd : ∃ o, h'.get? dx = some o := by
    obtain ⟨o, _, _, e', _⟩ := hn
    exact ⟨o, e'⟩
  exact h _ (I.write (t' := tk') (x := dx) (e := dx) (o := exd dx ((f, y) :: fs)) (by rw [ed]; exact True.intro) (.inl rfl) k hd (exd_ok hn (relO_put ry rel)))
end
def tOsg (K : PySem.W.Frag) (f : Str) (to te : TE) : TS := fun D σ H => te σ H fun y H1 => to σ H1 fun x H2 => ∃ a C : Addr, x = .ref a ∧ OexG K C ∧ PySem.W.findIn K (.ref C) f = some none ∧
  ((H2 a = some (exo a C none) ∧ ∀ dx, H2 dx = none → dx ≠ a → D.nx σ (upd (upd H2 dx (exd dx [(f, y)])) a (exo a C (some dx)))) ∨
    ∃ (dx : Addr) (fs : List (Str × V)), H2 a = some (exo a C (some dx)) ∧ H2 dx = some (exd dx fs) ∧ fs.length ≤ 900 ∧ D.nx σ (upd H2 dx (exd dx ((f, y) :: fs))))
def tMkG (C : Addr) (sp : Sp) (ta : TA) : L2.St → Hp → XK → Prop := fun σ H Q => ta σ H fun vs H1 => vs.length ≤ 1000 ∧ ∀ a, H1 a = none → sp (.ref a :: vs) (upd H1 a (exo a C none))
  (fun v H2 => v = .non ∧ ∃ (d : Addr) (fs : List (Str × V)), H2 a = some (exo a C (some d)) ∧ H2 d = some (exd d fs) ∧ H1 d = none ∧ Q (.ref C) (some d) (upd (del H2 a) d (.xd fs))) (fun _ _ _ => False)
section
variable {X : Cx} {o e : Expr} {es : List Expr} {to te : TE} {ta : TA} {f : Str} {p p' p1 p2 pos : Pos}
theorem ps_osg (ho : PE X o to) (he : PE X e te) (hs : swapsWith e (some (.Attribute o f p')) pos.line X.env = pure false := by rfl) : PS X (.Assign [.Attribute o f p'] e pos) (tOsg X.K f to te) := by
  refine ⟨fun pins s σ H D I h => ?_⟩
  refine plainObj_wpAny_Assign_Attribute (thn (he.run pins s σ H _ I h) fun v s1 ⟨y, H1, I1, r1, q1⟩ => thn (ho.run pins s1 σ H1 _ I1 q1) fun u s2 ⟨x, H2, I2, r2, a, C, ex, T, hno, q⟩ => ?_) hs
  subst ex
  obtain rfl : u = Value.ref a := r2
  rcases q with ⟨ea, q⟩ | ⟨dx, fs, ea, ed, hl, q⟩
  · exact ostG_new T I2 ea hno r1 fun dx s' n ne J => ⟨σ, _, J, q dx n ne⟩
  · exact ostG_old T I2 ea ed hl hno r1 fun s' J => ⟨σ, _, J, q⟩
theorem mk_endN {pins : List (Addr × Obj)} {σ : L2.St} {H1 H2 : Hp} {Q : XK} {hp hp2 h2 : Heap} {g1 g2 : Array GenState} {d1 d2 : Drawn} {t1 t2 : Nat} {os1 os2 : OsState} {a C d : Addr} {fs : List (Str × V)} (T : Raises X (.ref C)) (I1 : Inv X pins σ H1 ⟨hp, g1, d1, t1, os1⟩)
    (ha : hp.objs.size ≤ a) (k : ∀ b o, hp.get? b = some o → hp2.get? b = some o) (un : Un (frs X.stack) [] (upd H1 a (exo a C none)) H2 hp2 h2) (hok : HOk X.prog X.w H2 h2) (ho : os2 = os1) (hb : AllBare g2)
    (ea : H2 a = some (exo a C (some d))) (ed : H2 d = some (exd d fs)) (hd1 : H1 d = none) (q : Q (.ref C) (some d) (upd (del H2 a) d (.xd fs))) : L2N.MkP X pins σ Q (.ref a) ⟨h2, g2, d2, t2, os2⟩ := by
  obtain ⟨t0, G, J, kG, ge, hoe, na⟩ := mk_end0 (d2 := d2) (t2 := t2) I1 ha k un hok ho hb ea ed hd1
  exact ⟨a, _, _, ⟨G, g2, d2, t2, os2⟩, _, .ref C, some d, rfl, J, kG, ge, hoe, ⟨rfl, rfl, fun vs e => by cases e; rfl⟩, rfl, rfl, na, rfl, hb, T, q⟩
theorem pmk_oexG {CX : CXT} {x : Str} {C fI : Addr} {k : Nat} {fd : FuncData} {ps : List Str} {sp : Sp} (T : OexG X.K C) (iC : PySem.W.findIn X.K (.ref C) "__init__" = some (some (.ref fI))) (tI : PySem.W.typeIn X.K (.ref fI) = some (.type "function"))
    (F1 : FnOk X.prog X.w X.K X.mg X.base CX k fI fd ps sp) (hr : Room (k + 1) X.A) (hb : Binds X.K fd ps []) (hx : Passes CX X (fun _ _ _ => False)) (hg : Gl X x) (hm : X.mg x = some (.ref C)) (ha : PA X (e :: es) ta)
    (hdb : (x == ("__debug__" : Str)) = false := by decide) (he : starEach (e :: es) X.env = (false, eval e X.env) :: starEach es X.env := by rfl) (hpl : (backTo pos (starEach es X.env)).any (·.1) = false := by rfl) :
    L2N.PMk X (.Call (.Name x p) (e :: es) [] pos) (tMkG C sp ta) := by
  intro pins s σ H Q I h
  obtain ⟨nm, q, N, bs, bm, sn, sub, ab, col, dd, k0, k1, k2, k3, k5, B, nw, ini, bmB, hC, FB, htl, SB⟩ := T.cls
  refine wpAny_Call_Name_kw (ld_glob I hg hm ?_ hdb)
  refine PySem.W.callWith_K (h₀ := X.base) I.ok.mod.kin T.kC (thn (ha.run pos pins s σ H _ I h) fun us s1 ⟨vs, H1, I1, r1, hz, q1⟩ => ⟨I1.kIn, ?_⟩) he hpl
  show wpAny _ _ (call (.ref C) us) _ _ _
  obtain ⟨hp, g, dr, tk, os⟩ := s1
  have hsz : hp.objs.size ≤ hp.objs.size + 1 := Nat.le_succ _
  have hn : H1 (hp.objs.size + 1) = none := I1.hok.fresh hsz
  have hq := q1 (hp.objs.size + 1) hn
  have kk : ∀ b o, hp.get? b = some o → ((hp.push (PySem.W.kdv_tup us)).push (PySem.HandSPX.excO C hp.objs.size)).get? b = some o := fun b o e => Heap.get?_push_of_some _ (Heap.get?_push_of_some _ e)
  have hget : ((hp.push (PySem.W.kdv_tup us)).push (PySem.HandSPX.excO C hp.objs.size)).get? (hp.objs.size + 1) = some (PySem.HandSPX.excO C hp.objs.size) := by heap_get
  have I2 : Inv X pins σ (upd H1 (hp.objs.size + 1) (exo (hp.objs.size + 1) C none)) ⟨(hp.push (PySem.W.kdv_tup us)).push (PySem.HandSPX.excO C hp.objs.size), g, dr, tk, os⟩ :=
    I1.laid (t' := tk) (a := hp.objs.size + 1) (o := exo (hp.objs.size + 1) C none) (h' := (hp.push (PySem.W.kdv_tup us)).push (PySem.HandSPX.excO C hp.objs.size)) kk hsz (exo_ok hget)
  have r2 : Vals (V.ref (hp.objs.size + 1) :: vs) (Value.ref (hp.objs.size + 1) :: us) := .cons rfl r1
  have hl : (Value.ref (hp.objs.size + 1) :: us ++ []).length = ps.length := by
    have e := r2.length
    rw [F1.len _ _ _ _ hq] at e
    rw [List.append_nil]
    exact e.symm
  have hus : us.length ≤ sizeLine := by
    rw [← Paired.length r1, sizeLine_eq]
    omega
  have b2 := hb _ (Value.ref (hp.objs.size + 1) :: us) I2.kIn hl
  rw [List.append_nil] at b2
  refine wpAny_call (PySem.HandSPX.call_own FB (fun Y => PySem.W.excTail_contains Y bm htl) (I1.kIn _ _ hC) (PySem.W.looks_findIn I1.kIn iC) (fun self => PySem.W.bind_fn I1.kIn self tI) hus
    (codeAny_mono (F1.run _ X.stack _ _ ⟨Value.ref (hp.objs.size + 1) :: us, []⟩ (Value.ref (hp.objs.size + 1) :: us) _ _ (fun _ _ _ => False) (hr.make C us []) (I2.env0.make C us []) b2 r2 hq) fun r s' hq' => ?_))
  cases r with
  | error er => exact hx pins σ _ _ er s' I2 hq'
  | ok fl =>
    cases fl with
    | ret u =>
      obtain ⟨v, H2, os2, bare2, un2, hok2, rv, ev, d, fs, ea, ed, hd1, q2⟩ := hq'
      subst ev
      obtain ⟨h2, g2, d2, t2, os'⟩ := s'
      exact ⟨rv, mk_endN (raises_own T.exC T.tyC) I1 hsz kk un2 hok2 os2 bare2 ea ed hd1 q2⟩
    | next => exact False.elim hq'
    | brk => exact False.elim hq'
    | cont => exact False.elim hq'
end
def spI1 (K : PySem.W.Frag) (f : Str) : Sp := fun vs H Q _ => ∃ (a C : Addr) (v : V), vs = [.ref a, v] ∧ OexG K C ∧ PySem.W.findIn K (.ref C) f = some none ∧ H a = some (exo a C none) ∧ ∀ dx, H dx = none → dx ≠ a → Q .non (upd (upd H dx (exd dx [(f, v)])) a (exo a C (some dx)))
theorem spI1_len {K : PySem.W.Frag} {f y : Str} (vs : List V) (H : Hp) (Q : VK) (E : XK) (h : spI1 K f vs H Q E) : vs.length = (["self", y] : List Str).length := by
  obtain ⟨a, C, v, rfl, _⟩ := h
  rfl
structure ExI (P : Program) (w : World) (K : PySem.W.Frag) (mg : Str → Option Value) (base : Heap) (k : Nat) (x f : Str) : Prop where
  ex : ∃ (fI : Addr) (fd : FuncData), FnOk P w K mg base CX0 k fI fd ["self", f] (spI1 K f) ∧ PySem.W.findIn K (.ref (He.ga K x)) "__init__" = some (some (.ref fI)) ∧ PySem.W.typeIn K (.ref fI) = some (.type "function") ∧ Binds K fd ["self", f] []
  g : mg x = some (.ref (He.ga K x))
  o : OexG K (He.ga K x)
  no : PySem.W.findIn K (.ref (He.ga K x)) f = some none
def tRaiseI (K : PySem.W.Frag) (x f : Str) (W : WX) (ta : TA) : TS := fun _ σ H => tMkG (He.ga K x) (spI1 K f) ta σ H fun cls d H' => W cls d σ H'
theorem ps_raiseI {X : Cx} {k j : Nat} {x f : Str} {W : WX} {e : Expr} {ta : TA} {p pos pos' : Pos} (hc : X.calm = true) (tk : L2N.Takes X W) (c : ExI X.prog X.w X.K X.mg X.base k x f) (hr : Room j X.A) (hg : Gl X x) (ha : PA X [e] ta) (hk : k + 1 ≤ j := by decide)
    (hdb : (x == ("__debug__" : Str)) = false := by decide) (he : starEach (e :: []) X.env = (false, eval e X.env) :: starEach [] X.env := by rfl) (hpl : (backTo pos (starEach [] X.env)).any (·.1) = false := by rfl) :
    PS X (.Raise (some (.Call (.Name x p) [e] [] pos)) none pos') (tRaiseI X.K x f W ta) := by
  obtain ⟨fI, fd, F, i1, i2, b⟩ := c.ex
  exact L2N.ps_raise hc tk (pmk_oexG c.o i1 i2 F (hr.mono hk) b pass0 hg c.g ha hdb he hpl)
def kRaiseI (x f : Str) (m : MA) : MS := fun ρ => kE m (fun ds => match ds with
  | [d] => .ex ⟨x, [(f, d)]⟩ ρ
  | _ => .bad) ρ
theorem upd_made {H : Hp} {a C dx : Addr} {f : Str} {v : V} (ha : H a = none) (ne : dx ≠ a) : upd (del (upd (upd (upd H a (exo a C none)) dx (exd dx [(f, v)])) a (exo a C (some dx))) a) dx (.xd [(f, v)]) = upd H dx (.xd [(f, v)]) := by
  funext b
  by_cases h1 : b = dx
  · subst h1; rw [upd_same, upd_same]
  · rw [upd_ne h1, upd_ne h1]
    by_cases h2 : b = a
    · subst h2; rw [del_same, ha]
    · rw [del_ne h2, upd_ne h2, upd_ne h1, upd_ne h2]
theorem sim_raiseI {P : Program} {w : World} {K : PySem.W.Frag} {T : Tb} {mg : Str → Option Value} {base : Heap} {k : Nat} {x f : Str} {W : WX} {fr : Fr} {ta : TA} {ma : MA} (c : ExI P w K mg base k x f) (h : SimA K T ta W ma) : SimS K T fr (tRaiseI K x f W ta) W (kRaiseI x f ma) := fun ρ H0 B C D p => by
  have a := h ρ
  unfold kRaiseI kE at p
  cases h1 : ma ρ with
  | bad => rw [h1] at p; exact p.elim
  | ex y => rw [h1] at p a; exact tri_ex (fun σ H S g hQ => a H0 B C H S σ g _ hQ) p
  | ok ds =>
    rw [h1] at p a
    match ds, p, a with
    | [], p, a => exact p.elim
    | _ :: _ :: _, p, a => exact p.elim
    | [d], p, a =>
      exact fun σ H ⟨S, g⟩ => a H0 B C H S σ g _ fun vs H1 e1 dv => by
        cases dv with | cons d1 d2 =>
        cases d2
        rename_i v
        refine ⟨by simp, fun q hq => ⟨q, He.ga K x, v, rfl, c.o, c.no, upd_same, fun dx hdx ne => ⟨rfl, dx, [(f, v)], upd_same, ?_, ?_, ?_⟩⟩⟩
        · rw [upd_ne ne, upd_same]
        · rw [upd_ne ne] at hdx; exact hdx
        · have hdx : H1 dx = none := by rw [upd_ne ne] at hdx; exact hdx
          rw [upd_made hq ne]
          have e2 : Ext T H1 (upd H1 dx (.xd [(f, v)])) := .new hdx
          refine p σ _ S ((g.ex e1).ex e2) (some dx) (.fs (kvs := [(f, v)]) (hide_at (g.lst.kp e1.kp) (.of hdx) rfl) rfl (.cons ?_ .nil) (by simp))
          exact d1.kp (e2.kp.hide S)
def XDk (H : Hp) : Option Addr → Prop
  | none => True
  | some a => ∃ kvs, H a = some (.xd kvs)
theorem XD.k {K : PySem.W.Frag} {H : Hp} {d : Option Addr} {S : List Addr} {fs : List (Str × PyData)} (h : XD K (hide H S) d fs) : XDk H d := by
  cases h with
  | no => exact True.intro
  | fs h1 _ _ _ => exact ⟨_, hide_get h1⟩
end Lw
namespace PySem.W
open Calls PyProof.Rows
section
variable {prog : Program} {w : World} {A : Around} {E : Value → Shared → Prop} {s : Shared} {K : Frag} {x D : Addr} {ox : Obj} {od : Option Obj}
theorem findObj_dataG {C : Addr} {name : Str} {a g : Value} (hc : (clsIn K C).isSome = true) (ha : findIn K (.ref C) name = some (some a)) (hg : specialIn K a "__get__" = some (some g)) (ht : takesIn K a = some true) : findObj K C od name = some (.bind g a) := by
  obtain ⟨cd, hc⟩ := Option.isSome_iff_exists.mp hc
  unfold findObj
  rw [hc, Option.bind_some, ha, Option.bind_some]
  simp [hg, ht]
theorem kin_classG {Q : Option Value → Shared → Prop} (hga : findIn K (.ref D) "__getattribute__" = some (some (.builtin "BaseException.__getattribute__"))) (hgt : findIn K (.ref D) "__getattr__" = some none) (hsub : subIn K (.ref D) (.type "BaseException") = some true)
    (hdct : hasDictIn K D = true) (ha : findIn K (.ref D) "__class__" = some (some (.builtin "object.__class__")))
    (hn : specialIn K (.builtin "object.__class__") "__get__" = some (some (.builtin "getset_descriptor.__get__"))) (htk : takesIn K (.builtin "object.__class__") = some true) (hm : mroIn K D (.type "object") = some true)
    (X : K.In s.heap) (I : InstAt s.heap x ox D od) (h : Q (some (.ref D)) { s with toks := s.toks + 1 }) : wpAny (model prog w) A (getAttr? (.ref x) "__class__") Q E s := by
  have hf : findObj K D od "__class__" = some (.bind (.builtin "getset_descriptor.__get__") (.builtin "object.__class__")) := findObj_dataG (by obtain ⟨cd, hc, _⟩ := any_some hdct; rw [hc]; rfl) ha hn htk
  obtain ⟨hp, g, d, t, os⟩ := s
  have L0 := I.type (M := model prog w)
  have L1 := looks_findIn (M := model prog w) X hga
  have L2 := looks_findIn (M := model prog w) X hgt
  have L3 := looks_find (M := model prog w) X I hf
  have sub : Looks (model prog w) hp (isInstance (.ref x) (.type "BaseException")) true := L0.andThen (looks_subIn X hsub)
  have hx0 : (false && onTheHeap (Value.builtin "BaseException.__getattribute__")) = false := rfl
  have hx2 : (Value.builtin "BaseException.__getattribute__" == Value.builtin "object.__getattribute__") = false := by decide +kernel
  have hx1 : (onTheHeap (Value.ref D) && Value.builtin "BaseException.__getattribute__" == Value.builtin "object.__getattribute__") = false := by rw [hx2]; rfl
  unfold getAttr? getAttrBy? getAttrBy
  refine wpAny_bind (wpAny_mkText (wpAny_bind (wpAny_attempt (wpAny_holding (wpAny_bind (L0.at (wpAny_bind (L1.at ?_))))))))
  show wpAny _ _ (if (onTheHeap (Value.ref D) && Value.builtin "BaseException.__getattribute__" == Value.builtin "object.__getattribute__") = true then _ else _) _ _ _
  rw [hx1, if_neg Bool.false_ne_true]
  unfold getAttrByItsOwn hookBefore
  refine wpAny_bind ?_
  rw [if_pos (show onTheHeap (Value.ref D) = true from rfl)]
  refine L2.at ?_
  refine wpAny_bind (wpAny_attempt (wpAny_holding ?_))
  unfold callGetattribute
  rw [hx0, if_neg Bool.false_ne_true]
  unfold boundAndCalled
  rw [PySem.F.excAttr_ValueError.ga.bind (.ref x)]
  refine wpAny_bind (wpAny_pure ?_)
  show wpAny _ _ (call (.builtin "BaseException.__getattribute__") [.ref x, .str "__class__" t]) _ _ _
  refine wpAny_call (codeAny_call_builtin PySem.F.excAttr_ValueError.ga.plain PySem.F.entry_bexc_ga ?_)
  refine @check_slot (model prog w) _ _ ⟨hp, g, d, t + 1, os⟩ "BaseException.__getattribute__" "BaseException" "__getattribute__" (.ref x) [.str "__class__" t] [] _ (by decide +kernel) (by decide +kernel) sub (PySem.F.args_bexc_ga (.ref x) (.str "__class__" t)) ?_
  unfold Builtin.«object.__getattribute__»
  refine wpAny_bind (wpAny_of_eq (a := ((Value.ref x : Value), [Value.str "__class__" t])) (by first | rfl | (simp only [slotArgs]; rfl)) ?_)
  refine wpAny_bind (wpAny_pure (wpAny_bind (L0.at (wpAny_bind (L3.at ?_)))))
  show wpAny _ _ (holding [Value.builtin "object.__class__"] (call (.builtin "getset_descriptor.__get__") [.builtin "object.__class__", .ref x, .ref D]) >>= ret) _ _ _
  refine wpAny_bind (wpAny_holding (wpAny_call (class_get (s := ⟨hp, g, d, t + 1, os⟩) (ox := ox) (od := od) X I hm ?_)))
  refine wpAny_pure ?_
  show wpAny _ _ (handedOut (.ref D)) _ _ _
  rw [handedOut_of (v := .ref D) rfl]
  first
    | exact wpAny_pure (wpAny_pure h)
    | exact wpAny_pure h
    | exact wpAny_pure (wpAny_bind (wpAny_pure (wpAny_pure h)))
theorem kitx_G (hga : findIn K (.ref D) "__getattribute__" = some (some (.builtin "BaseException.__getattribute__"))) (hgt : findIn K (.ref D) "__getattr__" = some none) (hsub : subIn K (.ref D) (.type "BaseException") = some true) (hdct : hasDictIn K D = true) (ha : findIn K (.ref D) "__class__" = some (some (.builtin "object.__class__")))
    (hn : specialIn K (.builtin "object.__class__") "__get__" = some (some (.builtin "getset_descriptor.__get__"))) (htk : takesIn K (.builtin "object.__class__") = some true) (hm : mroIn K D (.type "object") = some true) :
    KitX K (.ref x) (.ref D) (fun h => InstAt h x ox D od) where
  ty := fun _ _ _ I => I.type
  it := fun _ _ X _ => by
    obtain ⟨cdD, hcD, _⟩ := any_some hdct
    unfold clsIn at hcD
    split at hcD
    · rename_i c' d' cd' sl' ho
      intro A' Q' E' s' k q
      unfold isType loadHead
      exact wpAny_bind (wpAny_loadPart (k _ _ (X _ _ ho)) (wpAny_pure q))
    · cases hcD
  ne := fun h tp dd its n sl X htp => by
    obtain ⟨cdD, hcD, _⟩ := any_some hdct
    refine Bool.eq_false_iff.mpr fun q => ?_
    have e : D = tp := Value.ref.inj (beq_iff_eq.mp q)
    subst e
    unfold clsIn at hcD
    split at hcD
    · rename_i c' d' cd' sl' ho
      have z := (X _ _ ho).symm.trans htp
      cases z
    · cases hcD
  ca := fun X I k => kin_classG hga hgt hsub hdct ha hn htk hm X I k
end
end PySem.W
namespace Lw
open PySem PySem.Spec PyProof.Rows L2 LwZ
def rIsY (K : PySem.W.Frag) (a : Addr) (cls : Value) (d : Option Addr) : List V → Hp → VK → Prop := fun xs H Q => ∃ (D : Addr) (c : V) (cv : Value) (b : Bool), cls = .ref D ∧ XDk H d ∧ ExcC K D ∧ xs = [.ref a, c] ∧ (∀ u, RelV c u → u = cv) ∧ PySem.W.kitOne K (.ref D) cv = some b ∧ Q (.bl b) H
theorem call_isY {X : Cx} (K : PySem.W.Frag) {p : Addr × Obj} {cls : Value} {d : Option Addr} (hp : p ∈ X.pn) (hz : Zc cls d p.2) (hf : ∃ vs, p.2.data = .fields vs) (h : X.K = K := by rfl) : CallR X (.builtin "isinstance") (rIsY K p.1 cls d) := by
  subst h
  intro pins s σ H xs us Q I r h
  obtain ⟨D, c, cv, b, rfl, hxd, C, rfl, hcv, e, q⟩ := h
  cases r with
  | cons rx rr =>
    cases rr with
    | cons rt rr =>
      cases rr
      cases rx
      have ec := hcv _ rt
      subst ec
      obtain ⟨hget, _⟩ := I.pin p (List.mem_append_left _ hp)
      obtain ⟨vs, hv⟩ := hf
      have J : ∃ od, PySem.W.InstAt s.heap p.1 p.2 D od := by
        obtain ⟨a, ⟨oc, od, oda, osl⟩⟩ := p
        obtain ⟨h1, h2⟩ := hz
        dsimp only at h1 h2 hv
        subst h1 h2 hv
        cases od with
        | none => exact ⟨none, hget, rfl, rfl, trivial⟩
        | some dd =>
          obtain ⟨kvs, hk⟩ := hxd
          have hx : ObjOk X.prog X.w H s.heap dd (.xd kvs) := I.hok dd _ hk
          obtain ⟨mA, hns, _⟩ := hx
          obtain ⟨o, ho, _⟩ := lookIn_ns hns
          exact ⟨some o, hget, rfl, rfl, ho⟩
      obtain ⟨od, J⟩ := J
      exact PySem.W.kia_one (PySem.W.kitx_G C.hg C.hk C.hs C.hd C.ha C.hn C.ht C.hm) I.kIn J e (fun z => nomatch z) fun tk => ⟨.bl b, H, I.kept (t' := tk) fun _ _ z => z, rfl, q⟩
def tXg (K : PySem.W.Frag) (a : Addr) (cls : Value) (d : Option Addr) (f : Str) (te : TE) : TE := fun σ H Q => te σ H fun x H1 => x = .ref a ∧ ∃ C, cls = .ref C ∧ ExcC K C ∧ PySem.W.findIn K (.ref C) f = some none ∧ ∃ (dd : Addr) (fs : List (Str × V)) (v : V), d = some dd ∧ H1 dd = some (.xd fs) ∧ fs.lookup f = some v ∧ Q v H1
theorem pe_xg {X : Cx} {a : Addr} {oe : Obj} {cls : Value} {d : Option Addr} {pn : List (Addr × Obj)} {e : Expr} {te : TE} {pos : Pos} {n : Str}
    (hz : Zc cls d oe) (hf : ∃ vs, oe.data = .fields vs) (he : PE (X.suite a ((a, oe) :: pn)) e te) (hb : attributeBase e n X.env (eval e X.env) = eval e X.env := by rfl) :
    PE (X.suite a ((a, oe) :: pn)) (.Attribute e n pos) (tXg X.K a cls d n te) := by
  refine ⟨fun pins s σ H Q I h => ?_⟩
  refine attr_of hb (thn (he.run pins s σ H _ I h) fun u s1 hh => ?_)
  obtain ⟨x, H1, I1, rx, ex, C, ec, T, hno, dd, fs, v, ed, ea, l, q⟩ := hh
  subst ex
  obtain rfl : u = Value.ref a := rx
  subst ec
  subst ed
  obtain ⟨ha, _⟩ := I1.pin (a, oe) (List.mem_append_left _ List.mem_cons_self)
  obtain ⟨vs, hd⟩ := hf
  have hx : ObjOk X.prog X.w H1 s1.heap dd (.xd fs) := I1.hok dd _ ea
  obtain ⟨mA, hns, hr⟩ := hx
  obtain ⟨od, ho, hl⟩ := lookIn_ns hns
  obtain ⟨u, hu, ru⟩ := RelO.some_of (v := v) (o := mA n) (by rw [← l]; exact hr n)
  have J : PySem.W.InstAt s1.heap a oe C (some od) := ⟨ha, hz.1, by unfold PySem.W.notCls; rw [hd] <;> rfl, by rw [hz.2]; exact ho⟩
  exact HandSPX.exc_get I1.kIn J T.hg T.hk T.hs (PySem.W.findObj_own T.hd hno rfl (by rw [hl, hu])) (handed_of ru) ⟨v, H1, I1.tok _, ru, q⟩
end Lw

set_option Elab.async false
set_option linter.all false
set_option maxRecDepth 100000
set_option maxHeartbeats 4000000
set_option autoImplicit false
namespace Lw
open PySem PySem.Spec PyProof.Rows L2 HotX L2H LwM LwZ
theorem XD.get {K : PySem.W.Frag} {H : Hp} {d : Option Addr} {fs : List (Str × PyData)} {f : Str} {y : PyData} (h : XD K H d fs) (hl : fs.lookup f = some y) : ∃ dd kvs v, d = some dd ∧ H dd = some (.xd kvs) ∧ kvs.lookup f = some v ∧ Dt K H v y := by
  cases h with
  | no => cases hl
  | @fs a kvs fs h1 h2 h3 h4 =>
    refine ⟨a, kvs, ?_⟩
    have key : ∀ (kvs : List (Str × V)) (fs : List (Str × PyData)), kvs.map (·.1) = fs.map (·.1) → DtAll K H (kvs.map (·.2)) (fs.map (·.2)) → fs.lookup f = some y → ∃ v, kvs.lookup f = some v ∧ Dt K H v y := by
      intro kvs
      induction kvs with
      | nil =>
        intro fs e1 e2 e3
        cases fs with
        | nil => cases e3
        | cons p fs => cases e1
      | cons q kvs ih =>
        intro fs e1 e2 e3
        cases fs with
        | nil => cases e1
        | cons p fs =>
          obtain ⟨g1, v1⟩ := q
          obtain ⟨g2, v2⟩ := p
          simp only [List.map_cons, List.cons.injEq] at e1
          obtain ⟨rfl, e1⟩ := e1
          cases e2 with | cons a1 a2 =>
          simp only [List.lookup_cons] at e3 ⊢
          cases hb : (f == g1) with
          | true => rw [hb] at e3; cases e3; exact ⟨v1, rfl, a1⟩
          | false => rw [hb] at e3; exact ih fs e1 a2 e3
    obtain ⟨v, a1, a2⟩ := key kvs fs h2 h3 hl
    exact ⟨v, rfl, h1, a1, a2⟩
section
variable (K : PySem.W.Frag) (T : Tb) (a : Addr) (d : Option Addr) (fs : List (Str × PyData)) (i j : Nat)
structure Sx (en : Option PyData) (σ : L2.St) (H : Hp) (S : List Addr) : Prop where
  e : σ[i]? = some (some (.ref a))
  x : XD K (hide H S) d fs
  l : LsT T H S
  v : ∀ y, en = some y → ∃ u, σ[j]? = some (some u) ∧ Dt K (hide H S) u y
  jl : j < σ.length
  ne : i ≠ j
def FxE (en : Option PyData) (te : TE) (r : PyData) : Prop := ∀ σ H S, Sx K T a d fs i j en σ H S → ∀ Q : VK, (∀ v H2, Ext T H H2 → Dt K (hide H2 S) v r → Q v H2) → te σ H Q
def FxA (en : Option PyData) (ta : TA) (rs : List PyData) : Prop := ∀ σ H S, Sx K T a d fs i j en σ H S → ∀ Q : List V → Hp → Prop, (∀ vs H2, Ext T H H2 → DtAll K (hide H2 S) vs rs → Q vs H2) → ta σ H Q
def FxS (en : Option PyData) (ts : TS) (r : PyData) : Prop := ∀ σ H S, Sx K T a d fs i j en σ H S → ∀ D : Ends, (∀ v H2, Ext T H H2 → Dt K (hide H2 S) v r → D.rt v H2) → ts D σ H
end
section
variable {K : PySem.W.Frag} {T : Tb} {a : Addr} {d : Option Addr} {fs : List (Str × PyData)} {i j : Nat} {en : Option PyData} {te tb : TE} {ta : TA} {x y z : PyData} {xs : List PyData} {σ : L2.St} {H H' : Hp} {S : List Addr}
theorem Sx.ex (s : Sx K T a d fs i j en σ H S) (e : Ext T H H') : Sx K T a d fs i j en σ H' S :=
  ⟨s.e, s.x.kp (e.kp.hide S), ⟨s.l.1.kp e.kp, e.tb s.l.2⟩, fun y h => let ⟨u, h1, h2⟩ := s.v y h; ⟨u, h1, h2.kp (e.kp.hide S)⟩, s.jl, s.ne⟩
theorem fx_c {v : V} (h : ∀ H, Dt K H v x) : FxE K T a d fs i j en (tC v) x := fun σ H S s Q hQ => hQ v H (.refl T H) (h _)
theorem fx_v : FxE K T a d fs i j (some x) (tVar j) x := fun σ H S s Q hQ => by
  obtain ⟨u, h1, h2⟩ := s.v x rfl
  exact ⟨u, h1, hQ u H (.refl T H) h2⟩
theorem fx_nil : FxA K T a d fs i j en tNil [] := fun σ H S s Q hQ => hQ [] H (.refl T H) .nil
theorem fx_cons (h1 : FxE K T a d fs i j en te x) (h2 : FxA K T a d fs i j en ta xs) : FxA K T a d fs i j en (tCons te ta) (x :: xs) := fun σ H S s Q hQ =>
  h1 σ H S s _ fun v H1 e1 d1 => h2 σ H1 S (s.ex e1) _ fun vs H2 e2 d2 => hQ _ H2 (e1.trans e2) (.cons (d1.kp (e2.kp.hide S)) d2)
theorem fx_lst (h : FxA K T a d fs i j en ta xs) (hl : xs.length ≤ 1000000) : FxE K T a d fs i j en (tLst ta) (.list xs) := fun σ H S s Q hQ =>
  h σ H S s _ fun vs H1 e1 d1 => ⟨by rw [d1.len]; exact Nat.le_trans hl big_line, fun p hp => by
    have e2 : Ext T H1 (upd H1 p (.lst vs)) := .new hp
    exact hQ _ _ (e1.trans e2) (.lst (hide_at (s.l.1.kp e1.kp) (.of hp) rfl) (d1.kp (e2.kp.hide S)))⟩
theorem fx_op {r : R2} (h1 : FxE K T a d fs i j en te x) (h2 : FxE K T a d fs i j en tb y) (hr : RV K T r x y z) : FxE K T a d fs i j en (tOp r te tb) z := fun σ H S s Q hQ =>
  h1 σ H S s _ fun v H1 e1 d1 => h2 σ H1 S (s.ex e1) _ fun u H2 e2 d2 => hr H2 S v u ((s.l.1.kp e1.kp).kp e2.kp) (d1.kp (e2.kp.hide S)) d2 Q fun w H3 e3 d3 => hQ w H3 (e1.trans (e2.trans e3)) d3
theorem fx_cb {r : List V → Hp → VK → Prop} (h : FxA K T a d fs i j en ta xs) (hr : RC K T r xs z) : FxE K T a d fs i j en (tCB r ta) z := fun σ H S s Q hQ =>
  h σ H S s _ fun vs H1 e1 d1 => hr H1 S vs (s.l.1.kp e1.kp) d1 Q fun w H2 e2 d2 => hQ w H2 (e1.trans e2) d2
theorem fx_is {n m : Str} {b : Bool} (hc : ExcC K (He.ga K n)) (hk : PySem.W.kitOne K (.ref (He.ga K n)) (.ref (He.ga K m)) = some b) : FxE K T a d fs i j en (tCB (rIsY K a (.ref (He.ga K n)) d) (tCons (tVar i) (tCons (tC (.ref (He.ga K m))) tNil))) (.bool b) := fun σ H S s Q hQ =>
  ⟨.ref a, s.e, He.ga K n, .ref (He.ga K m), .ref (He.ga K m), b, rfl, s.x.k, hc, rfl, fun u r => r, hk, hQ _ H (.refl T H) (.bl b)⟩
theorem fx_f {n f : Str} (hc : ExcC K (He.ga K n)) (hno : PySem.W.findIn K (.ref (He.ga K n)) f = some none) (hl : fs.lookup f = some y) : FxE K T a d fs i j en (tXg K a (.ref (He.ga K n)) d f (tVar i)) y := fun σ H S s Q hQ => by
  obtain ⟨dd, kvs, v, h1, h2, h3, h4⟩ := s.x.get hl
  exact ⟨.ref a, s.e, rfl, He.ga K n, rfl, hc, hno, dd, kvs, v, h1, hide_get h2, h3, hQ v H (.refl T H) h4⟩
theorem fx_asg {tz : TS} (h : FxE K T a d fs i j en te x) (h2 : FxS K T a d fs i j (some x) tz y) : FxS K T a d fs i j en (tSeq (tAsg te (gName j)) tz) y := fun σ H S s D hD =>
  h σ H S s _ fun v H1 e1 d1 => h2 (σ.set j (some v)) H1 S ⟨by rw [List.getElem?_set_ne (Ne.symm s.ne)]; exact s.e, s.x.kp (e1.kp.hide S), ⟨s.l.1.kp e1.kp, e1.tb s.l.2⟩, fun y hy => by cases hy; exact ⟨v, List.getElem?_set_self s.jl, d1⟩, by rw [List.length_set]; exact s.jl, s.ne⟩ D fun u H2 e2 d2 => hD u H2 (e1.trans e2) d2
theorem fx_ret (h : FxE K T a d fs i j en te x) : FxS K T a d fs i j en (tRet te) x := fun σ H S s D hD => h σ H S s _ hD
def spY (K : PySem.W.Frag) (T : Tb) (cl : List ErC) (R : ErC → Rz PyData) : Addr → Value → Option Addr → Sp := fun a cls d vs H Q _ => ∃ c S fs, c ∈ cl ∧ cls = .ref (He.ga K c.name) ∧ XD K (hide H S) d fs ∧ vs = [.ref a] ∧ LsT T H S ∧ match R c with
  | .ok r => ∀ v H', Ext T H H' → Dt K (hide H' S) v r → Q v H'
  | _ => False
theorem fx_fl {cl : List ErC} {R : ErC → Rz PyData} {c : ErC} {E : L2.St → XK} (hc : c ∈ cl) (hR : R c = .ok x) : FxE K T a d fs i j en (tCallS (spY K T cl R a (.ref (He.ga K c.name)) d) E (tCons (tVar i) tNil)) x := fun σ H S s Q hQ =>
  ⟨.ref a, s.e, c, S, fs, hc, rfl, s.x, rfl, s.l, by rw [hR]; exact hQ⟩
theorem fx_z {F : List PyData → Rz PyData} {E : L2.St → XK} (h : FxA K T a d fs i j en ta xs) (hF : F xs = .ok x) : FxE K T a d fs i j en (tCallS (spZ K T .no F) E ta) x := fun σ H S s Q hQ =>
  h σ H S s _ fun vs H1 e1 d1 => ⟨xs, S, ⟨s.l.1.kp e1.kp, e1.tb s.l.2⟩, d1, by rw [hF]; exact fun v H2 e2 d2 => hQ v H2 (e1.trans e2) d2⟩
end
section
variable {P : Program} {w : World} {K : PySem.W.Frag} {T : Tb} {mg : Str → Option Value} {base : Heap}
theorem fnHY {cl : List ErC} {x : Str} {st : Stmt} {f : Addr} {fd : FuncData} {N : List Str} {y : Str} {k : Nat} {R : ErC → Rz PyData} (F : FnQ K x st [] [] f fd) (S : FnScope N [y] (defScope st)) (hn : N.length = 2)
    (hbody : ∀ (cdv : Value) (A : Around) (outer : List Env) (s : Shared) (H : Hp) (E : XK) (p : Addr × Obj) (d : Option Addr) (c : ErC), c ∈ cl → Hot1 A p → Zc (.ref (He.ga K c.name)) d p.2 → (∃ vs, p.2.data = .fields vs) → RoomH k (A.deeper (PyProof.Rows.envOfC x (defScope st) s.heap.objs.size f cdv)) →
      ∃ t, PSs (cxH CX0 P w K mg base N x (defScope st) f cdv A outer s H E p).nox (defBody st) t ∧ ∀ fs r, R c = .ok r → FxS K T p.1 d fs 0 1 none t r) :
    FnHX P w K mg base CX0 (k + 1) f fd [y] (spY K T cl R) := by
  obtain ⟨oc, od, dV, kV, doc, pm, an, cdv, ct, osl, rfl, lk, hcd, _, _⟩ := F.ex
  refine fn_ofHX lk hcd S (fun a cls d vs H Q E h => ?_) fun A outer s H vs Q E p cls d hot hz hf hr h => ?_
  · obtain ⟨c, S', fs, _, _, _, rfl, _⟩ := h
    rfl
  · obtain ⟨c, S', fs, hc, rfl, hx, rfl, l, hq⟩ := h
    obtain ⟨t, pt, sm⟩ := hbody cdv A outer s H E p d c hc hot hz hf hr
    refine ⟨t, pt.nox, ?_⟩
    cases hRc : R c with
    | bad => rw [hRc] at hq; exact hq.elim
    | ex y => rw [hRc] at hq; exact hq.elim
    | ok r =>
      rw [hRc] at hq
      refine sm fs r hRc _ H S' ⟨start_get rfl, hx, l, fun y hy => (by cases hy), ?_, by decide⟩ _ hq
      unfold L2.start
      simp only [List.length_append, List.length_map, List.length_cons, List.length_nil, List.length_replicate, hn]
      decide
end
def exiB (K : PySem.W.Frag) (x f : Str) : Bool := oexB K (He.ga K x) && (He.eqO (PySem.W.findIn K (.ref (He.ga K x)) "__init__") (some (some (.ref (He.ma K (He.ga K x) "__init__")))) && (decide (PySem.W.typeIn K (.ref (He.ma K (He.ga K x) "__init__")) = some (.type "function")) && decide (PySem.W.findIn K (.ref (He.ga K x)) f = some none)))
theorem exi_mk {P : Program} {w : World} {K : PySem.W.Frag} {mg : Str → Option Value} {base : Heap} {x f : Str} {fd : FuncData} (h : exiB K x f = true) (g : mg x = some (.ref (He.ga K x))) (F : FnOk P w K mg base CX0 1 (He.ma K (He.ga K x) "__init__") fd ["self", f] (spI1 K f)) (b : Binds K fd ["self", f] []) : ExI P w K mg base 1 x f := by
  unfold exiB at h
  obtain ⟨h1, h⟩ := He.ba h
  obtain ⟨h2, h⟩ := He.ba h
  obtain ⟨h3, h4⟩ := He.ba h
  exact ⟨⟨_, _, F, He.eqO_ok h2, of_decide_eq_true h3, b⟩, g, oexB_ok h1, of_decide_eq_true h4⟩
end Lw

set_option Elab.async false
set_option linter.all false
set_option maxRecDepth 100000
set_option maxHeartbeats 4000000
set_option autoImplicit false
namespace Lw
open PySem L2 LwZ
local macro_rules | `(tactic| wtm_at "len") => `(tactic| first | (simp only [List.length_cons, List.length_nil]; omega) | omega)
local macro_rules | `(tactic| wtm_at "ok") => `(tactic| first | assumption | rfl | (intro z; cases z; done) | decide | omega | exact mulOkL (by omega) | exact mulOkR (by omega) | exact fdOkS (by omega) (by omega) | exact cpowOk (by decide))
local macro_rules | `(tactic| wtm_at "rv") => `(tactic| with_reducible first
  | exact rv_add | exact rv_sub | (apply rv_mul; wtm_at "ok") | (apply rv_fd; wtm_at "ok") | (apply rv_fdB; wtm_at "ok") | (apply rv_mod; wtm_at "ok") | (apply rv_pow; wtm_at "ok")
  | exact rv_lt | exact rv_le | exact rv_gt | exact rv_ge | exact rv_isN | exact rv_notN
  | exact rv_ixP0 | exact rv_ixP1 | (apply rv_ixT; wtm_at "at") | (apply rv_ixL; wtm_at "at")
  | (apply rv_eq <;> wtm_at "shape") | (apply rv_ne <;> wtm_at "shape")
  | (apply rv_addT; wtm_at "len") | (apply RVF.rv; wtm_at "rf"))
local macro_rules | `(tactic| wtm_at "rf") => `(tactic| with_reducible first | (apply rf_addL; wtm_at "len") | (apply rf_rep <;> wtm_at "ok"))
local macro_rules | `(tactic| wtm_at "at") => `(tactic| first | assumption | with_unfolding_all rfl)
local macro_rules | `(tactic| wtm_at "shape") => `(tactic| first | assumption | exact shaped_encR _ | exact shaped_int _ | with_unfolding_all rfl)
local macro_rules | `(tactic| wtm_at "rc") => `(tactic| first
  | exact rc_lenL | exact rc_lenT | exact rc_abs | exact rc_intB | exact rc_intI | exact rc_tupleL | exact rc_tupleT | exact RCF.rc rf_listL | exact RCF.rc rf_listT | exact rc_all | exact rc_any | (apply rc_lenS; wtm_at "ok"))
local macro_rules | `(tactic| wtm_at "var") => `(tactic| with_unfolding_all rfl)
local macro_rules | `(tactic| wtm_at "ea") => `(tactic| with_reducible first | exact ea_nil | (apply ea_cons; (· wtm_at "ev"); (· wtm_at "ea")))
local macro_rules | `(tactic| wtm_at "ep") => `(tactic| with_reducible first | exact ep_none | (apply ep_some; wtm_at "ev"))
local macro_rules | `(tactic| wtm_at "ef") => `(tactic| with_reducible first
  | (apply ef_lst; (· wtm_at "ea"); (· wtm_at "len"))
  | (apply ef_sl; (· wtm_at "ev"); (· wtm_at "ep"); (· wtm_at "ep"); (· exact rf_slL))
  | (apply ef_op; (· wtm_at "ev"); (· wtm_at "ev"); (· wtm_at "rf"))
  | (apply ef_cb; (· wtm_at "ea"); (· first | exact rf_listL | exact rf_listT)))
local macro_rules | `(tactic| wtm_at "ev") => `(tactic| with_reducible first
  | exact ev_int | exact ev_bl | exact ev_str | exact ev_non
  | exact ev_cst (by assumption)
  | (apply ev_var; wtm_at "var")
  | (apply ev_op; (· wtm_at "ev"); (· wtm_at "ev"); (· wtm_at "rv"))
  | (apply ev_un; (· wtm_at "ev"); (· exact ru_neg))
  | (apply ev_ixO; (· wtm_at "var"); (· wtm_at "ev"); (· wtm_at "at"))
  | (apply ev_call; (· wtm_at "ea"); (· wtm_at "ok"))
  | (apply ev_cb; (· wtm_at "ea"); (· wtm_at "rc"))
  | (apply ev_tup; (· wtm_at "ea"); (· wtm_at "len"))
  | (apply ev_lst; (· wtm_at "ea"); (· wtm_at "len"))
  | (apply ev_sl; (· wtm_at "ev"); (· wtm_at "ep"); (· wtm_at "ep"); (· first | exact RSF.rs rf_slL | exact rs_slT))
  | (apply ev_if; (· wtm_at "et"); (· intro hb; wtm_at "ev"); (· intro hb; wtm_at "ev"))
  | (apply ev_notV; wtm_at "ev")
  | (apply ev_andV; (· wtm_at "ev"); (· intro hb; wtm_at "ev")) | (apply ev_orV; (· wtm_at "ev"); (· intro hb; wtm_at "ev"))
  | (apply ev_view; (· wtm_at "evv"); (· with_unfolding_all rfl)))
local macro_rules | `(tactic| wtm_at "evv") => `(tactic| (simp only [List.map_cons, List.map_nil, Slot.view]; wtm_at "ev2"))
local macro_rules | `(tactic| wtm_at "ev2") => `(tactic| with_reducible first
  | (apply ev_op; (· wtm_at "ev"); (· wtm_at "ev"); (· wtm_at "rv"))
  | (apply ev_cb; (· wtm_at "ea"); (· wtm_at "rc")))
local macro_rules | `(tactic| wtm_at "et") => `(tactic| with_reducible first
  | (apply et_test; wtm_at "ev") | (apply et_B; wtm_at "ev") | (apply et_not; wtm_at "et")
  | (apply et_and; (· wtm_at "et"); (· intro hb; wtm_at "et")) | (apply et_or; (· wtm_at "et"); (· intro hb; wtm_at "et")))
local macro_rules | `(tactic| wtm_at "le") => `(tactic| with_reducible (repeat' first | exact Le.nil | exact Le.refl _ | refine Le.eq ?_ | refine Le.no ?_))
local macro_rules | `(tactic| wtm_at "cx") => `(tactic| try dsimp only [cxOf, Cx.nox, Cx.wish, Cx.blk])
local macro_rules | `(tactic| wtm_at "nf") => `(tactic| (try dsimp only [List.set]))
local macro_rules | `(tactic| wtm_at "asg") => `(tactic| (refine q_asg (by wtm_at "ev") ?_; wtm_at "nf"))
local macro_rules | `(tactic| wtm_at "asg1") => `(tactic| (refine s_asg (by wtm_at "ev") ?_; wtm_at "nf"))
local macro_rules | `(tactic| wtm_at "own") => `(tactic| (refine q_own (by wtm_at "ef") ?_; wtm_at "nf"))
local macro_rules | `(tactic| wtm_at "par") => `(tactic| (refine q_par (by wtm_at "ea") ?_; wtm_at "nf"))
local macro_rules | `(tactic| wtm_at "par1") => `(tactic| (refine s_par (by wtm_at "ea") ?_; wtm_at "nf"))
local macro_rules | `(tactic| wtm_at "leU") => `(tactic| (repeat' first | exact Le.nil | refine Le.eq ?_ | refine Le.no ?_))
local macro_rules | `(tactic| wtm_at "try") => `(tactic| (refine s_seq (fun σ H g => ?_); (try dsimp only); refine tri_app σ H g ?_; clear g))
local macro_rules | `(tactic| wtm_at "z") => `(tactic| simp only [fnD_a, xOrL_a, fRev_a, fnO_a, fnW_a, xFd_a, kFset_a, kFown_a, kFapp_a, kFput_a, kFfrz_a, xMr_a, fMr_a, kMw_a, kMk_a, objF_rob, objF_obj, objW_obj, slotsM, kSeq_a, kNx_a, kE_a, kAsg_a, kOwn_a, kDrop_a, kRet_a, kRetP_a, kRetF_a, kRetO_a, kRet2_a, fP_a, pairL_a, kRetN_a, kIf_a, kBk_a, kCt_a, kTg_a, kPar_a, kApp_a, kPut_a, kFrz_a, kFor_a, kRaise_a, kDict_a, kDput_a, kClr_a, kStar_a, kOwnD_a, fDz_a, fnDD_a, kIns_a, kExt_a, kApp3_a, xIsi_a, kNst_a, fLc2_a, fPk2_a, fPk3_a, yVw_a, xVw_a, flatT_r, view_no, view_dat, view_own, view_scr, xC_a, xV_a, xOp_a, fOp_a, xUn_a, xNot_a, xAnd_a, xOr_a, xIf_a, xChain_a, zNil_a, zCons_a, xTup_a, fLst_a, xL_a, xCB_a, fCB_a, xF_a, xFc_a, fF_a, fFc_a, zApp_a, zKw_a, oNo_a, oAt_a, fSl_a, xSl_a, yV_a, yAnd_a, yOr_a, yNot_a, yYes_a, xIxO_a, xLenO_a, xDg_a, xDin_a, xDnotin_a, iS_a, iA_a, fLc_a, wipeS_nil, wipeS_cons, gN_a, gs0_a, gsC_a, gT_a, gU_a, ownL_a, ownD_a, asB_a, asI_a, asL_a, seqOf_l, seqOf_t, keyD_i, keyD_s, bind_ex, bind_bad, of_none, Rz.bind_ok, Rz.of_some, Rz.calm_ok, Option.bind_some, Option.bind_none, zAddV_i, zSub_i, zLt_i, zLe_i, zGt_i, zGe_i, zEq_i, zNe_i, zEq_r, zNe_r, zIx_r0, zIx_r1, zIx_t, zIx_l, zNeg_i, zLen_l, zLen_t, zAbs_i, zInt_b, zInt_i, zListV_l, zListV_t, zList_l, zList_t, zTuple_l, zTuple_t, zAll_l, zAny_l, zSlV_l, zSlV_t, zIsN_a, zNotN_a, slots, sel, Arg.get, List.filterMap_cons, List.filterMap_nil, List.length_cons, List.length_nil, List.map_cons, List.map_nil, List.cons_append, List.nil_append, List.append_nil, List.getElem?_cons_succ, List.getElem?_cons_zero, List.getElem?_nil, List.set_cons_zero, List.set_cons_succ, List.set_nil, List.replicate_succ, List.replicate_zero, if_true, Nat.sub_self, Nat.reduceAdd, Nat.reduceSub, Nat.reduceLeDiff, Nat.reduceEqDiff, Nat.reduceLT, Int.reduceLT, Int.reduceLE, Int.reduceNeg, Int.reduceEq, Nat.zero_add, and_self, if_false, Bool.not_true, Bool.not_false, Bool.false_eq_true, Nat.zero_le, decide_true, decide_false, reduceCtorEq])
def top (i : Nat) : Stmt := PySem.Challenge.pw_lullworks_k04_parts_as_texts.main.body.getD i (.Pass ⟨0, 0, 0, 0⟩)
def ec_LullError : ErC := ⟨"LullError", [], veB, "ValueError.__new__", false⟩
def ec_BadPart : ErC := ⟨"BadPart", ["LullError"], veB, "ValueError.__new__", false⟩
def ec_BadHand : ErC := ⟨"BadHand", ["LullError"], veB, "ValueError.__new__", false⟩
def ec_BadRows : ErC := ⟨"BadRows", ["LullError"], veB, "ValueError.__new__", false⟩
def ec_BadShares : ErC := ⟨"BadShares", ["LullError"], veB, "ValueError.__new__", false⟩
def ec_BadPlan : ErC := ⟨"BadPlan", ["LullError"], veB, "ValueError.__new__", false⟩
def ec_BadFilling : ErC := ⟨"BadFilling", ["LullError"], veB, "ValueError.__new__", false⟩
def ec_BadRate : ErC := ⟨"BadRate", ["LullError"], veB, "ValueError.__new__", false⟩
def ec_BadLower : ErC := ⟨"BadLower", ["LullError"], veB, "ValueError.__new__", false⟩
def ec_BadSteps : ErC := ⟨"BadSteps", ["LullError"], veB, "ValueError.__new__", false⟩
def ec_BadName : ErC := ⟨"BadName", ["LullError"], veB, "ValueError.__new__", false⟩
def ec_Taken : ErC := ⟨"Taken", ["LullError"], veB, "ValueError.__new__", false⟩
def ec_Full : ErC := ⟨"Full", ["LullError"], veB, "ValueError.__new__", false⟩
def ec_Last : ErC := ⟨"Last", ["LullError"], veB, "ValueError.__new__", false⟩
def ec_NotOurs : ErC := ⟨"NotOurs", ["LullError"], veB, "ValueError.__new__", false⟩
def ec_Bare : ErC := ⟨"Bare", ["LullError"], veB, "ValueError.__new__", false⟩
def ec_Unlike : ErC := ⟨"Unlike", ["LullError"], veB, "ValueError.__new__", false⟩
def ec_BadDeed : ErC := ⟨"BadDeed", ["LullError"], veB, "ValueError.__new__", false⟩
def ec_BadText : ErC := ⟨"BadText", ["LullError"], veB, "ValueError.__new__", true⟩
def ec_Broken : ErC := ⟨"Broken", ["LullError"], veB, "ValueError.__new__", true⟩
def ec_Missing : ErC := ⟨"Missing", [], leB, "LookupError.__new__", false⟩
def ec_NoStore : ErC := ⟨"NoStore", ["Missing"], leB, "LookupError.__new__", true⟩
def ec_NoRow : ErC := ⟨"NoRow", ["Missing"], leB, "LookupError.__new__", true⟩
def ec_NoPaper : ErC := ⟨"NoPaper", ["Missing"], leB, "LookupError.__new__", true⟩
def erL : List ErC := [ec_LullError, ec_BadPart, ec_BadHand, ec_BadRows, ec_BadShares, ec_BadPlan, ec_BadFilling, ec_BadRate, ec_BadLower, ec_BadSteps, ec_BadName, ec_Taken, ec_Full, ec_Last, ec_NotOurs, ec_Bare, ec_Unlike, ec_BadDeed, ec_BadText, ec_Broken, ec_Missing, ec_NoStore, ec_NoRow, ec_NoPaper]
theorem erf_LullError {K : PySem.W.Frag} {mg : Str → Option Value} (Er : ErrT K mg erL) : ErF K mg erL ec_LullError := Er _ (List.mem_of_getElem? (i := 0) rfl)
theorem erf_BadPart {K : PySem.W.Frag} {mg : Str → Option Value} (Er : ErrT K mg erL) : ErF K mg erL ec_BadPart := Er _ (List.mem_of_getElem? (i := 1) rfl)
theorem exf_BadPart {K : PySem.W.Frag} {mg : Str → Option Value} (Er : ErrT K mg erL) : ExF K mg "BadPart" veB "ValueError.__new__" := (erf_BadPart Er).f rfl
theorem erf_BadHand {K : PySem.W.Frag} {mg : Str → Option Value} (Er : ErrT K mg erL) : ErF K mg erL ec_BadHand := Er _ (List.mem_of_getElem? (i := 2) rfl)
theorem erf_BadRows {K : PySem.W.Frag} {mg : Str → Option Value} (Er : ErrT K mg erL) : ErF K mg erL ec_BadRows := Er _ (List.mem_of_getElem? (i := 3) rfl)
theorem erf_BadShares {K : PySem.W.Frag} {mg : Str → Option Value} (Er : ErrT K mg erL) : ErF K mg erL ec_BadShares := Er _ (List.mem_of_getElem? (i := 4) rfl)
theorem erf_BadPlan {K : PySem.W.Frag} {mg : Str → Option Value} (Er : ErrT K mg erL) : ErF K mg erL ec_BadPlan := Er _ (List.mem_of_getElem? (i := 5) rfl)
theorem erf_BadFilling {K : PySem.W.Frag} {mg : Str → Option Value} (Er : ErrT K mg erL) : ErF K mg erL ec_BadFilling := Er _ (List.mem_of_getElem? (i := 6) rfl)
theorem erf_BadRate {K : PySem.W.Frag} {mg : Str → Option Value} (Er : ErrT K mg erL) : ErF K mg erL ec_BadRate := Er _ (List.mem_of_getElem? (i := 7) rfl)
theorem erf_BadLower {K : PySem.W.Frag} {mg : Str → Option Value} (Er : ErrT K mg erL) : ErF K mg erL ec_BadLower := Er _ (List.mem_of_getElem? (i := 8) rfl)
theorem erf_BadSteps {K : PySem.W.Frag} {mg : Str → Option Value} (Er : ErrT K mg erL) : ErF K mg erL ec_BadSteps := Er _ (List.mem_of_getElem? (i := 9) rfl)
theorem erf_BadName {K : PySem.W.Frag} {mg : Str → Option Value} (Er : ErrT K mg erL) : ErF K mg erL ec_BadName := Er _ (List.mem_of_getElem? (i := 10) rfl)
theorem erf_Taken {K : PySem.W.Frag} {mg : Str → Option Value} (Er : ErrT K mg erL) : ErF K mg erL ec_Taken := Er _ (List.mem_of_getElem? (i := 11) rfl)
theorem erf_Full {K : PySem.W.Frag} {mg : Str → Option Value} (Er : ErrT K mg erL) : ErF K mg erL ec_Full := Er _ (List.mem_of_getElem? (i := 12) rfl)
theorem erf_Last {K : PySem.W.Frag} {mg : Str → Option Value} (Er : ErrT K mg erL) : ErF K mg erL ec_Last := Er _ (List.mem_of_getElem? (i := 13) rfl)
theorem erf_NotOurs {K : PySem.W.Frag} {mg : Str → Option Value} (Er : ErrT K mg erL) : ErF K mg erL ec_NotOurs := Er _ (List.mem_of_getElem? (i := 14) rfl)
theorem erf_Bare {K : PySem.W.Frag} {mg : Str → Option Value} (Er : ErrT K mg erL) : ErF K mg erL ec_Bare := Er _ (List.mem_of_getElem? (i := 15) rfl)
theorem erf_Unlike {K : PySem.W.Frag} {mg : Str → Option Value} (Er : ErrT K mg erL) : ErF K mg erL ec_Unlike := Er _ (List.mem_of_getElem? (i := 16) rfl)
theorem erf_BadDeed {K : PySem.W.Frag} {mg : Str → Option Value} (Er : ErrT K mg erL) : ErF K mg erL ec_BadDeed := Er _ (List.mem_of_getElem? (i := 17) rfl)
theorem erf_BadText {K : PySem.W.Frag} {mg : Str → Option Value} (Er : ErrT K mg erL) : ErF K mg erL ec_BadText := Er _ (List.mem_of_getElem? (i := 18) rfl)
theorem erf_Broken {K : PySem.W.Frag} {mg : Str → Option Value} (Er : ErrT K mg erL) : ErF K mg erL ec_Broken := Er _ (List.mem_of_getElem? (i := 19) rfl)
theorem erf_Missing {K : PySem.W.Frag} {mg : Str → Option Value} (Er : ErrT K mg erL) : ErF K mg erL ec_Missing := Er _ (List.mem_of_getElem? (i := 20) rfl)
theorem erf_NoStore {K : PySem.W.Frag} {mg : Str → Option Value} (Er : ErrT K mg erL) : ErF K mg erL ec_NoStore := Er _ (List.mem_of_getElem? (i := 21) rfl)
theorem erf_NoRow {K : PySem.W.Frag} {mg : Str → Option Value} (Er : ErrT K mg erL) : ErF K mg erL ec_NoRow := Er _ (List.mem_of_getElem? (i := 22) rfl)
theorem erf_NoPaper {K : PySem.W.Frag} {mg : Str → Option Value} (Er : ErrT K mg erL) : ErF K mg erL ec_NoPaper := Er _ (List.mem_of_getElem? (i := 23) rfl)
abbrev s_BadText_i : Stmt := inClass (top 19) 0
structure FdT (K : PySem.W.Frag) : Prop where
  at_ : ∀ c ∈ erL, (subE c ec_BadText || subE c ec_Broken) = true → PySem.W.findIn K (.ref (He.ga K c.name)) "at" = some none
  nm : ∀ c ∈ erL, subE c ec_Missing = true → PySem.W.findIn K (.ref (He.ga K c.name)) "name" = some none
def fdB (K : PySem.W.Frag) : Bool := erL.all fun c => (!(subE c ec_BadText || subE c ec_Broken) || decide (PySem.W.findIn K (.ref (He.ga K c.name)) "at" = some none)) && (!(subE c ec_Missing) || decide (PySem.W.findIn K (.ref (He.ga K c.name)) "name" = some none))
theorem fdB_ok {K : PySem.W.Frag} (h : fdB K = true) : FdT K := ⟨fun c hc e => by
  have q := (He.ba (List.all_eq_true.mp h c hc)).1
  rw [e, Bool.not_true, Bool.false_or] at q
  exact of_decide_eq_true q, fun c hc e => by
  have q := (He.ba (List.all_eq_true.mp h c hc)).2
  rw [e, Bool.not_true, Bool.false_or] at q
  exact of_decide_eq_true q⟩
abbrev s_common : Stmt := top 27
theorem sc_common : FnScope ["one", "other"] ["one", "other"] (defScope s_common) := ⟨rfl, rfl, rfl, by decide +kernel, rfl, by decide +kernel, by decide +kernel⟩
abbrev s_part : Stmt := top 28
theorem sc_part : FnScope ["upper", "lower", "both"] ["upper", "lower"] (defScope s_part) := ⟨rfl, rfl, rfl, by decide +kernel, rfl, by decide +kernel, by decide +kernel⟩
abbrev s_part_text : Stmt := top 29
theorem sc_part_text : FnScope ["one"] ["one"] (defScope s_part_text) := ⟨rfl, rfl, rfl, by decide +kernel, rfl, by decide +kernel, by decide +kernel⟩
abbrev s_number_in : Stmt := top 30
theorem sc_number_in : FnScope ["text", "sign"] ["text"] (defScope s_number_in) := ⟨rfl, rfl, rfl, by decide +kernel, rfl, by decide +kernel, by decide +kernel⟩
abbrev s_part_in : Stmt := top 31
theorem sc_part_in : FnScope ["text", "body", "upper", "stroke", "lower", "found", "one"] ["text"] (defScope s_part_in) := ⟨rfl, rfl, rfl, by decide +kernel, rfl, by decide +kernel, by decide +kernel⟩
abbrev s_part_of : Stmt := top 32
theorem sc_part_of : FnScope ["text", "found"] ["text"] (defScope s_part_of) := ⟨rfl, rfl, rfl, by decide +kernel, rfl, by decide +kernel, by decide +kernel⟩
abbrev s__law_part : Stmt := top 34
theorem sc__law_part : FnScope ["_law_up", "_law_down", "_law_this", "_law_that", "_law_side"] ["_law_up", "_law_down"] (defScope s__law_part) := ⟨rfl, rfl, rfl, by decide +kernel, rfl, by decide +kernel, by decide +kernel⟩
abbrev s__law_numbers : Stmt := top 35
theorem sc__law_numbers : FnScope ["_law_script", "_law_many", "_law_drawn", "_law_seed", "_law_cell", "_law_rest", "_law_k"] ["_law_script", "_law_many"] (defScope s__law_numbers) := ⟨rfl, rfl, rfl, by decide +kernel, rfl, by decide +kernel, by decide +kernel⟩
abbrev s__law_any_part : Stmt := top 36
theorem sc__law_any_part : FnScope ["_law_d", "_law_up"] ["_law_d"] (defScope s__law_any_part) := ⟨rfl, rfl, rfl, by decide +kernel, rfl, by decide +kernel, by decide +kernel⟩
abbrev s__law_same : Stmt := top 37
theorem sc__law_same : FnScope ["_law_found", "_law_due", "_law_k"] ["_law_found", "_law_due"] (defScope s__law_same) := ⟨rfl, rfl, rfl, by decide +kernel, rfl, by decide +kernel, by decide +kernel⟩
abbrev s__law_word : Stmt := top 38
theorem sc__law_word : FnScope ["_law_flags_here", "_law_words", "_law_word_here", "_law_here"] ["_law_flags_here"] (defScope s__law_word) := ⟨rfl, rfl, rfl, by decide +kernel, rfl, by decide +kernel, by decide +kernel⟩
abbrev s__law_flags : Stmt := top 39
theorem sc__law_flags : FnScope ["_law_e", "_law_flags_here"] ["_law_e"] (defScope s__law_flags) := ⟨rfl, rfl, rfl, by decide +kernel, rfl, by decide +kernel, by decide +kernel⟩
abbrev s__law_tried : Stmt := top 40
theorem sc__law_tried : FnScope ["_law_ask", "_law_say_now", "_law_word_here", "_law_e"] ["_law_ask"] (defScope s__law_tried) := ⟨rfl, rfl, rfl, by decide +kernel, rfl, by decide +kernel, by decide +kernel⟩
abbrev s__law_plain : Stmt := top 41
theorem sc__law_plain : FnScope ["_law_text", "_law_sign"] ["_law_text"] (defScope s__law_plain) := ⟨rfl, rfl, rfl, by decide +kernel, rfl, by decide +kernel, by decide +kernel⟩
abbrev s__law_read : Stmt := top 42
theorem sc__law_read : FnScope ["_law_text", "_law_body", "_law_some", "_law_up", "_law_down", "_law_found", "_law_word_here"] ["_law_text"] (defScope s__law_read) := ⟨rfl, rfl, rfl, by decide +kernel, rfl, by decide +kernel, by decide +kernel⟩
abbrev s_law : Stmt := top 43
theorem sc_law : FnScope ["_law_script", "_law_numbers_here", "_law_k", "_law_d", "_law_this", "_law_text", "_law_turn", "_law_at", "_law_sign", "_law_due", "_law_words", "_law_word_here"] ["_law_script"] (defScope s_law) := ⟨rfl, rfl, rfl, by decide +kernel, rfl, by decide +kernel, by decide +kernel⟩
def dk (x : Str) (st : Stmt) (dfl : List He.Dv) (kwd : List (Str × He.Dv)) : He.DefD := ⟨(x, none), x, x, defArgs st, defBody st, defScope st, dfl, kwd⟩
def dx_BadText : He.DefD := ⟨("BadText", some "__init__"), "__init__", "BadText.__init__", defArgs s_BadText_i, defBody s_BadText_i, defScope s_BadText_i, [], []⟩
def fnL : List He.DefD := [dk "common" s_common [] [], dk "part" s_part [.int 1] [], dk "part_text" s_part_text [] [], dk "number_in" s_number_in [] [], dk "part_in" s_part_in [] [], dk "part_of" s_part_of [] [], dk "_law_part" s__law_part [] [], dk "_law_numbers" s__law_numbers [] [], dk "_law_any_part" s__law_any_part [] [], dk "_law_same" s__law_same [] [], dk "_law_word" s__law_word [] [], dk "_law_flags" s__law_flags [] [], dk "_law_tried" s__law_tried [] [], dk "_law_plain" s__law_plain [] [], dk "_law_read" s__law_read [] [], dk "law" s_law [] [], dx_BadText]
def ckL (K : PySem.W.Frag) : Bool := seerB K && exiB K "BadText" "at" && fdB K && erB erL K
def faL : List He.Fa := [.glo "common", .glo "part", .glo "part_text", .glo "number_in", .glo "part_in", .glo "part_of", .glo "_law_part", .glo "_law_numbers", .glo "_law_any_part", .glo "_law_same", .glo "_law_word", .glo "_law_flags", .glo "_law_tried", .glo "_law_plain", .glo "_law_read", .glo "law", .free "len", .free "range", .free "abs", .free "int", .free "list", .free "tuple", .free "all", .free "any", .free "str", .free "sum", .free "max", .free "min", .free "zip", .free "enumerate", .free "isinstance", .free "sorted", .free "reversed", .free "bool", .free "ValueError", .free "ZeroDivisionError", .free "dict", .str "FIGURES" "0123456789"]
abbrev rowE : PySem.W.OpenRow := PySem.W.OpenLaw.row PySem.Challenge.rw_lullworks_k04_parts_as_texts
def tfL : List He.Defn := [("law", none)]
def clL : List Str := ["BadText"]
abbrev hkL : PySem.W.Hook := hookV clL faL fnL tfL ckL
def obL (s : PySem.W.SharedT) : AlQ := obsV clL faL fnL tfL ckL (HandSHeadRun.getT s)
theorem obL_eq (s : PySem.W.SharedT) : obL s = hkL.obs s.abs := obsV_eq (HandSHeadRun.getT_eq s)
def looseL : List Str := (["LullError", "BadPart", "BadHand", "BadRows", "BadShares", "BadPlan", "BadFilling", "BadRate", "BadLower", "BadSteps", "BadName", "Taken"] : List Str) ++ (["Full", "Last", "NotOurs", "Bare", "Unlike", "BadDeed", "BadText", "Broken", "Missing", "NoStore", "NoRow", "NoPaper"] : List Str) ++ (["FIGURES", "common", "part", "part_text", "number_in", "part_in", "part_of", "_law_part", "_law_numbers", "_law_any_part", "_law_same", "_law_word"] : List Str) ++ (["_law_flags", "_law_tried", "_law_plain", "_law_read"] : List Str)
theorem runL (w : World) : HandSHeadRun.RunEq rowE (PySem.W.view rowE.prog [43]) hkL obL 14000 looseL w := by
  intro os
  kernel_rfl

inductive Pl : Nat → PyData → Prop
  | none {n : Nat} : Pl n .none
  | bool {n : Nat} (b : Bool) : Pl n (.bool b)
  | int {n : Nat} (i : Int) : Pl n (.int i)
  | str {n : Nat} {x : Str} (h : (PyData.str x).canLay0 = true) : Pl n (.str x)
  | list {n : Nat} {ds : List PyData} (hl : ds.length ≤ 1000000) (h : ∀ d ∈ ds, Pl n d) : Pl (n + 1) (.list ds)
  | tuple {n : Nat} {ds : List PyData} (hl : ds.length ≤ 1000000) (h : ∀ d ∈ ds, Pl n d) : Pl (n + 1) (.tuple ds)
theorem Pl.shd {n : Nat} {d : PyData} (h : Pl n d) : ShD n d := by
  induction h with
  | none => exact shd_none.mono (Nat.zero_le _)
  | bool b => exact (shd_bool b).mono (Nat.zero_le _)
  | int i => exact (shd_int i).mono (Nat.zero_le _)
  | str h => exact ⟨h, by simp only [PyData.depth]; exact Nat.zero_le _⟩
  | list _ _ ih => exact shd_list ih
  | tuple _ _ ih => exact shd_tuple ih
theorem Pl.mono {n m : Nat} {d : PyData} (h : Pl n d) : n ≤ m → Pl m d := by
  induction h generalizing m with
  | none => intro _; exact .none
  | bool b => intro _; exact .bool b
  | int i => intro _; exact .int i
  | str h => intro _; exact .str h
  | list hl _ ih =>
    intro h
    cases m with
    | zero => omega
    | succ m => exact .list hl fun d hd => ih d hd (by omega)
  | tuple hl _ ih =>
    intro h
    cases m with
    | zero => omega
    | succ m => exact .tuple hl fun d hd => ih d hd (by omega)
def Rsame (n : Nat) (ds : List PyData) (r : PyData) : Prop := ∃ d, Pl n d ∧ n ≤ 60 ∧ ds = [d, d] ∧ r = .bool true
def Rsame8 : List PyData → PyData → Prop := Rsame 8
theorem same_step {P : Program} {w : World} {K : PySem.W.Frag} {T : Tb} {mg : Str → Option Value} {base : Heap} {f : Addr} {fd : FuncData} {dvs : List V} (F : FnP K "_law_same" s__law_same dvs f fd) (Z : Blt mg) {k n : Nat} {R : List PyData → PyData → Prop}
    (hn : ∀ ds : List PyData, (Pl n (.list ds) ∨ Pl n (.tuple ds)) → ∀ d ∈ ds, R [d, d] (.bool true)) (h60 : n ≤ 60)
    (c__law_same : Cal P w K mg base k "_law_same" ["_law_found", "_law_due"] [] (spR K T R)) : FnOk P w K mg base CX0 (k + 1) f fd ["_law_found", "_law_due"] (spR K T (Rsame n)) := by
  refine fnR F sc__law_same (fun ds r h => ?_) (fun cdv A outer s H E hr => ?_)
  · obtain ⟨d, _, _, rfl, rfl⟩ := h
    rfl
  · have nd := sc__law_same.nd
    refine ⟨_, (pss_cons (ps_if (pt_cmpR op_isN (pv 1) pe_non (nomark _)) (pss_one (ps_ret (pe_cmpR op_isN (pv 0) pe_non (nomark _)))) pss_nil)
      (pss_cons (ps_if (pt_val (pe_callB (call_isiTK K) (by rfl) Z.isinstance (by decide +kernel) (pa_cons (pv 1) (pa_cons (pe_tup (pa_cons (pe_bltn (v := .ty "list") (u := .type "list") (by rfl) Z.list (by decide +kernel) rfl) (pa_cons (pe_bltn (v := .ty "tuple") (u := .type "tuple") (by rfl) Z.tuple (by decide +kernel) rfl) pa_nil))) pa_nil)))) (pss_cons (ps_if (PW.pt (pw_or (pt_cmpR (op_neK K hr.units) (pe_callB (call_isiK K) (by rfl) Z.isinstance (by decide +kernel) (pa_cons (pv 0) (pa_cons (pe_bltn (v := .ty "list") (u := .type "list") (by rfl) Z.list (by decide +kernel) rfl) pa_nil))) (pe_callB (call_isiK K) (by rfl) Z.isinstance (by decide +kernel) (pa_cons (pv 1) (pa_cons (pe_bltn (v := .ty "list") (u := .type "list") (by rfl) Z.list (by decide +kernel) rfl) pa_nil))) (nomark _)) (pw_or1 (pt_cmpR (op_neK K hr.units) (pe_callB (call_isiK K) (by rfl) Z.isinstance (by decide +kernel) (pa_cons (pv 0) (pa_cons (pe_bltn (v := .ty "tuple") (u := .type "tuple") (by rfl) Z.tuple (by decide +kernel) rfl) pa_nil))) (pe_callB (call_isiK K) (by rfl) Z.isinstance (by decide +kernel) (pa_cons (pv 1) (pa_cons (pe_bltn (v := .ty "tuple") (u := .type "tuple") (by rfl) Z.tuple (by decide +kernel) rfl) pa_nil))) (nomark _))))) (pss_one (ps_ret pe_bl)) pss_nil)
      (pss_one (ps_ret (pe_and (pe_cmpR (op_eqK K hr.units) (pe_callB (call_lenK K) (by rfl) Z.len PySem.boot_len (pa_cons (pv 0) pa_nil)) (pe_callB (call_lenK K) (by rfl) Z.len PySem.boot_len (pa_cons (pv 1) pa_nil)) (nomark _)) (pe_one (pe_callB (cr_allK K rfl) (by rfl) Z.all (by decide +kernel) (pa_cons (pe_lc (own := [("_law_k", 2)]) rfl nd (pi_range1 (by rfl) Z.range (pa_cons (pe_callB (call_lenK K) (by rfl) Z.len PySem.boot_len (pa_cons (pv 1) pa_nil)) pa_nil)) (blkOk_by (own := [("_law_k", 2)]) (N := ["_law_found", "_law_due", "_law_k"]) (sc := defScope s__law_same) (by decide +kernel)) (fun _ _ _ _ _ => (pg_name (i := 2) nd rfl (Or.inl rfl))) (fun _ _ _ _ _ => pts_nil) (fun _ _ _ _ _ => (pe_callC c__law_same hr rfl (pa_cons (pe_ix (ix_seqK K) (pv 0) (pv 2) (fun _ _ => rfl)) (pa_cons (pe_ix (ix_seqK K) (pv 1) (pv 2) (fun _ _ => rfl)) pa_nil)) (hk := Nat.le_refl _)))) pa_nil))))))) pss_nil)
      (pss_cons (ps_if (PW.pt (pw_or (pt_cmpR (op_neK K hr.units) (pe_callB (call_isiK K) (by rfl) Z.isinstance (by decide +kernel) (pa_cons (pv 0) (pa_cons (pe_bltn (v := .ty "bool") (u := .type "bool") (by rfl) Z.bool (by decide +kernel) rfl) pa_nil))) (pe_callB (call_isiK K) (by rfl) Z.isinstance (by decide +kernel) (pa_cons (pv 1) (pa_cons (pe_bltn (v := .ty "bool") (u := .type "bool") (by rfl) Z.bool (by decide +kernel) rfl) pa_nil))) (nomark _)) (pw_or1 (pt_cmpR (op_neK K hr.units) (pe_callB (call_isiK K) (by rfl) Z.isinstance (by decide +kernel) (pa_cons (pv 0) (pa_cons (pe_bltn (v := .ty "str") (u := .type "str") (by rfl) Z.str (by decide +kernel) rfl) pa_nil))) (pe_callB (call_isiK K) (by rfl) Z.isinstance (by decide +kernel) (pa_cons (pv 1) (pa_cons (pe_bltn (v := .ty "str") (u := .type "str") (by rfl) Z.str (by decide +kernel) rfl) pa_nil))) (nomark _))))) (pss_one (ps_ret pe_bl)) pss_nil)
      (pss_one (ps_ret (pe_and (pe_cmpR (op_eqK K hr.units) (pe_callB (call_isiK K) (by rfl) Z.isinstance (by decide +kernel) (pa_cons (pv 0) (pa_cons (pe_bltn (v := .ty "int") (u := .type "int") (by rfl) Z.int (by decide +kernel) rfl) pa_nil))) (pe_callB (call_isiK K) (by rfl) Z.isinstance (by decide +kernel) (pa_cons (pv 1) (pa_cons (pe_bltn (v := .ty "int") (u := .type "int") (by rfl) Z.int (by decide +kernel) rfl) pa_nil))) (nomark _)) (pe_one (pe_cmpR (op_eqK K hr.units) (pv 0) (pv 1) (nomark _))))))))), ?_⟩
    wtm_at "cx"
    rintro ds r ⟨d, hd, _, rfl, rfl⟩ H0 C D hrt hnx
    show Tri K T H0 _ C [.dat d, .dat d, .no] _ D
    have sh := hd.shd.shaped (by omega)
    have rf := hd.shd.refl
    refine q_if (by wtm_at "et") (fun c => ?_) (fun c => s_to ?_)
    · have e : d = .none := by
        cases d <;> first | rfl | cases c
      subst e
      exact s_ret (ev_is (by wtm_at "ev") (by rfl)) hrt
    have seq : ∀ (ds : List PyData), (∀ x ∈ ds, R [x, x] (.bool true)) → SeqD d ds → ds.length ≤ 1000000 →
        Ev K T (tAndV (tOp (rEqD K) (tCB (rLenA K) (tCons (tVar 0) tNil)) (tCB (rLenA K) (tCons (tVar 1) tNil))) (tCB (rAll K) (tCons (tLc (iRng1 (tCons (tCB (rLenA K) (tCons (tVar 1) tNil)) tNil)) (gName 2) tYes (tCall (spR K T R) [] E0 (tCons (tOp (rIx K) (tVar 0) (tVar 2)) (tCons (tOp (rIx K) (tVar 1) (tVar 2)) tNil))) (List.map (fun x => x.2) [(Str.ofString "_law_k", 2)])) tNil))) [.dat d, .dat d, .no] (.bool true) := by
      intro ds hds hsq hl
      refine ev_is (ev_andV (ev_is (ev_op (ev_lenSq (by wtm_at "ev") hsq) (ev_lenSq (by wtm_at "ev") hsq) (rv_eq (shaped_int _) (shaped_int _))) (by rw [eqv_int, decide_eq_true rfl])) (fun _ => ev_allLc (fun _ => true) (it_range1 (ea_cons (ev_lenSq (by wtm_at "ev") hsq) ea_nil) (by omega) (by omega)) (by rw [rgD_len]; omega) ?_)) ?_
      · intro i x hx
        obtain ⟨hi, rfl⟩ := rgD_get hx
        have hi : i < ds.length := by simpa using hi
        refine ⟨_, _, tg_name, (fun j hj => hj), ?_⟩
        show Ev K T _ [.dat d, .dat d, .dat (.int (0 + (i : Int)))] _
        have a1 : atI ds (0 + (i : Int)) = some ds[i] := by
          rw [atI_in (by omega) (by omega), show (0 + (i : Int)).toNat = i from by omega, List.getElem?_eq_getElem hi]
        exact ev_call (ea_cons (ev_ixSq (by wtm_at "ev") hsq (by wtm_at "ev") a1) (ea_cons (ev_ixSq (by wtm_at "ev") hsq (by wtm_at "ev") a1) ea_nil)) (hds _ (List.getElem_mem hi))
      · simp
    have nn : ∀ b : Bool, PyData.eqv (.bool b) (.bool b) = true := fun b => (shd_bool b).refl
    have sb : ∀ b : Bool, SeqAt.shaped (.bool b) = true := fun b => (shd_bool b).shaped (by decide)
    have ne : ∀ {t : String} {b : Bool}, kitB (tyN d) t = some b → EvT K T (tTest (tOp (rNeD K) (tCB (rIsi K) (tCons (tVar 0) (tCons (tC (.ty t)) tNil))) (tCB (rIsi K) (tCons (tVar 1) (tCons (tC (.ty t)) tNil))))) [.dat d, .dat d, .no] false := fun h =>
      et_same (n := 0) (ev_isi (by wtm_at "ev") h) (ev_isi (by wtm_at "ev") h) (shd_bool _) (by decide)
    have two : (∃ b3 b4 b5 : Bool, kitB (tyN d) "list" = some false ∧ kitB (tyN d) "tuple" = some false ∧ kitB (tyN d) "bool" = some b3 ∧ kitB (tyN d) "str" = some b4 ∧ kitB (tyN d) "int" = some b5) ∨
        ∃ (ds : List PyData) (b1 b2 : Bool), SeqD d ds ∧ ds.length ≤ 1000000 ∧ (∀ x ∈ ds, R [x, x] (.bool true)) ∧ kitB (tyN d) "list" = some b1 ∧ kitB (tyN d) "tuple" = some b2 ∧ (b1 || b2) = true := by
      cases hd with
      | none => cases c
      | bool b => exact .inl ⟨true, false, true, by dsimp only [tyN]; decide +kernel, by dsimp only [tyN]; decide +kernel, by dsimp only [tyN]; decide +kernel, by dsimp only [tyN]; decide +kernel, by dsimp only [tyN]; decide +kernel⟩
      | int i => exact .inl ⟨false, false, true, by dsimp only [tyN]; decide +kernel, by dsimp only [tyN]; decide +kernel, by dsimp only [tyN]; decide +kernel, by dsimp only [tyN]; decide +kernel, by dsimp only [tyN]; decide +kernel⟩
      | str h => exact .inl ⟨false, true, false, by dsimp only [tyN]; decide +kernel, by dsimp only [tyN]; decide +kernel, by dsimp only [tyN]; decide +kernel, by dsimp only [tyN]; decide +kernel, by dsimp only [tyN]; decide +kernel⟩
      | list hl h => exact .inr ⟨_, true, false, .lst _, hl, hn _ (.inl (.list hl h)), by dsimp only [tyN]; decide +kernel, by dsimp only [tyN]; decide +kernel, rfl⟩
      | tuple hl h => exact .inr ⟨_, false, true, .tup _, hl, hn _ (.inr (.tuple hl h)), by dsimp only [tyN]; decide +kernel, by dsimp only [tyN]; decide +kernel, rfl⟩
    rcases two with ⟨b3, b4, b5, h1, h2, h3, h4, h5⟩ | ⟨ds, b1, b2, hsq, hl, hds, h1, h2, hb⟩
    · refine q_ifF (et_is (et_B (ev_isi2 (by wtm_at "ev") h1 h2)) rfl) ?_
      refine q_ifF (et_is (et_or (ne h3) fun _ => ne h4) rfl) ?_
      exact s_ret (ev_is (ev_andV (ev_is (ev_op (ev_isi (by wtm_at "ev") h5) (ev_isi (by wtm_at "ev") h5) (rv_eq (sb _) (sb _))) (by rw [nn])) fun _ => ev_op (by wtm_at "ev") (by wtm_at "ev") (rv_eq sh sh)) (by rw [rf]; rfl)) hrt
    · refine q_if (b := true) (et_is (et_B (ev_isi2 (by wtm_at "ev") h1 h2)) hb) (fun _ => ?_) (fun z => by cases z)
      refine q_ifF (et_is (et_or (ne h1) fun _ => ne h2) rfl) ?_
      exact s_ret (seq ds hds hsq hl) hrt
theorem same_all {P : Program} {w : World} {K : PySem.W.Frag} {T : Tb} {mg : Str → Option Value} {base : Heap} {f : Addr} {fd : FuncData} {dvs : List V} (F : FnP K "_law_same" s__law_same dvs f fd) (Z : Blt mg)
    (self : ∀ (k : Nat) (R : List PyData → PyData → Prop), FnOk P w K mg base CX0 k f fd ["_law_found", "_law_due"] (spR K T R) → Cal P w K mg base k "_law_same" ["_law_found", "_law_due"] [] (spR K T R)) :
    ∀ n : Nat, n ≤ 60 → FnOk P w K mg base CX0 (41 + n + 1) f fd ["_law_found", "_law_due"] (spR K T (Rsame n))
  | 0, h => same_step F Z (k := 41) (n := 0) (R := fun _ _ => False) (fun ds h => by rcases h with h | h <;> cases h) h (self _ _ ⟨fun vs H Q E ⟨_, _, _, _, _, z, _⟩ => z.elim, fun A outer s H args us vs Q E _ _ _ _ ⟨_, _, _, _, _, z, _⟩ => z.elim⟩)
  | n + 1, h => same_step F Z (k := 41 + n + 1) (n := n + 1) (R := Rsame n) (fun ds h2 x hx => by
      refine ⟨x, ?_, by omega, rfl, rfl⟩
      rcases h2 with h2 | h2 <;> cases h2 <;> rename_i q <;> exact q x hx) h (self _ _ (same_all F Z self n (by omega)))
theorem ok__law_same {P : Program} {w : World} {K : PySem.W.Frag} {T : Tb} {mg : Str → Option Value} {base : Heap} {f : Addr} {fd : FuncData} {dvs : List V} (F : FnP K "_law_same" s__law_same dvs f fd) (Z : Blt mg)
    (self : ∀ (k : Nat) (R : List PyData → PyData → Prop), FnOk P w K mg base CX0 k f fd ["_law_found", "_law_due"] (spR K T R) → Cal P w K mg base k "_law_same" ["_law_found", "_law_due"] [] (spR K T R)) :
    FnOk P w K mg base CX0 50 f fd ["_law_found", "_law_due"] (spR K T Rsame8) := by
  exact same_all F Z self 8 (by decide)
theorem sc_BadText_i : FnScope ["self", "at"] ["self", "at"] (defScope s_BadText_i) := ⟨rfl, rfl, rfl, by decide +kernel, rfl, by decide +kernel, by decide +kernel⟩
theorem ok_BadText_i {P : Program} {w : World} {K : PySem.W.Frag} {mg : Str → Option Value} {base : Heap} {f : Addr} {fd : FuncData} (F : FnM K "__init__" "BadText.__init__" s_BadText_i [] f fd) : FnOk P w K mg base CX0 1 f fd ["self", "at"] (spI1 K "at") := by
  refine F.ok sc_BadText_i spI1_len (fun cdv A outer s H vs Q E hr h => ?_)
  have nd := sc_BadText_i.nd
  obtain ⟨a, C, v, rfl, T, hn, ha, hq⟩ := h
  refine ⟨_, pss_one (ps_osg (pv 0) (pv 1)), ?_⟩
  exact ⟨v, rfl, .ref a, rfl, a, C, rfl, T, hn, .inl ⟨ha, hq⟩⟩

theorem mem_BadPart : ec_BadPart ∈ erL := List.mem_of_getElem? (i := 1) rfl
theorem mem_BadHand : ec_BadHand ∈ erL := List.mem_of_getElem? (i := 2) rfl
theorem mem_BadRows : ec_BadRows ∈ erL := List.mem_of_getElem? (i := 3) rfl
theorem mem_BadShares : ec_BadShares ∈ erL := List.mem_of_getElem? (i := 4) rfl
theorem mem_BadPlan : ec_BadPlan ∈ erL := List.mem_of_getElem? (i := 5) rfl
theorem mem_BadFilling : ec_BadFilling ∈ erL := List.mem_of_getElem? (i := 6) rfl
theorem mem_BadRate : ec_BadRate ∈ erL := List.mem_of_getElem? (i := 7) rfl
theorem mem_BadLower : ec_BadLower ∈ erL := List.mem_of_getElem? (i := 8) rfl
theorem mem_BadSteps : ec_BadSteps ∈ erL := List.mem_of_getElem? (i := 9) rfl
theorem mem_BadName : ec_BadName ∈ erL := List.mem_of_getElem? (i := 10) rfl
theorem mem_Taken : ec_Taken ∈ erL := List.mem_of_getElem? (i := 11) rfl
theorem mem_Full : ec_Full ∈ erL := List.mem_of_getElem? (i := 12) rfl
theorem mem_Last : ec_Last ∈ erL := List.mem_of_getElem? (i := 13) rfl
theorem mem_NotOurs : ec_NotOurs ∈ erL := List.mem_of_getElem? (i := 14) rfl
theorem mem_Bare : ec_Bare ∈ erL := List.mem_of_getElem? (i := 15) rfl
theorem mem_Unlike : ec_Unlike ∈ erL := List.mem_of_getElem? (i := 16) rfl
theorem mem_BadDeed : ec_BadDeed ∈ erL := List.mem_of_getElem? (i := 17) rfl
theorem mem_NoStore : ec_NoStore ∈ erL := List.mem_of_getElem? (i := 21) rfl
theorem mem_NoRow : ec_NoRow ∈ erL := List.mem_of_getElem? (i := 22) rfl
theorem mem_NoPaper : ec_NoPaper ∈ erL := List.mem_of_getElem? (i := 23) rfl
def flL (c : ErC) : List PyData := [.bool (subE c ec_BadPart), .bool (subE c ec_BadHand), .bool (subE c ec_BadRows), .bool (subE c ec_BadShares), .bool (subE c ec_BadPlan), .bool (subE c ec_BadFilling), .bool (subE c ec_BadRate), .bool (subE c ec_BadLower), .bool (subE c ec_BadSteps), .bool (subE c ec_BadName), .bool (subE c ec_Taken), .bool (subE c ec_Full), .bool (subE c ec_Last), .bool (subE c ec_NotOurs), .bool (subE c ec_Bare), .bool (subE c ec_Unlike), .bool (subE c ec_BadDeed), .bool (subE c ec_NoStore), .bool (subE c ec_NoRow), .bool (subE c ec_NoPaper)]
def flD (c : ErC) : Rz PyData := .ok (.list (flL c))
theorem okH__law_flags {P : Program} {w : World} {K : PySem.W.Frag} {T : Tb} {mg : Str → Option Value} {base : Heap} {f : Addr} {fd : FuncData} (F : FnQ K "_law_flags" s__law_flags [] [] f fd) (Z : Blt mg) (Er : ErrT K mg erL) :
    LwM.FnHX P w K mg base CX0 42 f fd ["_law_e"] (spY K T erL flD) := by
  refine fnHY F sc__law_flags rfl (fun cdv A outer s H E p d c hc hot hz hf hr => ?_)
  have nd := sc__law_flags.nd
  refine ⟨_, (pss_cons (ps_set (i := 1) nd rfl (Or.inl rfl) (pe_lst (pa_cons (pe_callB (call_isY K List.mem_cons_self hz hf) (by rfl) Z.isinstance (by decide +kernel) (pa_cons (pv 0) (pa_cons (pe_glob (v := .ref (He.ga K "BadPart")) (by rfl) (erf_BadPart Er).g rfl) pa_nil))) (pa_cons (pe_callB (call_isY K List.mem_cons_self hz hf) (by rfl) Z.isinstance (by decide +kernel) (pa_cons (pv 0) (pa_cons (pe_glob (v := .ref (He.ga K "BadHand")) (by rfl) (erf_BadHand Er).g rfl) pa_nil))) (pa_cons (pe_callB (call_isY K List.mem_cons_self hz hf) (by rfl) Z.isinstance (by decide +kernel) (pa_cons (pv 0) (pa_cons (pe_glob (v := .ref (He.ga K "BadRows")) (by rfl) (erf_BadRows Er).g rfl) pa_nil))) (pa_cons (pe_callB (call_isY K List.mem_cons_self hz hf) (by rfl) Z.isinstance (by decide +kernel) (pa_cons (pv 0) (pa_cons (pe_glob (v := .ref (He.ga K "BadShares")) (by rfl) (erf_BadShares Er).g rfl) pa_nil))) pa_nil))))))
      (pss_cons (ps_set (i := 1) nd rfl (Or.inl rfl) (pe_op (op_addK K) (pv 1) (pe_lst (pa_cons (pe_callB (call_isY K List.mem_cons_self hz hf) (by rfl) Z.isinstance (by decide +kernel) (pa_cons (pv 0) (pa_cons (pe_glob (v := .ref (He.ga K "BadPlan")) (by rfl) (erf_BadPlan Er).g rfl) pa_nil))) (pa_cons (pe_callB (call_isY K List.mem_cons_self hz hf) (by rfl) Z.isinstance (by decide +kernel) (pa_cons (pv 0) (pa_cons (pe_glob (v := .ref (He.ga K "BadFilling")) (by rfl) (erf_BadFilling Er).g rfl) pa_nil))) (pa_cons (pe_callB (call_isY K List.mem_cons_self hz hf) (by rfl) Z.isinstance (by decide +kernel) (pa_cons (pv 0) (pa_cons (pe_glob (v := .ref (He.ga K "BadRate")) (by rfl) (erf_BadRate Er).g rfl) pa_nil))) pa_nil))))))
      (pss_cons (ps_set (i := 1) nd rfl (Or.inl rfl) (pe_op (op_addK K) (pv 1) (pe_lst (pa_cons (pe_callB (call_isY K List.mem_cons_self hz hf) (by rfl) Z.isinstance (by decide +kernel) (pa_cons (pv 0) (pa_cons (pe_glob (v := .ref (He.ga K "BadLower")) (by rfl) (erf_BadLower Er).g rfl) pa_nil))) (pa_cons (pe_callB (call_isY K List.mem_cons_self hz hf) (by rfl) Z.isinstance (by decide +kernel) (pa_cons (pv 0) (pa_cons (pe_glob (v := .ref (He.ga K "BadSteps")) (by rfl) (erf_BadSteps Er).g rfl) pa_nil))) (pa_cons (pe_callB (call_isY K List.mem_cons_self hz hf) (by rfl) Z.isinstance (by decide +kernel) (pa_cons (pv 0) (pa_cons (pe_glob (v := .ref (He.ga K "BadName")) (by rfl) (erf_BadName Er).g rfl) pa_nil))) pa_nil))))))
      (pss_cons (ps_set (i := 1) nd rfl (Or.inl rfl) (pe_op (op_addK K) (pv 1) (pe_lst (pa_cons (pe_callB (call_isY K List.mem_cons_self hz hf) (by rfl) Z.isinstance (by decide +kernel) (pa_cons (pv 0) (pa_cons (pe_glob (v := .ref (He.ga K "Taken")) (by rfl) (erf_Taken Er).g rfl) pa_nil))) (pa_cons (pe_callB (call_isY K List.mem_cons_self hz hf) (by rfl) Z.isinstance (by decide +kernel) (pa_cons (pv 0) (pa_cons (pe_glob (v := .ref (He.ga K "Full")) (by rfl) (erf_Full Er).g rfl) pa_nil))) pa_nil)))))
      (pss_cons (ps_set (i := 1) nd rfl (Or.inl rfl) (pe_op (op_addK K) (pv 1) (pe_lst (pa_cons (pe_callB (call_isY K List.mem_cons_self hz hf) (by rfl) Z.isinstance (by decide +kernel) (pa_cons (pv 0) (pa_cons (pe_glob (v := .ref (He.ga K "Last")) (by rfl) (erf_Last Er).g rfl) pa_nil))) (pa_cons (pe_callB (call_isY K List.mem_cons_self hz hf) (by rfl) Z.isinstance (by decide +kernel) (pa_cons (pv 0) (pa_cons (pe_glob (v := .ref (He.ga K "NotOurs")) (by rfl) (erf_NotOurs Er).g rfl) pa_nil))) (pa_cons (pe_callB (call_isY K List.mem_cons_self hz hf) (by rfl) Z.isinstance (by decide +kernel) (pa_cons (pv 0) (pa_cons (pe_glob (v := .ref (He.ga K "Bare")) (by rfl) (erf_Bare Er).g rfl) pa_nil))) (pa_cons (pe_callB (call_isY K List.mem_cons_self hz hf) (by rfl) Z.isinstance (by decide +kernel) (pa_cons (pv 0) (pa_cons (pe_glob (v := .ref (He.ga K "Unlike")) (by rfl) (erf_Unlike Er).g rfl) pa_nil))) pa_nil)))))))
      (pss_one (ps_ret (pe_op (op_addK K) (pv 1) (pe_lst (pa_cons (pe_callB (call_isY K List.mem_cons_self hz hf) (by rfl) Z.isinstance (by decide +kernel) (pa_cons (pv 0) (pa_cons (pe_glob (v := .ref (He.ga K "BadDeed")) (by rfl) (erf_BadDeed Er).g rfl) pa_nil))) (pa_cons (pe_callB (call_isY K List.mem_cons_self hz hf) (by rfl) Z.isinstance (by decide +kernel) (pa_cons (pv 0) (pa_cons (pe_glob (v := .ref (He.ga K "NoStore")) (by rfl) (erf_NoStore Er).g rfl) pa_nil))) (pa_cons (pe_callB (call_isY K List.mem_cons_self hz hf) (by rfl) Z.isinstance (by decide +kernel) (pa_cons (pv 0) (pa_cons (pe_glob (v := .ref (He.ga K "NoRow")) (by rfl) (erf_NoRow Er).g rfl) pa_nil))) (pa_cons (pe_callB (call_isY K List.mem_cons_self hz hf) (by rfl) Z.isinstance (by decide +kernel) (pa_cons (pv 0) (pa_cons (pe_glob (v := .ref (He.ga K "NoPaper")) (by rfl) (erf_NoPaper Er).g rfl) pa_nil))) pa_nil))))))))))))), fun fs r hr2 => ?_⟩
  cases hr2
  exact (fx_asg (fx_lst (fx_cons (fx_is (Er c hc).x ((Er c hc).m ec_BadPart (mem_BadPart)).2) (fx_cons (fx_is (Er c hc).x ((Er c hc).m ec_BadHand (mem_BadHand)).2) (fx_cons (fx_is (Er c hc).x ((Er c hc).m ec_BadRows (mem_BadRows)).2) (fx_cons (fx_is (Er c hc).x ((Er c hc).m ec_BadShares (mem_BadShares)).2) fx_nil)))) (by simp))
    (fx_asg (fx_op fx_v (fx_lst (fx_cons (fx_is (Er c hc).x ((Er c hc).m ec_BadPlan (mem_BadPlan)).2) (fx_cons (fx_is (Er c hc).x ((Er c hc).m ec_BadFilling (mem_BadFilling)).2) (fx_cons (fx_is (Er c hc).x ((Er c hc).m ec_BadRate (mem_BadRate)).2) fx_nil))) (by simp)) (r_addV _ _ _ (zAddV_l (by simp))))
    (fx_asg (fx_op fx_v (fx_lst (fx_cons (fx_is (Er c hc).x ((Er c hc).m ec_BadLower (mem_BadLower)).2) (fx_cons (fx_is (Er c hc).x ((Er c hc).m ec_BadSteps (mem_BadSteps)).2) (fx_cons (fx_is (Er c hc).x ((Er c hc).m ec_BadName (mem_BadName)).2) fx_nil))) (by simp)) (r_addV _ _ _ (zAddV_l (by simp))))
    (fx_asg (fx_op fx_v (fx_lst (fx_cons (fx_is (Er c hc).x ((Er c hc).m ec_Taken (mem_Taken)).2) (fx_cons (fx_is (Er c hc).x ((Er c hc).m ec_Full (mem_Full)).2) fx_nil)) (by simp)) (r_addV _ _ _ (zAddV_l (by simp))))
    (fx_asg (fx_op fx_v (fx_lst (fx_cons (fx_is (Er c hc).x ((Er c hc).m ec_Last (mem_Last)).2) (fx_cons (fx_is (Er c hc).x ((Er c hc).m ec_NotOurs (mem_NotOurs)).2) (fx_cons (fx_is (Er c hc).x ((Er c hc).m ec_Bare (mem_Bare)).2) (fx_cons (fx_is (Er c hc).x ((Er c hc).m ec_Unlike (mem_Unlike)).2) fx_nil)))) (by simp)) (r_addV _ _ _ (zAddV_l (by simp))))
    (fx_ret (fx_op fx_v (fx_lst (fx_cons (fx_is (Er c hc).x ((Er c hc).m ec_BadDeed (mem_BadDeed)).2) (fx_cons (fx_is (Er c hc).x ((Er c hc).m ec_NoStore (mem_NoStore)).2) (fx_cons (fx_is (Er c hc).x ((Er c hc).m ec_NoRow (mem_NoRow)).2) (fx_cons (fx_is (Er c hc).x ((Er c hc).m ec_NoPaper (mem_NoPaper)).2) fx_nil)))) (by simp)) (r_addV _ _ _ (zAddV_l (by simp))))))))))

noncomputable def m__law_word : MS := (kSeq (kAsg (xC (.str "BadPart BadHand BadRows BadShares BadPlan BadFilling BadRate BadLower BadSteps BadName Taken Full")) 1)
  (kSeq (kAsg (xOp zAddV (xV 1) (xC (.str " Last NotOurs Bare Unlike BadDeed NoStore NoRow NoPaper"))) 1)
  (kRet (xOp zAddV (xC (.str "no ")) (xM zJn (xC (.str "+")) (zCons (xL (fLc [2, 3] (iA (zipO false) (zCons (xM zSpl (xV 1) (zCons (xC (.str " ")) zNil)) (zCons (xV 0) zNil))) (gT 2 (gsC (gN 2) (gsC (gN 3) gs0))) (yV (xV 3)) (xV 2))) zNil))))))
noncomputable def d__law_word : List PyData → Rz PyData := fnD 1 4 m__law_word
theorem okH__law_word {P : Program} {w : World} {K : PySem.W.Frag} {T : Tb} {mg : Str → Option Value} {base : Heap} {f : Addr} {fd : FuncData} (F : FnQ K "_law_word" s__law_word [] [] f fd) (Z : Blt mg) :
    LwM.FnHX P w K mg base CX0 42 f fd ["_law_flags_here"] (fun _ _ _ => spZ K T .no fun ds => (d__law_word ds).calm) := by
  refine fnHZ F sc__law_word rfl rfl (fun cdv A outer s H E p hot hr => ?_)
  have nd := sc__law_word.nd
  have hc : L2H.HotC (L2H.cxH CX0 P w K mg base ["_law_flags_here", "_law_words", "_law_word_here", "_law_here"] "_law_word" (defScope s__law_word) f cdv A outer s H E p).nox := ⟨p, hot, List.mem_cons_self⟩
  refine ⟨_, (pss_cons (ps_set (i := 1) nd rfl (Or.inl rfl) pe_str)
      (pss_cons (ps_set (i := 1) nd rfl (Or.inl rfl) (pe_op (op_addK K) (pv 1) pe_str))
      (pss_one (ps_ret (pe_op (op_addK K) pe_str (pe_bmK K PySem.F.plainAttrs_str PySem.F.slot_str_join PySem.F.type_str_join (mt_jn K) pe_str (pa_cons (LwZ.pe_lcQ (own := [("_law_word_here", 2), ("_law_here", 3)]) (.inr hc) nd (LwZ.pi_zipQ K (by rfl) Z.zip (pa_cons (pe_bmK K PySem.F.plainAttrs_str PySem.F.slot_str_split PySem.F.type_str_split mt_spl (pv 1) (pa_cons pe_str pa_nil)) (pa_cons (pv 0) pa_nil))) (blkOk_by (own := [("_law_word_here", 2), ("_law_here", 3)]) (N := ["_law_flags_here", "_law_words", "_law_word_here", "_law_here"]) (sc := defScope s__law_word) (by decide +kernel)) (fun _ _ _ _ _ => LwZ.pgq_tup K (n := 2) (pgs_cons (pg_name (i := 2) nd rfl (Or.inl rfl)) (pgs_cons (pg_name (i := 3) nd rfl (Or.inl rfl)) pgs_nil))) (fun _ _ _ _ _ => (pts_one (pt_val (pv 3)))) (fun _ _ _ _ _ => (pv 2))) pa_nil))))))), ?_⟩
  exact (sim_seq (sim_asg sim_str)
    (sim_seq (sim_asg (sim_op r_addV sim_V sim_str))
    (sim_ret (sim_op r_addV sim_str (sim_m r_jn sim_str (sim_cons (sim_L (sim_lc (W' := fun _ _ _ _ => False) (sim_zip (sim_cons (sim_m r_spl sim_V (sim_cons sim_str sim_nil)) (sim_cons sim_V sim_nil))) (simG_T (simG_C simG_N (simG_C simG_N simG_0))) (sim_yB sim_V) sim_V (by decide))) sim_nil))))))

theorem mm_BadText : ec_BadText ∈ erL := List.mem_of_getElem? (i := 18) rfl
theorem mm_Broken : ec_Broken ∈ erL := List.mem_of_getElem? (i := 19) rfl
theorem mm_LullError : ec_LullError ∈ erL := List.mem_of_getElem? (i := 0) rfl
theorem mm_Missing : ec_Missing ∈ erL := List.mem_of_getElem? (i := 20) rfl
def erFind (x : Str) : Option ErC := erL.find? fun c => decide (c.name = x)
theorem erFind_ok {x : Str} {c : ErC} (h : erFind x = some c) : c ∈ erL ∧ c.name = x := ⟨List.mem_of_find?_eq_some h, of_decide_eq_true (List.find?_some (p := fun c : ErC => decide (c.name = x)) h)⟩
def strO : Rz PyData → Option Str
  | .ok (.str s) => some s
  | _ => none
theorem strO_eq {z : Rz PyData} {s : Str} (h : strO z = some s) : z = .ok (.str s) := by
  unfold strO at h
  split at h
  · cases h; rfl
  · cases h
def strP : PyData → Option Str
  | .str s => some s
  | _ => none
theorem strP_eq {z : PyData} {s : Str} (h : strP z = some s) : z = .str s := by
  cases z <;> first | (cases h; rfl) | cases h
def wAt (c : ErC) (fs : List (Str × PyData)) : Option Str := (fs.lookup ("at" : Str)).bind fun d => (zStr [d]).bind fun t => (zAddV (.str (if subE c ec_BadText then "BadText " else "Broken ")) t).bind strP
noncomputable def wFl (c : ErC) : Option Str := strO ((d__law_word [.list (flL c)]).calm)
noncomputable def wMis (c : ErC) (fs : List (Str × PyData)) : Option Str := (wFl c).bind fun s => (zAddV (.str s) (.str " ")).bind fun u => (fs.lookup ("name" : Str)).bind fun d => (zStr [d]).bind fun t => (zAddV u t).bind strP
noncomputable def wCls (c : ErC) (fs : List (Str × PyData)) : Option Str := if subE c ec_BadText || subE c ec_Broken then wAt c fs else if subE c ec_LullError then wFl c else if subE c ec_Missing then wMis c fs else none
noncomputable def wTry (x : Exn) : Option Str := (erFind x.cls).bind fun c => wCls c x.fs
theorem takes0N {X : Cx} : L2N.Takes X (fun _ _ _ _ => False) := fun _ _ x => by
  obtain ⟨_, _, _, _, _, _, _, _, _, _, _, _, _, _, _, _, z⟩ := x
  exact z.elim
theorem gives_tried {X : Cx} {T : Tb} {k : Nat} {q : Str} {g : Addr} {cdv : Value} (Z : Blt X.mg) (Fd : FdT X.K) (Er : ErrT X.K X.mg erL)
    (cf : CalH X.prog X.w X.K X.mg X.base 42 "_law_flags" ["_law_e"] (spY X.K T erL flD)) (cw : CalH X.prog X.w X.K X.mg X.base 42 "_law_word" ["_law_flags_here"] (fun _ _ _ => spZ X.K T .no fun ds => (d__law_word ds).calm)) (hk : 42 ≤ k) :
    GivesN X k ["_law_ask", "_law_say_now", "_law_word_here", "_law_e"] "_law_tried" (defScope s__law_tried) g cdv (defBody s__law_tried) "_law_ask" q (TTr X.K T wTry) := by
  intro f c' s H Q tl hr act hc h
  obtain ⟨S, o, r, l, hb, ho, hq⟩ := h
  have nd := sc__law_tried.nd
  have hrH : ∀ a, L2H.RoomH k ((X.A.deeper (PyProof.Rows.envOfC "_law_tried" (defScope s__law_tried) s.heap.objs.size g cdv)).mark (some (.ref a))) := fun a => ⟨hr.dp, hr.un⟩
  refine ⟨_, pss_cons (ps_set (i := 1) nd rfl (Or.inl rfl) pe_non) (pss_cons (ps_set (i := 2) nd rfl (Or.inl rfl) pe_str) (pss_cons
    (ps_try_manyA (i := 3) (n := "_law_e") rfl rfl nd rfl rfl takes0N (fun W pn xe tk po => pss_one (ps_set (i := 1) nd rfl (Or.inl rfl) (act W pn xe _ _ tk)))
      (.cons (.two ⟨rfl, by decide, .inl (erf_BadText Er).g⟩ ⟨rfl, by decide, .inl (erf_Broken Er).g⟩) (fun a oe cls d pn hz hf => pss_one (ps_set (i := 2) nd rfl (Or.inl rfl)
        (pe_op (op_addK X.K) (pe_ix (ix_seqK X.K) (pe_lst (pa_cons pe_str (pa_cons pe_str pa_nil))) (pe_callTy call_int1 (by rfl) Z.int (by decide +kernel) (pa_cons (pe_callB (call_isY X.K (p := (a, oe)) List.mem_cons_self hz.zc hf) (by rfl) Z.isinstance (by decide +kernel) (pa_cons (pv 3) (pa_cons (pe_glob (v := .ref (He.ga X.K "BadText")) (by rfl) (erf_BadText Er).g rfl) pa_nil))) pa_nil)) (fun _ _ => rfl))
          (pe_callTy call_strK (by rfl) Z.str (by decide +kernel) (pa_cons (pe_xg hz.zc hf (pv 3)) pa_nil)))))
      (.cons (.one ⟨rfl, by decide, .inl (erf_LullError Er).g⟩) (fun a oe cls d pn hz hf => pss_one (ps_set (i := 2) nd rfl (Or.inl rfl)
        (pe_callH2 (X := (cxOf C8.CX0 X.prog X.w X.K X.mg X.base ["_law_ask", "_law_say_now", "_law_word_here", "_law_e"] "_law_tried" (defScope s__law_tried) g cdv X.A X.stack s H C8.E0).nox.suite a ((a, oe) :: pn)) (a := a) (oe := oe) (cls := cls) (d := d) cw (hrH a) ⟨rfl, let ⟨vs, e⟩ := hf; ⟨vs, e, hz.2.2 vs e⟩⟩ List.mem_cons_self hz.zc (by rfl)
          (pa_cons (pe_callH2 (X := (cxOf C8.CX0 X.prog X.w X.K X.mg X.base ["_law_ask", "_law_say_now", "_law_word_here", "_law_e"] "_law_tried" (defScope s__law_tried) g cdv X.A X.stack s H C8.E0).nox.suite a ((a, oe) :: pn)) (a := a) (oe := oe) (cls := cls) (d := d) cf (hrH a) ⟨rfl, let ⟨vs, e⟩ := hf; ⟨vs, e, hz.2.2 vs e⟩⟩ List.mem_cons_self hz.zc (by rfl) (pa_cons (pv 3) pa_nil) hk) pa_nil) hk)))
      (.cons (.one ⟨rfl, by decide, .inl (erf_Missing Er).g⟩) (fun a oe cls d pn hz hf => pss_one (ps_set (i := 2) nd rfl (Or.inl rfl)
        (pe_op (op_addK X.K) (pe_op (op_addK X.K) (pe_callH2 (X := (cxOf C8.CX0 X.prog X.w X.K X.mg X.base ["_law_ask", "_law_say_now", "_law_word_here", "_law_e"] "_law_tried" (defScope s__law_tried) g cdv X.A X.stack s H C8.E0).nox.suite a ((a, oe) :: pn)) (a := a) (oe := oe) (cls := cls) (d := d) cw (hrH a) ⟨rfl, let ⟨vs, e⟩ := hf; ⟨vs, e, hz.2.2 vs e⟩⟩ List.mem_cons_self hz.zc (by rfl)
          (pa_cons (pe_callH2 (X := (cxOf C8.CX0 X.prog X.w X.K X.mg X.base ["_law_ask", "_law_say_now", "_law_word_here", "_law_e"] "_law_tried" (defScope s__law_tried) g cdv X.A X.stack s H C8.E0).nox.suite a ((a, oe) :: pn)) (a := a) (oe := oe) (cls := cls) (d := d) cf (hrH a) ⟨rfl, let ⟨vs, e⟩ := hf; ⟨vs, e, hz.2.2 vs e⟩⟩ List.mem_cons_self hz.zc (by rfl) (pa_cons (pv 3) pa_nil) hk) pa_nil) hk) pe_str)
          (pe_callTy call_strK (by rfl) Z.str (by decide +kernel) (pa_cons (pe_xg hz.zc hf (pv 3)) pa_nil))))) .nil)))) (pss_one (ps_ret (pe_tup (pa_cons (pv 1) (pa_cons (pv 2) pa_nil))))))), ?_⟩
  have g0 : Gd X.K T H (hide H S) S H S (L2.start ["_law_ask", "_law_say_now", "_law_word_here", "_law_e"] [.ref f]) [.raw (.ref f), .no, .no, .no] := gd_startA l (.raw .nil)
  have g2 := (g0.set (i := 1) (d := .none) .non).set (i := 2) (d := .str "") (.str _)
  have fin : ∀ {σ : St} {H1 : Hp} {x y : PyData}, Gd X.K T H (hide H S) S H1 S σ [.raw (.ref f), .dat x, .dat y, .no] → r = .tuple [x, y] → tRet (tTup (tCons (tVar 1) (tCons (tVar 2) tNil))) { nx := fun _ H' => Q .non H', rt := Q } σ H1 := fun {σ H1 x y} g e => by
    subst e
    exact ev_tup (ds := [x, y]) (ea_cons (ev_var rfl) (ea_cons (ev_var rfl) ea_nil)) (by simp) _ _ _ _ _ _ g _ fun u H2 e2 du => hq u H2 (g.ext.trans e2) du
  refine ⟨g2.raw 0 _ rfl, hc, ?_⟩
  cases o with
  | bad => exact hb.elim
  | ok d => exact hb _ H _ (.refl T H) fun v H' e dv => fin ((g2.ex e).set (i := 1) dv) (by cases ho; rfl)
  | ex x =>
    have ho : tryD wTry (.ex x) = .ok r := ho
    unfold tryD at ho
    simp only at ho
    cases hw : wTry x with
    | none => rw [hw] at ho; cases ho
    | some z =>
      rw [hw] at ho
      cases ho
      unfold wTry at hw
      obtain ⟨c, hc1, hc2⟩ := Option.bind_eq_some_iff.mp hw
      obtain ⟨hcm, hcn⟩ := erFind_ok hc1
      refine hb _ H _ (.refl T H) fun dd H' e xd => ?_
      rw [← hcn]
      have F := Er c hcm
      -- a suite that sets the word
      have suite : ∀ {te : TE} (a : Addr), FxE X.K T a dd x.fs 3 2 none te (.str z) → ∀ {D : Ends}, te ((((L2.start ["_law_ask", "_law_say_now", "_law_word_here", "_law_e"] [.ref f]).set 1 (some .non)).set 2 (some (.str ""))).set 3 (some (.ref a))) H' (fun u H1 => tRet (tTup (tCons (tVar 1) (tCons (tVar 2) tNil))) { nx := fun _ H' => Q .non H', rt := Q } ((((((L2.start ["_law_ask", "_law_say_now", "_law_word_here", "_law_e"] [.ref f]).set 1 (some .non)).set 2 (some (.str ""))).set 3 (some (.ref a))).set 2 (some u)).set 3 none) H1) := fun {te} a fx {D} => by
        have g3 := (g2.ex e).setRaw (i := 3) (v := .ref a)
        exact fx _ _ S ⟨g3.raw 3 _ rfl, xd, g3.lsT (.refl T H'), fun y hy => (by cases hy), (by show (2 : Nat) < 4; decide), by decide⟩ _ fun u H1 e1 du => fin (((g3.ex e1).set (i := 2) du).no 3) rfl
      have exa : PySem.W.exmAny X.K (.ref (He.ga X.K c.name)) [.ref (He.ga X.K "BadText"), .ref (He.ga X.K "Broken")] = some (subE c ec_BadText || subE c ec_Broken) := by
        have q1 := (F.m _ mm_BadText).1
        have q2 := (F.m _ mm_Broken).1
        change PySem.W.exmOne X.K (.ref (He.ga X.K c.name)) (.ref (He.ga X.K "BadText")) = some (subE c ec_BadText) at q1
        change PySem.W.exmOne X.K (.ref (He.ga X.K c.name)) (.ref (He.ga X.K "Broken")) = some (subE c ec_Broken) at q2
        unfold PySem.W.exmAny PySem.W.exmAny PySem.W.exmAny
        rw [q1, q2]
        cases subE c ec_BadText <;> cases subE c ec_Broken <;> rfl
      unfold wCls at hc2
      refine ⟨subE c ec_BadText || subE c ec_Broken, exa, fun e1 a na => ?_, fun e1 => ?_⟩
      · rw [if_pos e1] at hc2
        unfold wAt at hc2
        obtain ⟨y, h1, hc2⟩ := Option.bind_eq_some_iff.mp hc2
        obtain ⟨t, h2, hc2⟩ := Option.bind_eq_some_iff.mp hc2
        obtain ⟨u, h3, hc2⟩ := Option.bind_eq_some_iff.mp hc2
        cases strP_eq hc2
        refine suite a ?_ (D := { nx := fun _ _ => True, rt := fun _ _ => True })
        refine fx_op (fx_op (fx_lst (fx_cons (fx_c fun _ => .str _) (fx_cons (fx_c fun _ => .str _) fx_nil)) (by simp)) (fx_cb (fx_cons (fx_is F.x (F.m _ mm_BadText).2) fx_nil) (r_int _ _ rfl)) (r_ix _ _ (.str (if subE c ec_BadText then "BadText " else "Broken ")) ?_)) (fx_cb (fx_cons (fx_f F.x (Fd.at_ c hcm e1) h1) fx_nil) (r_str _ _ h2)) (r_addV _ _ _ h3)
        cases subE c ec_BadText <;> rfl
      · rw [if_neg (by rw [e1]; decide)] at hc2
        refine ⟨subE c ec_LullError, (F.m _ mm_LullError).1, fun e2 a na => ?_, fun e2 => ?_⟩
        · rw [if_pos e2] at hc2
          unfold wFl at hc2
          refine suite a ?_ (D := { nx := fun _ _ => True, rt := fun _ _ => True })
          exact fx_z (fx_cons (fx_fl hcm rfl) fx_nil) (strO_eq hc2)
        · rw [if_neg (by rw [e2]; decide)] at hc2
          refine ⟨subE c ec_Missing, (F.m _ mm_Missing).1, fun e3 a na => ?_, fun e3 => ?_⟩
          · rw [if_pos e3] at hc2
            unfold wMis at hc2
            obtain ⟨s1, h1, hc2⟩ := Option.bind_eq_some_iff.mp hc2
            obtain ⟨u, h2, hc2⟩ := Option.bind_eq_some_iff.mp hc2
            obtain ⟨y, h3, hc2⟩ := Option.bind_eq_some_iff.mp hc2
            obtain ⟨t, h4, hc2⟩ := Option.bind_eq_some_iff.mp hc2
            obtain ⟨v, h5, hc2⟩ := Option.bind_eq_some_iff.mp hc2
            cases strP_eq hc2
            refine suite a ?_ (D := { nx := fun _ _ => True, rt := fun _ _ => True })
            unfold wFl at h1
            exact fx_op (fx_op (fx_z (fx_cons (fx_fl hcm rfl) fx_nil) (strO_eq h1)) (fx_c fun _ => .str _) (r_addV _ _ _ h2)) (fx_cb (fx_cons (fx_f F.x (Fd.nm c hcm e3) h3) fx_nil) (r_str _ _ h4)) (r_addV _ _ _ h5)
          · rw [if_neg (by rw [e3]; decide)] at hc2
            cases hc2
theorem pe_tried {X : Cx} {T : Tb} {y : Str} {k : Nat} {params : Arguments} {body : Expr} {scope : Scope} {t : XK → TE} {p lpos pos : Pos} (cL : CalL X.K X.mg "_law_tried" s__law_tried "_law_ask") (Z : Blt X.mg) (Fd : FdT X.K) (Er : ErrT X.K X.mg erL)
    (cf : CalH X.prog X.w X.K X.mg X.base 42 "_law_flags" ["_law_e"] (spY X.K T erL flD)) (cw : CalH X.prog X.w X.K X.mg X.base 42 "_law_word" ["_law_flags_here"] (fun _ _ _ => spZ X.K T .no fun ds => (d__law_word ds).calm)) (TL : LamTab X.K T X.mg X.base y)
    (hg : Gl X "_law_tried") (hcode : X.env.code = .ref (He.codeOf X.K (y, none))) (hq : X.env.qual = y ++ (".<locals>." : Str)) (hr : Room (k + 2) X.A) (hk : 42 ≤ k + 1) (L : LamX.LamS X.env.scope scope) (hdef : defaultsOf params X.env = ([], []))
    (hbind : ∀ (q : Str) (cl : List (Str × Addr)) (pm cv ctv : Value), bindArgs (PySem.W.kla_fn "<lambda>" q params body scope cl pm cv ctv) ⟨[], []⟩ = pure [])
    (hbody : ∀ (A : Around) (outer : List Env) (s : Shared) (H : Hp) (E : XK) (f c' : Addr), Room k (A.deeper (LamX.lamEnv X scope s.heap.objs.size f c')) → PE (lamN X A outer s H E scope f c') body (t E)) :
    PE X (.Call (.Name "_law_tried" p) [.Lambda params body scope lpos] [] pos) (LamX.tLam T (TTr X.K T wTry) t) :=
  pe_lamL (Ng := ["_law_ask", "_law_say_now", "_law_word_here", "_law_e"]) cL sc__law_tried rfl (Or.inl rfl) TL (fun g cdv => gives_tried Z Fd Er cf cw hk) hg hcode hq hr L hdef hbind hbody
theorem pe_triedK (K : PySem.W.Frag) {X : Cx} {T : Tb} {y : Str} {k : Nat} {params : Arguments} {body : Expr} {scope : Scope} {t : XK → TE} {p lpos pos : Pos} (cL : CalL X.K X.mg "_law_tried" s__law_tried "_law_ask") (Z : Blt X.mg) (Fd : FdT X.K) (Er : ErrT X.K X.mg erL)
    (cf : CalH X.prog X.w X.K X.mg X.base 42 "_law_flags" ["_law_e"] (spY X.K T erL flD)) (cw : CalH X.prog X.w X.K X.mg X.base 42 "_law_word" ["_law_flags_here"] (fun _ _ _ => spZ X.K T .no fun ds => (d__law_word ds).calm)) (TL : LamTab X.K T X.mg X.base y)
    (hg : Gl X "_law_tried") (hcode : X.env.code = .ref (He.codeOf X.K (y, none))) (hq : X.env.qual = y ++ (".<locals>." : Str)) (hr : Room (k + 2) X.A) (hk : 42 ≤ k + 1) (L : LamX.LamS X.env.scope scope) (hdef : defaultsOf params X.env = ([], []))
    (hbind : ∀ (q : Str) (cl : List (Str × Addr)) (pm cv ctv : Value), bindArgs (PySem.W.kla_fn "<lambda>" q params body scope cl pm cv ctv) ⟨[], []⟩ = pure [])
    (hbody : ∀ (A : Around) (outer : List Env) (s : Shared) (H : Hp) (E : XK) (f c' : Addr), Room k (A.deeper (LamX.lamEnv X scope s.heap.objs.size f c')) → PE (lamN X A outer s H E scope f c') body (t E)) (hK : X.K = K := by rfl) :
    PE X (.Call (.Name "_law_tried" p) [.Lambda params body scope lpos] [] pos) (LamX.tLam T (TTr K T wTry) t) := by
  subst hK
  exact pe_tried cL Z Fd Er cf cw TL hg hcode hq hr hk L hdef hbind hbody

noncomputable def b1_common : MS := (kPar (zCons (xV 1) (zCons (xOp zMod (xV 0) (xV 1)) zNil)) 0 1)
theorem b1_common_a (ρ : List Slot) : b1_common ρ = (kPar (zCons (xV 1) (zCons (xOp zMod (xV 0) (xV 1)) zNil)) 0 1) ρ := nr rfl
noncomputable def m_common : MS := (kSeq (kWhile (yV (xOp zGt (xV 1) (xC (.int 0)))) [] b1_common)
  (kRet (xV 0)))
noncomputable def d_common : List PyData → Rz PyData := fnD 2 2 m_common
theorem ok_common {P : Program} {w : World} {K : PySem.W.Frag} {T : Tb} {mg : Str → Option Value} {base : Heap} {f : Addr} {fd : FuncData} {dvs : List V} {kws : List (Str × V)} (F : FnQ K "common" s_common dvs kws f fd) (Z : Blt mg) :
    FnOk P w K mg base (L2N.CX P w) 41 f fd ["one", "other"] (spZ K T .no d_common) := by
  refine fnZ F sc_common rfl rfl (fun cdv A outer s H E hr => ?_)
  have nd := sc_common.nd
  refine ⟨_, (pss_cons (ps_while (passes_of rfl) (pt_cmpR op_gt (pv 1) pe_int (nomark _)) (pss_one (ps_par (i := 0) (j := 1) (by rfl) nd rfl rfl (by decide) rfl rfl (pa_cons (pv 1) (pa_cons (pe_op op_modN (pv 0) (pv 1)) pa_nil)) (by rfl))))
      (pss_one (ps_ret (pv 0)))), ?_⟩
  exact (sim_seq (sim_while (sim_yT (sim_op r_gt sim_V sim_int)) (sim_par (sim_cons sim_V (sim_cons (sim_op r_mod sim_V sim_V) sim_nil))))
    (sim_ret sim_V))

noncomputable def m_part : MS := (kSeq (kIf (yV (xOp zEq (xV 1) (xC (.int 0)))) (kRaise "BadPart") kNx)
  (kSeq (kIf (yV (xOp zLt (xV 1) (xC (.int 0)))) (kPar (zCons (xOp zSub (xC (.int 0)) (xV 0)) (zCons (xOp zSub (xC (.int 0)) (xV 1)) zNil)) 0 1) kNx)
  (kSeq (kAsg (xF d_common (zCons (xCB zAbs (zCons (xV 0) zNil)) (zCons (xV 1) zNil))) 2)
  (kRet (xTup (zCons (xOp zFdB (xV 0) (xV 2)) (zCons (xOp zFdB (xV 1) (xV 2)) zNil)))))))
noncomputable def d_part : List PyData → Rz PyData := fnD 2 3 m_part
theorem ok_part {P : Program} {w : World} {K : PySem.W.Frag} {T : Tb} {mg : Str → Option Value} {base : Heap} {f : Addr} {fd : FuncData} {dvs : List V} {kws : List (Str × V)} (F : FnQ K "part" s_part dvs kws f fd) (Z : Blt mg) (Se : Seer P K) (Er : ErrT K mg erL)
    (c_common : CalX P w K mg base 41 "common" ["one", "other"] [] (spZ K T .no d_common)) :
    FnOk P w K mg base (L2N.CX P w) 42 f fd ["upper", "lower"] (spZ K T .no d_part) := by
  refine fnZ F sc_part rfl rfl (fun cdv A outer s H E hr => ?_)
  have nd := sc_part.nd
  refine ⟨_, (pss_cons (ps_if (pt_cmpR (op_eqK K hr.units) (pv 1) pe_int (nomark _)) (pss_one (ps_raiseX rfl (L2N.takes_of rfl rfl rfl rfl) PySem.F.excBase_ValueError (exf_BadPart Er) (by rfl))) pss_nil)
      (pss_cons (ps_if (pt_cmpR op_lt (pv 1) pe_int (nomark _)) (pss_one (ps_par (i := 0) (j := 1) (by rfl) nd rfl rfl (by decide) rfl rfl (pa_cons (pe_op op_sub pe_int (pv 0)) (pa_cons (pe_op op_sub pe_int (pv 1)) pa_nil)) (by rfl))) pss_nil)
      (pss_cons (ps_set (i := 2) nd rfl (Or.inl rfl) (pe_callX c_common (L2N.takes_of rfl rfl rfl rfl) hr rfl (pa_cons (pe_callB call_abs (by rfl) Z.abs (by decide +kernel) (pa_cons (pv 0) pa_nil)) (pa_cons (pv 1) pa_nil))))
      (pss_one (ps_ret (pe_tup (pa_cons (pe_op (op_fdB Se hr (by decide) rfl rfl rfl rfl rfl) (pv 0) (pv 2)) (pa_cons (pe_op (op_fdB Se hr (by decide) rfl rfl rfl rfl rfl) (pv 1) (pv 2)) pa_nil)))))))), ?_⟩
  exact (sim_seq (sim_kIf (sim_yT (sim_op r_eq sim_V sim_int)) sim_raise sim_kNx)
    (sim_seq (sim_kIf (sim_yT (sim_op r_lt sim_V sim_int)) (sim_par (sim_cons (sim_op r_sub sim_int sim_V) (sim_cons (sim_op r_sub sim_int sim_V) sim_nil))) sim_kNx)
    (sim_seq (sim_asg (sim_call0 (sim_cons (sim_cb r_abs (sim_cons sim_V sim_nil)) (sim_cons sim_V sim_nil))))
    (sim_ret (sim_tup (sim_cons (sim_op r_fdB sim_V sim_V) (sim_cons (sim_op r_fdB sim_V sim_V) sim_nil)))))))

noncomputable def m_part_text : MS := (kRet (xIf (yV (xOp zEq (xOp zIx (xV 0) (xC (.int 1))) (xC (.int 1)))) (xFm (xOp zIx (xV 0) (xC (.int 0)))) (xJs [(xFm (xOp zIx (xV 0) (xC (.int 0)))), (xC (.str "/")), (xFm (xOp zIx (xV 0) (xC (.int 1))))] Str.empty)))
noncomputable def d_part_text : List PyData → Rz PyData := fnD 1 1 m_part_text
theorem ok_part_text {P : Program} {w : World} {K : PySem.W.Frag} {T : Tb} {mg : Str → Option Value} {base : Heap} {f : Addr} {fd : FuncData} {dvs : List V} {kws : List (Str × V)} (F : FnQ K "part_text" s_part_text dvs kws f fd) (Z : Blt mg) :
    FnOk P w K mg base (L2N.CX P w) 41 f fd ["one"] (spZ K T .no d_part_text) := by
  refine fnZ F sc_part_text rfl rfl (fun cdv A outer s H E hr => ?_)
  have nd := sc_part_text.nd
  refine ⟨_, (pss_one (ps_ret (pe_ifExp (pt_cmpR (op_eqK K hr.units) (pe_ix (ix_seqK K) (pv 0) pe_int (fun _ _ => rfl)) pe_int (nomark _)) (pe_joined1 (pe_fmt (pe_ix (ix_seqK K) (pv 0) pe_int (fun _ _ => rfl)))) (pe_joined (.cons (pe_fmt (pe_ix (ix_seqK K) (pv 0) pe_int (fun _ _ => rfl))) (.cons pe_str (.cons (pe_fmt (pe_ix (ix_seqK K) (pv 0) pe_int (fun _ _ => rfl))) .nil))))))), ?_⟩
  exact (sim_ret (sim_if (sim_yT (sim_op r_eq (sim_op r_ix sim_V sim_int) sim_int)) (sim_fm (sim_op r_ix sim_V sim_int)) (sim_js (.cons (sim_fm (sim_op r_ix sim_V sim_int)) (.cons sim_str (.cons (sim_fm (sim_op r_ix sim_V sim_int)) .nil))))))

noncomputable def m_number_in : MS := (kSeq (kIf (yOr (yV (xOp zEq (xV 0) (xC (.str "")))) (yOr (yNot (yV (xCB zAll (zCons (xL (fLc [1] (iTx (xV 0)) (gN 1) yYes (xOp zInS (xV 1) (xC (.str "0123456789"))))) zNil)))) (yAnd (yV (xOp zEq (xOp zIx (xV 0) (xC (.int 0))) (xC (.str "0")))) (yV (xOp zNe (xV 0) (xC (.str "0"))))))) (kRet (xC .none)) kNx)
  (kRet (xCB zIntS (zCons (xV 0) zNil))))
noncomputable def d_number_in : List PyData → Rz PyData := fnD 1 2 m_number_in
theorem ok_number_in {P : Program} {w : World} {K : PySem.W.Frag} {T : Tb} {mg : Str → Option Value} {base : Heap} {f : Addr} {fd : FuncData} {dvs : List V} {kws : List (Str × V)} (F : FnQ K "number_in" s_number_in dvs kws f fd) (Z : Blt mg) (g_FIGURES : Cst mg K "FIGURES" (.str "0123456789")) :
    FnOk P w K mg base (L2N.CX P w) 41 f fd ["text"] (spZ K T .no d_number_in) := by
  refine fnZ F sc_number_in rfl rfl (fun cdv A outer s H E hr => ?_)
  have nd := sc_number_in.nd
  obtain ⟨v_FIGURES, u_FIGURES, g_FIGURES⟩ := g_FIGURES
  refine ⟨_, (pss_cons (ps_if (PW.pt (pw_or (pt_cmpR (op_eqK K hr.units) (pv 0) pe_str (nomark _)) (pw_or (pt_not (pt_val (pe_callB (cr_allK K rfl) (by rfl) Z.all (by decide +kernel) (pa_cons (pe_lc (own := [("sign", 1)]) rfl nd (pi_str (pv 0)) (blkOk_by (own := [("sign", 1)]) (N := ["text", "sign"]) (sc := defScope s_number_in) (by decide +kernel)) (fun _ _ _ _ _ => (pg_name (i := 1) nd rfl (Or.inl rfl))) (fun _ _ _ _ _ => pts_nil) (fun _ _ _ _ _ => (pe_cmpR op_inS (pv 1) (pe_glob (by rfl) g_FIGURES.m g_FIGURES.r) (by with_unfolding_all rfl)))) pa_nil)))) (pw_or1 (PW.pt (pw_and (pt_cmpR (op_eqK K hr.units) (pe_ix (ix_seqK K) (pv 0) pe_int (fun _ _ => rfl)) pe_str (nomark _)) (pw_and1 (pt_cmpR (op_neK K hr.units) (pv 0) pe_str (nomark _))))))))) (pss_one (ps_ret pe_non)) pss_nil)
      (pss_one (ps_ret (pe_callTy call_intS (by rfl) Z.int (by decide +kernel) (pa_cons (pv 0) pa_nil))))), ?_⟩
  exact (sim_seq (sim_kIf (sim_yOr (sim_yT (sim_op r_eq sim_V sim_str)) (sim_yOr (sim_yNot (sim_yB (sim_cb r_all (sim_cons (sim_L (sim_lc (W' := fun _ _ _ _ => False) (sim_iTx sim_V) simG_N sim_yYes (sim_op r_inS sim_V (sim_cst g_FIGURES)) (by decide))) sim_nil)))) (sim_yAnd (sim_yT (sim_op r_eq (sim_op r_ix sim_V sim_int) sim_str)) (sim_yT (sim_op r_ne sim_V sim_str))))) (sim_ret sim_non) sim_kNx)
    (sim_ret (sim_cb r_intS (sim_cons sim_V sim_nil))))

noncomputable def m_part_in : MS := (kSeq (kAsg (xIf (yV (xOp zEq (xSl zSlS (xV 0) oNo (oAt (xC (.int 1)))) (xC (.str "-")))) (xSl zSlS (xV 0) (oAt (xC (.int 1))) oNo) (xV 0)) 1)
  (kSeq (kTg (xM zPart (xV 1) (zCons (xC (.str "/")) zNil)) (gT 3 (gsC (gN 2) (gsC (gN 3) (gsC (gN 4) gs0)))))
  (kSeq (kAsg (xTup (zCons (xF d_number_in (zCons (xV 2) zNil)) (zCons (xIf (yV (xOp zNe (xV 3) (xC (.str "")))) (xF d_number_in (zCons (xV 4) zNil)) (xC (.int 1))) zNil))) 5)
  (kSeq (kIf (yOr (yV (xOp zIn (xC .none) (xV 5))) (yV (xOp zEq (xOp zIx (xV 5) (xC (.int 1))) (xC (.int 0))))) (kRet (xC .none)) kNx)
  (kSeq (kAsg (xF d_part (zCons (xIf (yV (xOp zEq (xV 1) (xV 0))) (xOp zIx (xV 5) (xC (.int 0))) (xOp zSub (xC (.int 0)) (xOp zIx (xV 5) (xC (.int 0))))) (zCons (xOp zIx (xV 5) (xC (.int 1))) zNil))) 6)
  (kRet (xIf (yV (xOp zEq (xF d_part_text (zCons (xV 6) zNil)) (xV 0))) (xV 6) (xC .none))))))))
noncomputable def d_part_in : List PyData → Rz PyData := fnD 1 7 m_part_in
theorem ok_part_in {P : Program} {w : World} {K : PySem.W.Frag} {T : Tb} {mg : Str → Option Value} {base : Heap} {f : Addr} {fd : FuncData} {dvs : List V} {kws : List (Str × V)} (F : FnQ K "part_in" s_part_in dvs kws f fd) (Z : Blt mg)
    (c_part : CalX P w K mg base 42 "part" ["upper", "lower"] [] (spZ K T .no d_part))
    (c_number_in : CalX P w K mg base 41 "number_in" ["text"] [] (spZ K T .no d_number_in))
    (c_part_text : CalX P w K mg base 41 "part_text" ["one"] [] (spZ K T .no d_part_text)) :
    FnOk P w K mg base (L2N.CX P w) 43 f fd ["text"] (spZ K T .no d_part_in) := by
  refine fnZ F sc_part_in rfl rfl (fun cdv A outer s H E hr => ?_)
  have nd := sc_part_in.nd
  refine ⟨_, (pss_cons (ps_set (i := 1) nd rfl (Or.inl rfl) (pe_ifExp (pt_cmpR (op_eqK K hr.units) (pe_slice sl_str (pv 0) po_none (po_some pe_int)) pe_str (nomark _)) (pe_slice sl_str (pv 0) (po_some pe_int) po_none) (pv 0)))
      (pss_cons (ps_asg (pe_bmK K PySem.F.plainAttrs_str PySem.F.slot_str_partition PySem.F.type_str_partition mt_part (pv 1) (pa_cons pe_str pa_nil)) (pg_tupK (n := 3) K rfl (pgs_cons (pg_name (i := 2) nd rfl (Or.inl rfl)) (pgs_cons (pg_name (i := 3) nd rfl (Or.inl rfl)) (pgs_cons (pg_name (i := 4) nd rfl (Or.inl rfl)) pgs_nil)))))
      (pss_cons (ps_set (i := 5) nd rfl (Or.inl rfl) (pe_tup (pa_cons (pe_callX c_number_in (L2N.takes_of rfl rfl rfl rfl) hr rfl (pa_cons (pv 2) pa_nil)) (pa_cons (pe_ifExp (pt_cmpR (op_neK K hr.units) (pv 3) pe_str (nomark _)) (pe_callX c_number_in (L2N.takes_of rfl rfl rfl rfl) hr rfl (pa_cons (pv 4) pa_nil)) pe_int) pa_nil))))
      (pss_cons (ps_if (PW.pt (pw_or (pt_cmpR (op_inK K) pe_non (pv 5) (by with_unfolding_all rfl)) (pw_or1 (pt_cmpR (op_eqK K hr.units) (pe_ix (ix_seqK K) (pv 5) pe_int (fun _ _ => rfl)) pe_int (nomark _))))) (pss_one (ps_ret pe_non)) pss_nil)
      (pss_cons (ps_set (i := 6) nd rfl (Or.inl rfl) (pe_callX c_part (L2N.takes_of rfl rfl rfl rfl) hr rfl (pa_cons (pe_ifExp (pt_cmpR (op_eqK K hr.units) (pv 1) (pv 0) (nomark _)) (pe_ix (ix_seqK K) (pv 5) pe_int (fun _ _ => rfl)) (pe_op op_sub pe_int (pe_ix (ix_seqK K) (pv 5) pe_int (fun _ _ => rfl)))) (pa_cons (pe_ix (ix_seqK K) (pv 5) pe_int (fun _ _ => rfl)) pa_nil))))
      (pss_one (ps_ret (pe_ifExp (pt_cmpR (op_eqK K hr.units) (pe_callX c_part_text (L2N.takes_of rfl rfl rfl rfl) hr rfl (pa_cons (pv 6) pa_nil)) (pv 0) (nomark _)) (pv 6) pe_non)))))))), ?_⟩
  exact (sim_seq (sim_asg (sim_if (sim_yT (sim_op r_eq (sim_sl r_slS sim_V sim_oNo (sim_oAt sim_int)) sim_str)) (sim_sl r_slS sim_V (sim_oAt sim_int) sim_oNo) sim_V))
    (sim_seq (sim_tg (sim_m r_part sim_V (sim_cons sim_str sim_nil)) (simG_T (simG_C simG_N (simG_C simG_N (simG_C simG_N simG_0)))))
    (sim_seq (sim_asg (sim_tup (sim_cons (sim_call0 (sim_cons sim_V sim_nil)) (sim_cons (sim_if (sim_yT (sim_op r_ne sim_V sim_str)) (sim_call0 (sim_cons sim_V sim_nil)) sim_int) sim_nil))))
    (sim_seq (sim_kIf (sim_yOr (sim_yT (sim_op r_in sim_non sim_V)) (sim_yT (sim_op r_eq (sim_op r_ix sim_V sim_int) sim_int))) (sim_ret sim_non) sim_kNx)
    (sim_seq (sim_asg (sim_call0 (sim_cons (sim_if (sim_yT (sim_op r_eq sim_V sim_V)) (sim_op r_ix sim_V sim_int) (sim_op r_sub sim_int (sim_op r_ix sim_V sim_int))) (sim_cons (sim_op r_ix sim_V sim_int) sim_nil))))
    (sim_ret (sim_if (sim_yT (sim_op r_eq (sim_call0 (sim_cons sim_V sim_nil)) sim_V)) sim_V sim_non)))))))

noncomputable def m_part_of : MS := (kSeq (kAsg (xF d_part_in (zCons (xV 0) zNil)) 1)
  (kSeq (kIf (yV (xOp zIsN (xV 1) (xC .none))) (kRaiseI "BadText" "at" (zCons (xC (.int 0)) zNil)) kNx)
  (kRet (xV 1))))
noncomputable def d_part_of : List PyData → Rz PyData := fnD 1 2 m_part_of
theorem ok_part_of {P : Program} {w : World} {K : PySem.W.Frag} {T : Tb} {mg : Str → Option Value} {base : Heap} {f : Addr} {fd : FuncData} {dvs : List V} {kws : List (Str × V)} (F : FnQ K "part_of" s_part_of dvs kws f fd) (Z : Blt mg) (Er : ErrT K mg erL) (xi_BadText : ExI P w K mg base 1 "BadText" "at")
    (c_part_in : CalX P w K mg base 43 "part_in" ["text"] [] (spZ K T .no d_part_in)) :
    FnOk P w K mg base (L2N.CX P w) 44 f fd ["text"] (spZ K T .no d_part_of) := by
  refine fnZ F sc_part_of rfl rfl (fun cdv A outer s H E hr => ?_)
  have nd := sc_part_of.nd
  refine ⟨_, (pss_cons (ps_set (i := 1) nd rfl (Or.inl rfl) (pe_callX c_part_in (L2N.takes_of rfl rfl rfl rfl) hr rfl (pa_cons (pv 0) pa_nil)))
      (pss_cons (ps_if (pt_cmpR op_isN (pv 1) pe_non (nomark _)) (pss_one (ps_raiseI rfl (L2N.takes_of rfl rfl rfl rfl) xi_BadText hr (by rfl) (pa_cons pe_int pa_nil))) pss_nil)
      (pss_one (ps_ret (pv 1))))), ?_⟩
  exact (sim_seq (sim_asg (sim_call0 (sim_cons sim_V sim_nil)))
    (sim_seq (sim_kIf (sim_yT (sim_op r_isN sim_V sim_non)) (sim_raiseI xi_BadText (sim_cons sim_int sim_nil)) sim_kNx)
    (sim_ret sim_V)))

noncomputable def b1__law_part : MS := (kPar (zCons (xV 3) (zCons (xOp zMod (xV 2) (xV 3)) zNil)) 2 3)
theorem b1__law_part_a (ρ : List Slot) : b1__law_part ρ = (kPar (zCons (xV 3) (zCons (xOp zMod (xV 2) (xV 3)) zNil)) 2 3) ρ := nr rfl
noncomputable def m__law_part : MS := (kSeq (kPar (zCons (xCB zAbs (zCons (xV 0) zNil)) (zCons (xCB zAbs (zCons (xV 1) zNil)) zNil)) 2 3)
  (kSeq (kWhile (yV (xOp zGt (xV 3) (xC (.int 0)))) [] b1__law_part)
  (kSeq (kAsg (xIf (yV (xOp zGt (xV 1) (xC (.int 0)))) (xV 2) (xOp zSub (xC (.int 0)) (xV 2))) 4)
  (kRet (xTup (zCons (xOp zFdB (xV 0) (xV 4)) (zCons (xOp zFdB (xV 1) (xV 4)) zNil)))))))
noncomputable def d__law_part : List PyData → Rz PyData := fnD 2 5 m__law_part
theorem ok__law_part {P : Program} {w : World} {K : PySem.W.Frag} {T : Tb} {mg : Str → Option Value} {base : Heap} {f : Addr} {fd : FuncData} {dvs : List V} {kws : List (Str × V)} (F : FnQ K "_law_part" s__law_part dvs kws f fd) (Z : Blt mg) (Se : Seer P K) :
    FnOk P w K mg base (L2N.CX P w) 41 f fd ["_law_up", "_law_down"] (spZ K T .no d__law_part) := by
  refine fnZ F sc__law_part rfl rfl (fun cdv A outer s H E hr => ?_)
  have nd := sc__law_part.nd
  refine ⟨_, (pss_cons (ps_par (i := 2) (j := 3) (by rfl) nd rfl rfl (by decide) rfl rfl (pa_cons (pe_callB call_abs (by rfl) Z.abs (by decide +kernel) (pa_cons (pv 0) pa_nil)) (pa_cons (pe_callB call_abs (by rfl) Z.abs (by decide +kernel) (pa_cons (pv 1) pa_nil)) pa_nil)) (by rfl))
      (pss_cons (ps_while (passes_of rfl) (pt_cmpR op_gt (pv 3) pe_int (nomark _)) (pss_one (ps_par (i := 2) (j := 3) (by rfl) nd rfl rfl (by decide) rfl rfl (pa_cons (pv 3) (pa_cons (pe_op op_modN (pv 2) (pv 3)) pa_nil)) (by rfl))))
      (pss_cons (ps_set (i := 4) nd rfl (Or.inl rfl) (pe_ifExp (pt_cmpR op_gt (pv 1) pe_int (nomark _)) (pv 2) (pe_op op_sub pe_int (pv 2))))
      (pss_one (ps_ret (pe_tup (pa_cons (pe_op (op_fdB Se hr (by decide) rfl rfl rfl rfl rfl) (pv 0) (pv 4)) (pa_cons (pe_op (op_fdB Se hr (by decide) rfl rfl rfl rfl rfl) (pv 1) (pv 4)) pa_nil)))))))), ?_⟩
  exact (sim_seq (sim_par (sim_cons (sim_cb r_abs (sim_cons sim_V sim_nil)) (sim_cons (sim_cb r_abs (sim_cons sim_V sim_nil)) sim_nil)))
    (sim_seq (sim_while (sim_yT (sim_op r_gt sim_V sim_int)) (sim_par (sim_cons sim_V (sim_cons (sim_op r_mod sim_V sim_V) sim_nil))))
    (sim_seq (sim_asg (sim_if (sim_yT (sim_op r_gt sim_V sim_int)) sim_V (sim_op r_sub sim_int sim_V)))
    (sim_ret (sim_tup (sim_cons (sim_op r_fdB sim_V sim_V) (sim_cons (sim_op r_fdB sim_V sim_V) sim_nil)))))))

noncomputable def m__law_any_part : MS := (kSeq (kAsg (xOp zAddV (xOp zIx (xL (fLst (zCons (xC (.int 0)) (zCons (xC (.int 1)) (zCons (xOp zSub (xC (.int 0)) (xC (.int 1))) (zCons (xC (.int 2)) (zCons (xOp zSub (xC (.int 0)) (xC (.int 3))) (zCons (xC (.int 7)) (zCons (xC (.int 12)) (zCons (xOp zSub (xC (.int 0)) (xC (.int 60))) (zCons (xC (.int 99)) (zCons (xOp zSub (xC (.int 0)) (xC (.int 100))) zNil)))))))))))) (xOp zMod (xOp zIx (xV 0) (xC (.int 0))) (xC (.int 10)))) (xOp zMulV (xOp zMod (xOp zIx (xV 0) (xC (.int 1))) (xC (.int 5))) (xOp zMod (xOp zFd (xOp zIx (xV 0) (xC (.int 0))) (xC (.int 10))) (xC (.int 2))))) 1)
  (kRet (xF d__law_part (zCons (xOp zMulV (xV 1) (xOp zAddV (xC (.int 1)) (xOp zMulV (xOp zFd (xOp zMod (xOp zIx (xV 0) (xC (.int 2))) (xC (.int 3))) (xC (.int 2))) (xOp zAddV (xOp zPow (xC (.int 10)) (xC (.int 9))) (xOp zIx (xV 0) (xC (.int 3))))))) (zCons (xOp zIx (xL (fLst (zCons (xC (.int 1)) (zCons (xC (.int 1)) (zCons (xC (.int 2)) (zCons (xC (.int 3)) (zCons (xC (.int 4)) (zCons (xC (.int 12)) (zCons (xC (.int 60)) (zCons (xOp zAddV (xC (.int 1000)) (xOp zIx (xV 0) (xC (.int 3)))) zNil)))))))))) (xOp zMod (xOp zFd (xOp zIx (xV 0) (xC (.int 2))) (xC (.int 3))) (xC (.int 8)))) zNil)))))
noncomputable def d__law_any_part : List PyData → Rz PyData := fnD 1 2 m__law_any_part
theorem ok__law_any_part {P : Program} {w : World} {K : PySem.W.Frag} {T : Tb} {mg : Str → Option Value} {base : Heap} {f : Addr} {fd : FuncData} {dvs : List V} {kws : List (Str × V)} (F : FnQ K "_law_any_part" s__law_any_part dvs kws f fd) (Z : Blt mg)
    (c__law_part : CalX P w K mg base 41 "_law_part" ["_law_up", "_law_down"] [] (spZ K T .no d__law_part)) :
    FnOk P w K mg base (L2N.CX P w) 42 f fd ["_law_d"] (spZ K T .no d__law_any_part) := by
  refine fnZ F sc__law_any_part rfl rfl (fun cdv A outer s H E hr => ?_)
  have nd := sc__law_any_part.nd
  refine ⟨_, (pss_cons (ps_set (i := 1) nd rfl (Or.inl rfl) (pe_op (op_addK K) (pe_ix (ix_seqK K) (pe_lst (pa_cons pe_int (pa_cons pe_int (pa_cons (pe_op op_sub pe_int pe_int) (pa_cons pe_int (pa_cons (pe_op op_sub pe_int pe_int) (pa_cons pe_int (pa_cons pe_int (pa_cons (pe_op op_sub pe_int pe_int) (pa_cons pe_int (pa_cons (pe_op op_sub pe_int pe_int) pa_nil))))))))))) (pe_op op_modN (pe_ix (ix_seqK K) (pv 0) pe_int (fun _ _ => rfl)) pe_int) (fun _ _ => rfl)) (pe_op op_mulA (pe_op op_modN (pe_ix (ix_seqK K) (pv 0) pe_int (fun _ _ => rfl)) pe_int) (pe_op op_modN (pe_op op_fdX (pe_ix (ix_seqK K) (pv 0) pe_int (fun _ _ => rfl)) pe_int) pe_int))))
      (pss_one (ps_ret (pe_callX c__law_part (L2N.takes_of rfl rfl rfl rfl) hr rfl (pa_cons (pe_op op_mulA (pv 1) (pe_op (op_addK K) pe_int (pe_op op_mulA (pe_op op_fdX (pe_op op_modN (pe_ix (ix_seqK K) (pv 0) pe_int (fun _ _ => rfl)) pe_int) pe_int) (pe_op (op_addK K) (pe_op op_pow pe_int pe_int) (pe_ix (ix_seqK K) (pv 0) pe_int (fun _ _ => rfl)))))) (pa_cons (pe_ix (ix_seqK K) (pe_lst (pa_cons pe_int (pa_cons pe_int (pa_cons pe_int (pa_cons pe_int (pa_cons pe_int (pa_cons pe_int (pa_cons pe_int (pa_cons (pe_op (op_addK K) pe_int (pe_ix (ix_seqK K) (pv 0) pe_int (fun _ _ => rfl))) pa_nil))))))))) (pe_op op_modN (pe_op op_fdX (pe_ix (ix_seqK K) (pv 0) pe_int (fun _ _ => rfl)) pe_int) pe_int) (fun _ _ => rfl)) pa_nil)))))), ?_⟩
  exact (sim_seq (sim_asg (sim_op r_addV (sim_op r_ix (sim_L (sim_lstF (sim_cons sim_int (sim_cons sim_int (sim_cons (sim_op r_sub sim_int sim_int) (sim_cons sim_int (sim_cons (sim_op r_sub sim_int sim_int) (sim_cons sim_int (sim_cons sim_int (sim_cons (sim_op r_sub sim_int sim_int) (sim_cons sim_int (sim_cons (sim_op r_sub sim_int sim_int) sim_nil)))))))))))) (sim_op r_mod (sim_op r_ix sim_V sim_int) sim_int)) (sim_op r_mulV (sim_op r_mod (sim_op r_ix sim_V sim_int) sim_int) (sim_op r_mod (sim_op r_fd (sim_op r_ix sim_V sim_int) sim_int) sim_int))))
    (sim_ret (sim_call0 (sim_cons (sim_op r_mulV sim_V (sim_op r_addV sim_int (sim_op r_mulV (sim_op r_fd (sim_op r_mod (sim_op r_ix sim_V sim_int) sim_int) sim_int) (sim_op r_addV (sim_op r_pow sim_int sim_int) (sim_op r_ix sim_V sim_int))))) (sim_cons (sim_op r_ix (sim_L (sim_lstF (sim_cons sim_int (sim_cons sim_int (sim_cons sim_int (sim_cons sim_int (sim_cons sim_int (sim_cons sim_int (sim_cons sim_int (sim_cons (sim_op r_addV sim_int (sim_op r_ix sim_V sim_int)) sim_nil)))))))))) (sim_op r_mod (sim_op r_fd (sim_op r_ix sim_V sim_int) sim_int) sim_int)) sim_nil)))))

noncomputable def m__law_plain : MS := (kRet (xAnd (xOp zNe (xV 0) (xC (.str ""))) (xAnd (xCB zAll (zCons (xL (fLc [1] (iTx (xV 0)) (gN 1) yYes (xOp zInS (xV 1) (xC (.str "0123456789"))))) zNil)) (xOr (xOp zEq (xV 0) (xC (.str "0"))) (xOp zNe (xOp zIx (xV 0) (xC (.int 0))) (xC (.str "0")))))))
noncomputable def d__law_plain : List PyData → Rz PyData := fnD 1 2 m__law_plain
theorem ok__law_plain {P : Program} {w : World} {K : PySem.W.Frag} {T : Tb} {mg : Str → Option Value} {base : Heap} {f : Addr} {fd : FuncData} {dvs : List V} {kws : List (Str × V)} (F : FnQ K "_law_plain" s__law_plain dvs kws f fd) (Z : Blt mg) :
    FnOk P w K mg base (L2N.CX P w) 41 f fd ["_law_text"] (spZ K T .no d__law_plain) := by
  refine fnZ F sc__law_plain rfl rfl (fun cdv A outer s H E hr => ?_)
  have nd := sc__law_plain.nd
  refine ⟨_, (pss_one (ps_ret (pe_and (pe_cmpR (op_neK K hr.units) (pv 0) pe_str (nomark _)) (pe_and (pe_callB (cr_allK K rfl) (by rfl) Z.all (by decide +kernel) (pa_cons (pe_lc (own := [("_law_sign", 1)]) rfl nd (pi_str (pv 0)) (blkOk_by (own := [("_law_sign", 1)]) (N := ["_law_text", "_law_sign"]) (sc := defScope s__law_plain) (by decide +kernel)) (fun _ _ _ _ _ => (pg_name (i := 1) nd rfl (Or.inl rfl))) (fun _ _ _ _ _ => pts_nil) (fun _ _ _ _ _ => (pe_cmpR op_inS (pv 1) pe_str (by with_unfolding_all rfl)))) pa_nil)) (pe_one (pe_or (pe_cmpR (op_eqK K hr.units) (pv 0) pe_str (nomark _)) (pe_one (pe_cmpR (op_neK K hr.units) (pe_ix (ix_seqK K) (pv 0) pe_int (fun _ _ => rfl)) pe_str (nomark _))))))))), ?_⟩
  exact (sim_ret (sim_and (sim_op r_ne sim_V sim_str) (sim_and (sim_cb r_all (sim_cons (sim_L (sim_lc (W' := fun _ _ _ _ => False) (sim_iTx sim_V) simG_N sim_yYes (sim_op r_inS sim_V sim_str) (by decide))) sim_nil)) (sim_or (sim_op r_eq sim_V sim_str) (sim_op r_ne (sim_op r_ix sim_V sim_int) sim_str)))))

noncomputable def m__law_read : MS := (kSeq (kAsg (xIf (yV (xOp zEq (xSl zSlS (xV 0) oNo (oAt (xC (.int 1)))) (xC (.str "-")))) (xSl zSlS (xV 0) (oAt (xC (.int 1))) oNo) (xV 0)) 1)
  (kSeq (kAsg (xM zSpl (xV 1) (zCons (xC (.str "/")) zNil)) 2)
  (kSeq (kIf (yOr (yV (xOp zGt (xCB zLen (zCons (xV 2) zNil)) (xC (.int 2)))) (yNot (yV (xCB zAll (zCons (xL (fLc [6] (iS (xV 2)) (gN 6) yYes (xFc d__law_plain (zCons (xV 6) zNil)))) zNil))))) (kRet (xC .none)) kNx)
  (kSeq (kPar (zCons (xCB zIntS (zCons (xOp zIx (xV 2) (xC (.int 0))) zNil)) (zCons (xIf (yV (xOp zEq (xCB zLen (zCons (xV 2) zNil)) (xC (.int 2)))) (xCB zIntS (zCons (xOp zIx (xV 2) (xC (.int 1))) zNil)) (xC (.int 1))) zNil)) 3 4)
  (kSeq (kIf (yOr (yV (xOp zEq (xV 4) (xC (.int 0)))) (yOr (yAnd (yV (xOp zEq (xCB zLen (zCons (xV 2) zNil)) (xC (.int 2)))) (yV (xOp zEq (xV 4) (xC (.int 1))))) (yAnd (yV (xOp zNe (xV 1) (xV 0))) (yV (xOp zEq (xV 3) (xC (.int 0))))))) (kRet (xC .none)) kNx)
  (kSeq (kAsg (xF d__law_part (zCons (xV 3) (zCons (xV 4) zNil))) 5)
  (kRet (xIf (yV (xOp zEq (xV 5) (xTup (zCons (xV 3) (zCons (xV 4) zNil))))) (xTup (zCons (xIf (yV (xOp zEq (xV 1) (xV 0))) (xV 3) (xOp zSub (xC (.int 0)) (xV 3))) (zCons (xV 4) zNil))) (xC .none)))))))))
noncomputable def d__law_read : List PyData → Rz PyData := fnD 1 7 m__law_read
theorem ok__law_read {P : Program} {w : World} {K : PySem.W.Frag} {T : Tb} {mg : Str → Option Value} {base : Heap} {f : Addr} {fd : FuncData} {dvs : List V} {kws : List (Str × V)} (F : FnQ K "_law_read" s__law_read dvs kws f fd) (Z : Blt mg)
    (c__law_part : CalX P w K mg base 41 "_law_part" ["_law_up", "_law_down"] [] (spZ K T .no d__law_part))
    (c__law_plain : CalX P w K mg base 41 "_law_plain" ["_law_text"] [] (spZ K T .no d__law_plain)) :
    FnOk P w K mg base (L2N.CX P w) 42 f fd ["_law_text"] (spZ K T .no d__law_read) := by
  refine fnZ F sc__law_read rfl rfl (fun cdv A outer s H E hr => ?_)
  have nd := sc__law_read.nd
  refine ⟨_, (pss_cons (ps_set (i := 1) nd rfl (Or.inl rfl) (pe_ifExp (pt_cmpR (op_eqK K hr.units) (pe_slice sl_str (pv 0) po_none (po_some pe_int)) pe_str (nomark _)) (pe_slice sl_str (pv 0) (po_some pe_int) po_none) (pv 0)))
      (pss_cons (ps_set (i := 2) nd rfl (Or.inl rfl) (pe_bmK K PySem.F.plainAttrs_str PySem.F.slot_str_split PySem.F.type_str_split mt_spl (pv 1) (pa_cons pe_str pa_nil)))
      (pss_cons (ps_if (PW.pt (pw_or (pt_cmpR op_gt (pe_callB (call_lenK K) (by rfl) Z.len PySem.boot_len (pa_cons (pv 2) pa_nil)) pe_int (nomark _)) (pw_or1 (pt_not (pt_val (pe_callB (cr_allK K rfl) (by rfl) Z.all (by decide +kernel) (pa_cons (pe_lc (own := [("_law_word_here", 6)]) rfl nd (pi_seqK K (pv 2)) (blkOk_by (own := [("_law_word_here", 6)]) (N := ["_law_text", "_law_body", "_law_some", "_law_up", "_law_down", "_law_found", "_law_word_here"]) (sc := defScope s__law_read) (by decide +kernel)) (fun _ _ _ _ _ => (pg_name (i := 6) nd rfl (Or.inl rfl))) (fun _ _ _ _ _ => pts_nil) (fun _ _ _ _ _ => (pe_callC c__law_plain.calmZ hr rfl (pa_cons (pv 6) pa_nil)))) pa_nil))))))) (pss_one (ps_ret pe_non)) pss_nil)
      (pss_cons (ps_par (i := 3) (j := 4) (by rfl) nd rfl rfl (by decide) rfl rfl (pa_cons (pe_callTy call_intS (by rfl) Z.int (by decide +kernel) (pa_cons (pe_ix (ix_seqK K) (pv 2) pe_int (fun _ _ => rfl)) pa_nil)) (pa_cons (pe_ifExp (pt_cmpR (op_eqK K hr.units) (pe_callB (call_lenK K) (by rfl) Z.len PySem.boot_len (pa_cons (pv 2) pa_nil)) pe_int (nomark _)) (pe_callTy call_intS (by rfl) Z.int (by decide +kernel) (pa_cons (pe_ix (ix_seqK K) (pv 2) pe_int (fun _ _ => rfl)) pa_nil)) pe_int) pa_nil)) (by rfl))
      (pss_cons (ps_if (PW.pt (pw_or (pt_cmpR (op_eqK K hr.units) (pv 4) pe_int (nomark _)) (pw_or (PW.pt (pw_and (pt_cmpR (op_eqK K hr.units) (pe_callB (call_lenK K) (by rfl) Z.len PySem.boot_len (pa_cons (pv 2) pa_nil)) pe_int (nomark _)) (pw_and1 (pt_cmpR (op_eqK K hr.units) (pv 4) pe_int (nomark _))))) (pw_or1 (PW.pt (pw_and (pt_cmpR (op_neK K hr.units) (pv 1) (pv 0) (nomark _)) (pw_and1 (pt_cmpR (op_eqK K hr.units) (pv 3) pe_int (nomark _))))))))) (pss_one (ps_ret pe_non)) pss_nil)
      (pss_cons (ps_set (i := 5) nd rfl (Or.inl rfl) (pe_callX c__law_part (L2N.takes_of rfl rfl rfl rfl) hr rfl (pa_cons (pv 3) (pa_cons (pv 4) pa_nil))))
      (pss_one (ps_ret (pe_ifExp (pt_cmpR (op_eqK K hr.units) (pv 5) (pe_tup (pa_cons (pv 3) (pa_cons (pv 4) pa_nil))) (nomark _)) (pe_tup (pa_cons (pe_ifExp (pt_cmpR (op_eqK K hr.units) (pv 1) (pv 0) (nomark _)) (pv 3) (pe_op op_sub pe_int (pv 3))) (pa_cons (pv 4) pa_nil))) pe_non))))))))), ?_⟩
  exact (sim_seq (sim_asg (sim_if (sim_yT (sim_op r_eq (sim_sl r_slS sim_V sim_oNo (sim_oAt sim_int)) sim_str)) (sim_sl r_slS sim_V (sim_oAt sim_int) sim_oNo) sim_V))
    (sim_seq (sim_asg (sim_m r_spl sim_V (sim_cons sim_str sim_nil)))
    (sim_seq (sim_kIf (sim_yOr (sim_yT (sim_op r_gt (sim_cb r_len (sim_cons sim_V sim_nil)) sim_int)) (sim_yNot (sim_yB (sim_cb r_all (sim_cons (sim_L (sim_lc (W' := fun _ _ _ _ => False) (sim_iS sim_V) simG_N sim_yYes (sim_callC0 (sim_cons sim_V sim_nil)) (by decide))) sim_nil))))) (sim_ret sim_non) sim_kNx)
    (sim_seq (sim_par (sim_cons (sim_cb r_intS (sim_cons (sim_op r_ix sim_V sim_int) sim_nil)) (sim_cons (sim_if (sim_yT (sim_op r_eq (sim_cb r_len (sim_cons sim_V sim_nil)) sim_int)) (sim_cb r_intS (sim_cons (sim_op r_ix sim_V sim_int) sim_nil)) sim_int) sim_nil)))
    (sim_seq (sim_kIf (sim_yOr (sim_yT (sim_op r_eq sim_V sim_int)) (sim_yOr (sim_yAnd (sim_yT (sim_op r_eq (sim_cb r_len (sim_cons sim_V sim_nil)) sim_int)) (sim_yT (sim_op r_eq sim_V sim_int))) (sim_yAnd (sim_yT (sim_op r_ne sim_V sim_V)) (sim_yT (sim_op r_eq sim_V sim_int))))) (sim_ret sim_non) sim_kNx)
    (sim_seq (sim_asg (sim_call0 (sim_cons sim_V (sim_cons sim_V sim_nil))))
    (sim_ret (sim_if (sim_yT (sim_op r_eq sim_V (sim_tup (sim_cons sim_V (sim_cons sim_V sim_nil))))) (sim_tup (sim_cons (sim_if (sim_yT (sim_op r_eq sim_V sim_V)) sim_V (sim_op r_sub sim_int sim_V)) (sim_cons sim_V sim_nil))) sim_non))))))))

noncomputable def b1_law : MS := (kSeq (kAsg (xOp zMod (xOp zIx (xV 3) (xOp zAddV (xC (.int 6)) (xOp zMulV (xC (.int 2)) (xV 6)))) (xOp zAddV (xCB zLen (zCons (xV 5) zNil)) (xC (.int 1)))) 7)
  (kSeq (kAsg (xOp zIx (xC (.str "0123/-+ .a")) (xOp zMod (xOp zIx (xV 3) (xOp zAddV (xC (.int 7)) (xOp zMulV (xC (.int 2)) (xV 6)))) (xC (.int 10)))) 8)
  (kAsg (xOp zAddV (xOp zAddV (xSl zSlS (xV 5) oNo (oAt (xV 7))) (xOp zIx (xL (fLst (zCons (xV 8) (zCons (xC (.str "")) (zCons (xV 8) zNil))))) (xOp zMod (xOp zIx (xV 3) (xC (.int 10))) (xC (.int 3))))) (xSl zSlS (xV 5) (oAt (xOp zAddV (xV 7) (xCB zInt (zCons (xOp zGt (xOp zMod (xOp zIx (xV 3) (xC (.int 10))) (xC (.int 3))) (xC (.int 0))) zNil)))) oNo)) 5)))
theorem b1_law_a (ρ : List Slot) : b1_law ρ = (kSeq (kAsg (xOp zMod (xOp zIx (xV 3) (xOp zAddV (xC (.int 6)) (xOp zMulV (xC (.int 2)) (xV 6)))) (xOp zAddV (xCB zLen (zCons (xV 5) zNil)) (xC (.int 1)))) 7)
  (kSeq (kAsg (xOp zIx (xC (.str "0123/-+ .a")) (xOp zMod (xOp zIx (xV 3) (xOp zAddV (xC (.int 7)) (xOp zMulV (xC (.int 2)) (xV 6)))) (xC (.int 10)))) 8)
  (kAsg (xOp zAddV (xOp zAddV (xSl zSlS (xV 5) oNo (oAt (xV 7))) (xOp zIx (xL (fLst (zCons (xV 8) (zCons (xC (.str "")) (zCons (xV 8) zNil))))) (xOp zMod (xOp zIx (xV 3) (xC (.int 10))) (xC (.int 3))))) (xSl zSlS (xV 5) (oAt (xOp zAddV (xV 7) (xCB zInt (zCons (xOp zGt (xOp zMod (xOp zIx (xV 3) (xC (.int 10))) (xC (.int 3))) (xC (.int 0))) zNil)))) oNo)) 5))) ρ := nr rfl
noncomputable def b2_law : MS := (kSeq (kAsg (xSl zSlV (xV 1) (oAt (xOp zMulV (xC (.int 12)) (xV 2))) (oAt (xOp zAddV (xOp zMulV (xC (.int 12)) (xV 2)) (xC (.int 12))))) 3)
  (kSeq (kAsg (xFc d__law_any_part (zCons (xV 3) zNil)) 4)
  (kSeq (kAsg (xOp zAddV (xCB zStr (zCons (xOp zIx (xV 4) (xC (.int 0))) zNil)) (xOp zMulS (xOp zAddV (xC (.str "/")) (xCB zStr (zCons (xOp zIx (xV 4) (xC (.int 1))) zNil))) (xCB zInt (zCons (xOp zNe (xOp zIx (xV 4) (xC (.int 1))) (xC (.int 1))) zNil)))) 5)
  (kSeq (kIf (yNot (yV (xF (dRel Rsame8) (zCons (xL (fLst (zCons (xFc d_part_text (zCons (xV 4) zNil)) (zCons (xFc d_part_of (zCons (xV 5) zNil)) zNil)))) (zCons (xL (fLst (zCons (xV 5) (zCons (xV 4) zNil)))) zNil))))) (kRet (xC (.bool false))) kNx)
  (kSeq (kIf (yV (xOp zEq (xOp zMod (xOp zIx (xV 3) (xC (.int 4))) (xC (.int 7))) (xC (.int 6)))) (kAsg (xOp zAddV (xOp zAddV (xCB zStr (zCons (xOp zMulV (xOp zIx (xV 4) (xC (.int 0))) (xC (.int 3))) zNil)) (xC (.str "/"))) (xCB zStr (zCons (xOp zMulV (xOp zIx (xV 4) (xC (.int 1))) (xC (.int 3))) zNil))) 5) kNx)
  (kSeq (kFor (iA rng1 (zCons (xOp zMod (xOp zIx (xV 3) (xC (.int 5))) (xC (.int 3))) zNil)) (gN 6) [6, 7, 8] b1_law)
  (kSeq (kAsg (xFc d__law_read (zCons (xV 5) zNil)) 9)
  (kIf (yNot (yV (xF (dRel Rsame8) (zCons (xTry wTry (xF d_part_of (zCons (xV 5) zNil))) (zCons (xTup (zCons (xV 9) (zCons (xIf (yV (xOp zNotN (xV 9) (xC .none))) (xC (.str "")) (xC (.str "BadText 0"))) zNil))) zNil))))) (kRet (xC (.bool false))) kNx))))))))
theorem b2_law_a (ρ : List Slot) : b2_law ρ = (kSeq (kAsg (xSl zSlV (xV 1) (oAt (xOp zMulV (xC (.int 12)) (xV 2))) (oAt (xOp zAddV (xOp zMulV (xC (.int 12)) (xV 2)) (xC (.int 12))))) 3)
  (kSeq (kAsg (xFc d__law_any_part (zCons (xV 3) zNil)) 4)
  (kSeq (kAsg (xOp zAddV (xCB zStr (zCons (xOp zIx (xV 4) (xC (.int 0))) zNil)) (xOp zMulS (xOp zAddV (xC (.str "/")) (xCB zStr (zCons (xOp zIx (xV 4) (xC (.int 1))) zNil))) (xCB zInt (zCons (xOp zNe (xOp zIx (xV 4) (xC (.int 1))) (xC (.int 1))) zNil)))) 5)
  (kSeq (kIf (yNot (yV (xF (dRel Rsame8) (zCons (xL (fLst (zCons (xFc d_part_text (zCons (xV 4) zNil)) (zCons (xFc d_part_of (zCons (xV 5) zNil)) zNil)))) (zCons (xL (fLst (zCons (xV 5) (zCons (xV 4) zNil)))) zNil))))) (kRet (xC (.bool false))) kNx)
  (kSeq (kIf (yV (xOp zEq (xOp zMod (xOp zIx (xV 3) (xC (.int 4))) (xC (.int 7))) (xC (.int 6)))) (kAsg (xOp zAddV (xOp zAddV (xCB zStr (zCons (xOp zMulV (xOp zIx (xV 4) (xC (.int 0))) (xC (.int 3))) zNil)) (xC (.str "/"))) (xCB zStr (zCons (xOp zMulV (xOp zIx (xV 4) (xC (.int 1))) (xC (.int 3))) zNil))) 5) kNx)
  (kSeq (kFor (iA rng1 (zCons (xOp zMod (xOp zIx (xV 3) (xC (.int 5))) (xC (.int 3))) zNil)) (gN 6) [6, 7, 8] b1_law)
  (kSeq (kAsg (xFc d__law_read (zCons (xV 5) zNil)) 9)
  (kIf (yNot (yV (xF (dRel Rsame8) (zCons (xTry wTry (xF d_part_of (zCons (xV 5) zNil))) (zCons (xTup (zCons (xV 9) (zCons (xIf (yV (xOp zNotN (xV 9) (xC .none))) (xC (.str "")) (xC (.str "BadText 0"))) zNil))) zNil))))) (kRet (xC (.bool false))) kNx)))))))) ρ := nr rfl
noncomputable def m_law : MS := (kSeq (kFor (iA rng1 (zCons (xC (.int 6)) zNil)) (gN 2) [2, 3, 4, 5, 6, 7, 8, 9] b2_law)
  (kSeq (kAsg (xL (fLst (zCons (xC (.str "")) (zCons (xC (.str "-")) (zCons (xC (.str "-0")) (zCons (xC (.str "0/2")) (zCons (xC (.str "1/")) (zCons (xC (.str "/2")) (zCons (xC (.str "2/4")) (zCons (xC (.str "3/1")) (zCons (xC (.str "1/0")) (zCons (xC (.str "--1")) (zCons (xC (.str "1/-2")) (zCons (xC (.str "01")) (zCons (xC (.str "1/02")) (zCons (xC (.str " 1")) (zCons (xC (.str "1/2/3")) (zCons (xC (.str "+1")) zNil)))))))))))))))))) 10)
  (kRet (xCB zAll (zCons (xL (fLc [11] (iS (xV 10)) (gN 11) yYes (xF (dRel Rsame8) (zCons (xTry wTry (xF d_part_of (zCons (xV 11) zNil))) (zCons (xTup (zCons (xC .none) (zCons (xC (.str "BadText 0")) zNil))) zNil))))) zNil)))))
theorem z_common_loop : ∀ (n : Nat) (a b : Int), 0 ≤ a → 0 ≤ b → b.toNat ≤ n → kWhile (yV (xOp zGt (xV 1) (xC (.int 0)))) [] b1_common [.dat (.int a), .dat (.int b)] = .nx [.dat (.int (Int.gcd a b)), .dat (.int 0)]
  | n, a, b, ha, hb, hn => by
    by_cases h0 : b = 0
    · subst h0
      rw [kWhile_stop (by simp only [zR0, zR1, zR2, zR3, zR4, zR5, zR6, zR7, zR8, zR9, zR10, zR11, zR12, slotsM, kFor_a, Rz.bind_ok, Rz.of_some, Rz.calm_ok, Option.bind_some, Option.bind_none, slots, sel, Arg.get, List.filterMap_cons, List.filterMap_nil, List.length_cons, List.length_nil, List.map_cons, List.map_nil, List.cons_append, List.nil_append, List.append_nil, List.getElem?_cons_succ, List.getElem?_cons_zero, List.getElem?_nil, List.set_cons_zero, List.set_cons_succ, List.set_nil, List.replicate_succ, List.replicate_zero, if_true, Nat.sub_self, Nat.reduceAdd, Nat.reduceSub, Nat.reduceLeDiff, Nat.reduceEqDiff, Nat.reduceLT, Int.reduceLT, Int.reduceLE, Int.reduceNeg, Int.reduceEq, Nat.zero_add, and_self, if_false, Bool.not_true, Bool.not_false, Bool.false_eq_true, Nat.zero_le, decide_true, decide_false, reduceCtorEq])]
      rw [Int.gcd_zero_right, Int.natAbs_of_nonneg ha]
    · have hpos : 0 < b := by omega
      have hm := fmod_in (a := a) (b := b) hpos
      cases n with
      | zero => omega
      | succ n =>
        have ih := z_common_loop n b (a.fmod b) (by omega) hm.1 (by omega)
        rw [gcd_step ha hpos] at ih
        refine kWhile_go (ρ' := [.dat (.int b), .dat (.int (a.fmod b))]) ?_ ?_ ih nofun
        · simp only [zR0, zR1, zR2, zR3, zR4, zR5, zR6, zR7, zR8, zR9, zR10, zR11, zR12, slotsM, kFor_a, Rz.bind_ok, Rz.of_some, Rz.calm_ok, Option.bind_some, Option.bind_none, slots, sel, Arg.get, List.filterMap_cons, List.filterMap_nil, List.length_cons, List.length_nil, List.map_cons, List.map_nil, List.cons_append, List.nil_append, List.append_nil, List.getElem?_cons_succ, List.getElem?_cons_zero, List.getElem?_nil, List.set_cons_zero, List.set_cons_succ, List.set_nil, List.replicate_succ, List.replicate_zero, if_true, Nat.sub_self, Nat.reduceAdd, Nat.reduceSub, Nat.reduceLeDiff, Nat.reduceEqDiff, Nat.reduceLT, Int.reduceLT, Int.reduceLE, Int.reduceNeg, Int.reduceEq, Nat.zero_add, and_self, if_false, Bool.not_true, Bool.not_false, Bool.false_eq_true, Nat.zero_le, decide_true, decide_false, reduceCtorEq, decide_eq_true hpos]
        · simp only [zR0, zR1, zR2, zR3, zR4, zR5, zR6, zR7, zR8, zR9, zR10, zR11, zR12, slotsM, kFor_a, Rz.bind_ok, Rz.of_some, Rz.calm_ok, Option.bind_some, Option.bind_none, slots, sel, Arg.get, List.filterMap_cons, List.filterMap_nil, List.length_cons, List.length_nil, List.map_cons, List.map_nil, List.cons_append, List.nil_append, List.append_nil, List.getElem?_cons_succ, List.getElem?_cons_zero, List.getElem?_nil, List.set_cons_zero, List.set_cons_succ, List.set_nil, List.replicate_succ, List.replicate_zero, if_true, Nat.sub_self, Nat.reduceAdd, Nat.reduceSub, Nat.reduceLeDiff, Nat.reduceEqDiff, Nat.reduceLT, Int.reduceLT, Int.reduceLE, Int.reduceNeg, Int.reduceEq, Nat.zero_add, and_self, if_false, Bool.not_true, Bool.not_false, Bool.false_eq_true, Nat.zero_le, decide_true, decide_false, reduceCtorEq, b1_common_a, zMod_i h0]
theorem z_common {a b : Int} (ha : 0 ≤ a) (hb : 0 ≤ b) : d_common [.int a, .int b] = .ok (.int (Int.gcd a b)) := by
  simp only [zR0, zR1, zR2, zR3, zR4, zR5, zR6, zR7, zR8, zR9, zR10, zR11, zR12, slotsM, kFor_a, Rz.bind_ok, Rz.of_some, Rz.calm_ok, Option.bind_some, Option.bind_none, slots, sel, Arg.get, List.filterMap_cons, List.filterMap_nil, List.length_cons, List.length_nil, List.map_cons, List.map_nil, List.cons_append, List.nil_append, List.append_nil, List.getElem?_cons_succ, List.getElem?_cons_zero, List.getElem?_nil, List.set_cons_zero, List.set_cons_succ, List.set_nil, List.replicate_succ, List.replicate_zero, if_true, Nat.sub_self, Nat.reduceAdd, Nat.reduceSub, Nat.reduceLeDiff, Nat.reduceEqDiff, Nat.reduceLT, Int.reduceLT, Int.reduceLE, Int.reduceNeg, Int.reduceEq, Nat.zero_add, and_self, if_false, Bool.not_true, Bool.not_false, Bool.false_eq_true, Nat.zero_le, decide_true, decide_false, reduceCtorEq, d_common, m_common, z_common_loop _ a b ha hb (Nat.le_refl _)]
theorem abs_i (i : Int) : (if i < 0 then -i else i) = (i.natAbs : Int) := by split <;> omega
theorem z_part {u l : Int} (hl : l ≠ 0) : d_part [.int u, .int l] = .ok (encR (Rat.divInt u l)) := by
  have hn := part_num (u := u) hl
  have hd := part_den (u := u) hl
  have hg := gcd_ne (u := u) hl
  by_cases neg : l < 0
  · rw [if_pos neg] at hn hd
    have hc := z_common (a := (((0 - u).natAbs : Nat) : Int)) (b := 0 - l) (by omega) (by omega)
    have eg : ((Int.gcd (((0 - u).natAbs : Nat) : Int) (0 - l) : Nat) : Int) = ((Int.gcd u l : Nat) : Int) := by
      congr 1
      unfold Int.gcd
      simp
    rw [eg] at hc
    simp only [zR0, zR1, zR2, zR3, zR4, zR5, zR6, zR7, zR8, zR9, zR10, zR11, zR12, slotsM, kFor_a, Rz.bind_ok, Rz.of_some, Rz.calm_ok, Option.bind_some, Option.bind_none, slots, sel, Arg.get, List.filterMap_cons, List.filterMap_nil, List.length_cons, List.length_nil, List.map_cons, List.map_nil, List.cons_append, List.nil_append, List.append_nil, List.getElem?_cons_succ, List.getElem?_cons_zero, List.getElem?_nil, List.set_cons_zero, List.set_cons_succ, List.set_nil, List.replicate_succ, List.replicate_zero, if_true, Nat.sub_self, Nat.reduceAdd, Nat.reduceSub, Nat.reduceLeDiff, Nat.reduceEqDiff, Nat.reduceLT, Int.reduceLT, Int.reduceLE, Int.reduceNeg, Int.reduceEq, Nat.zero_add, and_self, if_false, Bool.not_true, Bool.not_false, Bool.false_eq_true, Nat.zero_le, decide_true, decide_false, reduceCtorEq, d_part, m_part, decide_eq_false hl, decide_eq_true neg, abs_i, hc, zFdB_i hg]
    rw [show (0 : Int) - u = -u from by omega, show (0 : Int) - l = -l from by omega, hn, hd]
    rfl
  · rw [if_neg neg] at hn hd
    have hc := z_common (a := ((u.natAbs : Nat) : Int)) (b := l) (by omega) (by omega)
    have eg : ((Int.gcd ((u.natAbs : Nat) : Int) l : Nat) : Int) = ((Int.gcd u l : Nat) : Int) := by
      congr 1
    rw [eg] at hc
    simp only [zR0, zR1, zR2, zR3, zR4, zR5, zR6, zR7, zR8, zR9, zR10, zR11, zR12, slotsM, kFor_a, Rz.bind_ok, Rz.of_some, Rz.calm_ok, Option.bind_some, Option.bind_none, slots, sel, Arg.get, List.filterMap_cons, List.filterMap_nil, List.length_cons, List.length_nil, List.map_cons, List.map_nil, List.cons_append, List.nil_append, List.append_nil, List.getElem?_cons_succ, List.getElem?_cons_zero, List.getElem?_nil, List.set_cons_zero, List.set_cons_succ, List.set_nil, List.replicate_succ, List.replicate_zero, if_true, Nat.sub_self, Nat.reduceAdd, Nat.reduceSub, Nat.reduceLeDiff, Nat.reduceEqDiff, Nat.reduceLT, Int.reduceLT, Int.reduceLE, Int.reduceNeg, Int.reduceEq, Nat.zero_add, and_self, if_false, Bool.not_true, Bool.not_false, Bool.false_eq_true, Nat.zero_le, decide_true, decide_false, reduceCtorEq, d_part, m_part, decide_eq_false hl, decide_eq_false neg, abs_i, hc, zFdB_i hg]
    rw [hn, hd]
    rfl
abbrev Menu := Bool × List (List Rat)
def natD (n : Nat) : PyData := .int (n : Int)
def okS (q : Rat) : Prop := 0 ≤ q ∧ q.num ≤ 999 ∧ q.den ≤ 20
structure okRow (n : Nat) (r : List Rat) : Prop where
  len : r.length = n
  all : ∀ q ∈ r, okS q
structure okMenu (n : Nat) (m : Menu) : Prop where
  lo : 1 ≤ m.2.length
  hi : m.2.length ≤ 3
  all : ∀ r ∈ m.2, okRow n r
structure okBook (ms : List Menu) : Prop where
  lo : 1 ≤ ms.length
  hi : ms.length ≤ 5
  all : ∀ m ∈ ms, okMenu ms.length m
theorem okS.num_nn {q : Rat} (h : okS q) : 0 ≤ q.num := Rat.num_nonneg.mpr h.1
theorem okS.sz {q : Rat} (h : okS q) : Sz 10 q := ⟨by have := h.num_nn; have := h.2.1; omega, by have := h.2.2; omega⟩
theorem atI_nat {α : Type} {xs : List α} {i : Nat} (h : i < xs.length) : atI xs (i : Int) = some xs[i] := by
  rw [atI_in (by omega) (by omega)]
  simp [h]
theorem atI_int {α : Type} {xs : List α} {i : Int} (h0 : 0 ≤ i) (h : i < xs.length) : ∃ hi : i.toNat < xs.length, atI xs i = some xs[i.toNat] := by
  refine ⟨by omega, ?_⟩
  rw [atI_in h0 h, List.getElem?_eq_getElem]
def goodChoice : List Menu → List Int → Prop
  | [], [] => True
  | m :: ms, a :: c => 0 ≤ a ∧ a < (m.2.length : Int) ∧ goodChoice ms c
  | _, _ => False
theorem goodChoice.len : ∀ {ms : List Menu} {c : List Int}, goodChoice ms c → c.length = ms.length
  | [], [], _ => rfl
  | m :: ms, a :: c, h => by rw [List.length_cons, List.length_cons, goodChoice.len h.2.2]
  | [], _ :: _, h => h.elim
  | _ :: _, [], h => h.elim
theorem goodChoice.get : ∀ {ms : List Menu} {c : List Int}, goodChoice ms c → ∀ {i : Nat} {m : Menu} {a : Int}, ms[i]? = some m → c[i]? = some a → 0 ≤ a ∧ a < (m.2.length : Int)
  | m :: ms, a :: c, h, 0, _, _, e1, e2 => by cases e1; cases e2; exact ⟨h.1, h.2.1⟩
  | m :: ms, a :: c, h, i + 1, _, _, e1, e2 => goodChoice.get h.2.2 (i := i) e1 e2
  | [], [], _, _, _, _, e1, _ => by simp at e1
  | [], _ :: _, h, _, _, _, _, _ => h.elim
  | _ :: _, [], h, _, _, _, _, _ => h.elim
theorem z_lawpart_loop {u l : Int} : ∀ (n : Nat) (a b : Int), 0 ≤ a → 0 ≤ b → b.toNat ≤ n → kWhile (yV (xOp zGt (xV 3) (xC (.int 0)))) [] b1__law_part [.dat (.int u), .dat (.int l), .dat (.int a), .dat (.int b), .no] = .nx [.dat (.int u), .dat (.int l), .dat (.int (Int.gcd a b)), .dat (.int 0), .no]
  | n, a, b, ha, hb, hn => by
    by_cases h0 : b = 0
    · subst h0
      rw [kWhile_stop (by simp only [zR0, zR1, zR2, zR3, zR4, zR5, zR6, zR7, zR8, zR9, zR10, zR11, zR12, slotsM, kFor_a, Rz.bind_ok, Rz.of_some, Rz.calm_ok, Option.bind_some, Option.bind_none, slots, sel, Arg.get, List.filterMap_cons, List.filterMap_nil, List.length_cons, List.length_nil, List.map_cons, List.map_nil, List.cons_append, List.nil_append, List.append_nil, List.getElem?_cons_succ, List.getElem?_cons_zero, List.getElem?_nil, List.set_cons_zero, List.set_cons_succ, List.set_nil, List.replicate_succ, List.replicate_zero, if_true, Nat.sub_self, Nat.reduceAdd, Nat.reduceSub, Nat.reduceLeDiff, Nat.reduceEqDiff, Nat.reduceLT, Int.reduceLT, Int.reduceLE, Int.reduceNeg, Int.reduceEq, Nat.zero_add, and_self, if_false, Bool.not_true, Bool.not_false, Bool.false_eq_true, Nat.zero_le, decide_true, decide_false, reduceCtorEq])]
      rw [Int.gcd_zero_right, Int.natAbs_of_nonneg ha]
    · have hpos : 0 < b := by omega
      have hm := fmod_in (a := a) (b := b) hpos
      cases n with
      | zero => omega
      | succ n =>
        have ih := z_lawpart_loop (u := u) (l := l) n b (a.fmod b) (by omega) hm.1 (by omega)
        rw [gcd_step ha hpos] at ih
        refine kWhile_go (ρ' := [.dat (.int u), .dat (.int l), .dat (.int b), .dat (.int (a.fmod b)), .no]) ?_ ?_ ih nofun
        · simp only [zR0, zR1, zR2, zR3, zR4, zR5, zR6, zR7, zR8, zR9, zR10, zR11, zR12, slotsM, kFor_a, Rz.bind_ok, Rz.of_some, Rz.calm_ok, Option.bind_some, Option.bind_none, slots, sel, Arg.get, List.filterMap_cons, List.filterMap_nil, List.length_cons, List.length_nil, List.map_cons, List.map_nil, List.cons_append, List.nil_append, List.append_nil, List.getElem?_cons_succ, List.getElem?_cons_zero, List.getElem?_nil, List.set_cons_zero, List.set_cons_succ, List.set_nil, List.replicate_succ, List.replicate_zero, if_true, Nat.sub_self, Nat.reduceAdd, Nat.reduceSub, Nat.reduceLeDiff, Nat.reduceEqDiff, Nat.reduceLT, Int.reduceLT, Int.reduceLE, Int.reduceNeg, Int.reduceEq, Nat.zero_add, and_self, if_false, Bool.not_true, Bool.not_false, Bool.false_eq_true, Nat.zero_le, decide_true, decide_false, reduceCtorEq, decide_eq_true hpos]
        · simp only [zR0, zR1, zR2, zR3, zR4, zR5, zR6, zR7, zR8, zR9, zR10, zR11, zR12, slotsM, kFor_a, Rz.bind_ok, Rz.of_some, Rz.calm_ok, Option.bind_some, Option.bind_none, slots, sel, Arg.get, List.filterMap_cons, List.filterMap_nil, List.length_cons, List.length_nil, List.map_cons, List.map_nil, List.cons_append, List.nil_append, List.append_nil, List.getElem?_cons_succ, List.getElem?_cons_zero, List.getElem?_nil, List.set_cons_zero, List.set_cons_succ, List.set_nil, List.replicate_succ, List.replicate_zero, if_true, Nat.sub_self, Nat.reduceAdd, Nat.reduceSub, Nat.reduceLeDiff, Nat.reduceEqDiff, Nat.reduceLT, Int.reduceLT, Int.reduceLE, Int.reduceNeg, Int.reduceEq, Nat.zero_add, and_self, if_false, Bool.not_true, Bool.not_false, Bool.false_eq_true, Nat.zero_le, decide_true, decide_false, reduceCtorEq, b1__law_part_a, zMod_i h0]
theorem z__law_part {u l : Int} (hl : l ≠ 0) : d__law_part [.int u, .int l] = .ok (encR (Rat.divInt u l)) := by
  have hn := part_num (u := u) hl
  have hd := part_den (u := u) hl
  have hg := gcd_ne (u := u) hl
  have hc := z_lawpart_loop (u := u) (l := l) _ ((u.natAbs : Nat) : Int) ((l.natAbs : Nat) : Int) (by omega) (by omega) (Nat.le_refl _)
  have eg : ((Int.gcd ((u.natAbs : Nat) : Int) ((l.natAbs : Nat) : Int) : Nat) : Int) = ((Int.gcd u l : Nat) : Int) := by
    congr 1
  rw [eg] at hc
  by_cases neg : l < 0
  · rw [if_pos neg] at hn hd
    have hng : (0 : Int) - ((Int.gcd u l : Nat) : Int) ≠ 0 := by omega
    have e1 : u.fdiv (0 - ((Int.gcd u l : Nat) : Int)) = (Rat.divInt u l).num := by
      rw [← hn, show (0 : Int) - ((Int.gcd u l : Nat) : Int) = -((Int.gcd u l : Nat) : Int) from by omega]
      rw [← Int.neg_fdiv_neg u, Int.neg_neg]
    have e2 : l.fdiv (0 - ((Int.gcd u l : Nat) : Int)) = ((Rat.divInt u l).den : Int) := by
      rw [← hd, show (0 : Int) - ((Int.gcd u l : Nat) : Int) = -((Int.gcd u l : Nat) : Int) from by omega]
      rw [← Int.neg_fdiv_neg l, Int.neg_neg]
    simp only [zR0, zR1, zR2, zR3, zR4, zR5, zR6, zR7, zR8, zR9, zR10, zR11, zR12, slotsM, kFor_a, Rz.bind_ok, Rz.of_some, Rz.calm_ok, Option.bind_some, Option.bind_none, slots, sel, Arg.get, List.filterMap_cons, List.filterMap_nil, List.length_cons, List.length_nil, List.map_cons, List.map_nil, List.cons_append, List.nil_append, List.append_nil, List.getElem?_cons_succ, List.getElem?_cons_zero, List.getElem?_nil, List.set_cons_zero, List.set_cons_succ, List.set_nil, List.replicate_succ, List.replicate_zero, if_true, Nat.sub_self, Nat.reduceAdd, Nat.reduceSub, Nat.reduceLeDiff, Nat.reduceEqDiff, Nat.reduceLT, Int.reduceLT, Int.reduceLE, Int.reduceNeg, Int.reduceEq, Nat.zero_add, and_self, if_false, Bool.not_true, Bool.not_false, Bool.false_eq_true, Nat.zero_le, decide_true, decide_false, reduceCtorEq, d__law_part, m__law_part, abs_i, hc, decide_eq_false (show ¬ 0 < l from by omega), zFdB_i hng, e1, e2]
    rfl
  · rw [if_neg neg] at hn hd
    simp only [zR0, zR1, zR2, zR3, zR4, zR5, zR6, zR7, zR8, zR9, zR10, zR11, zR12, slotsM, kFor_a, Rz.bind_ok, Rz.of_some, Rz.calm_ok, Option.bind_some, Option.bind_none, slots, sel, Arg.get, List.filterMap_cons, List.filterMap_nil, List.length_cons, List.length_nil, List.map_cons, List.map_nil, List.cons_append, List.nil_append, List.append_nil, List.getElem?_cons_succ, List.getElem?_cons_zero, List.getElem?_nil, List.set_cons_zero, List.set_cons_succ, List.set_nil, List.replicate_succ, List.replicate_zero, if_true, Nat.sub_self, Nat.reduceAdd, Nat.reduceSub, Nat.reduceLeDiff, Nat.reduceEqDiff, Nat.reduceLT, Int.reduceLT, Int.reduceLE, Int.reduceNeg, Int.reduceEq, Nat.zero_add, and_self, if_false, Bool.not_true, Bool.not_false, Bool.false_eq_true, Nat.zero_le, decide_true, decide_false, reduceCtorEq, d__law_part, m__law_part, abs_i, hc, decide_eq_true (show 0 < l from by omega), zFdB_i hg, hn, hd]
    rfl
theorem atI_small {xs : List PyData} {i : Int} (h0 : 0 ≤ i) (h : i < xs.length) : ∃ d ∈ xs, atI xs i = some d := by
  obtain ⟨hi, e⟩ := atI_int h0 h
  exact ⟨_, List.getElem_mem hi, e⟩
theorem pick_int {ns : List Int} {i : Int} {P : Int → Prop} (h0 : 0 ≤ i) (h : i < ns.length) (hp : ∀ n ∈ ns, P n) : ∃ n, P n ∧ atI (ns.map PyData.int) i = some (.int n) := by
  obtain ⟨d, hd, e⟩ := atI_small (xs := ns.map PyData.int) h0 (by rw [List.length_map]; exact h)
  obtain ⟨n, hn, rfl⟩ := List.mem_map.mp hd
  exact ⟨n, hp n hn, e⟩
theorem cut_map {xs : List Int} {i j : Int} (h0 : 0 ≤ i) (h1 : i ≤ j) (h : j ≤ xs.length) : ∃ ys : List Int, ys.length = (j - i).toNat ∧ (∀ y ∈ ys, y ∈ xs) ∧ cutD (xs.map .int) (some i) (some j) = ys.map .int := by
  refine ⟨_, ?_, ?_, cut_betweenI xs h0 h1 h⟩
  · rw [List.length_take, List.length_drop]; omega
  · intro y hy; exact List.mem_of_mem_drop (List.mem_of_mem_take hy)
theorem encR_div (u l : Int) (hl : l ≠ 0) (h : Int.gcd u l = 1) (hp : 0 < l) : encR (Rat.divInt u l) = .tuple [.int u, .int l] := by
  have hn := part_num (u := u) hl
  have hd := part_den (u := u) hl
  rw [if_neg (by omega), h] at hn hd
  unfold encR
  rw [← hn, ← hd]
  simp
theorem xTry_a (w : Exn → Option Str) (m : ME) (ρ : List Slot) : xTry w m ρ = tryD w (m ρ) := nr rfl
theorem tryD_ok (w : Exn → Option Str) (d : PyData) : tryD w (.ok d) = .ok (.tuple [d, .str ""]) := nr rfl
theorem tryD_ex {x : Exn} {s : Str} (h : wTry x = some s) : tryD wTry (.ex x) = .ok (.tuple [.none, .str s]) := by
  unfold tryD
  simp only [h]
theorem same_ok {d : PyData} (h : Pl 8 d) : dRel Rsame8 [d, d] = .ok (.bool true) := by
  have e : ∃ r, Rsame8 [d, d] r := ⟨.bool true, d, h, by decide, rfl, rfl⟩
  unfold dRel
  rw [dif_pos e]
  obtain ⟨d', _, _, _, z⟩ := e.choose_spec
  rw [z]
theorem pl_str {n : Nat} (x : Str) (h : (PyData.str x).canLay0 = true := by kernel_rfl) : Pl n (.str x) := .str h
theorem pl_encR {n : Nat} (q : Rat) : Pl (n + 1) (encR q) := .tuple (by simp) fun d hd => by
  rcases List.mem_cons.mp hd with z | z
  · subst z; exact .int _
  · rw [List.mem_singleton.mp z]; exact .int _
theorem pl_two {n : Nat} {a b : PyData} (ha : Pl n a) (hb : Pl n b) : Pl (n + 1) (.tuple [a, b]) := .tuple (by simp) fun d hd => by
  rcases List.mem_cons.mp hd with z | z
  · subst z; exact ha
  · rw [List.mem_singleton.mp z]; exact hb
abbrev tS (l : List Nat) : Str := SX.S l
def Asc (l : List Nat) : Prop := ∀ c ∈ l, c < 128
theorem Asc.app {a b : List Nat} (h1 : Asc a) (h2 : Asc b) : Asc (a ++ b) := fun c hc => by
  rcases List.mem_append.mp hc with z | z
  · exact h1 c z
  · exact h2 c z
theorem Asc.take {a : List Nat} (h : Asc a) (n : Nat) : Asc (a.take n) := fun c hc => h c (List.mem_of_mem_take hc)
theorem Asc.drop {a : List Nat} (h : Asc a) (n : Nat) : Asc (a.drop n) := fun c hc => h c (List.mem_of_mem_drop hc)
theorem Asc.one {c : Nat} (h : c < 128) : Asc [c] := fun d hd => by rw [List.mem_singleton.mp hd]; exact h
theorem Asc.nil : Asc [] := fun d hd => by cases hd
theorem Asc.tail {c : Nat} {l : List Nat} (h : Asc (c :: l)) : Asc l := fun d hd => h d (List.mem_cons_of_mem _ hd)
theorem Asc.num (n : Nat) : Asc (TL.numL n) := fun c hc => by have := TL.numL_digits n c hc; omega
theorem lay_t {l : List Nat} (h : Asc l) : (PyData.str (tS l)).canLay0 = true := by
  show (tS l).cps.all (· < 0x110000) = true
  rw [← Array.all_toList, List.all_eq_true]
  intro c hc
  have := h c hc
  exact decide_eq_true (by omega)
theorem sh_t {l : List Nat} (h : Asc l) : SeqAt.shaped (.str (tS l)) = true := by
  unfold SeqAt.shaped
  rw [lay_t h]
  rfl
theorem zEq_t {a b : List Nat} (ha : Asc a) (hb : Asc b) : zEq (.str (tS a)) (.str (tS b)) = some (.bool (decide (a = b))) := by
  rw [zEq_s (sh_t ha) (sh_t hb), SX.S_beq_eq]
theorem zNe_t {a b : List Nat} (ha : Asc a) (hb : Asc b) : zNe (.str (tS a)) (.str (tS b)) = some (.bool (!decide (a = b))) := by
  rw [zNe_s (sh_t ha) (sh_t hb), SX.S_beq_eq]
theorem len_t (l : List Nat) : (tS l).length = l.length := SX.S_len l
theorem zLen_s {l : List Nat} (h : l.length ≤ 1000000) : zLen [.str (tS l)] = some (.int (l.length : Nat)) := by
  unfold zLen
  simp only [len_t, if_pos h]
theorem zIx_t0 {c : Nat} {l : List Nat} (h : (c :: l).length ≤ 1000000) : zIx (.str (tS (c :: l))) (.int 0) = some (.str (tS [c])) := by
  unfold zIx
  simp only [len_t, if_pos h]
  have e : atI (tS (c :: l)).cps.toList 0 = some c := by
    show atI (c :: l) ((0 : Nat) : Int) = _
    exact atI_nat (xs := c :: l) (i := 0) (by simp)
  rw [e]
  rfl
theorem sg_t (l : List Nat) : sgD (tS l) = l.map fun c => .str (tS [c]) := rfl
theorem cut_t (l : List Nat) (lo hi : Option Int) : cutS (tS l) lo hi = tS ((l.drop (HT.sIx l.length 0 lo)).take (HT.sIx l.length l.length hi - HT.sIx l.length 0 lo)) := by
  unfold cutS
  rw [len_t]
theorem cut_t1 (l : List Nat) : cutS (tS l) none (some 1) = tS (l.take 1) := by
  rw [cut_t, show (1 : Int) = ((1 : Nat) : Int) from rfl, HT.sIx_nat, HT.sIx_none, List.drop_zero, Nat.sub_zero]
  congr 1
  cases l with
  | nil => rfl
  | cons c l => rw [Nat.min_eq_left (by simp)]
theorem cut_td {l : List Nat} {k : Nat} (h : k ≤ l.length) : cutS (tS l) (some (k : Int)) none = tS (l.drop k) := by
  rw [cut_t, HT.sIx_nat, HT.sIx_none, Nat.min_eq_left h, List.take_of_length_le (by rw [List.length_drop]; exact Nat.le_refl _)]
theorem cut_tt {l : List Nat} {k : Nat} (h : k ≤ l.length) : cutS (tS l) none (some (k : Int)) = tS (l.take k) := by
  rw [cut_t, HT.sIx_nat, HT.sIx_none, List.drop_zero, Nat.sub_zero, Nat.min_eq_left h]
theorem cut_td1 {l : List Nat} (h : 1 ≤ l.length) : cutS (tS l) (some 1) none = tS (l.drop 1) := cut_td (k := 1) h
theorem zAdd_t {a b : List Nat} (h : a.length + b.length ≤ 1000000) : zAddV (.str (tS a)) (.str (tS b)) = some (.str (tS (a ++ b))) := by
  rw [zAddV_s (by rw [len_t, len_t]; exact h), SX.S_cat]
def intL (i : Int) : List Nat := if i < 0 then 45 :: TL.numL i.natAbs else TL.numL i.natAbs
theorem str_int (i : Int) : (Str.ofString (toString i)) = tS (intL i) := by
  unfold intL
  by_cases h : i < 0
  · rw [if_pos h]
    obtain ⟨n, hn⟩ : ∃ n : Nat, i = Int.negSucc n := by
      cases i with
      | ofNat n => exact absurd h (by simp)
      | negSucc n => exact ⟨n, rfl⟩
    subst hn
    have e : toString (Int.negSucc n) = "-" ++ toString (n + 1) := rfl
    have e2 : Str.ofString (toString ((n + 1 : Nat) : Int)) = tS (TL.numL (n + 1)) := by
      have := TL.tl_num (n + 1)
      rw [← SX.S_tl (Str.ofString (toString ((n + 1 : Nat) : Int)))]
      exact congrArg SX.S this
    have e3 : toString ((n + 1 : Nat) : Int) = toString (n + 1) := rfl
    rw [e3] at e2
    rw [e]
    have e4 : Str.ofString ("-" ++ toString (n + 1)) = Str.ofString "-" ++ Str.ofString (toString (n + 1)) := by
      refine TL.ext_tl ?_
      rw [TL.tl_append]
      show (Str.ofString _).cps.toList = (Str.ofString _).cps.toList ++ (Str.ofString _).cps.toList
      rw [PyProof.Rows.signs_ofString, PyProof.Rows.signs_ofString, PyProof.Rows.signs_ofString, String.toList_append, List.map_append]
    rw [e4, e2]
    have e5 : Str.ofString "-" = tS [45] := by kernel_rfl
    rw [e5, SX.S_cat]
    rfl
  · rw [if_neg h]
    obtain ⟨n, rfl⟩ := Int.eq_ofNat_of_zero_le (by omega : 0 ≤ i)
    have := TL.tl_num n
    rw [← SX.S_tl (Str.ofString (toString ((n : Nat) : Int)))]
    exact congrArg SX.S this
theorem Asc.int (i : Int) : Asc (intL i) := by
  unfold intL
  split
  · intro c hc
    rcases List.mem_cons.mp hc with z | z
    · omega
    · exact Asc.num _ c z
  · exact Asc.num _
theorem intL_nn {n : Nat} : intL (n : Int) = TL.numL n := by
  unfold intL
  rw [if_neg (by omega), Int.natAbs_natCast]
theorem intL_len {i : Int} {k : Nat} (hk : 0 < k) (h : i.natAbs < 10 ^ k) : (intL i).length ≤ k + 1 := by
  have := TL.numL_len hk h
  unfold intL
  split
  · rw [List.length_cons]; omega
  · omega
theorem intL_no {i : Int} {c : Nat} (h : c ≠ 45) (h2 : c < 48 ∨ 57 < c) : c ∉ intL i := by
  unfold intL
  split
  · intro z
    rcases List.mem_cons.mp z with z | z
    · exact h z
    · exact TL.numL_free h2 z
  · exact TL.numL_free h2
theorem log_of {i : Int} {k : Nat} (h : i.natAbs < 2 ^ k) (hk : k ≤ 1920) (h0 : 0 < k) : i.natAbs.log2 < 1920 := by
  by_cases z : i.natAbs = 0
  · rw [z]; decide
  · have := (Nat.log2_lt z).mpr h
    omega
theorem zStr_t {i : Int} {k : Nat} (h : i.natAbs < 2 ^ k) (hk : k ≤ 1920) (h0 : 0 < k) : zStr [.int i] = some (.str (tS (intL i))) := by
  rw [zStr_i (log_of h hk h0), str_int]
theorem txF_t {i : Int} {k : Nat} (h : i.natAbs < 2 ^ k) (hk : k ≤ 1920) (h0 : 0 < k) : txF (.int i) = some (.str (tS (intL i))) := by
  rw [txF_i (log_of h hk h0), str_int]
def plainL (l : List Nat) : Bool := !decide (l = []) && (l.all fun c => decide (48 ≤ c ∧ c ≤ 57)) && (decide (l = [48]) || !decide (l.head? = some 48))
theorem plainL_all {l : List Nat} (h : plainL l = true) : NumText.AllDigits l ∧ l ≠ [] ∧ (l = [48] ∨ l.head? ≠ some 48) := by
  unfold plainL at h
  simp only [Bool.and_eq_true, Bool.not_eq_true', decide_eq_false_iff_not, Bool.or_eq_true, decide_eq_true_eq, List.all_eq_true] at h
  exact ⟨h.1.2, h.1.1, h.2⟩
theorem plainL_num (n : Nat) : plainL (TL.numL n) = true := by
  unfold plainL
  simp only [Bool.and_eq_true, Bool.not_eq_true', decide_eq_false_iff_not, Bool.or_eq_true, decide_eq_true_eq, List.all_eq_true]
  refine ⟨⟨TL.numL_ne n, fun c hc => TL.numL_digits n c hc⟩, ?_⟩
  induction n using Nat.strongRecOn with
  | _ n ih =>
    by_cases h : n < 10
    · rw [TL.numL_lt h]
      by_cases h0 : n = 0
      · subst h0; exact .inl rfl
      · right
        simp only [List.head?_cons, Option.some.injEq]
        omega
    · right
      rw [TL.numL_step (by omega)]
      have hq : n / 10 < n := by omega
      have ne := TL.numL_ne (n / 10)
      rcases ih (n / 10) hq with z | z
      · have := congrArg NumText.digitsVal z
        rw [TL.numL_val] at this
        have : n / 10 = 0 := this
        omega
      · cases hd : TL.numL (n / 10) with
        | nil => exact absurd hd ne
        | cons c r => rw [hd] at z; simpa using z
theorem plain_back {l : List Nat} (h : plainL l = true) : TL.numL (NumText.digitsVal l) = l := by
  obtain ⟨hd, hn, hh⟩ := plainL_all h
  unfold TL.numL
  cases l with
  | nil => exact absurd rfl hn
  | cons c l =>
    rw [NumText.toDigits_digitsVal l.length (c :: l) rfl hd ?_, List.map_map]
    · have : ∀ d ∈ c :: l, (Char.toNat ∘ Char.ofNat) d = d := fun d hdm => by
        have := hd d hdm
        have : ∀ k : Nat, k < 58 → (Char.ofNat k).toNat = k := by decide
        exact this d (by have := hd d hdm; omega)
      rw [List.map_congr_left this, List.map_id']
    · rcases hh with z | z
      · cases z; exact .inl rfl
      · refine .inr ⟨c, l, rfl, ?_⟩
        have := hd c (List.mem_cons_self ..)
        simp only [List.head?_cons, ne_eq, Option.some.injEq] at z
        omega
theorem plain_int {l : List Nat} (h : plainL l = true) (hl : l.length ≤ 640) : zIntS [.str (tS l)] = some (.int ((NumText.digitsVal l : Nat) : Int)) := by
  obtain ⟨hd, hn, _⟩ := plainL_all h
  refine zIntS_a (by rw [len_t]; exact hl) ?_
  exact PySem.intText_digits (x := tS l) hd hn (by rw [len_t]; omega)
theorem fig_mem (c : Nat) : decide (c ∈ ("0123456789" : Str).cps.toList) = decide (48 ≤ c ∧ c ≤ 57) := by
  have e : ("0123456789" : Str).cps.toList = [48, 49, 50, 51, 52, 53, 54, 55, 56, 57] := by kernel_rfl
  rw [e, decide_eq_decide]
  simp only [List.mem_cons, List.not_mem_nil, or_false]
  omega
theorem fig_lc {l : List Nat} {ρ : List Slot} (hl : l.length ≤ 1000000) {n i : Nat} {me : ME} (hme : ∀ c ∈ l, me (ρ.set i (.dat (.str (tS [c])))) = .ok (.bool (decide (48 ≤ c ∧ c ≤ 57)))) :
    lcL (gN i) yYes me ρ (sgD (tS l)) = .ok (l.map fun c => .bool (decide (48 ≤ c ∧ c ≤ 57))) := by
  rw [sg_t]
  exact lcL_map (F := fun c ρ => ρ.set i (.dat (.str (tS [c])))) (fun c _ => rfl) (fun c _ => rfl) hme
theorem lit_s : ("/" : Str) = tS [47] := by kernel_rfl
theorem head_eq {c : Nat} {l : List Nat} : decide ([c] = [48]) = decide ((c :: l).head? = some 48) := by
  rw [decide_eq_decide]; simp
theorem fig_ex {l : List Nat} {ρ : List Slot} {i : Nat} (hl : l.length ≤ 1000000) (hi : i < ρ.length) : lcL (gN i) yYes (xOp zInS (xV i) (xC (.str "0123456789"))) ρ (sgD (tS l)) = .ok (l.map fun c => .bool (decide (48 ≤ c ∧ c ≤ 57))) := by
  refine fig_lc (n := 0) hl fun c _ => ?_
  rw [xOp_a]
  have e : xV i (ρ.set i (.dat (.str (tS [c])))) = .ok (.str (tS [c])) := by rw [xV_a, List.getElem?_set_self hi]
  rw [e]
  show Rz.of (zInS (.str (tS [c])) (.str "0123456789")) = _
  rw [zInS_a, fig_mem]
  rfl
theorem plain_if (l : List Nat) : plainL l = !(decide (l = []) || (!(l.all fun c => decide (48 ≤ c ∧ c ≤ 57)) || (decide (l.head? = some 48) && !decide (l = [48])))) := by
  unfold plainL
  cases decide (l = []) <;> cases (l.all fun c => decide (48 ≤ c ∧ c ≤ 57)) <;> cases decide (l.head? = some 48) <;> cases decide (l = [48]) <;> rfl
theorem z_number_in {l : List Nat} (ha : Asc l) (hl : l.length ≤ 640) : d_number_in [.str (tS l)] = .ok (if plainL l then .int ((NumText.digitsVal l : Nat) : Int) else .none) := by
  have hlen : (sgD (tS l)).length ≤ 1000000 := by rw [sg_t, List.length_map]; omega
  have e1 : zEq (.str (tS l)) (.str "") = some (.bool (decide (l = []))) := zEq_t ha Asc.nil
  have e2 : zNe (.str (tS l)) (.str "0") = some (.bool (!decide (l = [48]))) := zNe_t ha (Asc.one (c := 48) (by decide))
  have lc : lcL (gN 1) yYes (xOp zInS (xV 1) (xC (.str "0123456789"))) [.dat (.str (tS l)), .no] (sgD (tS l)) = .ok (l.map fun c => .bool (decide (48 ≤ c ∧ c ≤ 57))) := fig_ex (by omega) (by simp)
  have al := zAll_m l fun c => decide (48 ≤ c ∧ c ≤ 57)
  have hp := plain_if l
  cases l with
  | nil => simp only [zR0, zR1, zR2, zR3, zR4, zR5, zR6, zR7, zR8, zR9, zR10, zR11, zR12, slotsM, kFor_a, Rz.bind_ok, Rz.of_some, Rz.calm_ok, Option.bind_some, Option.bind_none, slots, sel, Arg.get, List.filterMap_cons, List.filterMap_nil, List.length_cons, List.length_nil, List.map_cons, List.map_nil, List.cons_append, List.nil_append, List.append_nil, List.getElem?_cons_succ, List.getElem?_cons_zero, List.getElem?_nil, List.set_cons_zero, List.set_cons_succ, List.set_nil, List.replicate_succ, List.replicate_zero, if_true, Nat.sub_self, Nat.reduceAdd, Nat.reduceSub, Nat.reduceLeDiff, Nat.reduceEqDiff, Nat.reduceLT, Int.reduceLT, Int.reduceLE, Int.reduceNeg, Int.reduceEq, Nat.zero_add, and_self, if_false, Bool.not_true, Bool.not_false, Bool.false_eq_true, Nat.zero_le, decide_true, decide_false, reduceCtorEq, d_number_in, m_number_in, e1]; rfl
  | cons c r =>
    have n0 : decide ((c :: r) = []) = false := rfl
    have i0 := zIx_t0 (c := c) (l := r) (by omega)
    have e3 : zEq (.str (tS [c])) (.str "0") = some (.bool (decide ([c] = [48]))) := zEq_t (Asc.one (ha c (by simp))) (Asc.one (c := 48) (by decide))
    have h0 := head_eq (c := c) (l := r)
    have iv : plainL (c :: r) = true → zIntS [.str (tS (c :: r))] = some (.int ((NumText.digitsVal (c :: r) : Nat) : Int)) := fun h => plain_int h hl
    generalize hL : c :: r = L at *
    cases hal : (L.all fun c => decide (48 ≤ c ∧ c ≤ 57)) with
    | false =>
      rw [hal] at al hp
      have hp : plainL L = false := by rw [hp]; cases decide (L = []) <;> rfl
      simp only [zR0, zR1, zR2, zR3, zR4, zR5, zR6, zR7, zR8, zR9, zR10, zR11, zR12, slotsM, kFor_a, Rz.bind_ok, Rz.of_some, Rz.calm_ok, Option.bind_some, Option.bind_none, slots, sel, Arg.get, List.filterMap_cons, List.filterMap_nil, List.length_cons, List.length_nil, List.map_cons, List.map_nil, List.cons_append, List.nil_append, List.append_nil, List.getElem?_cons_succ, List.getElem?_cons_zero, List.getElem?_nil, List.set_cons_zero, List.set_cons_succ, List.set_nil, List.replicate_succ, List.replicate_zero, if_true, Nat.sub_self, Nat.reduceAdd, Nat.reduceSub, Nat.reduceLeDiff, Nat.reduceEqDiff, Nat.reduceLT, Int.reduceLT, Int.reduceLE, Int.reduceNeg, Int.reduceEq, Nat.zero_add, and_self, if_false, Bool.not_true, Bool.not_false, Bool.false_eq_true, Nat.zero_le, decide_true, decide_false, reduceCtorEq, d_number_in, m_number_in, e1, n0, hlen, lc, al, hp]
    | true =>
      rw [hal] at al hp
      cases hh : decide (L.head? = some 48) with
      | false =>
        rw [hh] at hp h0
        rw [n0] at hp
        have hp : plainL L = true := by rw [hp]; rfl
        simp only [zR0, zR1, zR2, zR3, zR4, zR5, zR6, zR7, zR8, zR9, zR10, zR11, zR12, slotsM, kFor_a, Rz.bind_ok, Rz.of_some, Rz.calm_ok, Option.bind_some, Option.bind_none, slots, sel, Arg.get, List.filterMap_cons, List.filterMap_nil, List.length_cons, List.length_nil, List.map_cons, List.map_nil, List.cons_append, List.nil_append, List.append_nil, List.getElem?_cons_succ, List.getElem?_cons_zero, List.getElem?_nil, List.set_cons_zero, List.set_cons_succ, List.set_nil, List.replicate_succ, List.replicate_zero, if_true, Nat.sub_self, Nat.reduceAdd, Nat.reduceSub, Nat.reduceLeDiff, Nat.reduceEqDiff, Nat.reduceLT, Int.reduceLT, Int.reduceLE, Int.reduceNeg, Int.reduceEq, Nat.zero_add, and_self, if_false, Bool.not_true, Bool.not_false, Bool.false_eq_true, Nat.zero_le, decide_true, decide_false, reduceCtorEq, d_number_in, m_number_in, e1, n0, hlen, lc, al, i0, e3, h0, hp, iv hp]
      | true =>
        rw [hh] at hp h0
        rw [n0] at hp
        cases h48 : decide (L = [48]) with
        | false =>
          rw [h48] at e2 hp
          have hp : plainL L = false := by rw [hp]; rfl
          simp only [zR0, zR1, zR2, zR3, zR4, zR5, zR6, zR7, zR8, zR9, zR10, zR11, zR12, slotsM, kFor_a, Rz.bind_ok, Rz.of_some, Rz.calm_ok, Option.bind_some, Option.bind_none, slots, sel, Arg.get, List.filterMap_cons, List.filterMap_nil, List.length_cons, List.length_nil, List.map_cons, List.map_nil, List.cons_append, List.nil_append, List.append_nil, List.getElem?_cons_succ, List.getElem?_cons_zero, List.getElem?_nil, List.set_cons_zero, List.set_cons_succ, List.set_nil, List.replicate_succ, List.replicate_zero, if_true, Nat.sub_self, Nat.reduceAdd, Nat.reduceSub, Nat.reduceLeDiff, Nat.reduceEqDiff, Nat.reduceLT, Int.reduceLT, Int.reduceLE, Int.reduceNeg, Int.reduceEq, Nat.zero_add, and_self, if_false, Bool.not_true, Bool.not_false, Bool.false_eq_true, Nat.zero_le, decide_true, decide_false, reduceCtorEq, d_number_in, m_number_in, e1, n0, hlen, lc, al, i0, e3, h0, e2, hp]
        | true =>
          rw [h48] at e2 hp
          have hp : plainL L = true := by rw [hp]; rfl
          simp only [zR0, zR1, zR2, zR3, zR4, zR5, zR6, zR7, zR8, zR9, zR10, zR11, zR12, slotsM, kFor_a, Rz.bind_ok, Rz.of_some, Rz.calm_ok, Option.bind_some, Option.bind_none, slots, sel, Arg.get, List.filterMap_cons, List.filterMap_nil, List.length_cons, List.length_nil, List.map_cons, List.map_nil, List.cons_append, List.nil_append, List.append_nil, List.getElem?_cons_succ, List.getElem?_cons_zero, List.getElem?_nil, List.set_cons_zero, List.set_cons_succ, List.set_nil, List.replicate_succ, List.replicate_zero, if_true, Nat.sub_self, Nat.reduceAdd, Nat.reduceSub, Nat.reduceLeDiff, Nat.reduceEqDiff, Nat.reduceLT, Int.reduceLT, Int.reduceLE, Int.reduceNeg, Int.reduceEq, Nat.zero_add, and_self, if_false, Bool.not_true, Bool.not_false, Bool.false_eq_true, Nat.zero_le, decide_true, decide_false, reduceCtorEq, d_number_in, m_number_in, e1, n0, hlen, lc, al, i0, e3, h0, e2, hp, iv hp]
theorem z__law_plain {l : List Nat} (ha : Asc l) (hl : l.length ≤ 640) : d__law_plain [.str (tS l)] = .ok (.bool (plainL l)) := by
  have hlen : (sgD (tS l)).length ≤ 1000000 := by rw [sg_t, List.length_map]; omega
  have e1 : zNe (.str (tS l)) (.str "") = some (.bool (!decide (l = []))) := zNe_t ha Asc.nil
  have e2 : zEq (.str (tS l)) (.str "0") = some (.bool (decide (l = [48]))) := zEq_t ha (Asc.one (c := 48) (by decide))
  have lc : lcL (gN 1) yYes (xOp zInS (xV 1) (xC (.str "0123456789"))) [.dat (.str (tS l)), .no] (sgD (tS l)) = .ok (l.map fun c => .bool (decide (48 ≤ c ∧ c ≤ 57))) := fig_ex (by omega) (by simp)
  have al := zAll_m l fun c => decide (48 ≤ c ∧ c ≤ 57)
  have hp : plainL l = (!decide (l = []) && (l.all fun c => decide (48 ≤ c ∧ c ≤ 57)) && (decide (l = [48]) || !decide (l.head? = some 48))) := rfl
  cases l with
  | nil => simp only [zR0, zR1, zR2, zR3, zR4, zR5, zR6, zR7, zR8, zR9, zR10, zR11, zR12, slotsM, kFor_a, Rz.bind_ok, Rz.of_some, Rz.calm_ok, Option.bind_some, Option.bind_none, slots, sel, Arg.get, List.filterMap_cons, List.filterMap_nil, List.length_cons, List.length_nil, List.map_cons, List.map_nil, List.cons_append, List.nil_append, List.append_nil, List.getElem?_cons_succ, List.getElem?_cons_zero, List.getElem?_nil, List.set_cons_zero, List.set_cons_succ, List.set_nil, List.replicate_succ, List.replicate_zero, if_true, Nat.sub_self, Nat.reduceAdd, Nat.reduceSub, Nat.reduceLeDiff, Nat.reduceEqDiff, Nat.reduceLT, Int.reduceLT, Int.reduceLE, Int.reduceNeg, Int.reduceEq, Nat.zero_add, and_self, if_false, Bool.not_true, Bool.not_false, Bool.false_eq_true, Nat.zero_le, decide_true, decide_false, reduceCtorEq, d__law_plain, m__law_plain, e1]; rfl
  | cons c r =>
    have n0 : decide ((c :: r) = []) = false := rfl
    have i0 := zIx_t0 (c := c) (l := r) (by omega)
    have e3 : zNe (.str (tS [c])) (.str "0") = some (.bool (!decide ([c] = [48]))) := zNe_t (Asc.one (ha c (by simp))) (Asc.one (c := 48) (by decide))
    have h0 := head_eq (c := c) (l := r)
    generalize hL : c :: r = L at *
    rw [n0] at hp
    cases hal : (L.all fun c => decide (48 ≤ c ∧ c ≤ 57)) with
    | false =>
      rw [hal] at al hp
      simp only [zR0, zR1, zR2, zR3, zR4, zR5, zR6, zR7, zR8, zR9, zR10, zR11, zR12, slotsM, kFor_a, Rz.bind_ok, Rz.of_some, Rz.calm_ok, Option.bind_some, Option.bind_none, slots, sel, Arg.get, List.filterMap_cons, List.filterMap_nil, List.length_cons, List.length_nil, List.map_cons, List.map_nil, List.cons_append, List.nil_append, List.append_nil, List.getElem?_cons_succ, List.getElem?_cons_zero, List.getElem?_nil, List.set_cons_zero, List.set_cons_succ, List.set_nil, List.replicate_succ, List.replicate_zero, if_true, Nat.sub_self, Nat.reduceAdd, Nat.reduceSub, Nat.reduceLeDiff, Nat.reduceEqDiff, Nat.reduceLT, Int.reduceLT, Int.reduceLE, Int.reduceNeg, Int.reduceEq, Nat.zero_add, and_self, if_false, Bool.not_true, Bool.not_false, Bool.false_eq_true, Nat.zero_le, decide_true, decide_false, reduceCtorEq, d__law_plain, m__law_plain, e1, n0, hlen, lc, al, hp]
      rfl
    | true =>
      rw [hal] at al hp
      cases h48 : decide (L = [48]) with
      | true =>
        rw [h48] at e2 hp
        simp only [zR0, zR1, zR2, zR3, zR4, zR5, zR6, zR7, zR8, zR9, zR10, zR11, zR12, slotsM, kFor_a, Rz.bind_ok, Rz.of_some, Rz.calm_ok, Option.bind_some, Option.bind_none, slots, sel, Arg.get, List.filterMap_cons, List.filterMap_nil, List.length_cons, List.length_nil, List.map_cons, List.map_nil, List.cons_append, List.nil_append, List.append_nil, List.getElem?_cons_succ, List.getElem?_cons_zero, List.getElem?_nil, List.set_cons_zero, List.set_cons_succ, List.set_nil, List.replicate_succ, List.replicate_zero, if_true, Nat.sub_self, Nat.reduceAdd, Nat.reduceSub, Nat.reduceLeDiff, Nat.reduceEqDiff, Nat.reduceLT, Int.reduceLT, Int.reduceLE, Int.reduceNeg, Int.reduceEq, Nat.zero_add, and_self, if_false, Bool.not_true, Bool.not_false, Bool.false_eq_true, Nat.zero_le, decide_true, decide_false, reduceCtorEq, d__law_plain, m__law_plain, e1, n0, hlen, lc, al, e2, hp]
        rfl
      | false =>
        rw [h48] at e2 hp
        simp only [zR0, zR1, zR2, zR3, zR4, zR5, zR6, zR7, zR8, zR9, zR10, zR11, zR12, slotsM, kFor_a, Rz.bind_ok, Rz.of_some, Rz.calm_ok, Option.bind_some, Option.bind_none, slots, sel, Arg.get, List.filterMap_cons, List.filterMap_nil, List.length_cons, List.length_nil, List.map_cons, List.map_nil, List.cons_append, List.nil_append, List.append_nil, List.getElem?_cons_succ, List.getElem?_cons_zero, List.getElem?_nil, List.set_cons_zero, List.set_cons_succ, List.set_nil, List.replicate_succ, List.replicate_zero, if_true, Nat.sub_self, Nat.reduceAdd, Nat.reduceSub, Nat.reduceLeDiff, Nat.reduceEqDiff, Nat.reduceLT, Int.reduceLT, Int.reduceLE, Int.reduceNeg, Int.reduceEq, Nat.zero_add, and_self, if_false, Bool.not_true, Bool.not_false, Bool.false_eq_true, Nat.zero_le, decide_true, decide_false, reduceCtorEq, d__law_plain, m__law_plain, e1, n0, hlen, lc, al, i0, e3, h0, e2, hp]
        rfl
def partL (q : Rat) : List Nat := intL q.num ++ if q.den = 1 then [] else 47 :: TL.numL q.den
theorem Asc.part (q : Rat) : Asc (partL q) := by
  unfold partL
  refine (Asc.int _).app ?_
  split
  · exact Asc.nil
  · intro c hc
    rcases List.mem_cons.mp hc with z | z
    · omega
    · exact Asc.num _ c z
theorem z_part_text {q : Rat} (hn : q.num.natAbs < 2 ^ 1900) (hd : q.den < 2 ^ 1900) (hl : (partL q).length ≤ 1000000) : d_part_text [encR q] = .ok (.str (tS (partL q))) := by
  have t1 := txF_t hn (by decide) (by decide)
  have t2 : txF (.int (q.den : Int)) = some (.str (tS (TL.numL q.den))) := by
    have := txF_t (i := (q.den : Int)) (k := 1900) (by omega) (by decide) (by decide)
    rw [intL_nn] at this
    exact this
  have e0 : Str.empty = tS [] := by kernel_rfl
  by_cases h1 : q.den = 1
  · have c1 : decide ((q.den : Int) = 1) = true := decide_eq_true (by omega)
    simp only [zR0, zR1, zR2, zR3, zR4, zR5, zR6, zR7, zR8, zR9, zR10, zR11, zR12, slotsM, kFor_a, Rz.bind_ok, Rz.of_some, Rz.calm_ok, Option.bind_some, Option.bind_none, slots, sel, Arg.get, List.filterMap_cons, List.filterMap_nil, List.length_cons, List.length_nil, List.map_cons, List.map_nil, List.cons_append, List.nil_append, List.append_nil, List.getElem?_cons_succ, List.getElem?_cons_zero, List.getElem?_nil, List.set_cons_zero, List.set_cons_succ, List.set_nil, List.replicate_succ, List.replicate_zero, if_true, Nat.sub_self, Nat.reduceAdd, Nat.reduceSub, Nat.reduceLeDiff, Nat.reduceEqDiff, Nat.reduceLT, Int.reduceLT, Int.reduceLE, Int.reduceNeg, Int.reduceEq, Nat.zero_add, and_self, if_false, Bool.not_true, Bool.not_false, Bool.false_eq_true, Nat.zero_le, decide_true, decide_false, reduceCtorEq, d_part_text, m_part_text, c1, t1]
    unfold partL
    rw [if_pos h1, List.append_nil]
  · have c1 : decide ((q.den : Int) = 1) = false := decide_eq_false (by omega)
    have hp : partL q = intL q.num ++ 47 :: TL.numL q.den := by unfold partL; rw [if_neg h1]
    rw [hp] at hl ⊢
    have a1 : Str.empty ++ tS (intL q.num) = tS (intL q.num) := by rw [e0, SX.S_cat]; rfl
    have a2 : tS (intL q.num) ++ ("/" : Str) = tS (intL q.num ++ [47]) := by rw [lit_s, SX.S_cat]
    have a3 : tS (intL q.num ++ [47]) ++ tS (TL.numL q.den) = tS (intL q.num ++ 47 :: TL.numL q.den) := by rw [SX.S_cat, List.append_assoc]; rfl
    rw [List.length_append, List.length_cons] at hl
    have l1 : (tS (intL q.num)).length ≤ 1000000 := by rw [len_t]; omega
    have l2 : (tS (intL q.num ++ [47])).length ≤ 1000000 := by rw [len_t, List.length_append, List.length_singleton]; omega
    have l3 : (tS (intL q.num ++ 47 :: TL.numL q.den)).length ≤ 1000000 := by rw [len_t, List.length_append, List.length_cons]; omega
    simp only [zR0, zR1, zR2, zR3, zR4, zR5, zR6, zR7, zR8, zR9, zR10, zR11, zR12, slotsM, kFor_a, Rz.bind_ok, Rz.of_some, Rz.calm_ok, Option.bind_some, Option.bind_none, slots, sel, Arg.get, List.filterMap_cons, List.filterMap_nil, List.length_cons, List.length_nil, List.map_cons, List.map_nil, List.cons_append, List.nil_append, List.append_nil, List.getElem?_cons_succ, List.getElem?_cons_zero, List.getElem?_nil, List.set_cons_zero, List.set_cons_succ, List.set_nil, List.replicate_succ, List.replicate_zero, if_true, Nat.sub_self, Nat.reduceAdd, Nat.reduceSub, Nat.reduceLeDiff, Nat.reduceEqDiff, Nat.reduceLT, Int.reduceLT, Int.reduceLE, Int.reduceNeg, Int.reduceEq, Nat.zero_add, and_self, if_false, Bool.not_true, Bool.not_false, Bool.false_eq_true, Nat.zero_le, decide_true, decide_false, reduceCtorEq, d_part_text, m_part_text, c1, t1, t2, a1, a2, a3, l1, l2, l3]
def sgL (neg : Bool) : List Nat := if neg then [45] else []
def sgI (neg : Bool) (u : Nat) : Int := if neg then 0 - (u : Int) else (u : Int)
def encO : Option Rat → PyData
  | none => .none
  | some q => encR q
abbrev val (l : List Nat) : Nat := NumText.digitsVal l
theorem val_lt {l : List Nat} (h : NumText.AllDigits l) : val l < 10 ^ l.length := by
  have key : ∀ (l : List Nat) (a : Nat), NumText.AllDigits l → l.foldl (fun acc c => acc * 10 + (c - 48)) a < (a + 1) * 10 ^ l.length := by
    intro l
    induction l with
    | nil => intro a _; simp
    | cons c l ih =>
      intro a h
      have hc := h.head
      have := ih (a * 10 + (c - 48)) h.tail
      rw [List.foldl_cons, List.length_cons, Nat.pow_succ]
      refine Nat.lt_of_lt_of_le this ?_
      rw [Nat.mul_comm (10 ^ l.length) 10, ← Nat.mul_assoc]
      exact Nat.mul_le_mul_right _ (by omega)
  have := key l 0 h
  show l.foldl (fun acc c => acc * 10 + (c - 48)) 0 < _
  simpa using this
theorem val_bd {l : List Nat} (h : plainL l = true) (hl : l.length ≤ 500) : val l < 2 ^ 1900 := by
  have h1 := val_lt (plainL_all h).1
  have h2 : 10 ^ l.length ≤ 10 ^ 500 := Nat.pow_le_pow_right (by decide) hl
  have h3 : (10 : Nat) ^ 500 < 2 ^ 1900 := by decide +kernel
  omega
theorem cat_uniq {s : Nat} : ∀ {a c b d : List Nat}, s ∉ a → s ∉ c → a ++ s :: b = c ++ s :: d → a = c ∧ b = d
  | [], [], b, d, _, _, h => ⟨rfl, (List.cons.inj h).2⟩
  | [], x :: c, b, d, _, hc, h => absurd (List.mem_cons.mpr (.inl (List.cons.inj h).1)) hc
  | x :: a, [], b, d, ha, _, h => absurd (List.mem_cons.mpr (.inl (List.cons.inj h).1.symm)) ha
  | x :: a, y :: c, b, d, ha, hc, h => by
    obtain ⟨h1, h2⟩ := List.cons.inj h
    obtain ⟨h3, h4⟩ := cat_uniq (fun z => ha (List.mem_cons_of_mem _ z)) (fun z => hc (List.mem_cons_of_mem _ z)) h2
    exact ⟨by rw [h1, h3], h4⟩
theorem plain_no {l : List Nat} (h : plainL l = true) {s : Nat} (hs : s < 48 ∨ 57 < s) : s ∉ l := fun z => by
  have := (plainL_all h).1 s z
  omega
theorem intL_inv {i : Int} {neg : Bool} {p : List Nat} (hp : plainL p = true) (h : intL i = sgL neg ++ p) : i = sgI neg (val p) ∧ ¬ (neg = true ∧ val p = 0) := by
  unfold intL at h
  by_cases hi : i < 0
  · rw [if_pos hi] at h
    cases neg with
    | false =>
      have h : 45 :: TL.numL i.natAbs = p := h
      exact absurd (h ▸ List.mem_cons_self ..) (plain_no hp (s := 45) (by omega))
    | true =>
      have h : 45 :: TL.numL i.natAbs = 45 :: p := h
      have h2 := (List.cons.inj h).2
      have : val p = i.natAbs := by rw [← h2]; exact TL.numL_val _
      refine ⟨?_, ?_⟩
      · show i = 0 - ((val p : Nat) : Int)
        omega
      · rintro ⟨_, z⟩; omega
  · rw [if_neg hi] at h
    cases neg with
    | true =>
      have h : TL.numL i.natAbs = 45 :: p := h
      exact absurd (h ▸ List.mem_cons_self ..) (TL.numL_free (n := i.natAbs) (s := 45) (by omega))
    | false =>
      have h : TL.numL i.natAbs = p := h
      have : val p = i.natAbs := by rw [← h]; exact TL.numL_val _
      refine ⟨?_, fun z => by cases z.1⟩
      show i = ((val p : Nat) : Int)
      omega
theorem intL_of {neg : Bool} {p : List Nat} (hp : plainL p = true) (h : ¬ (neg = true ∧ val p = 0)) : intL (sgI neg (val p)) = sgL neg ++ p := by
  have hb := plain_back hp
  cases neg with
  | false =>
    show intL ((val p : Nat) : Int) = p
    rw [intL_nn]; exact hb
  | true =>
    have hv : val p ≠ 0 := fun z => h ⟨rfl, z⟩
    show intL (0 - ((val p : Nat) : Int)) = 45 :: p
    unfold intL
    rw [if_pos (by omega), show (0 - ((val p : Nat) : Int)).natAbs = val p from by omega, hb]
theorem rat_eq {x : Rat} {n : Int} {d : Nat} (h1 : x.num = n) (h2 : x.den = d) : x = Rat.divInt n (d : Int) := by
  rw [← h1, ← h2]
  exact (Rat.num_divInt_den x).symm
theorem partL_two {x : Rat} {neg : Bool} {p q : List Nat} (hp : plainL p = true) (hq : plainL q = true) (h : partL x = sgL neg ++ (p ++ 47 :: q)) :
    x.num = sgI neg (val p) ∧ x.den = val q ∧ val q ≠ 1 ∧ ¬ (neg = true ∧ val p = 0) := by
  unfold partL at h
  have h47 : 47 ∉ sgL neg ++ p := fun z => by
    rcases List.mem_append.mp z with z | z
    · cases neg <;> simp [sgL] at z
    · exact plain_no hp (by omega) z
  rw [← List.append_assoc] at h
  by_cases hd : x.den = 1
  · rw [if_pos hd, List.append_nil] at h
    have : 47 ∈ intL x.num := by rw [h]; simp
    exact absurd this (intL_no (by omega) (by omega))
  · rw [if_neg hd] at h
    obtain ⟨h1, h2⟩ := cat_uniq (intL_no (by omega) (by omega)) h47 h
    obtain ⟨h3, h4⟩ := intL_inv hp h1
    have h5 : x.den = val q := by rw [← h2]; exact (TL.numL_val _).symm
    exact ⟨h3, h5, by rw [← h5]; exact hd, h4⟩
theorem partL_one {x : Rat} {neg : Bool} {p : List Nat} (hp : plainL p = true) (h : partL x = sgL neg ++ p) : x.num = sgI neg (val p) ∧ x.den = 1 ∧ ¬ (neg = true ∧ val p = 0) := by
  unfold partL at h
  have h47 : 47 ∉ sgL neg ++ p := fun z => by
    rcases List.mem_append.mp z with z | z
    · cases neg <;> simp [sgL] at z
    · exact plain_no hp (by omega) z
  by_cases hd : x.den = 1
  · rw [if_pos hd, List.append_nil] at h
    obtain ⟨h3, h4⟩ := intL_inv hp h
    exact ⟨h3, hd, h4⟩
  · rw [if_neg hd] at h
    exact absurd (by rw [← h]; simp) h47
theorem divInt_nd {n : Int} {d : Nat} (hd : d ≠ 0) (h : Int.gcd n (d : Int) = 1) : (Rat.divInt n (d : Int)).num = n ∧ (Rat.divInt n (d : Int)).den = d := by
  have h1 := part_num (u := n) (l := (d : Int)) (by omega)
  have h2 := part_den (u := n) (l := (d : Int)) (by omega)
  rw [if_neg (by omega), h] at h1 h2
  constructor
  · rw [← h1]; simp
  · have : ((Rat.divInt n (d : Int)).den : Int) = (d : Int) := by rw [← h2]; simp
    omega
theorem gcd_nd (x : Rat) : Int.gcd x.num (x.den : Int) = 1 := by
  have := x.reduced
  exact this
theorem divInt_le {n : Int} {d : Nat} (hd : d ≠ 0) : (Rat.divInt n (d : Int)).num.natAbs ≤ n.natAbs ∧ (Rat.divInt n (d : Int)).den ≤ d := by
  have h1 := part_num (u := n) (l := (d : Int)) (by omega)
  have h2 := part_den (u := n) (l := (d : Int)) (by omega)
  rw [if_neg (by omega)] at h1 h2
  have g1 : ((Int.gcd n (d : Int) : Nat) : Int) ∣ n := Int.gcd_dvd_left ..
  have g2 : ((Int.gcd n (d : Int) : Nat) : Int) ∣ (d : Int) := Int.gcd_dvd_right ..
  have gp : 0 < Int.gcd n (d : Int) := Int.gcd_pos_of_ne_zero_right _ (by omega)
  obtain ⟨a, ha⟩ := g1
  obtain ⟨b, hb⟩ := g2
  generalize Int.gcd n (d : Int) = g at *
  have e1 : (Rat.divInt n (d : Int)).num = a := by
    rw [← h1, ha]
    exact Int.mul_fdiv_cancel_left _ (by omega)
  have e2 : ((Rat.divInt n (d : Int)).den : Int) = b := by
    rw [← h2, hb]
    exact Int.mul_fdiv_cancel_left _ (by omega)
  constructor
  · rw [e1, ha, Int.natAbs_mul]
    exact Nat.le_mul_of_pos_left _ (by simpa using gp)
  · have hb' : (d : Int) = (g : Int) * b := hb
    have : ((Rat.divInt n (d : Int)).den : Int) ≤ (d : Int) := by
      rw [e2, hb']
      have hb0 : 0 ≤ b := by rw [← e2]; omega
      calc b = 1 * b := by omega
        _ ≤ (g : Int) * b := Int.mul_le_mul_of_nonneg_right (by omega) hb0
    omega
theorem sgI_abs (neg : Bool) (u : Nat) : (sgI neg u).natAbs = u := by cases neg <;> simp [sgI]
theorem partL_len {q : Rat} (hn : q.num.natAbs < 10 ^ 500) (hd : q.den < 10 ^ 500) : (partL q).length ≤ 1002 := by
  have h1 := intL_len (i := q.num) (k := 500) (by decide) hn
  have h2 := TL.numL_len (n := q.den) (k := 500) (by decide) hd
  unfold partL
  rw [List.length_append]
  split
  · simp only [List.length_nil]; omega
  · rw [List.length_cons]; omega
theorem sg_take {neg : Bool} {b : List Nat} (h : neg = false → b.head? ≠ some 45) : decide ((sgL neg ++ b).take 1 = [45]) = neg := by
  cases neg with
  | true => exact decide_eq_true rfl
  | false =>
    refine decide_eq_false fun z => h rfl ?_
    cases b with
    | nil => cases z
    | cons c r =>
      have z : [c] = [45] := z
      rw [List.cons.inj z |>.1]
      rfl
theorem sg_body {neg : Bool} {b : List Nat} : decide (b = sgL neg ++ b) = !neg := by
  cases neg with
  | false => exact decide_eq_true rfl
  | true =>
    refine decide_eq_false fun z => ?_
    have := congrArg List.length z
    simp [sgL] at this
theorem tl_s : TL.tl ("/" : Str) = 47 :: [] := by kernel_rfl
theorem part_two {p q : List Nat} (h : 47 ∉ p) : Txt.partition (tS (p ++ 47 :: q)) ("/" : Str) = (tS p, ("/" : Str), tS q) := by
  have := TL.partition_app tl_s (a := tS p) (b := tS q) h
  rw [← this]
  congr 1
  rw [lit_s, SX.S_cat, SX.S_cat, List.append_assoc]
  rfl
theorem part_one {p : List Nat} (h : 47 ∉ p) : Txt.partition (tS p) ("/" : Str) = (tS p, Str.empty, Str.empty) := TL.partition_none tl_s (a := tS p) h
theorem spl_two {p q : List Nat} (h : 47 ∉ p) (h2 : 47 ∉ q) : Txt.split (tS (p ++ 47 :: q)) ("/" : Str) = [tS p, tS q] := by
  rw [lit_s]
  refine (SX.split_S (a := p ++ 47 :: q) (b := [47]) (by simp) (by decide)).trans ?_
  have e : p ++ 47 :: q = p ++ (47 :: [] ++ q) := rfl
  rw [e, TL.spl_part1 h, TL.spl_last1 h2]
  rfl
theorem spl_one {p : List Nat} (h : 47 ∉ p) : Txt.split (tS p) ("/" : Str) = [tS p] := by
  rw [lit_s]
  refine (SX.split_S (a := p) (b := [47]) (by simp) (by decide)).trans ?_
  rw [TL.spl_last1 h]
  rfl
def read2 (neg : Bool) (p q : List Nat) : Option Rat := if plainL p = true ∧ plainL q = true ∧ val q ≠ 0 ∧ val q ≠ 1 ∧ ¬ (neg = true ∧ val p = 0) ∧ Int.gcd ((val p : Nat) : Int) ((val q : Nat) : Int) = 1 then some (Rat.divInt (sgI neg (val p)) ((val q : Nat) : Int)) else none
def read1 (neg : Bool) (p : List Nat) : Option Rat := if plainL p = true ∧ ¬ (neg = true ∧ val p = 0) then some (Rat.divInt (sgI neg (val p)) 1) else none
theorem gcd_sg {neg : Bool} {u d : Nat} : Int.gcd (sgI neg u) (d : Int) = Int.gcd (u : Int) (d : Int) := by
  unfold Int.gcd
  rw [sgI_abs]
  rfl
theorem part_test2 {neg : Bool} {p q : List Nat} (hp : plainL p = true) (hq : plainL q = true) (hd : val q ≠ 0) :
    decide (partL (Rat.divInt (sgI neg (val p)) ((val q : Nat) : Int)) = sgL neg ++ (p ++ 47 :: q)) = decide (val q ≠ 1 ∧ ¬ (neg = true ∧ val p = 0) ∧ Int.gcd ((val p : Nat) : Int) ((val q : Nat) : Int) = 1) := by
  rw [decide_eq_decide]
  constructor
  · intro h
    obtain ⟨h1, h2, h3, h4⟩ := partL_two hp hq h
    refine ⟨h3, h4, ?_⟩
    have := gcd_nd (Rat.divInt (sgI neg (val p)) ((val q : Nat) : Int))
    rw [h1, h2, gcd_sg] at this
    exact this
  · rintro ⟨h1, h2, h3⟩
    obtain ⟨e1, e2⟩ := divInt_nd (n := sgI neg (val p)) hd (by rw [gcd_sg]; exact h3)
    unfold partL
    rw [e1, e2, if_neg h1, intL_of hp h2, List.append_assoc]
    show _ ++ (_ ++ 47 :: TL.numL (val q)) = _
    rw [plain_back hq]
theorem part_test1 {neg : Bool} {p : List Nat} (hp : plainL p = true) : decide (partL (Rat.divInt (sgI neg (val p)) 1) = sgL neg ++ p) = !decide (neg = true ∧ val p = 0) := by
  have e0 := divInt_nd (n := sgI neg (val p)) (d := 1) (by decide) (Int.gcd_one_right _)
  obtain ⟨e1, e2⟩ := e0
  have e1 : (Rat.divInt (sgI neg (val p)) 1).num = sgI neg (val p) := e1
  have e2 : (Rat.divInt (sgI neg (val p)) 1).den = 1 := e2
  by_cases h : neg = true ∧ val p = 0
  · rw [decide_eq_true h]
    refine decide_eq_false fun z => ?_
    exact (partL_one hp z).2.2 h
  · rw [decide_eq_false h]
    refine decide_eq_true ?_
    unfold partL
    rw [e1, e2, if_pos rfl, List.append_nil, intL_of hp h]
theorem z_part_in2 {neg : Bool} {p q : List Nat} (ha : Asc (sgL neg ++ (p ++ 47 :: q))) (hl : p.length + q.length ≤ 490) (h47 : 47 ∉ p) (h45 : neg = false → (p ++ 47 :: q).head? ≠ some 45) :
    d_part_in [.str (tS (sgL neg ++ (p ++ 47 :: q)))] = .ok (encO (read2 neg p q)) := by
  have hb : Asc (p ++ 47 :: q) := fun c hc => ha c (List.mem_append_right _ hc)
  have hpa : Asc p := fun c hc => hb c (List.mem_append_left _ hc)
  have hqa : Asc q := fun c hc => hb c (List.mem_append_right _ (List.mem_cons_of_mem _ hc))
  have hlen : (p ++ 47 :: q).length ≤ 491 := by rw [List.length_append, List.length_cons]; omega
  have hlen2 : (sgL neg ++ (p ++ 47 :: q)).length ≤ 492 := by rw [List.length_append]; cases neg <;> simp only [sgL] <;> first | (simp only [if_true, List.length_singleton]; omega) | (simp; omega)
  have s1 := zSlS_a (z := tS (sgL neg ++ (p ++ 47 :: q))) (lo := none) (hi := some 1) (by rw [len_t]; omega)
  rw [cut_t1] at s1
  have t1 : zEq (.str (tS ((sgL neg ++ (p ++ 47 :: q)).take 1))) (.str "-") = some (.bool neg) := by
    have := zEq_t (ha.take 1) (Asc.one (c := 45) (by decide))
    rw [sg_take h45] at this
    exact this
  have t2 : zEq (.str (tS (p ++ 47 :: q))) (.str (tS (sgL neg ++ (p ++ 47 :: q)))) = some (.bool (!neg)) := by rw [zEq_t hb ha, sg_body]
  have pt := zPart_a (a := tS (p ++ 47 :: q)) (b := "/") ⟨by kernel_rfl, by rw [len_t]; omega⟩
  rw [part_two h47] at pt
  have ns : zNe (.str "/") (.str "") = some (.bool true) := by kernel_rfl
  have n1 := z_number_in hpa (by omega)
  have n2 := z_number_in hqa (by omega)
  have bodyV : xIf (yV (xOp zEq (xSl zSlS (xV 0) oNo (oAt (xC (.int 1)))) (xC (.str "-")))) (xSl zSlS (xV 0) (oAt (xC (.int 1))) oNo) (xV 0) [.dat (.str (tS (sgL neg ++ (p ++ 47 :: q)))), .no, .no, .no, .no, .no, .no] = .ok (.str (tS (p ++ 47 :: q))) := by
    cases neg with
    | false => simp only [zR0, zR1, zR2, zR3, zR4, zR5, zR6, zR7, zR8, zR9, zR10, zR11, zR12, slotsM, kFor_a, Rz.bind_ok, Rz.of_some, Rz.calm_ok, Option.bind_some, Option.bind_none, slots, sel, Arg.get, List.filterMap_cons, List.filterMap_nil, List.length_cons, List.length_nil, List.map_cons, List.map_nil, List.cons_append, List.nil_append, List.append_nil, List.getElem?_cons_succ, List.getElem?_cons_zero, List.getElem?_nil, List.set_cons_zero, List.set_cons_succ, List.set_nil, List.replicate_succ, List.replicate_zero, if_true, Nat.sub_self, Nat.reduceAdd, Nat.reduceSub, Nat.reduceLeDiff, Nat.reduceEqDiff, Nat.reduceLT, Int.reduceLT, Int.reduceLE, Int.reduceNeg, Int.reduceEq, Nat.zero_add, and_self, if_false, Bool.not_true, Bool.not_false, Bool.false_eq_true, Nat.zero_le, decide_true, decide_false, reduceCtorEq, s1, t1]; rfl
    | true =>
      have s2 := zSlS_a (z := tS (sgL true ++ (p ++ 47 :: q))) (lo := some 1) (hi := none) (by rw [len_t]; omega)
      rw [cut_td1 (by simp [sgL])] at s2
      simp only [zR0, zR1, zR2, zR3, zR4, zR5, zR6, zR7, zR8, zR9, zR10, zR11, zR12, slotsM, kFor_a, Rz.bind_ok, Rz.of_some, Rz.calm_ok, Option.bind_some, Option.bind_none, slots, sel, Arg.get, List.filterMap_cons, List.filterMap_nil, List.length_cons, List.length_nil, List.map_cons, List.map_nil, List.cons_append, List.nil_append, List.append_nil, List.getElem?_cons_succ, List.getElem?_cons_zero, List.getElem?_nil, List.set_cons_zero, List.set_cons_succ, List.set_nil, List.replicate_succ, List.replicate_zero, if_true, Nat.sub_self, Nat.reduceAdd, Nat.reduceSub, Nat.reduceLeDiff, Nat.reduceEqDiff, Nat.reduceLT, Int.reduceLT, Int.reduceLE, Int.reduceNeg, Int.reduceEq, Nat.zero_add, and_self, if_false, Bool.not_true, Bool.not_false, Bool.false_eq_true, Nat.zero_le, decide_true, decide_false, reduceCtorEq, s1, t1, s2]
      rfl
  have go : ∀ {r : PyData}, (∀ v1 v2 : PyData, m_part_in = m_part_in) → m_part_in [.dat (.str (tS (sgL neg ++ (p ++ 47 :: q)))), .no, .no, .no, .no, .no, .no] = .rt r → d_part_in [.str (tS (sgL neg ++ (p ++ 47 :: q)))] = .ok r := fun {r} _ h => by
    unfold d_part_in
    rw [fnD_a, if_pos (by rfl)]
    show (match m_part_in [.dat (.str (tS (sgL neg ++ (p ++ 47 :: q)))), .no, .no, .no, .no, .no, .no] with | .rt d => Rz.ok d | .nx _ => .ok .none | .ex x _ => .ex x | _ => .bad) = _
    rw [h]
  refine go (fun _ _ => rfl) ?_
  unfold m_part_in
  refine seq_step (ρ' := [.dat (.str (tS (sgL neg ++ (p ++ 47 :: q)))), .dat (.str (tS (p ++ 47 :: q))), .no, .no, .no, .no, .no]) (by rw [kAsg_a, kE_a, bodyV]; rfl) ?_
  refine seq_step (ρ' := [.dat (.str (tS (sgL neg ++ (p ++ 47 :: q)))), .dat (.str (tS (p ++ 47 :: q))), .dat (.str (tS p)), .dat (.str "/"), .dat (.str (tS q)), .no, .no]) (by simp only [zR0, zR1, zR2, zR3, zR4, zR5, zR6, zR7, zR8, zR9, zR10, zR11, zR12, slotsM, kFor_a, Rz.bind_ok, Rz.of_some, Rz.calm_ok, Option.bind_some, Option.bind_none, slots, sel, Arg.get, List.filterMap_cons, List.filterMap_nil, List.length_cons, List.length_nil, List.map_cons, List.map_nil, List.cons_append, List.nil_append, List.append_nil, List.getElem?_cons_succ, List.getElem?_cons_zero, List.getElem?_nil, List.set_cons_zero, List.set_cons_succ, List.set_nil, List.replicate_succ, List.replicate_zero, if_true, Nat.sub_self, Nat.reduceAdd, Nat.reduceSub, Nat.reduceLeDiff, Nat.reduceEqDiff, Nat.reduceLT, Int.reduceLT, Int.reduceLE, Int.reduceNeg, Int.reduceEq, Nat.zero_add, and_self, if_false, Bool.not_true, Bool.not_false, Bool.false_eq_true, Nat.zero_le, decide_true, decide_false, reduceCtorEq, pt]) ?_
  clear bodyV go
  unfold read2
  generalize hL : sgL neg ++ (p ++ 47 :: q) = L at *
  generalize hB : p ++ 47 :: q = B at *
  cases hp : plainL p with
  | false =>
    rw [hp] at n1
    have z1 : zIn .none (.tuple [.none, if plainL q = true then .int ((val q : Nat) : Int) else .none]) = some (.bool true) := by cases plainL q <;> rfl
    rw [if_neg (fun z => by cases z.1)]
    simp only [zR0, zR1, zR2, zR3, zR4, zR5, zR6, zR7, zR8, zR9, zR10, zR11, zR12, slotsM, kFor_a, Rz.bind_ok, Rz.of_some, Rz.calm_ok, Option.bind_some, Option.bind_none, slots, sel, Arg.get, List.filterMap_cons, List.filterMap_nil, List.length_cons, List.length_nil, List.map_cons, List.map_nil, List.cons_append, List.nil_append, List.append_nil, List.getElem?_cons_succ, List.getElem?_cons_zero, List.getElem?_nil, List.set_cons_zero, List.set_cons_succ, List.set_nil, List.replicate_succ, List.replicate_zero, if_true, Nat.sub_self, Nat.reduceAdd, Nat.reduceSub, Nat.reduceLeDiff, Nat.reduceEqDiff, Nat.reduceLT, Int.reduceLT, Int.reduceLE, Int.reduceNeg, Int.reduceEq, Nat.zero_add, and_self, if_false, Bool.not_true, Bool.not_false, Bool.false_eq_true, Nat.zero_le, decide_true, decide_false, reduceCtorEq, ns, n1, n2, z1, encO]
  | true =>
    cases hq : plainL q with
    | false =>
      rw [hp] at n1
      rw [hq] at n2
      have z1 : zIn .none (.tuple [.int ((val p : Nat) : Int), .none]) = some (.bool true) := rfl
      rw [if_neg (fun z => by cases z.2.1)]
      simp only [zR0, zR1, zR2, zR3, zR4, zR5, zR6, zR7, zR8, zR9, zR10, zR11, zR12, slotsM, kFor_a, Rz.bind_ok, Rz.of_some, Rz.calm_ok, Option.bind_some, Option.bind_none, slots, sel, Arg.get, List.filterMap_cons, List.filterMap_nil, List.length_cons, List.length_nil, List.map_cons, List.map_nil, List.cons_append, List.nil_append, List.append_nil, List.getElem?_cons_succ, List.getElem?_cons_zero, List.getElem?_nil, List.set_cons_zero, List.set_cons_succ, List.set_nil, List.replicate_succ, List.replicate_zero, if_true, Nat.sub_self, Nat.reduceAdd, Nat.reduceSub, Nat.reduceLeDiff, Nat.reduceEqDiff, Nat.reduceLT, Int.reduceLT, Int.reduceLE, Int.reduceNeg, Int.reduceEq, Nat.zero_add, and_self, if_false, Bool.not_true, Bool.not_false, Bool.false_eq_true, Nat.zero_le, decide_true, decide_false, reduceCtorEq, ns, n1, n2, z1, encO]
    | true =>
      rw [hp] at n1
      rw [hq] at n2
      have z1 : zIn .none (.tuple [.int ((val p : Nat) : Int), .int ((val q : Nat) : Int)]) = some (.bool false) := rfl
      have i1 : zIx (.tuple [.int ((val p : Nat) : Int), .int ((val q : Nat) : Int)]) (.int 1) = some (.int ((val q : Nat) : Int)) := rfl
      have i0 : zIx (.tuple [.int ((val p : Nat) : Int), .int ((val q : Nat) : Int)]) (.int 0) = some (.int ((val p : Nat) : Int)) := rfl
      by_cases hd : val q = 0
      · have c0 : decide (((val q : Nat) : Int) = 0) = true := decide_eq_true (by omega)
        rw [if_neg (fun z => z.2.2.1 hd)]
        simp only [zR0, zR1, zR2, zR3, zR4, zR5, zR6, zR7, zR8, zR9, zR10, zR11, zR12, slotsM, kFor_a, Rz.bind_ok, Rz.of_some, Rz.calm_ok, Option.bind_some, Option.bind_none, slots, sel, Arg.get, List.filterMap_cons, List.filterMap_nil, List.length_cons, List.length_nil, List.map_cons, List.map_nil, List.cons_append, List.nil_append, List.append_nil, List.getElem?_cons_succ, List.getElem?_cons_zero, List.getElem?_nil, List.set_cons_zero, List.set_cons_succ, List.set_nil, List.replicate_succ, List.replicate_zero, if_true, Nat.sub_self, Nat.reduceAdd, Nat.reduceSub, Nat.reduceLeDiff, Nat.reduceEqDiff, Nat.reduceLT, Int.reduceLT, Int.reduceLE, Int.reduceNeg, Int.reduceEq, Nat.zero_add, and_self, if_false, Bool.not_true, Bool.not_false, Bool.false_eq_true, Nat.zero_le, decide_true, decide_false, reduceCtorEq, ns, n1, n2, z1, i1, c0, encO]
      · have c0 : decide (((val q : Nat) : Int) = 0) = false := decide_eq_false (by omega)
        have up : xIf (yV (xOp zEq (xV 1) (xV 0))) (xOp zIx (xV 5) (xC (.int 0))) (xOp zSub (xC (.int 0)) (xOp zIx (xV 5) (xC (.int 0)))) [.dat (.str (tS L)), .dat (.str (tS B)), .dat (.str (tS p)), .dat (.str "/"), .dat (.str (tS q)), .dat (.tuple [.int ((val p : Nat) : Int), .int ((val q : Nat) : Int)]), .no] = .ok (.int (sgI neg (val p))) := by
          cases neg with
          | false => simp only [zR0, zR1, zR2, zR3, zR4, zR5, zR6, zR7, zR8, zR9, zR10, zR11, zR12, slotsM, kFor_a, Rz.bind_ok, Rz.of_some, Rz.calm_ok, Option.bind_some, Option.bind_none, slots, sel, Arg.get, List.filterMap_cons, List.filterMap_nil, List.length_cons, List.length_nil, List.map_cons, List.map_nil, List.cons_append, List.nil_append, List.append_nil, List.getElem?_cons_succ, List.getElem?_cons_zero, List.getElem?_nil, List.set_cons_zero, List.set_cons_succ, List.set_nil, List.replicate_succ, List.replicate_zero, if_true, Nat.sub_self, Nat.reduceAdd, Nat.reduceSub, Nat.reduceLeDiff, Nat.reduceEqDiff, Nat.reduceLT, Int.reduceLT, Int.reduceLE, Int.reduceNeg, Int.reduceEq, Nat.zero_add, and_self, if_false, Bool.not_true, Bool.not_false, Bool.false_eq_true, Nat.zero_le, decide_true, decide_false, reduceCtorEq, t2, i0]; rfl
          | true => simp only [zR0, zR1, zR2, zR3, zR4, zR5, zR6, zR7, zR8, zR9, zR10, zR11, zR12, slotsM, kFor_a, Rz.bind_ok, Rz.of_some, Rz.calm_ok, Option.bind_some, Option.bind_none, slots, sel, Arg.get, List.filterMap_cons, List.filterMap_nil, List.length_cons, List.length_nil, List.map_cons, List.map_nil, List.cons_append, List.nil_append, List.append_nil, List.getElem?_cons_succ, List.getElem?_cons_zero, List.getElem?_nil, List.set_cons_zero, List.set_cons_succ, List.set_nil, List.replicate_succ, List.replicate_zero, if_true, Nat.sub_self, Nat.reduceAdd, Nat.reduceSub, Nat.reduceLeDiff, Nat.reduceEqDiff, Nat.reduceLT, Int.reduceLT, Int.reduceLE, Int.reduceNeg, Int.reduceEq, Nat.zero_add, and_self, if_false, Bool.not_true, Bool.not_false, Bool.false_eq_true, Nat.zero_le, decide_true, decide_false, reduceCtorEq, t2, i0]; rfl
        have pp := z_part (u := sgI neg (val p)) (l := ((val q : Nat) : Int)) (by omega)
        have bd := divInt_le (n := sgI neg (val p)) hd
        rw [sgI_abs] at bd
        have b1 := val_bd hp (by omega)
        have b2 := val_bd hq (by omega)
        have v1 := val_lt (plainL_all hp).1
        have v2 := val_lt (plainL_all hq).1
        have w1 : 10 ^ p.length ≤ 10 ^ 500 := Nat.pow_le_pow_right (by decide) (by omega)
        have w2 : 10 ^ q.length ≤ 10 ^ 500 := Nat.pow_le_pow_right (by decide) (by omega)
        have ptx := z_part_text (q := Rat.divInt (sgI neg (val p)) ((val q : Nat) : Int)) (by omega) (by omega) (by have := partL_len (q := Rat.divInt (sgI neg (val p)) ((val q : Nat) : Int)) (by omega) (by omega); omega)
        have te : zEq (.str (tS (partL (Rat.divInt (sgI neg (val p)) ((val q : Nat) : Int))))) (.str (tS L)) = some (.bool (decide (val q ≠ 1 ∧ ¬ (neg = true ∧ val p = 0) ∧ Int.gcd ((val p : Nat) : Int) ((val q : Nat) : Int) = 1))) := by
          rw [zEq_t (Asc.part _) ha, ← part_test2 hp hq hd, hB, hL]
        refine seq_step (ρ' := [.dat (.str (tS L)), .dat (.str (tS B)), .dat (.str (tS p)), .dat (.str "/"), .dat (.str (tS q)), .dat (.tuple [.int ((val p : Nat) : Int), .int ((val q : Nat) : Int)]), .no]) (by simp only [zR0, zR1, zR2, zR3, zR4, zR5, zR6, zR7, zR8, zR9, zR10, zR11, zR12, slotsM, kFor_a, Rz.bind_ok, Rz.of_some, Rz.calm_ok, Option.bind_some, Option.bind_none, slots, sel, Arg.get, List.filterMap_cons, List.filterMap_nil, List.length_cons, List.length_nil, List.map_cons, List.map_nil, List.cons_append, List.nil_append, List.append_nil, List.getElem?_cons_succ, List.getElem?_cons_zero, List.getElem?_nil, List.set_cons_zero, List.set_cons_succ, List.set_nil, List.replicate_succ, List.replicate_zero, if_true, Nat.sub_self, Nat.reduceAdd, Nat.reduceSub, Nat.reduceLeDiff, Nat.reduceEqDiff, Nat.reduceLT, Int.reduceLT, Int.reduceLE, Int.reduceNeg, Int.reduceEq, Nat.zero_add, and_self, if_false, Bool.not_true, Bool.not_false, Bool.false_eq_true, Nat.zero_le, decide_true, decide_false, reduceCtorEq, ns, n1, n2]) ?_
        refine seq_step (ρ' := [.dat (.str (tS L)), .dat (.str (tS B)), .dat (.str (tS p)), .dat (.str "/"), .dat (.str (tS q)), .dat (.tuple [.int ((val p : Nat) : Int), .int ((val q : Nat) : Int)]), .no]) (by simp only [zR0, zR1, zR2, zR3, zR4, zR5, zR6, zR7, zR8, zR9, zR10, zR11, zR12, slotsM, kFor_a, Rz.bind_ok, Rz.of_some, Rz.calm_ok, Option.bind_some, Option.bind_none, slots, sel, Arg.get, List.filterMap_cons, List.filterMap_nil, List.length_cons, List.length_nil, List.map_cons, List.map_nil, List.cons_append, List.nil_append, List.append_nil, List.getElem?_cons_succ, List.getElem?_cons_zero, List.getElem?_nil, List.set_cons_zero, List.set_cons_succ, List.set_nil, List.replicate_succ, List.replicate_zero, if_true, Nat.sub_self, Nat.reduceAdd, Nat.reduceSub, Nat.reduceLeDiff, Nat.reduceEqDiff, Nat.reduceLT, Int.reduceLT, Int.reduceLE, Int.reduceNeg, Int.reduceEq, Nat.zero_add, and_self, if_false, Bool.not_true, Bool.not_false, Bool.false_eq_true, Nat.zero_le, decide_true, decide_false, reduceCtorEq, z1, i1, c0]) ?_
        refine seq_step (ρ' := [.dat (.str (tS L)), .dat (.str (tS B)), .dat (.str (tS p)), .dat (.str "/"), .dat (.str (tS q)), .dat (.tuple [.int ((val p : Nat) : Int), .int ((val q : Nat) : Int)]), .dat (encR (Rat.divInt (sgI neg (val p)) ((val q : Nat) : Int)))]) ?_ ?_
        · rw [kAsg_a, kE_a, xF_a, zCons_a, up]
          simp only [zR0, zR1, zR2, zR3, zR4, zR5, zR6, zR7, zR8, zR9, zR10, zR11, zR12, slotsM, kFor_a, Rz.bind_ok, Rz.of_some, Rz.calm_ok, Option.bind_some, Option.bind_none, slots, sel, Arg.get, List.filterMap_cons, List.filterMap_nil, List.length_cons, List.length_nil, List.map_cons, List.map_nil, List.cons_append, List.nil_append, List.append_nil, List.getElem?_cons_succ, List.getElem?_cons_zero, List.getElem?_nil, List.set_cons_zero, List.set_cons_succ, List.set_nil, List.replicate_succ, List.replicate_zero, if_true, Nat.sub_self, Nat.reduceAdd, Nat.reduceSub, Nat.reduceLeDiff, Nat.reduceEqDiff, Nat.reduceLT, Int.reduceLT, Int.reduceLE, Int.reduceNeg, Int.reduceEq, Nat.zero_add, and_self, if_false, Bool.not_true, Bool.not_false, Bool.false_eq_true, Nat.zero_le, decide_true, decide_false, reduceCtorEq, i1, pp]
        by_cases hc : val q ≠ 1 ∧ ¬ (neg = true ∧ val p = 0) ∧ Int.gcd ((val p : Nat) : Int) ((val q : Nat) : Int) = 1
        · rw [decide_eq_true hc] at te
          rw [if_pos ⟨rfl, rfl, hd, hc⟩]
          simp only [zR0, zR1, zR2, zR3, zR4, zR5, zR6, zR7, zR8, zR9, zR10, zR11, zR12, slotsM, kFor_a, Rz.bind_ok, Rz.of_some, Rz.calm_ok, Option.bind_some, Option.bind_none, slots, sel, Arg.get, List.filterMap_cons, List.filterMap_nil, List.length_cons, List.length_nil, List.map_cons, List.map_nil, List.cons_append, List.nil_append, List.append_nil, List.getElem?_cons_succ, List.getElem?_cons_zero, List.getElem?_nil, List.set_cons_zero, List.set_cons_succ, List.set_nil, List.replicate_succ, List.replicate_zero, if_true, Nat.sub_self, Nat.reduceAdd, Nat.reduceSub, Nat.reduceLeDiff, Nat.reduceEqDiff, Nat.reduceLT, Int.reduceLT, Int.reduceLE, Int.reduceNeg, Int.reduceEq, Nat.zero_add, and_self, if_false, Bool.not_true, Bool.not_false, Bool.false_eq_true, Nat.zero_le, decide_true, decide_false, reduceCtorEq, ptx, te, encO]
        · rw [decide_eq_false hc] at te
          rw [if_neg (fun z => hc z.2.2.2)]
          simp only [zR0, zR1, zR2, zR3, zR4, zR5, zR6, zR7, zR8, zR9, zR10, zR11, zR12, slotsM, kFor_a, Rz.bind_ok, Rz.of_some, Rz.calm_ok, Option.bind_some, Option.bind_none, slots, sel, Arg.get, List.filterMap_cons, List.filterMap_nil, List.length_cons, List.length_nil, List.map_cons, List.map_nil, List.cons_append, List.nil_append, List.append_nil, List.getElem?_cons_succ, List.getElem?_cons_zero, List.getElem?_nil, List.set_cons_zero, List.set_cons_succ, List.set_nil, List.replicate_succ, List.replicate_zero, if_true, Nat.sub_self, Nat.reduceAdd, Nat.reduceSub, Nat.reduceLeDiff, Nat.reduceEqDiff, Nat.reduceLT, Int.reduceLT, Int.reduceLE, Int.reduceNeg, Int.reduceEq, Nat.zero_add, and_self, if_false, Bool.not_true, Bool.not_false, Bool.false_eq_true, Nat.zero_le, decide_true, decide_false, reduceCtorEq, ptx, te, encO]
theorem spl_ne (l : List Nat) : ∀ acc, TL.spl [47] 0 acc l ≠ [] := by
  induction l with
  | nil => intro acc; rw [TL.spl_nil]; simp
  | cons c l ih =>
    intro acc
    cases h : TL.pre [47] (c :: l) with
    | true => rw [TL.spl_hit h]; simp
    | false => rw [TL.spl_miss h]; exact ih _
theorem spl_three {p q : List Nat} (h : 47 ∉ p) (h2 : 47 ∈ q) : 3 ≤ (Txt.split (tS (p ++ 47 :: q)) ("/" : Str)).length := by
  obtain ⟨a, b, rfl, ha⟩ := List.eq_append_cons_of_mem h2
  rw [lit_s]
  have e := SX.split_S (a := p ++ 47 :: (a ++ 47 :: b)) (b := [47]) (by simp) (by decide)
  have e1 : p ++ 47 :: (a ++ 47 :: b) = p ++ (47 :: [] ++ (a ++ (47 :: [] ++ b))) := rfl
  have e2 := congrArg List.length e
  refine Nat.le_trans ?_ (Nat.le_of_eq e2.symm)
  rw [e1, TL.spl_part1 h, TL.spl_part1 ha, List.length_map, List.length_cons, List.length_cons]
  have := spl_ne b []
  cases hb : TL.spl [47] 0 [] b with
  | nil => exact absurd hb this
  | cons x y => simp
theorem z_part_in1 {neg : Bool} {p : List Nat} (ha : Asc (sgL neg ++ p)) (hl : p.length ≤ 490) (h47 : 47 ∉ p) (h45 : neg = false → p.head? ≠ some 45) :
    d_part_in [.str (tS (sgL neg ++ p))] = .ok (encO (read1 neg p)) := by
  have hb : Asc p := fun c hc => ha c (List.mem_append_right _ hc)
  have hlen2 : (sgL neg ++ p).length ≤ 492 := by rw [List.length_append]; cases neg <;> simp only [sgL] <;> first | (simp only [if_true, List.length_singleton]; omega) | (simp; omega)
  have s1 := zSlS_a (z := tS (sgL neg ++ p)) (lo := none) (hi := some 1) (by rw [len_t]; omega)
  rw [cut_t1] at s1
  have t1 : zEq (.str (tS ((sgL neg ++ p).take 1))) (.str "-") = some (.bool neg) := by
    have := zEq_t (ha.take 1) (Asc.one (c := 45) (by decide))
    rw [sg_take h45] at this
    exact this
  have t2 : zEq (.str (tS p)) (.str (tS (sgL neg ++ p))) = some (.bool (!neg)) := by rw [zEq_t hb ha, sg_body]
  have pt := zPart_a (a := tS p) (b := "/") ⟨by kernel_rfl, by rw [len_t]; omega⟩
  rw [part_one h47] at pt
  have ns : zNe (.str Str.empty) (.str "") = some (.bool false) := by kernel_rfl
  have n1 := z_number_in hb (by omega)
  have bodyV : xIf (yV (xOp zEq (xSl zSlS (xV 0) oNo (oAt (xC (.int 1)))) (xC (.str "-")))) (xSl zSlS (xV 0) (oAt (xC (.int 1))) oNo) (xV 0) [.dat (.str (tS (sgL neg ++ p))), .no, .no, .no, .no, .no, .no] = .ok (.str (tS p)) := by
    cases neg with
    | false => simp only [zR0, zR1, zR2, zR3, zR4, zR5, zR6, zR7, zR8, zR9, zR10, zR11, zR12, slotsM, kFor_a, Rz.bind_ok, Rz.of_some, Rz.calm_ok, Option.bind_some, Option.bind_none, slots, sel, Arg.get, List.filterMap_cons, List.filterMap_nil, List.length_cons, List.length_nil, List.map_cons, List.map_nil, List.cons_append, List.nil_append, List.append_nil, List.getElem?_cons_succ, List.getElem?_cons_zero, List.getElem?_nil, List.set_cons_zero, List.set_cons_succ, List.set_nil, List.replicate_succ, List.replicate_zero, if_true, Nat.sub_self, Nat.reduceAdd, Nat.reduceSub, Nat.reduceLeDiff, Nat.reduceEqDiff, Nat.reduceLT, Int.reduceLT, Int.reduceLE, Int.reduceNeg, Int.reduceEq, Nat.zero_add, and_self, if_false, Bool.not_true, Bool.not_false, Bool.false_eq_true, Nat.zero_le, decide_true, decide_false, reduceCtorEq, s1, t1]; rfl
    | true =>
      have s2 := zSlS_a (z := tS (sgL true ++ p)) (lo := some 1) (hi := none) (by rw [len_t]; omega)
      rw [cut_td1 (by simp [sgL])] at s2
      simp only [zR0, zR1, zR2, zR3, zR4, zR5, zR6, zR7, zR8, zR9, zR10, zR11, zR12, slotsM, kFor_a, Rz.bind_ok, Rz.of_some, Rz.calm_ok, Option.bind_some, Option.bind_none, slots, sel, Arg.get, List.filterMap_cons, List.filterMap_nil, List.length_cons, List.length_nil, List.map_cons, List.map_nil, List.cons_append, List.nil_append, List.append_nil, List.getElem?_cons_succ, List.getElem?_cons_zero, List.getElem?_nil, List.set_cons_zero, List.set_cons_succ, List.set_nil, List.replicate_succ, List.replicate_zero, if_true, Nat.sub_self, Nat.reduceAdd, Nat.reduceSub, Nat.reduceLeDiff, Nat.reduceEqDiff, Nat.reduceLT, Int.reduceLT, Int.reduceLE, Int.reduceNeg, Int.reduceEq, Nat.zero_add, and_self, if_false, Bool.not_true, Bool.not_false, Bool.false_eq_true, Nat.zero_le, decide_true, decide_false, reduceCtorEq, s1, t1, s2]
      rfl
  have go : ∀ {r : PyData}, m_part_in [.dat (.str (tS (sgL neg ++ p))), .no, .no, .no, .no, .no, .no] = .rt r → d_part_in [.str (tS (sgL neg ++ p))] = .ok r := fun {r} h => by
    unfold d_part_in
    rw [fnD_a, if_pos (by rfl)]
    show (match m_part_in [.dat (.str (tS (sgL neg ++ p))), .no, .no, .no, .no, .no, .no] with | .rt d => Rz.ok d | .nx _ => .ok .none | .ex x _ => .ex x | _ => .bad) = _
    rw [h]
  refine go ?_
  unfold m_part_in
  refine seq_step (ρ' := [.dat (.str (tS (sgL neg ++ p))), .dat (.str (tS p)), .no, .no, .no, .no, .no]) (by rw [kAsg_a, kE_a, bodyV]; rfl) ?_
  refine seq_step (ρ' := [.dat (.str (tS (sgL neg ++ p))), .dat (.str (tS p)), .dat (.str (tS p)), .dat (.str Str.empty), .dat (.str Str.empty), .no, .no]) (by simp only [zR0, zR1, zR2, zR3, zR4, zR5, zR6, zR7, zR8, zR9, zR10, zR11, zR12, slotsM, kFor_a, Rz.bind_ok, Rz.of_some, Rz.calm_ok, Option.bind_some, Option.bind_none, slots, sel, Arg.get, List.filterMap_cons, List.filterMap_nil, List.length_cons, List.length_nil, List.map_cons, List.map_nil, List.cons_append, List.nil_append, List.append_nil, List.getElem?_cons_succ, List.getElem?_cons_zero, List.getElem?_nil, List.set_cons_zero, List.set_cons_succ, List.set_nil, List.replicate_succ, List.replicate_zero, if_true, Nat.sub_self, Nat.reduceAdd, Nat.reduceSub, Nat.reduceLeDiff, Nat.reduceEqDiff, Nat.reduceLT, Int.reduceLT, Int.reduceLE, Int.reduceNeg, Int.reduceEq, Nat.zero_add, and_self, if_false, Bool.not_true, Bool.not_false, Bool.false_eq_true, Nat.zero_le, decide_true, decide_false, reduceCtorEq, pt]) ?_
  clear bodyV go
  unfold read1
  generalize hL : sgL neg ++ p = L at *
  cases hp : plainL p with
  | false =>
    rw [hp] at n1
    have z1 : zIn .none (.tuple [.none, .int 1]) = some (.bool true) := rfl
    rw [if_neg (fun z => by cases z.1)]
    simp only [zR0, zR1, zR2, zR3, zR4, zR5, zR6, zR7, zR8, zR9, zR10, zR11, zR12, slotsM, kFor_a, Rz.bind_ok, Rz.of_some, Rz.calm_ok, Option.bind_some, Option.bind_none, slots, sel, Arg.get, List.filterMap_cons, List.filterMap_nil, List.length_cons, List.length_nil, List.map_cons, List.map_nil, List.cons_append, List.nil_append, List.append_nil, List.getElem?_cons_succ, List.getElem?_cons_zero, List.getElem?_nil, List.set_cons_zero, List.set_cons_succ, List.set_nil, List.replicate_succ, List.replicate_zero, if_true, Nat.sub_self, Nat.reduceAdd, Nat.reduceSub, Nat.reduceLeDiff, Nat.reduceEqDiff, Nat.reduceLT, Int.reduceLT, Int.reduceLE, Int.reduceNeg, Int.reduceEq, Nat.zero_add, and_self, if_false, Bool.not_true, Bool.not_false, Bool.false_eq_true, Nat.zero_le, decide_true, decide_false, reduceCtorEq, ns, n1, z1, encO]
  | true =>
    rw [hp] at n1
    have z1 : zIn .none (.tuple [.int ((val p : Nat) : Int), .int 1]) = some (.bool false) := rfl
    have i1 : zIx (.tuple [.int ((val p : Nat) : Int), .int 1]) (.int 1) = some (.int 1) := rfl
    have i0 : zIx (.tuple [.int ((val p : Nat) : Int), .int 1]) (.int 0) = some (.int ((val p : Nat) : Int)) := rfl
    have up : xIf (yV (xOp zEq (xV 1) (xV 0))) (xOp zIx (xV 5) (xC (.int 0))) (xOp zSub (xC (.int 0)) (xOp zIx (xV 5) (xC (.int 0)))) [.dat (.str (tS L)), .dat (.str (tS p)), .dat (.str (tS p)), .dat (.str Str.empty), .dat (.str Str.empty), .dat (.tuple [.int ((val p : Nat) : Int), .int 1]), .no] = .ok (.int (sgI neg (val p))) := by
      cases neg with
      | false => simp only [zR0, zR1, zR2, zR3, zR4, zR5, zR6, zR7, zR8, zR9, zR10, zR11, zR12, slotsM, kFor_a, Rz.bind_ok, Rz.of_some, Rz.calm_ok, Option.bind_some, Option.bind_none, slots, sel, Arg.get, List.filterMap_cons, List.filterMap_nil, List.length_cons, List.length_nil, List.map_cons, List.map_nil, List.cons_append, List.nil_append, List.append_nil, List.getElem?_cons_succ, List.getElem?_cons_zero, List.getElem?_nil, List.set_cons_zero, List.set_cons_succ, List.set_nil, List.replicate_succ, List.replicate_zero, if_true, Nat.sub_self, Nat.reduceAdd, Nat.reduceSub, Nat.reduceLeDiff, Nat.reduceEqDiff, Nat.reduceLT, Int.reduceLT, Int.reduceLE, Int.reduceNeg, Int.reduceEq, Nat.zero_add, and_self, if_false, Bool.not_true, Bool.not_false, Bool.false_eq_true, Nat.zero_le, decide_true, decide_false, reduceCtorEq, t2, i0]; rfl
      | true => simp only [zR0, zR1, zR2, zR3, zR4, zR5, zR6, zR7, zR8, zR9, zR10, zR11, zR12, slotsM, kFor_a, Rz.bind_ok, Rz.of_some, Rz.calm_ok, Option.bind_some, Option.bind_none, slots, sel, Arg.get, List.filterMap_cons, List.filterMap_nil, List.length_cons, List.length_nil, List.map_cons, List.map_nil, List.cons_append, List.nil_append, List.append_nil, List.getElem?_cons_succ, List.getElem?_cons_zero, List.getElem?_nil, List.set_cons_zero, List.set_cons_succ, List.set_nil, List.replicate_succ, List.replicate_zero, if_true, Nat.sub_self, Nat.reduceAdd, Nat.reduceSub, Nat.reduceLeDiff, Nat.reduceEqDiff, Nat.reduceLT, Int.reduceLT, Int.reduceLE, Int.reduceNeg, Int.reduceEq, Nat.zero_add, and_self, if_false, Bool.not_true, Bool.not_false, Bool.false_eq_true, Nat.zero_le, decide_true, decide_false, reduceCtorEq, t2, i0]; rfl
    have pp := z_part (u := sgI neg (val p)) (l := 1) (by omega)
    have bd := divInt_le (n := sgI neg (val p)) (d := 1) (by decide)
    rw [sgI_abs] at bd
    have bd1 : (Rat.divInt (sgI neg (val p)) 1).num.natAbs ≤ val p := bd.1
    have bd2 : (Rat.divInt (sgI neg (val p)) 1).den ≤ 1 := bd.2
    have b1 := val_bd hp (by omega)
    have v1 := val_lt (plainL_all hp).1
    have w1 : 10 ^ p.length ≤ 10 ^ 500 := Nat.pow_le_pow_right (by decide) (by omega)
    have w2 : 1 < 10 ^ 500 := by decide +kernel
    have ptx := z_part_text (q := Rat.divInt (sgI neg (val p)) 1) (by omega) (by omega) (by have := partL_len (q := Rat.divInt (sgI neg (val p)) 1) (by omega) (by omega); omega)
    have te : zEq (.str (tS (partL (Rat.divInt (sgI neg (val p)) 1)))) (.str (tS L)) = some (.bool (!decide (neg = true ∧ val p = 0))) := by
      rw [zEq_t (Asc.part _) ha, ← part_test1 hp, hL]
    refine seq_step (ρ' := [.dat (.str (tS L)), .dat (.str (tS p)), .dat (.str (tS p)), .dat (.str Str.empty), .dat (.str Str.empty), .dat (.tuple [.int ((val p : Nat) : Int), .int 1]), .no]) (by simp only [zR0, zR1, zR2, zR3, zR4, zR5, zR6, zR7, zR8, zR9, zR10, zR11, zR12, slotsM, kFor_a, Rz.bind_ok, Rz.of_some, Rz.calm_ok, Option.bind_some, Option.bind_none, slots, sel, Arg.get, List.filterMap_cons, List.filterMap_nil, List.length_cons, List.length_nil, List.map_cons, List.map_nil, List.cons_append, List.nil_append, List.append_nil, List.getElem?_cons_succ, List.getElem?_cons_zero, List.getElem?_nil, List.set_cons_zero, List.set_cons_succ, List.set_nil, List.replicate_succ, List.replicate_zero, if_true, Nat.sub_self, Nat.reduceAdd, Nat.reduceSub, Nat.reduceLeDiff, Nat.reduceEqDiff, Nat.reduceLT, Int.reduceLT, Int.reduceLE, Int.reduceNeg, Int.reduceEq, Nat.zero_add, and_self, if_false, Bool.not_true, Bool.not_false, Bool.false_eq_true, Nat.zero_le, decide_true, decide_false, reduceCtorEq, ns, n1]) ?_
    refine seq_step (ρ' := [.dat (.str (tS L)), .dat (.str (tS p)), .dat (.str (tS p)), .dat (.str Str.empty), .dat (.str Str.empty), .dat (.tuple [.int ((val p : Nat) : Int), .int 1]), .no]) (by simp only [zR0, zR1, zR2, zR3, zR4, zR5, zR6, zR7, zR8, zR9, zR10, zR11, zR12, slotsM, kFor_a, Rz.bind_ok, Rz.of_some, Rz.calm_ok, Option.bind_some, Option.bind_none, slots, sel, Arg.get, List.filterMap_cons, List.filterMap_nil, List.length_cons, List.length_nil, List.map_cons, List.map_nil, List.cons_append, List.nil_append, List.append_nil, List.getElem?_cons_succ, List.getElem?_cons_zero, List.getElem?_nil, List.set_cons_zero, List.set_cons_succ, List.set_nil, List.replicate_succ, List.replicate_zero, if_true, Nat.sub_self, Nat.reduceAdd, Nat.reduceSub, Nat.reduceLeDiff, Nat.reduceEqDiff, Nat.reduceLT, Int.reduceLT, Int.reduceLE, Int.reduceNeg, Int.reduceEq, Nat.zero_add, and_self, if_false, Bool.not_true, Bool.not_false, Bool.false_eq_true, Nat.zero_le, decide_true, decide_false, reduceCtorEq, z1, i1]) ?_
    refine seq_step (ρ' := [.dat (.str (tS L)), .dat (.str (tS p)), .dat (.str (tS p)), .dat (.str Str.empty), .dat (.str Str.empty), .dat (.tuple [.int ((val p : Nat) : Int), .int 1]), .dat (encR (Rat.divInt (sgI neg (val p)) 1))]) ?_ ?_
    · rw [kAsg_a, kE_a, xF_a, zCons_a, up]
      simp only [zR0, zR1, zR2, zR3, zR4, zR5, zR6, zR7, zR8, zR9, zR10, zR11, zR12, slotsM, kFor_a, Rz.bind_ok, Rz.of_some, Rz.calm_ok, Option.bind_some, Option.bind_none, slots, sel, Arg.get, List.filterMap_cons, List.filterMap_nil, List.length_cons, List.length_nil, List.map_cons, List.map_nil, List.cons_append, List.nil_append, List.append_nil, List.getElem?_cons_succ, List.getElem?_cons_zero, List.getElem?_nil, List.set_cons_zero, List.set_cons_succ, List.set_nil, List.replicate_succ, List.replicate_zero, if_true, Nat.sub_self, Nat.reduceAdd, Nat.reduceSub, Nat.reduceLeDiff, Nat.reduceEqDiff, Nat.reduceLT, Int.reduceLT, Int.reduceLE, Int.reduceNeg, Int.reduceEq, Nat.zero_add, and_self, if_false, Bool.not_true, Bool.not_false, Bool.false_eq_true, Nat.zero_le, decide_true, decide_false, reduceCtorEq, i1, pp]
    by_cases hc : neg = true ∧ val p = 0
    · rw [decide_eq_true hc] at te
      rw [if_neg (fun z => z.2 hc)]
      simp only [zR0, zR1, zR2, zR3, zR4, zR5, zR6, zR7, zR8, zR9, zR10, zR11, zR12, slotsM, kFor_a, Rz.bind_ok, Rz.of_some, Rz.calm_ok, Option.bind_some, Option.bind_none, slots, sel, Arg.get, List.filterMap_cons, List.filterMap_nil, List.length_cons, List.length_nil, List.map_cons, List.map_nil, List.cons_append, List.nil_append, List.append_nil, List.getElem?_cons_succ, List.getElem?_cons_zero, List.getElem?_nil, List.set_cons_zero, List.set_cons_succ, List.set_nil, List.replicate_succ, List.replicate_zero, if_true, Nat.sub_self, Nat.reduceAdd, Nat.reduceSub, Nat.reduceLeDiff, Nat.reduceEqDiff, Nat.reduceLT, Int.reduceLT, Int.reduceLE, Int.reduceNeg, Int.reduceEq, Nat.zero_add, and_self, if_false, Bool.not_true, Bool.not_false, Bool.false_eq_true, Nat.zero_le, decide_true, decide_false, reduceCtorEq, ptx, te, encO]
    · rw [decide_eq_false hc] at te
      rw [if_pos ⟨rfl, hc⟩]
      simp only [zR0, zR1, zR2, zR3, zR4, zR5, zR6, zR7, zR8, zR9, zR10, zR11, zR12, slotsM, kFor_a, Rz.bind_ok, Rz.of_some, Rz.calm_ok, Option.bind_some, Option.bind_none, slots, sel, Arg.get, List.filterMap_cons, List.filterMap_nil, List.length_cons, List.length_nil, List.map_cons, List.map_nil, List.cons_append, List.nil_append, List.append_nil, List.getElem?_cons_succ, List.getElem?_cons_zero, List.getElem?_nil, List.set_cons_zero, List.set_cons_succ, List.set_nil, List.replicate_succ, List.replicate_zero, if_true, Nat.sub_self, Nat.reduceAdd, Nat.reduceSub, Nat.reduceLeDiff, Nat.reduceEqDiff, Nat.reduceLT, Int.reduceLT, Int.reduceLE, Int.reduceNeg, Int.reduceEq, Nat.zero_add, and_self, if_false, Bool.not_true, Bool.not_false, Bool.false_eq_true, Nat.zero_le, decide_true, decide_false, reduceCtorEq, ptx, te, encO]
theorem z_read2 {neg : Bool} {p q : List Nat} (ha : Asc (sgL neg ++ (p ++ 47 :: q))) (hl : p.length + q.length ≤ 490) (h47 : 47 ∉ p) (h45 : neg = false → (p ++ 47 :: q).head? ≠ some 45) :
    d__law_read [.str (tS (sgL neg ++ (p ++ 47 :: q)))] = .ok (encO (read2 neg p q)) := by
  have hb : Asc (p ++ 47 :: q) := fun c hc => ha c (List.mem_append_right _ hc)
  have hpa : Asc p := fun c hc => hb c (List.mem_append_left _ hc)
  have hqa : Asc q := fun c hc => hb c (List.mem_append_right _ (List.mem_cons_of_mem _ hc))
  have hlen : (p ++ 47 :: q).length ≤ 491 := by rw [List.length_append, List.length_cons]; omega
  have hlen2 : (sgL neg ++ (p ++ 47 :: q)).length ≤ 492 := by rw [List.length_append]; cases neg <;> simp only [sgL] <;> first | (simp only [if_true, List.length_singleton]; omega) | (simp; omega)
  have s1 := zSlS_a (z := tS (sgL neg ++ (p ++ 47 :: q))) (lo := none) (hi := some 1) (by rw [len_t]; omega)
  rw [cut_t1] at s1
  have t1 : zEq (.str (tS ((sgL neg ++ (p ++ 47 :: q)).take 1))) (.str "-") = some (.bool neg) := by
    have := zEq_t (ha.take 1) (Asc.one (c := 45) (by decide))
    rw [sg_take h45] at this
    exact this
  have t2 : zEq (.str (tS (p ++ 47 :: q))) (.str (tS (sgL neg ++ (p ++ 47 :: q)))) = some (.bool (!neg)) := by rw [zEq_t hb ha, sg_body]
  have t3 : zNe (.str (tS (p ++ 47 :: q))) (.str (tS (sgL neg ++ (p ++ 47 :: q)))) = some (.bool neg) := by rw [zNe_t hb ha, sg_body, Bool.not_not]
  have pt := zSpl_a (a := tS (p ++ 47 :: q)) (b := "/") ⟨by kernel_rfl, by rw [len_t]; omega⟩
  have bodyV : xIf (yV (xOp zEq (xSl zSlS (xV 0) oNo (oAt (xC (.int 1)))) (xC (.str "-")))) (xSl zSlS (xV 0) (oAt (xC (.int 1))) oNo) (xV 0) [.dat (.str (tS (sgL neg ++ (p ++ 47 :: q)))), .no, .no, .no, .no, .no, .no] = .ok (.str (tS (p ++ 47 :: q))) := by
    cases neg with
    | false => simp only [zR0, zR1, zR2, zR3, zR4, zR5, zR6, zR7, zR8, zR9, zR10, zR11, zR12, slotsM, kFor_a, Rz.bind_ok, Rz.of_some, Rz.calm_ok, Option.bind_some, Option.bind_none, slots, sel, Arg.get, List.filterMap_cons, List.filterMap_nil, List.length_cons, List.length_nil, List.map_cons, List.map_nil, List.cons_append, List.nil_append, List.append_nil, List.getElem?_cons_succ, List.getElem?_cons_zero, List.getElem?_nil, List.set_cons_zero, List.set_cons_succ, List.set_nil, List.replicate_succ, List.replicate_zero, if_true, Nat.sub_self, Nat.reduceAdd, Nat.reduceSub, Nat.reduceLeDiff, Nat.reduceEqDiff, Nat.reduceLT, Int.reduceLT, Int.reduceLE, Int.reduceNeg, Int.reduceEq, Nat.zero_add, and_self, if_false, Bool.not_true, Bool.not_false, Bool.false_eq_true, Nat.zero_le, decide_true, decide_false, reduceCtorEq, s1, t1]; rfl
    | true =>
      have s2 := zSlS_a (z := tS (sgL true ++ (p ++ 47 :: q))) (lo := some 1) (hi := none) (by rw [len_t]; omega)
      rw [cut_td1 (by simp [sgL])] at s2
      simp only [zR0, zR1, zR2, zR3, zR4, zR5, zR6, zR7, zR8, zR9, zR10, zR11, zR12, slotsM, kFor_a, Rz.bind_ok, Rz.of_some, Rz.calm_ok, Option.bind_some, Option.bind_none, slots, sel, Arg.get, List.filterMap_cons, List.filterMap_nil, List.length_cons, List.length_nil, List.map_cons, List.map_nil, List.cons_append, List.nil_append, List.append_nil, List.getElem?_cons_succ, List.getElem?_cons_zero, List.getElem?_nil, List.set_cons_zero, List.set_cons_succ, List.set_nil, List.replicate_succ, List.replicate_zero, if_true, Nat.sub_self, Nat.reduceAdd, Nat.reduceSub, Nat.reduceLeDiff, Nat.reduceEqDiff, Nat.reduceLT, Int.reduceLT, Int.reduceLE, Int.reduceNeg, Int.reduceEq, Nat.zero_add, and_self, if_false, Bool.not_true, Bool.not_false, Bool.false_eq_true, Nat.zero_le, decide_true, decide_false, reduceCtorEq, s1, t1, s2]
      rfl
  have go : ∀ {r : PyData}, m__law_read [.dat (.str (tS (sgL neg ++ (p ++ 47 :: q)))), .no, .no, .no, .no, .no, .no] = .rt r → d__law_read [.str (tS (sgL neg ++ (p ++ 47 :: q)))] = .ok r := fun {r} h => by
    unfold d__law_read
    rw [fnD_a, if_pos (by rfl)]
    show (match m__law_read [.dat (.str (tS (sgL neg ++ (p ++ 47 :: q)))), .no, .no, .no, .no, .no, .no] with | .rt d => Rz.ok d | .nx _ => .ok .none | .ex x _ => .ex x | _ => .bad) = _
    rw [h]
  refine go ?_
  unfold m__law_read
  refine seq_step (ρ' := [.dat (.str (tS (sgL neg ++ (p ++ 47 :: q)))), .dat (.str (tS (p ++ 47 :: q))), .no, .no, .no, .no, .no]) (by rw [kAsg_a, kE_a, bodyV]; rfl) ?_
  refine seq_step (ρ' := [.dat (.str (tS (sgL neg ++ (p ++ 47 :: q)))), .dat (.str (tS (p ++ 47 :: q))), .dat (.list ((Txt.split (tS (p ++ 47 :: q)) ("/" : Str)).map .str)), .no, .no, .no, .no]) (by simp only [zR0, zR1, zR2, zR3, zR4, zR5, zR6, zR7, zR8, zR9, zR10, zR11, zR12, slotsM, kFor_a, Rz.bind_ok, Rz.of_some, Rz.calm_ok, Option.bind_some, Option.bind_none, slots, sel, Arg.get, List.filterMap_cons, List.filterMap_nil, List.length_cons, List.length_nil, List.map_cons, List.map_nil, List.cons_append, List.nil_append, List.append_nil, List.getElem?_cons_succ, List.getElem?_cons_zero, List.getElem?_nil, List.set_cons_zero, List.set_cons_succ, List.set_nil, List.replicate_succ, List.replicate_zero, if_true, Nat.sub_self, Nat.reduceAdd, Nat.reduceSub, Nat.reduceLeDiff, Nat.reduceEqDiff, Nat.reduceLT, Int.reduceLT, Int.reduceLE, Int.reduceNeg, Int.reduceEq, Nat.zero_add, and_self, if_false, Bool.not_true, Bool.not_false, Bool.false_eq_true, Nat.zero_le, decide_true, decide_false, reduceCtorEq, pt]) ?_
  clear bodyV go
  unfold read2
  by_cases h47q : 47 ∈ q
  · have l3 := spl_three h47 h47q
    have hq : plainL q ≠ true := fun z => plain_no z (by omega) h47q
    rw [if_neg (fun z => hq z.2.1)]
    generalize Txt.split (tS (p ++ 47 :: q)) ("/" : Str) = W at *
    have lw : zLen [PyData.list (W.map .str)] = some (.int (W.length : Nat)) := by rw [zLen_l, List.length_map]
    have c3 : decide ((2 : Int) < ((W.length : Nat) : Int)) = true := decide_eq_true (by omega)
    simp only [zR0, zR1, zR2, zR3, zR4, zR5, zR6, zR7, zR8, zR9, zR10, zR11, zR12, slotsM, kFor_a, Rz.bind_ok, Rz.of_some, Rz.calm_ok, Option.bind_some, Option.bind_none, slots, sel, Arg.get, List.filterMap_cons, List.filterMap_nil, List.length_cons, List.length_nil, List.map_cons, List.map_nil, List.cons_append, List.nil_append, List.append_nil, List.getElem?_cons_succ, List.getElem?_cons_zero, List.getElem?_nil, List.set_cons_zero, List.set_cons_succ, List.set_nil, List.replicate_succ, List.replicate_zero, if_true, Nat.sub_self, Nat.reduceAdd, Nat.reduceSub, Nat.reduceLeDiff, Nat.reduceEqDiff, Nat.reduceLT, Int.reduceLT, Int.reduceLE, Int.reduceNeg, Int.reduceEq, Nat.zero_add, and_self, if_false, Bool.not_true, Bool.not_false, Bool.false_eq_true, Nat.zero_le, decide_true, decide_false, reduceCtorEq, lw, c3, encO]
  · rw [spl_two h47 h47q]
    have p1 := z__law_plain hpa (by omega)
    have p2 := z__law_plain hqa (by omega)
    have al : zAll [PyData.list [.bool (plainL p), .bool (plainL q)]] = some (.bool (plainL p && plainL q)) := by
      have := zAll_l [plainL p, plainL q]
      simpa using this
    generalize hL : sgL neg ++ (p ++ 47 :: q) = L at *
    generalize hB : p ++ 47 :: q = B at *
    have d22 : decide (((2 : Nat) : Int) = 2) = true := rfl
    have d23 : decide ((2 : Int) < ((2 : Nat) : Int)) = false := rfl
    have lc : lcL (gN 6) yYes (xFc d__law_plain (zCons (xV 6) zNil)) [.dat (.str (tS L)), .dat (.str (tS B)), .dat (.list [.str (tS p), .str (tS q)]), .no, .no, .no, .no] [.str (tS p), .str (tS q)] = .ok [.bool (plainL p), .bool (plainL q)] := by
      simp only [zR0, zR1, zR2, zR3, zR4, zR5, zR6, zR7, zR8, zR9, zR10, zR11, zR12, slotsM, kFor_a, Rz.bind_ok, Rz.of_some, Rz.calm_ok, Option.bind_some, Option.bind_none, slots, sel, Arg.get, List.filterMap_cons, List.filterMap_nil, List.length_cons, List.length_nil, List.map_cons, List.map_nil, List.cons_append, List.nil_append, List.append_nil, List.getElem?_cons_succ, List.getElem?_cons_zero, List.getElem?_nil, List.set_cons_zero, List.set_cons_succ, List.set_nil, List.replicate_succ, List.replicate_zero, if_true, Nat.sub_self, Nat.reduceAdd, Nat.reduceSub, Nat.reduceLeDiff, Nat.reduceEqDiff, Nat.reduceLT, Int.reduceLT, Int.reduceLE, Int.reduceNeg, Int.reduceEq, Nat.zero_add, and_self, if_false, Bool.not_true, Bool.not_false, Bool.false_eq_true, Nat.zero_le, decide_true, decide_false, reduceCtorEq, lcL_cons, lcL_nil, p1, p2]
    by_cases hpq : plainL p = true ∧ plainL q = true
    · obtain ⟨hp, hq⟩ := hpq
      rw [hp] at lc al
      rw [hq] at lc al
      have n1 := plain_int hp (by omega)
      have n2 := plain_int hq (by omega)
      refine seq_step (ρ' := [.dat (.str (tS L)), .dat (.str (tS B)), .dat (.list [.str (tS p), .str (tS q)]), .no, .no, .no, .no]) (by simp only [zR0, zR1, zR2, zR3, zR4, zR5, zR6, zR7, zR8, zR9, zR10, zR11, zR12, slotsM, kFor_a, Rz.bind_ok, Rz.of_some, Rz.calm_ok, Option.bind_some, Option.bind_none, slots, sel, Arg.get, List.filterMap_cons, List.filterMap_nil, List.length_cons, List.length_nil, List.map_cons, List.map_nil, List.cons_append, List.nil_append, List.append_nil, List.getElem?_cons_succ, List.getElem?_cons_zero, List.getElem?_nil, List.set_cons_zero, List.set_cons_succ, List.set_nil, List.replicate_succ, List.replicate_zero, if_true, Nat.sub_self, Nat.reduceAdd, Nat.reduceSub, Nat.reduceLeDiff, Nat.reduceEqDiff, Nat.reduceLT, Int.reduceLT, Int.reduceLE, Int.reduceNeg, Int.reduceEq, Nat.zero_add, and_self, if_false, Bool.not_true, Bool.not_false, Bool.false_eq_true, Nat.zero_le, decide_true, decide_false, reduceCtorEq, d23, lc, al, Bool.and_true]) ?_
      have a0 : atI [PyData.str (tS p), .str (tS q)] 0 = some (.str (tS p)) := rfl
      have a1 : atI [PyData.str (tS p), .str (tS q)] 1 = some (.str (tS q)) := rfl
      refine seq_step (ρ' := [.dat (.str (tS L)), .dat (.str (tS B)), .dat (.list [.str (tS p), .str (tS q)]), .dat (.int ((val p : Nat) : Int)), .dat (.int ((val q : Nat) : Int)), .no, .no]) (by simp only [zR0, zR1, zR2, zR3, zR4, zR5, zR6, zR7, zR8, zR9, zR10, zR11, zR12, slotsM, kFor_a, Rz.bind_ok, Rz.of_some, Rz.calm_ok, Option.bind_some, Option.bind_none, slots, sel, Arg.get, List.filterMap_cons, List.filterMap_nil, List.length_cons, List.length_nil, List.map_cons, List.map_nil, List.cons_append, List.nil_append, List.append_nil, List.getElem?_cons_succ, List.getElem?_cons_zero, List.getElem?_nil, List.set_cons_zero, List.set_cons_succ, List.set_nil, List.replicate_succ, List.replicate_zero, if_true, Nat.sub_self, Nat.reduceAdd, Nat.reduceSub, Nat.reduceLeDiff, Nat.reduceEqDiff, Nat.reduceLT, Int.reduceLT, Int.reduceLE, Int.reduceNeg, Int.reduceEq, Nat.zero_add, and_self, if_false, Bool.not_true, Bool.not_false, Bool.false_eq_true, Nat.zero_le, decide_true, decide_false, reduceCtorEq, d22, a0, a1, n1, n2]) ?_
      by_cases hd0 : val q = 0
      · have c0 : decide (((val q : Nat) : Int) = 0) = true := decide_eq_true (by omega)
        rw [if_neg (fun z => z.2.2.1 hd0)]
        simp only [zR0, zR1, zR2, zR3, zR4, zR5, zR6, zR7, zR8, zR9, zR10, zR11, zR12, slotsM, kFor_a, Rz.bind_ok, Rz.of_some, Rz.calm_ok, Option.bind_some, Option.bind_none, slots, sel, Arg.get, List.filterMap_cons, List.filterMap_nil, List.length_cons, List.length_nil, List.map_cons, List.map_nil, List.cons_append, List.nil_append, List.append_nil, List.getElem?_cons_succ, List.getElem?_cons_zero, List.getElem?_nil, List.set_cons_zero, List.set_cons_succ, List.set_nil, List.replicate_succ, List.replicate_zero, if_true, Nat.sub_self, Nat.reduceAdd, Nat.reduceSub, Nat.reduceLeDiff, Nat.reduceEqDiff, Nat.reduceLT, Int.reduceLT, Int.reduceLE, Int.reduceNeg, Int.reduceEq, Nat.zero_add, and_self, if_false, Bool.not_true, Bool.not_false, Bool.false_eq_true, Nat.zero_le, decide_true, decide_false, reduceCtorEq, c0, encO]
      · have c0 : decide (((val q : Nat) : Int) = 0) = false := decide_eq_false (by omega)
        by_cases hd1 : val q = 1
        · have c1 : decide (((val q : Nat) : Int) = 1) = true := decide_eq_true (by omega)
          rw [if_neg (fun z => z.2.2.2.1 hd1)]
          simp only [zR0, zR1, zR2, zR3, zR4, zR5, zR6, zR7, zR8, zR9, zR10, zR11, zR12, slotsM, kFor_a, Rz.bind_ok, Rz.of_some, Rz.calm_ok, Option.bind_some, Option.bind_none, slots, sel, Arg.get, List.filterMap_cons, List.filterMap_nil, List.length_cons, List.length_nil, List.map_cons, List.map_nil, List.cons_append, List.nil_append, List.append_nil, List.getElem?_cons_succ, List.getElem?_cons_zero, List.getElem?_nil, List.set_cons_zero, List.set_cons_succ, List.set_nil, List.replicate_succ, List.replicate_zero, if_true, Nat.sub_self, Nat.reduceAdd, Nat.reduceSub, Nat.reduceLeDiff, Nat.reduceEqDiff, Nat.reduceLT, Int.reduceLT, Int.reduceLE, Int.reduceNeg, Int.reduceEq, Nat.zero_add, and_self, if_false, Bool.not_true, Bool.not_false, Bool.false_eq_true, Nat.zero_le, decide_true, decide_false, reduceCtorEq, d22, c0, c1, encO]
        · have c1 : decide (((val q : Nat) : Int) = 1) = false := decide_eq_false (by omega)
          have lp := z__law_part (u := ((val p : Nat) : Int)) (l := ((val q : Nat) : Int)) (by omega)
          have te : zEq (encR (Rat.divInt ((val p : Nat) : Int) ((val q : Nat) : Int))) (.tuple [.int ((val p : Nat) : Int), .int ((val q : Nat) : Int)]) = some (.bool (decide (Int.gcd ((val p : Nat) : Int) ((val q : Nat) : Int) = 1))) := by
            have e : encR (Rat.divInt ((val p : Nat) : Int) ((val q : Nat) : Int)) = .tuple [.int (Rat.divInt ((val p : Nat) : Int) ((val q : Nat) : Int)).num, .int ((Rat.divInt ((val p : Nat) : Int) ((val q : Nat) : Int)).den : Int)] := rfl
            rw [e, zEq_sh (by rfl) (by rfl)]
            congr 2
            by_cases hg : Int.gcd ((val p : Nat) : Int) ((val q : Nat) : Int) = 1
            · obtain ⟨e1, e2⟩ := divInt_nd hd0 hg
              rw [e1, e2, decide_eq_true hg]
              simp [PyData.eqv, PyData.eqvAll]
            · rw [decide_eq_false hg]
              have hne : ¬ ((Rat.divInt ((val p : Nat) : Int) ((val q : Nat) : Int)).num = ((val p : Nat) : Int) ∧ ((Rat.divInt ((val p : Nat) : Int) ((val q : Nat) : Int)).den : Int) = ((val q : Nat) : Int)) := fun z => by
                have := gcd_nd (Rat.divInt ((val p : Nat) : Int) ((val q : Nat) : Int))
                rw [z.1, z.2] at this
                exact hg this
              simpa [PyData.eqv, PyData.eqvAll] using hne
          by_cases hs : neg = true ∧ val p = 0
          · have c2 : decide (((val p : Nat) : Int) = 0) = true := decide_eq_true (by omega)
            rw [hs.1] at t3
            rw [if_neg (fun z => z.2.2.2.2.1 hs)]
            simp only [zR0, zR1, zR2, zR3, zR4, zR5, zR6, zR7, zR8, zR9, zR10, zR11, zR12, slotsM, kFor_a, Rz.bind_ok, Rz.of_some, Rz.calm_ok, Option.bind_some, Option.bind_none, slots, sel, Arg.get, List.filterMap_cons, List.filterMap_nil, List.length_cons, List.length_nil, List.map_cons, List.map_nil, List.cons_append, List.nil_append, List.append_nil, List.getElem?_cons_succ, List.getElem?_cons_zero, List.getElem?_nil, List.set_cons_zero, List.set_cons_succ, List.set_nil, List.replicate_succ, List.replicate_zero, if_true, Nat.sub_self, Nat.reduceAdd, Nat.reduceSub, Nat.reduceLeDiff, Nat.reduceEqDiff, Nat.reduceLT, Int.reduceLT, Int.reduceLE, Int.reduceNeg, Int.reduceEq, Nat.zero_add, and_self, if_false, Bool.not_true, Bool.not_false, Bool.false_eq_true, Nat.zero_le, decide_true, decide_false, reduceCtorEq, d22, c0, c1, t3, c2, encO]
          · have rest : kIf (yOr (yV (xOp zEq (xV 4) (xC (.int 0)))) (yOr (yAnd (yV (xOp zEq (xCB zLen (zCons (xV 2) zNil)) (xC (.int 2)))) (yV (xOp zEq (xV 4) (xC (.int 1))))) (yAnd (yV (xOp zNe (xV 1) (xV 0))) (yV (xOp zEq (xV 3) (xC (.int 0))))))) (kRet (xC .none)) kNx [.dat (.str (tS L)), .dat (.str (tS B)), .dat (.list [.str (tS p), .str (tS q)]), .dat (.int ((val p : Nat) : Int)), .dat (.int ((val q : Nat) : Int)), .no, .no] = .nx [.dat (.str (tS L)), .dat (.str (tS B)), .dat (.list [.str (tS p), .str (tS q)]), .dat (.int ((val p : Nat) : Int)), .dat (.int ((val q : Nat) : Int)), .no, .no] := by
              cases neg with
              | false => simp only [zR0, zR1, zR2, zR3, zR4, zR5, zR6, zR7, zR8, zR9, zR10, zR11, zR12, slotsM, kFor_a, Rz.bind_ok, Rz.of_some, Rz.calm_ok, Option.bind_some, Option.bind_none, slots, sel, Arg.get, List.filterMap_cons, List.filterMap_nil, List.length_cons, List.length_nil, List.map_cons, List.map_nil, List.cons_append, List.nil_append, List.append_nil, List.getElem?_cons_succ, List.getElem?_cons_zero, List.getElem?_nil, List.set_cons_zero, List.set_cons_succ, List.set_nil, List.replicate_succ, List.replicate_zero, if_true, Nat.sub_self, Nat.reduceAdd, Nat.reduceSub, Nat.reduceLeDiff, Nat.reduceEqDiff, Nat.reduceLT, Int.reduceLT, Int.reduceLE, Int.reduceNeg, Int.reduceEq, Nat.zero_add, and_self, if_false, Bool.not_true, Bool.not_false, Bool.false_eq_true, Nat.zero_le, decide_true, decide_false, reduceCtorEq, d22, c0, c1, t3]
              | true =>
                have c2 : decide (((val p : Nat) : Int) = 0) = false := decide_eq_false (fun z => hs ⟨rfl, by omega⟩)
                simp only [zR0, zR1, zR2, zR3, zR4, zR5, zR6, zR7, zR8, zR9, zR10, zR11, zR12, slotsM, kFor_a, Rz.bind_ok, Rz.of_some, Rz.calm_ok, Option.bind_some, Option.bind_none, slots, sel, Arg.get, List.filterMap_cons, List.filterMap_nil, List.length_cons, List.length_nil, List.map_cons, List.map_nil, List.cons_append, List.nil_append, List.append_nil, List.getElem?_cons_succ, List.getElem?_cons_zero, List.getElem?_nil, List.set_cons_zero, List.set_cons_succ, List.set_nil, List.replicate_succ, List.replicate_zero, if_true, Nat.sub_self, Nat.reduceAdd, Nat.reduceSub, Nat.reduceLeDiff, Nat.reduceEqDiff, Nat.reduceLT, Int.reduceLT, Int.reduceLE, Int.reduceNeg, Int.reduceEq, Nat.zero_add, and_self, if_false, Bool.not_true, Bool.not_false, Bool.false_eq_true, Nat.zero_le, decide_true, decide_false, reduceCtorEq, d22, c0, c1, t3, c2]
            refine seq_step rest ?_
            by_cases hg : Int.gcd ((val p : Nat) : Int) ((val q : Nat) : Int) = 1
            · rw [decide_eq_true hg] at te
              rw [if_pos ⟨hp, hq, hd0, hd1, hs, hg⟩]
              have ee : encR (Rat.divInt (sgI neg (val p)) ((val q : Nat) : Int)) = .tuple [.int (sgI neg (val p)), .int ((val q : Nat) : Int)] := encR_div _ _ (by omega) (by rw [gcd_sg]; exact hg) (by omega)
              cases neg with
              | false =>
                simp only [zR0, zR1, zR2, zR3, zR4, zR5, zR6, zR7, zR8, zR9, zR10, zR11, zR12, slotsM, kFor_a, Rz.bind_ok, Rz.of_some, Rz.calm_ok, Option.bind_some, Option.bind_none, slots, sel, Arg.get, List.filterMap_cons, List.filterMap_nil, List.length_cons, List.length_nil, List.map_cons, List.map_nil, List.cons_append, List.nil_append, List.append_nil, List.getElem?_cons_succ, List.getElem?_cons_zero, List.getElem?_nil, List.set_cons_zero, List.set_cons_succ, List.set_nil, List.replicate_succ, List.replicate_zero, if_true, Nat.sub_self, Nat.reduceAdd, Nat.reduceSub, Nat.reduceLeDiff, Nat.reduceEqDiff, Nat.reduceLT, Int.reduceLT, Int.reduceLE, Int.reduceNeg, Int.reduceEq, Nat.zero_add, and_self, if_false, Bool.not_true, Bool.not_false, Bool.false_eq_true, Nat.zero_le, decide_true, decide_false, reduceCtorEq, lp, te, t2, encO, ee]
                rfl
              | true =>
                simp only [zR0, zR1, zR2, zR3, zR4, zR5, zR6, zR7, zR8, zR9, zR10, zR11, zR12, slotsM, kFor_a, Rz.bind_ok, Rz.of_some, Rz.calm_ok, Option.bind_some, Option.bind_none, slots, sel, Arg.get, List.filterMap_cons, List.filterMap_nil, List.length_cons, List.length_nil, List.map_cons, List.map_nil, List.cons_append, List.nil_append, List.append_nil, List.getElem?_cons_succ, List.getElem?_cons_zero, List.getElem?_nil, List.set_cons_zero, List.set_cons_succ, List.set_nil, List.replicate_succ, List.replicate_zero, if_true, Nat.sub_self, Nat.reduceAdd, Nat.reduceSub, Nat.reduceLeDiff, Nat.reduceEqDiff, Nat.reduceLT, Int.reduceLT, Int.reduceLE, Int.reduceNeg, Int.reduceEq, Nat.zero_add, and_self, if_false, Bool.not_true, Bool.not_false, Bool.false_eq_true, Nat.zero_le, decide_true, decide_false, reduceCtorEq, lp, te, t2, encO, ee]
                rfl
            · rw [decide_eq_false hg] at te
              rw [if_neg (fun z => hg z.2.2.2.2.2)]
              simp only [zR0, zR1, zR2, zR3, zR4, zR5, zR6, zR7, zR8, zR9, zR10, zR11, zR12, slotsM, kFor_a, Rz.bind_ok, Rz.of_some, Rz.calm_ok, Option.bind_some, Option.bind_none, slots, sel, Arg.get, List.filterMap_cons, List.filterMap_nil, List.length_cons, List.length_nil, List.map_cons, List.map_nil, List.cons_append, List.nil_append, List.append_nil, List.getElem?_cons_succ, List.getElem?_cons_zero, List.getElem?_nil, List.set_cons_zero, List.set_cons_succ, List.set_nil, List.replicate_succ, List.replicate_zero, if_true, Nat.sub_self, Nat.reduceAdd, Nat.reduceSub, Nat.reduceLeDiff, Nat.reduceEqDiff, Nat.reduceLT, Int.reduceLT, Int.reduceLE, Int.reduceNeg, Int.reduceEq, Nat.zero_add, and_self, if_false, Bool.not_true, Bool.not_false, Bool.false_eq_true, Nat.zero_le, decide_true, decide_false, reduceCtorEq, lp, te, encO]
    · rw [if_neg (fun z => hpq ⟨z.1, z.2.1⟩)]
      have hf : (plainL p && plainL q) = false := by
        cases h1 : plainL p <;> cases h2 : plainL q <;> first | rfl | exact absurd ⟨h1, h2⟩ hpq
      rw [hf] at al
      simp only [zR0, zR1, zR2, zR3, zR4, zR5, zR6, zR7, zR8, zR9, zR10, zR11, zR12, slotsM, kFor_a, Rz.bind_ok, Rz.of_some, Rz.calm_ok, Option.bind_some, Option.bind_none, slots, sel, Arg.get, List.filterMap_cons, List.filterMap_nil, List.length_cons, List.length_nil, List.map_cons, List.map_nil, List.cons_append, List.nil_append, List.append_nil, List.getElem?_cons_succ, List.getElem?_cons_zero, List.getElem?_nil, List.set_cons_zero, List.set_cons_succ, List.set_nil, List.replicate_succ, List.replicate_zero, if_true, Nat.sub_self, Nat.reduceAdd, Nat.reduceSub, Nat.reduceLeDiff, Nat.reduceEqDiff, Nat.reduceLT, Int.reduceLT, Int.reduceLE, Int.reduceNeg, Int.reduceEq, Nat.zero_add, and_self, if_false, Bool.not_true, Bool.not_false, Bool.false_eq_true, Nat.zero_le, decide_true, decide_false, reduceCtorEq, d23, lc, al, encO]
theorem z_read1 {neg : Bool} {p : List Nat} (ha : Asc (sgL neg ++ p)) (hl : p.length ≤ 490) (h47 : 47 ∉ p) (h45 : neg = false → p.head? ≠ some 45) :
    d__law_read [.str (tS (sgL neg ++ p))] = .ok (encO (read1 neg p)) := by
  have hb : Asc p := fun c hc => ha c (List.mem_append_right _ hc)
  have hlen2 : (sgL neg ++ p).length ≤ 492 := by rw [List.length_append]; cases neg <;> simp only [sgL] <;> first | (simp only [if_true, List.length_singleton]; omega) | (simp; omega)
  have s1 := zSlS_a (z := tS (sgL neg ++ p)) (lo := none) (hi := some 1) (by rw [len_t]; omega)
  rw [cut_t1] at s1
  have t1 : zEq (.str (tS ((sgL neg ++ p).take 1))) (.str "-") = some (.bool neg) := by
    have := zEq_t (ha.take 1) (Asc.one (c := 45) (by decide))
    rw [sg_take h45] at this
    exact this
  have t2 : zEq (.str (tS p)) (.str (tS (sgL neg ++ p))) = some (.bool (!neg)) := by rw [zEq_t hb ha, sg_body]
  have t3 : zNe (.str (tS p)) (.str (tS (sgL neg ++ p))) = some (.bool neg) := by rw [zNe_t hb ha, sg_body, Bool.not_not]
  have pt := zSpl_a (a := tS p) (b := "/") ⟨by kernel_rfl, by rw [len_t]; omega⟩
  rw [spl_one h47] at pt
  have bodyV : xIf (yV (xOp zEq (xSl zSlS (xV 0) oNo (oAt (xC (.int 1)))) (xC (.str "-")))) (xSl zSlS (xV 0) (oAt (xC (.int 1))) oNo) (xV 0) [.dat (.str (tS (sgL neg ++ p))), .no, .no, .no, .no, .no, .no] = .ok (.str (tS p)) := by
    cases neg with
    | false => simp only [zR0, zR1, zR2, zR3, zR4, zR5, zR6, zR7, zR8, zR9, zR10, zR11, zR12, slotsM, kFor_a, Rz.bind_ok, Rz.of_some, Rz.calm_ok, Option.bind_some, Option.bind_none, slots, sel, Arg.get, List.filterMap_cons, List.filterMap_nil, List.length_cons, List.length_nil, List.map_cons, List.map_nil, List.cons_append, List.nil_append, List.append_nil, List.getElem?_cons_succ, List.getElem?_cons_zero, List.getElem?_nil, List.set_cons_zero, List.set_cons_succ, List.set_nil, List.replicate_succ, List.replicate_zero, if_true, Nat.sub_self, Nat.reduceAdd, Nat.reduceSub, Nat.reduceLeDiff, Nat.reduceEqDiff, Nat.reduceLT, Int.reduceLT, Int.reduceLE, Int.reduceNeg, Int.reduceEq, Nat.zero_add, and_self, if_false, Bool.not_true, Bool.not_false, Bool.false_eq_true, Nat.zero_le, decide_true, decide_false, reduceCtorEq, s1, t1]; rfl
    | true =>
      have s2 := zSlS_a (z := tS (sgL true ++ p)) (lo := some 1) (hi := none) (by rw [len_t]; omega)
      rw [cut_td1 (by simp [sgL])] at s2
      simp only [zR0, zR1, zR2, zR3, zR4, zR5, zR6, zR7, zR8, zR9, zR10, zR11, zR12, slotsM, kFor_a, Rz.bind_ok, Rz.of_some, Rz.calm_ok, Option.bind_some, Option.bind_none, slots, sel, Arg.get, List.filterMap_cons, List.filterMap_nil, List.length_cons, List.length_nil, List.map_cons, List.map_nil, List.cons_append, List.nil_append, List.append_nil, List.getElem?_cons_succ, List.getElem?_cons_zero, List.getElem?_nil, List.set_cons_zero, List.set_cons_succ, List.set_nil, List.replicate_succ, List.replicate_zero, if_true, Nat.sub_self, Nat.reduceAdd, Nat.reduceSub, Nat.reduceLeDiff, Nat.reduceEqDiff, Nat.reduceLT, Int.reduceLT, Int.reduceLE, Int.reduceNeg, Int.reduceEq, Nat.zero_add, and_self, if_false, Bool.not_true, Bool.not_false, Bool.false_eq_true, Nat.zero_le, decide_true, decide_false, reduceCtorEq, s1, t1, s2]
      rfl
  have go : ∀ {r : PyData}, m__law_read [.dat (.str (tS (sgL neg ++ p))), .no, .no, .no, .no, .no, .no] = .rt r → d__law_read [.str (tS (sgL neg ++ p))] = .ok r := fun {r} h => by
    unfold d__law_read
    rw [fnD_a, if_pos (by rfl)]
    show (match m__law_read [.dat (.str (tS (sgL neg ++ p))), .no, .no, .no, .no, .no, .no] with | .rt d => Rz.ok d | .nx _ => .ok .none | .ex x _ => .ex x | _ => .bad) = _
    rw [h]
  refine go ?_
  unfold m__law_read
  refine seq_step (ρ' := [.dat (.str (tS (sgL neg ++ p))), .dat (.str (tS p)), .no, .no, .no, .no, .no]) (by rw [kAsg_a, kE_a, bodyV]; rfl) ?_
  refine seq_step (ρ' := [.dat (.str (tS (sgL neg ++ p))), .dat (.str (tS p)), .dat (.list [.str (tS p)]), .no, .no, .no, .no]) (by simp only [zR0, zR1, zR2, zR3, zR4, zR5, zR6, zR7, zR8, zR9, zR10, zR11, zR12, slotsM, kFor_a, Rz.bind_ok, Rz.of_some, Rz.calm_ok, Option.bind_some, Option.bind_none, slots, sel, Arg.get, List.filterMap_cons, List.filterMap_nil, List.length_cons, List.length_nil, List.map_cons, List.map_nil, List.cons_append, List.nil_append, List.append_nil, List.getElem?_cons_succ, List.getElem?_cons_zero, List.getElem?_nil, List.set_cons_zero, List.set_cons_succ, List.set_nil, List.replicate_succ, List.replicate_zero, if_true, Nat.sub_self, Nat.reduceAdd, Nat.reduceSub, Nat.reduceLeDiff, Nat.reduceEqDiff, Nat.reduceLT, Int.reduceLT, Int.reduceLE, Int.reduceNeg, Int.reduceEq, Nat.zero_add, and_self, if_false, Bool.not_true, Bool.not_false, Bool.false_eq_true, Nat.zero_le, decide_true, decide_false, reduceCtorEq, pt]) ?_
  clear bodyV go
  unfold read1
  have p1 := z__law_plain hb (by omega)
  have al : zAll [PyData.list [.bool (plainL p)]] = some (.bool (plainL p)) := by
    have := zAll_l [plainL p]
    simpa using this
  generalize hL : sgL neg ++ p = L at *
  have d22 : decide (((1 : Nat) : Int) = 2) = false := rfl
  have d23 : decide ((2 : Int) < ((1 : Nat) : Int)) = false := rfl
  have lc : lcL (gN 6) yYes (xFc d__law_plain (zCons (xV 6) zNil)) [.dat (.str (tS L)), .dat (.str (tS p)), .dat (.list [.str (tS p)]), .no, .no, .no, .no] [.str (tS p)] = .ok [.bool (plainL p)] := by
    simp only [zR0, zR1, zR2, zR3, zR4, zR5, zR6, zR7, zR8, zR9, zR10, zR11, zR12, slotsM, kFor_a, Rz.bind_ok, Rz.of_some, Rz.calm_ok, Option.bind_some, Option.bind_none, slots, sel, Arg.get, List.filterMap_cons, List.filterMap_nil, List.length_cons, List.length_nil, List.map_cons, List.map_nil, List.cons_append, List.nil_append, List.append_nil, List.getElem?_cons_succ, List.getElem?_cons_zero, List.getElem?_nil, List.set_cons_zero, List.set_cons_succ, List.set_nil, List.replicate_succ, List.replicate_zero, if_true, Nat.sub_self, Nat.reduceAdd, Nat.reduceSub, Nat.reduceLeDiff, Nat.reduceEqDiff, Nat.reduceLT, Int.reduceLT, Int.reduceLE, Int.reduceNeg, Int.reduceEq, Nat.zero_add, and_self, if_false, Bool.not_true, Bool.not_false, Bool.false_eq_true, Nat.zero_le, decide_true, decide_false, reduceCtorEq, lcL_cons, lcL_nil, p1]
  cases hp : plainL p with
  | false =>
    rw [hp] at lc al
    rw [if_neg (fun z => by cases z.1)]
    simp only [zR0, zR1, zR2, zR3, zR4, zR5, zR6, zR7, zR8, zR9, zR10, zR11, zR12, slotsM, kFor_a, Rz.bind_ok, Rz.of_some, Rz.calm_ok, Option.bind_some, Option.bind_none, slots, sel, Arg.get, List.filterMap_cons, List.filterMap_nil, List.length_cons, List.length_nil, List.map_cons, List.map_nil, List.cons_append, List.nil_append, List.append_nil, List.getElem?_cons_succ, List.getElem?_cons_zero, List.getElem?_nil, List.set_cons_zero, List.set_cons_succ, List.set_nil, List.replicate_succ, List.replicate_zero, if_true, Nat.sub_self, Nat.reduceAdd, Nat.reduceSub, Nat.reduceLeDiff, Nat.reduceEqDiff, Nat.reduceLT, Int.reduceLT, Int.reduceLE, Int.reduceNeg, Int.reduceEq, Nat.zero_add, and_self, if_false, Bool.not_true, Bool.not_false, Bool.false_eq_true, Nat.zero_le, decide_true, decide_false, reduceCtorEq, d23, lc, al, encO]
  | true =>
    rw [hp] at lc al
    have n1 := plain_int hp (by omega)
    refine seq_step (ρ' := [.dat (.str (tS L)), .dat (.str (tS p)), .dat (.list [.str (tS p)]), .no, .no, .no, .no]) (by simp only [zR0, zR1, zR2, zR3, zR4, zR5, zR6, zR7, zR8, zR9, zR10, zR11, zR12, slotsM, kFor_a, Rz.bind_ok, Rz.of_some, Rz.calm_ok, Option.bind_some, Option.bind_none, slots, sel, Arg.get, List.filterMap_cons, List.filterMap_nil, List.length_cons, List.length_nil, List.map_cons, List.map_nil, List.cons_append, List.nil_append, List.append_nil, List.getElem?_cons_succ, List.getElem?_cons_zero, List.getElem?_nil, List.set_cons_zero, List.set_cons_succ, List.set_nil, List.replicate_succ, List.replicate_zero, if_true, Nat.sub_self, Nat.reduceAdd, Nat.reduceSub, Nat.reduceLeDiff, Nat.reduceEqDiff, Nat.reduceLT, Int.reduceLT, Int.reduceLE, Int.reduceNeg, Int.reduceEq, Nat.zero_add, and_self, if_false, Bool.not_true, Bool.not_false, Bool.false_eq_true, Nat.zero_le, decide_true, decide_false, reduceCtorEq, d23, lc, al, Bool.and_true]) ?_
    have a0 : atI [PyData.str (tS p)] 0 = some (.str (tS p)) := rfl
    refine seq_step (ρ' := [.dat (.str (tS L)), .dat (.str (tS p)), .dat (.list [.str (tS p)]), .dat (.int ((val p : Nat) : Int)), .dat (.int 1), .no, .no]) (by simp only [zR0, zR1, zR2, zR3, zR4, zR5, zR6, zR7, zR8, zR9, zR10, zR11, zR12, slotsM, kFor_a, Rz.bind_ok, Rz.of_some, Rz.calm_ok, Option.bind_some, Option.bind_none, slots, sel, Arg.get, List.filterMap_cons, List.filterMap_nil, List.length_cons, List.length_nil, List.map_cons, List.map_nil, List.cons_append, List.nil_append, List.append_nil, List.getElem?_cons_succ, List.getElem?_cons_zero, List.getElem?_nil, List.set_cons_zero, List.set_cons_succ, List.set_nil, List.replicate_succ, List.replicate_zero, if_true, Nat.sub_self, Nat.reduceAdd, Nat.reduceSub, Nat.reduceLeDiff, Nat.reduceEqDiff, Nat.reduceLT, Int.reduceLT, Int.reduceLE, Int.reduceNeg, Int.reduceEq, Nat.zero_add, and_self, if_false, Bool.not_true, Bool.not_false, Bool.false_eq_true, Nat.zero_le, decide_true, decide_false, reduceCtorEq, d22, a0, n1]) ?_
    have lp := z__law_part (u := ((val p : Nat) : Int)) (l := 1) (by omega)
    have e1 : encR (Rat.divInt ((val p : Nat) : Int) 1) = .tuple [.int ((val p : Nat) : Int), .int 1] := encR_div _ _ (by omega) (Int.gcd_one_right _) (by omega)
    have te : zEq (.tuple [.int ((val p : Nat) : Int), .int 1]) (.tuple [.int ((val p : Nat) : Int), .int 1]) = some (.bool true) := by
      rw [zEq_sh (by rfl) (by rfl)]
      simp [PyData.eqv, PyData.eqvAll]
    rw [e1] at lp
    by_cases hs : neg = true ∧ val p = 0
    · have c2 : decide (((val p : Nat) : Int) = 0) = true := decide_eq_true (by omega)
      rw [hs.1] at t3
      rw [if_neg (fun z => z.2 hs)]
      simp only [zR0, zR1, zR2, zR3, zR4, zR5, zR6, zR7, zR8, zR9, zR10, zR11, zR12, slotsM, kFor_a, Rz.bind_ok, Rz.of_some, Rz.calm_ok, Option.bind_some, Option.bind_none, slots, sel, Arg.get, List.filterMap_cons, List.filterMap_nil, List.length_cons, List.length_nil, List.map_cons, List.map_nil, List.cons_append, List.nil_append, List.append_nil, List.getElem?_cons_succ, List.getElem?_cons_zero, List.getElem?_nil, List.set_cons_zero, List.set_cons_succ, List.set_nil, List.replicate_succ, List.replicate_zero, if_true, Nat.sub_self, Nat.reduceAdd, Nat.reduceSub, Nat.reduceLeDiff, Nat.reduceEqDiff, Nat.reduceLT, Int.reduceLT, Int.reduceLE, Int.reduceNeg, Int.reduceEq, Nat.zero_add, and_self, if_false, Bool.not_true, Bool.not_false, Bool.false_eq_true, Nat.zero_le, decide_true, decide_false, reduceCtorEq, d22, t3, c2, encO]
    · rw [if_pos ⟨rfl, hs⟩]
      have rest : kIf (yOr (yV (xOp zEq (xV 4) (xC (.int 0)))) (yOr (yAnd (yV (xOp zEq (xCB zLen (zCons (xV 2) zNil)) (xC (.int 2)))) (yV (xOp zEq (xV 4) (xC (.int 1))))) (yAnd (yV (xOp zNe (xV 1) (xV 0))) (yV (xOp zEq (xV 3) (xC (.int 0))))))) (kRet (xC .none)) kNx [.dat (.str (tS L)), .dat (.str (tS p)), .dat (.list [.str (tS p)]), .dat (.int ((val p : Nat) : Int)), .dat (.int 1), .no, .no] = .nx [.dat (.str (tS L)), .dat (.str (tS p)), .dat (.list [.str (tS p)]), .dat (.int ((val p : Nat) : Int)), .dat (.int 1), .no, .no] := by
        cases neg with
        | false => simp only [zR0, zR1, zR2, zR3, zR4, zR5, zR6, zR7, zR8, zR9, zR10, zR11, zR12, slotsM, kFor_a, Rz.bind_ok, Rz.of_some, Rz.calm_ok, Option.bind_some, Option.bind_none, slots, sel, Arg.get, List.filterMap_cons, List.filterMap_nil, List.length_cons, List.length_nil, List.map_cons, List.map_nil, List.cons_append, List.nil_append, List.append_nil, List.getElem?_cons_succ, List.getElem?_cons_zero, List.getElem?_nil, List.set_cons_zero, List.set_cons_succ, List.set_nil, List.replicate_succ, List.replicate_zero, if_true, Nat.sub_self, Nat.reduceAdd, Nat.reduceSub, Nat.reduceLeDiff, Nat.reduceEqDiff, Nat.reduceLT, Int.reduceLT, Int.reduceLE, Int.reduceNeg, Int.reduceEq, Nat.zero_add, and_self, if_false, Bool.not_true, Bool.not_false, Bool.false_eq_true, Nat.zero_le, decide_true, decide_false, reduceCtorEq, d22, t3]
        | true =>
          have c2 : decide (((val p : Nat) : Int) = 0) = false := decide_eq_false (fun z => hs ⟨rfl, by omega⟩)
          simp only [zR0, zR1, zR2, zR3, zR4, zR5, zR6, zR7, zR8, zR9, zR10, zR11, zR12, slotsM, kFor_a, Rz.bind_ok, Rz.of_some, Rz.calm_ok, Option.bind_some, Option.bind_none, slots, sel, Arg.get, List.filterMap_cons, List.filterMap_nil, List.length_cons, List.length_nil, List.map_cons, List.map_nil, List.cons_append, List.nil_append, List.append_nil, List.getElem?_cons_succ, List.getElem?_cons_zero, List.getElem?_nil, List.set_cons_zero, List.set_cons_succ, List.set_nil, List.replicate_succ, List.replicate_zero, if_true, Nat.sub_self, Nat.reduceAdd, Nat.reduceSub, Nat.reduceLeDiff, Nat.reduceEqDiff, Nat.reduceLT, Int.reduceLT, Int.reduceLE, Int.reduceNeg, Int.reduceEq, Nat.zero_add, and_self, if_false, Bool.not_true, Bool.not_false, Bool.false_eq_true, Nat.zero_le, decide_true, decide_false, reduceCtorEq, d22, t3, c2]
      refine seq_step rest ?_
      have ee : encR (Rat.divInt (sgI neg (val p)) 1) = .tuple [.int (sgI neg (val p)), .int 1] := encR_div _ _ (by omega) (Int.gcd_one_right _) (by omega)
      cases neg with
      | false =>
        simp only [zR0, zR1, zR2, zR3, zR4, zR5, zR6, zR7, zR8, zR9, zR10, zR11, zR12, slotsM, kFor_a, Rz.bind_ok, Rz.of_some, Rz.calm_ok, Option.bind_some, Option.bind_none, slots, sel, Arg.get, List.filterMap_cons, List.filterMap_nil, List.length_cons, List.length_nil, List.map_cons, List.map_nil, List.cons_append, List.nil_append, List.append_nil, List.getElem?_cons_succ, List.getElem?_cons_zero, List.getElem?_nil, List.set_cons_zero, List.set_cons_succ, List.set_nil, List.replicate_succ, List.replicate_zero, if_true, Nat.sub_self, Nat.reduceAdd, Nat.reduceSub, Nat.reduceLeDiff, Nat.reduceEqDiff, Nat.reduceLT, Int.reduceLT, Int.reduceLE, Int.reduceNeg, Int.reduceEq, Nat.zero_add, and_self, if_false, Bool.not_true, Bool.not_false, Bool.false_eq_true, Nat.zero_le, decide_true, decide_false, reduceCtorEq, lp, te, t2, encO, ee]
        rfl
      | true =>
        simp only [zR0, zR1, zR2, zR3, zR4, zR5, zR6, zR7, zR8, zR9, zR10, zR11, zR12, slotsM, kFor_a, Rz.bind_ok, Rz.of_some, Rz.calm_ok, Option.bind_some, Option.bind_none, slots, sel, Arg.get, List.filterMap_cons, List.filterMap_nil, List.length_cons, List.length_nil, List.map_cons, List.map_nil, List.cons_append, List.nil_append, List.append_nil, List.getElem?_cons_succ, List.getElem?_cons_zero, List.getElem?_nil, List.set_cons_zero, List.set_cons_succ, List.set_nil, List.replicate_succ, List.replicate_zero, if_true, Nat.sub_self, Nat.reduceAdd, Nat.reduceSub, Nat.reduceLeDiff, Nat.reduceEqDiff, Nat.reduceLT, Int.reduceLT, Int.reduceLE, Int.reduceNeg, Int.reduceEq, Nat.zero_add, and_self, if_false, Bool.not_true, Bool.not_false, Bool.false_eq_true, Nat.zero_le, decide_true, decide_false, reduceCtorEq, lp, te, t2, encO, ee]
        rfl
theorem text_cut (l : List Nat) : ∃ neg p, (47 ∉ p ∧ l = sgL neg ++ p ∧ (neg = false → p.head? ≠ some 45)) ∨ ∃ q, 47 ∉ p ∧ l = sgL neg ++ (p ++ 47 :: q) ∧ (neg = false → (p ++ 47 :: q).head? ≠ some 45) := by
  have key : ∃ neg b, l = sgL neg ++ b ∧ (neg = false → b.head? ≠ some 45) := by
    by_cases h : l.head? = some 45
    · cases l with
      | nil => cases h
      | cons c r =>
        simp only [List.head?_cons, Option.some.injEq] at h
        subst h
        exact ⟨true, r, rfl, fun z => by cases z⟩
    · exact ⟨false, l, rfl, fun _ => h⟩
  obtain ⟨neg, b, rfl, hb⟩ := key
  by_cases h47 : 47 ∈ b
  · obtain ⟨p, q, rfl, hp⟩ := List.eq_append_cons_of_mem h47
    exact ⟨neg, p, .inr ⟨q, hp, rfl, hb⟩⟩
  · exact ⟨neg, b, .inl ⟨h47, rfl, hb⟩⟩
theorem read_both {l : List Nat} (ha : Asc l) (hl : l.length ≤ 400) : ∃ r : Option Rat, d_part_in [.str (tS l)] = .ok (encO r) ∧ d__law_read [.str (tS l)] = .ok (encO r) := by
  obtain ⟨neg, p, h⟩ := text_cut l
  rcases h with ⟨h47, rfl, h45⟩ | ⟨q, h47, rfl, h45⟩
  · rw [List.length_append] at hl
    exact ⟨_, z_part_in1 ha (by omega) h47 h45, z_read1 ha (by omega) h47 h45⟩
  · rw [List.length_append, List.length_append, List.length_cons] at hl
    exact ⟨_, z_part_in2 ha (by omega) h47 h45, z_read2 ha (by omega) h47 h45⟩
theorem in_own {q : Rat} (hl : (partL q).length ≤ 400) : d_part_in [.str (tS (partL q))] = .ok (encR q) := by
  have hsg : ∃ neg : Bool, intL q.num = sgL neg ++ TL.numL q.num.natAbs ∧ ¬ (neg = true ∧ q.num.natAbs = 0) ∧ q.num = sgI neg q.num.natAbs := by
    unfold intL
    by_cases h : q.num < 0
    · exact ⟨true, by rw [if_pos h]; rfl, fun z => by omega, by show q.num = 0 - _; omega⟩
    · exact ⟨false, by rw [if_neg h]; rfl, fun z => (by cases z.1), by show q.num = ((q.num.natAbs : Nat) : Int); omega⟩
  obtain ⟨neg, e1, e2, e3⟩ := hsg
  have hp := plainL_num q.num.natAbs
  have vp : val (TL.numL q.num.natAbs) = q.num.natAbs := TL.numL_val _
  have n47 := plain_no hp (s := 47) (by omega)
  have n45 := plain_no hp (s := 45) (by omega)
  have h45 : ∀ r : List Nat, neg = false → (TL.numL q.num.natAbs ++ r).head? ≠ some 45 := fun r _ z => by
    cases hh : TL.numL q.num.natAbs with
    | nil => exact TL.numL_ne _ hh
    | cons c s =>
      rw [hh] at z n45
      simp only [List.cons_append, List.head?_cons, Option.some.injEq] at z
      exact n45 (by rw [z]; exact List.mem_cons_self ..)
  by_cases hd : q.den = 1
  · have e : partL q = sgL neg ++ TL.numL q.num.natAbs := by unfold partL; rw [if_pos hd, List.append_nil, e1]
    have ha := Asc.part q
    rw [e] at hl ha ⊢
    rw [List.length_append] at hl
    have h0 := h45 []
    rw [List.append_nil] at h0
    rw [z_part_in1 ha (by omega) n47 h0]
    unfold read1
    rw [vp, if_pos ⟨hp, e2⟩]
    have h1 : q = Rat.divInt (sgI neg q.num.natAbs) 1 := rat_eq (x := q) e3 hd
    show Rz.ok (encR (Rat.divInt (sgI neg q.num.natAbs) 1)) = _
    rw [← h1]
  · have e : partL q = sgL neg ++ (TL.numL q.num.natAbs ++ 47 :: TL.numL q.den) := by unfold partL; rw [if_neg hd, e1, List.append_assoc]
    have ha := Asc.part q
    rw [e] at hl ha ⊢
    rw [List.length_append, List.length_append, List.length_cons] at hl
    rw [z_part_in2 ha (by omega) n47 (h45 _)]
    unfold read2
    have vq : val (TL.numL q.den) = q.den := TL.numL_val _
    have hg := gcd_nd q
    rw [e3, gcd_sg] at hg
    rw [vp, vq, if_pos ⟨hp, plainL_num _, q.den_nz, hd, e2, hg⟩, ← e3]
    have := rat_eq (x := q) rfl rfl
    show Rz.ok (encR _) = _
    rw [← this]
theorem kRaiseI_a (x f : Str) (m : MA) (ρ : List Slot) : kRaiseI x f m ρ = kE m (fun ds => match ds with
  | [d] => .ex ⟨x, [(f, d)]⟩ ρ
  | _ => .bad) ρ := nr rfl
theorem wt_BadText : wTry ⟨"BadText", [("at", .int 0)]⟩ = some "BadText 0" := by kernel_rfl
theorem part_of_none {d : PyData} (h : d_part_in [d] = .ok .none) : d_part_of [d] = .ex ⟨"BadText", [("at", .int 0)]⟩ := by
  have z1 : isNone .none = true := rfl
  simp only [zR0, zR1, zR2, zR3, zR4, zR5, zR6, zR7, zR8, zR9, zR10, zR11, zR12, slotsM, kFor_a, Rz.bind_ok, Rz.of_some, Rz.calm_ok, Option.bind_some, Option.bind_none, slots, sel, Arg.get, List.filterMap_cons, List.filterMap_nil, List.length_cons, List.length_nil, List.map_cons, List.map_nil, List.cons_append, List.nil_append, List.append_nil, List.getElem?_cons_succ, List.getElem?_cons_zero, List.getElem?_nil, List.set_cons_zero, List.set_cons_succ, List.set_nil, List.replicate_succ, List.replicate_zero, if_true, Nat.sub_self, Nat.reduceAdd, Nat.reduceSub, Nat.reduceLeDiff, Nat.reduceEqDiff, Nat.reduceLT, Int.reduceLT, Int.reduceLE, Int.reduceNeg, Int.reduceEq, Nat.zero_add, and_self, if_false, Bool.not_true, Bool.not_false, Bool.false_eq_true, Nat.zero_le, decide_true, decide_false, reduceCtorEq, d_part_of, m_part_of, h, z1, kRaiseI_a]
theorem part_of_some {d : PyData} {q : Rat} (h : d_part_in [d] = .ok (encR q)) : d_part_of [d] = .ok (encR q) := by
  have z1 : isNone (encR q) = false := rfl
  simp only [zR0, zR1, zR2, zR3, zR4, zR5, zR6, zR7, zR8, zR9, zR10, zR11, zR12, slotsM, kFor_a, Rz.bind_ok, Rz.of_some, Rz.calm_ok, Option.bind_some, Option.bind_none, slots, sel, Arg.get, List.filterMap_cons, List.filterMap_nil, List.length_cons, List.length_nil, List.map_cons, List.map_nil, List.cons_append, List.nil_append, List.append_nil, List.getElem?_cons_succ, List.getElem?_cons_zero, List.getElem?_nil, List.set_cons_zero, List.set_cons_succ, List.set_nil, List.replicate_succ, List.replicate_zero, if_true, Nat.sub_self, Nat.reduceAdd, Nat.reduceSub, Nat.reduceLeDiff, Nat.reduceEqDiff, Nat.reduceLT, Int.reduceLT, Int.reduceLE, Int.reduceNeg, Int.reduceEq, Nat.zero_add, and_self, if_false, Bool.not_true, Bool.not_false, Bool.false_eq_true, Nat.zero_le, decide_true, decide_false, reduceCtorEq, d_part_of, m_part_of, h, z1]
theorem bw1 {w : Str} (neg : Bool) (p : List Nat) (e : w = tS (sgL neg ++ p)) (ha : Asc (sgL neg ++ p)) (hl : p.length ≤ 490) (h47 : 47 ∉ p) (h45 : neg = false → p.head? ≠ some 45) (hn : ¬ (plainL p = true ∧ ¬ (neg = true ∧ val p = 0))) : d_part_of [.str w] = .ex ⟨"BadText", [("at", .int 0)]⟩ := by
  refine part_of_none ?_
  rw [e, z_part_in1 ha hl h47 h45]
  unfold read1
  rw [if_neg hn]
  rfl
theorem bw2 {w : Str} (neg : Bool) (p q : List Nat) (e : w = tS (sgL neg ++ (p ++ 47 :: q))) (ha : Asc (sgL neg ++ (p ++ 47 :: q))) (hl : p.length + q.length ≤ 490) (h47 : 47 ∉ p) (h45 : neg = false → (p ++ 47 :: q).head? ≠ some 45)
    (hn : ¬ (plainL p = true ∧ plainL q = true ∧ val q ≠ 0 ∧ val q ≠ 1 ∧ ¬ (neg = true ∧ val p = 0) ∧ Int.gcd ((val p : Nat) : Int) ((val q : Nat) : Int) = 1)) : d_part_of [.str w] = .ex ⟨"BadText", [("at", .int 0)]⟩ := by
  refine part_of_none ?_
  rw [e, z_part_in2 ha hl h47 h45]
  unfold read2
  rw [if_neg hn]
  rfl
theorem z__law_any_part {a b c e : Int} {rest : List Int} (ha : 0 ≤ a ∧ a < 9967) (hb : 0 ≤ b ∧ b < 9967) (hc : 0 ≤ c ∧ c < 9967) (he : 0 ≤ e ∧ e < 9967) :
    ∃ q : Rat, d__law_any_part [.list ((a :: b :: c :: e :: rest).map .int)] = .ok (encR q) ∧ q.num.natAbs < 10 ^ 12 ∧ q.den < 10 ^ 5 := by
  have ka := fmod_in (a := a) (b := 10) (by decide)
  have kb := fmod_in (a := b) (b := 5) (by decide)
  have ka2 := fmod_in (a := a.fdiv 10) (b := 2) (by decide)
  have kc := fmod_in (a := c) (b := 3) (by decide)
  have kc8 := fmod_in (a := c.fdiv 3) (b := 8) (by decide)
  obtain ⟨u, hu, eu⟩ := pick_int (ns := [0, 1, 0 - 1, 2, 0 - 3, 7, 12, 0 - 60, 99, 0 - 100]) (i := a.fmod 10) (P := fun u => u.natAbs ≤ 100) ka.1 (by simpa using ka.2) (by decide)
  obtain ⟨l, hl, el⟩ := pick_int (ns := [1, 1, 2, 3, 4, 12, 60, 1000 + e]) (i := (c.fdiv 3).fmod 8) (P := fun u => 1 ≤ u ∧ u < 100000) kc8.1 (by simpa using kc8.2) (by
    intro n hn
    simp only [List.mem_cons, List.not_mem_nil, or_false] at hn
    rcases hn with z | z | z | z | z | z | z | z <;> subst z <;> omega)
  simp only [List.map_cons, List.map_nil] at eu el
  have p9 : zPow (.int 10) (.int 9) = some (.int 1000000000) := by rfl
  have a0 : atI (PyData.int a :: .int b :: .int c :: .int e :: rest.map .int) 0 = some (.int a) := by
    have := atI_nat (xs := PyData.int a :: .int b :: .int c :: .int e :: rest.map .int) (i := 0) (by simp)
    simpa using this
  have a1 : atI (PyData.int a :: .int b :: .int c :: .int e :: rest.map .int) 1 = some (.int b) := by
    have := atI_nat (xs := PyData.int a :: .int b :: .int c :: .int e :: rest.map .int) (i := 1) (by simp)
    simpa using this
  have a2 : atI (PyData.int a :: .int b :: .int c :: .int e :: rest.map .int) 2 = some (.int c) := by
    have := atI_nat (xs := PyData.int a :: .int b :: .int c :: .int e :: rest.map .int) (i := 2) (by simp)
    simpa using this
  have a3 : atI (PyData.int a :: .int b :: .int c :: .int e :: rest.map .int) 3 = some (.int e) := by
    have := atI_nat (xs := PyData.int a :: .int b :: .int c :: .int e :: rest.map .int) (i := 3) (by simp)
    simpa using this
  have m10 := zMod_i (i := a) (j := 10) (by decide)
  have m5 := zMod_i (i := b) (j := 5) (by decide)
  have f10 := zFd_i (i := a) (j := 10) (by decide) (by decide)
  have m2 := zMod_i (i := a.fdiv 10) (j := 2) (by decide)
  have m3 := zMod_i (i := c) (j := 3) (by decide)
  have f2 := zFd_i (i := c.fmod 3) (j := 2) (by decide) (by decide)
  have f3 := zFd_i (i := c) (j := 3) (by decide) (by decide)
  have m8 := zMod_i (i := c.fdiv 3) (j := 8) (by decide)
  have q2 : 0 ≤ (c.fmod 3).fdiv 2 ∧ (c.fmod 3).fdiv 2 ≤ 1 := by
    obtain ⟨h1, h2⟩ := kc
    generalize c.fmod 3 = z at *
    have : z = 0 ∨ z = 1 ∨ z = 2 := by omega
    rcases this with rfl | rfl | rfl <;> decide
  have x1 : zMulV (.int (b.fmod 5)) (.int ((a.fdiv 10).fmod 2)) = some (.int (b.fmod 5 * (a.fdiv 10).fmod 2)) := zMulV_l (by omega)
  have y1 : (b.fmod 5 * (a.fdiv 10).fmod 2).natAbs ≤ 4 := by
    generalize b.fmod 5 = v at *
    generalize (a.fdiv 10).fmod 2 = t at *
    have : t = 0 ∨ t = 1 := by omega
    rcases this with rfl | rfl <;> omega
  generalize b.fmod 5 * (a.fdiv 10).fmod 2 = v1 at *
  have x2 : zMulV (.int ((c.fmod 3).fdiv 2)) (.int (1000000000 + e)) = some (.int ((c.fmod 3).fdiv 2 * (1000000000 + e))) := zMulV_l (by omega)
  have y2 : 0 ≤ (c.fmod 3).fdiv 2 * (1000000000 + e) ∧ (c.fmod 3).fdiv 2 * (1000000000 + e) ≤ 1000009966 := by
    generalize (c.fmod 3).fdiv 2 = v at *
    have : v = 0 ∨ v = 1 := by omega
    rcases this with rfl | rfl <;> omega
  generalize (c.fmod 3).fdiv 2 * (1000000000 + e) = v2 at *
  have x3 : zMulV (.int (u + v1)) (.int (1 + v2)) = some (.int ((u + v1) * (1 + v2))) := zMulV_l (by omega)
  have y3 : ((u + v1) * (1 + v2)).natAbs < 10 ^ 12 := by
    rw [Int.natAbs_mul]
    have h1 : (u + v1).natAbs ≤ 104 := by omega
    have h2 : (1 + v2).natAbs ≤ 1000009967 := by omega
    calc (u + v1).natAbs * (1 + v2).natAbs ≤ 104 * 1000009967 := Nat.mul_le_mul h1 h2
      _ < 10 ^ 12 := by decide
  generalize (u + v1) * (1 + v2) = U at *
  have lp := z__law_part (u := U) (l := l) (by omega)
  obtain ⟨d, rfl⟩ := Int.eq_ofNat_of_zero_le (show 0 ≤ l by omega)
  have bd := divInt_le (n := U) (d := d) (by omega)
  refine ⟨_, ?_, Nat.lt_of_le_of_lt bd.1 y3, Nat.lt_of_le_of_lt bd.2 (by omega)⟩
  simp only [zR0, zR1, zR2, zR3, zR4, zR5, zR6, zR7, zR8, zR9, zR10, zR11, zR12, slotsM, kFor_a, Rz.bind_ok, Rz.of_some, Rz.calm_ok, Option.bind_some, Option.bind_none, slots, sel, Arg.get, List.filterMap_cons, List.filterMap_nil, List.length_cons, List.length_nil, List.map_cons, List.map_nil, List.cons_append, List.nil_append, List.append_nil, List.getElem?_cons_succ, List.getElem?_cons_zero, List.getElem?_nil, List.set_cons_zero, List.set_cons_succ, List.set_nil, List.replicate_succ, List.replicate_zero, if_true, Nat.sub_self, Nat.reduceAdd, Nat.reduceSub, Nat.reduceLeDiff, Nat.reduceEqDiff, Nat.reduceLT, Int.reduceLT, Int.reduceLE, Int.reduceNeg, Int.reduceEq, Nat.zero_add, and_self, if_false, Bool.not_true, Bool.not_false, Bool.false_eq_true, Nat.zero_le, decide_true, decide_false, reduceCtorEq, d__law_any_part, m__law_any_part, a0, a1, a2, a3, m10, m5, f10, m2, m3, f2, f3, m8, p9, eu, el, x1, x2, x3, lp]
abbrev S04 (sc : Slot) (xs : List Int) (k d this text turn at_ sign due words word : Slot) : List Slot := [sc, .dat (.list (xs.map .int)), k, d, this, text, turn, at_, sign, due, words, word]
theorem pl_t {n : Nat} {l : List Nat} (h : Asc l) : Pl n (.str (tS l)) := pl_str _ (lay_t h)
theorem k04_bend {sc k this turn due w1 w2 : Slot} {xs ys : List Int} (hy : ys.length = 12) (hf : ∀ y ∈ ys, 0 ≤ y ∧ y < 9967) {l : List Nat} (ha : Asc l) (hl : l.length ≤ 300) {n : Nat} (hn : n < 2) :
    ∃ l', Asc l' ∧ l'.length ≤ l.length + 1 ∧ ∃ a b, b1_law (S04 sc xs k (.dat (.list (ys.map .int))) this (.dat (.str (tS l))) (.dat (natD n)) .no .no due w1 w2) = .nx (S04 sc xs k (.dat (.list (ys.map .int))) this (.dat (.str (tS l'))) (.dat (natD n)) a b due w1 w2) := by
  obtain ⟨h1, e1⟩ := atI_int (xs := ys.map PyData.int) (i := 6 + 2 * (n : Int)) (by omega) (by rw [List.length_map]; omega)
  obtain ⟨h2, e2⟩ := atI_int (xs := ys.map PyData.int) (i := 7 + 2 * (n : Int)) (by omega) (by rw [List.length_map]; omega)
  obtain ⟨h3, e3⟩ := atI_int (xs := ys.map PyData.int) (i := 10) (by omega) (by rw [List.length_map]; omega)
  rw [List.getElem_map] at e1 e2 e3
  rw [List.length_map] at h1 h2 h3
  generalize ys[(6 + 2 * (n : Int)).toNat] = a at *
  generalize ys[(7 + 2 * (n : Int)).toNat] = b at *
  generalize ys[(10 : Int).toNat] = c at *
  have ln := zLen_s (l := l) (by omega)
  have ka := fmod_in (a := a) (b := (l.length : Int) + 1) (by omega)
  have kb := fmod_in (a := b) (b := 10) (by decide)
  have kc := fmod_in (a := c) (b := 3) (by decide)
  have ma := zMod_i (i := a) (j := (l.length : Int) + 1) (by omega)
  have mb := zMod_i (i := b) (j := 10) (by decide)
  have mc := zMod_i (i := c) (j := 3) (by decide)
  have h2n : zMulV (.int 2) (.int (n : Nat)) = some (.int (2 * (n : Int))) := zMulV_l (by decide)
  generalize a.fmod ((l.length : Int) + 1) = p at *
  obtain ⟨p, rfl⟩ := Int.eq_ofNat_of_zero_le ka.1
  have hp : p ≤ l.length := by omega
  -- the sign
  have sg : ∃ g : Nat, g < 128 ∧ zIx (.str "0123/-+ .a") (.int (b.fmod 10)) = some (.str (tS [g])) := by
    have e : ("0123/-+ .a" : Str) = tS [48, 49, 50, 51, 47, 45, 43, 32, 46, 97] := by kernel_rfl
    generalize b.fmod 10 = v at *
    have : v = 0 ∨ v = 1 ∨ v = 2 ∨ v = 3 ∨ v = 4 ∨ v = 5 ∨ v = 6 ∨ v = 7 ∨ v = 8 ∨ v = 9 := by omega
    rw [e]
    rcases this with rfl | rfl | rfl | rfl | rfl | rfl | rfl | rfl | rfl | rfl
    · exact ⟨48, by decide, by kernel_rfl⟩
    · exact ⟨49, by decide, by kernel_rfl⟩
    · exact ⟨50, by decide, by kernel_rfl⟩
    · exact ⟨51, by decide, by kernel_rfl⟩
    · exact ⟨47, by decide, by kernel_rfl⟩
    · exact ⟨45, by decide, by kernel_rfl⟩
    · exact ⟨43, by decide, by kernel_rfl⟩
    · exact ⟨32, by decide, by kernel_rfl⟩
    · exact ⟨46, by decide, by kernel_rfl⟩
    · exact ⟨97, by decide, by kernel_rfl⟩
  obtain ⟨g, hg, eg⟩ := sg
  have s1 := zSlS_a (z := tS l) (lo := none) (hi := some ((p : Nat) : Int)) (by rw [len_t]; omega)
  rw [cut_tt hp] at s1
  -- what stands there
  have mid : ∃ m : List Nat, Asc m ∧ m.length ≤ 1 ∧ atI [PyData.str (tS [g]), .str "", .str (tS [g])] (c.fmod 3) = some (.str (tS m)) := by
    generalize c.fmod 3 = v at *
    have : v = 0 ∨ v = 1 ∨ v = 2 := by omega
    rcases this with rfl | rfl | rfl
    · exact ⟨[g], Asc.one hg, Nat.le_refl _, rfl⟩
    · exact ⟨[], Asc.nil, Nat.zero_le _, rfl⟩
    · exact ⟨[g], Asc.one hg, Nat.le_refl _, rfl⟩
  obtain ⟨m, hm, hml, em⟩ := mid
  -- the rest
  have tail : ∃ t : List Nat, Asc t ∧ t.length ≤ l.length - p ∧ zSlS (.str (tS l)) (some (((p : Nat) : Int) + (if decide (0 < c.fmod 3) then 1 else 0))) none = some (.str (tS t)) := by
    by_cases hc : 0 < c.fmod 3
    · rw [decide_eq_true hc]
      have hs := zSlS_a (z := tS l) (lo := some (((p + 1 : Nat)) : Int)) (hi := none) (by rw [len_t]; omega)
      by_cases hp1 : p + 1 ≤ l.length
      · rw [cut_td hp1] at hs
        exact ⟨_, ha.drop _, by rw [List.length_drop]; omega, hs⟩
      · have e : cutS (tS l) (some (((p + 1 : Nat)) : Int)) none = tS [] := by
          rw [cut_t, HT.sIx_nat, HT.sIx_none, Nat.min_eq_right (by omega), List.drop_length, List.take_nil]
        rw [e] at hs
        exact ⟨[], Asc.nil, Nat.zero_le _, hs⟩
    · rw [decide_eq_false hc]
      have hs := zSlS_a (z := tS l) (lo := some ((p : Nat) : Int)) (hi := none) (by rw [len_t]; omega)
      rw [cut_td hp] at hs
      refine ⟨_, ha.drop _, by rw [List.length_drop]; exact Nat.le_refl _, ?_⟩
      show zSlS (.str (tS l)) (some (((p : Nat) : Int) + 0)) none = _
      rw [Int.add_zero]
      exact hs
  obtain ⟨t, ht, htl, et⟩ := tail
  have lt : (l.take p).length ≤ p := by rw [List.length_take]; omega
  have x1 := zAdd_t (a := l.take p) (b := m) (by omega)
  have x2 := zAdd_t (a := l.take p ++ m) (b := t) (by rw [List.length_append]; omega)
  refine ⟨l.take p ++ m ++ t, ((ha.take p).app hm).app ht, by rw [List.length_append, List.length_append]; omega, .dat (.int ((p : Nat) : Int)), .dat (.str (tS [g])), ?_⟩
  rw [b1_law_a]
  simp only [zR0, zR1, zR2, zR3, zR4, zR5, zR6, zR7, zR8, zR9, zR10, zR11, zR12, slotsM, kFor_a, Rz.bind_ok, Rz.of_some, Rz.calm_ok, Option.bind_some, Option.bind_none, slots, sel, Arg.get, List.filterMap_cons, List.filterMap_nil, List.length_cons, List.length_nil, List.map_cons, List.map_nil, List.cons_append, List.nil_append, List.append_nil, List.getElem?_cons_succ, List.getElem?_cons_zero, List.getElem?_nil, List.set_cons_zero, List.set_cons_succ, List.set_nil, List.replicate_succ, List.replicate_zero, if_true, Nat.sub_self, Nat.reduceAdd, Nat.reduceSub, Nat.reduceLeDiff, Nat.reduceEqDiff, Nat.reduceLT, Int.reduceLT, Int.reduceLE, Int.reduceNeg, Int.reduceEq, Nat.zero_add, and_self, if_false, Bool.not_true, Bool.not_false, Bool.false_eq_true, Nat.zero_le, decide_true, decide_false, reduceCtorEq, natD, h2n, e1, e2, e3, ln, ma, mb, mc, eg, s1, em, et, x1, x2]
theorem k04_turn {sc w1 w2 : Slot} {xs : List Int} (hx : xs.length = 80) (hf : Few xs) {k : Nat} (hk : k < 6) :
    ∃ ρ', b2_law (S04 sc xs (.dat (natD k)) .no .no .no .no .no .no .no w1 w2) = .nx ρ' ∧ wipeS ρ' [2, 3, 4, 5, 6, 7, 8, 9] = S04 sc xs .no .no .no .no .no .no .no .no w1 w2 := by
  obtain ⟨ys, y1, y2, y3⟩ := cut_map (xs := xs) (i := 12 * (k : Nat)) (j := 12 * (k : Nat) + 12) (by omega) (by omega) (by omega)
  have y1 : ys.length = 12 := by omega
  have yf : ∀ y ∈ ys, 0 ≤ y ∧ y < 9967 := fun y hy => hf y (y2 y hy)
  have any : ∃ q : Rat, d__law_any_part [.list (ys.map .int)] = .ok (encR q) ∧ q.num.natAbs < 10 ^ 12 ∧ q.den < 10 ^ 5 := by
    match ys, y1, yf with
    | a :: b :: c :: e :: rest, _, yf => exact z__law_any_part (yf a (by simp)) (yf b (by simp)) (yf c (by simp)) (yf e (by simp))
  obtain ⟨q, hq, qn, qd⟩ := any
  have h12 : zMulV (.int 12) (.int (k : Nat)) = some (.int (12 * (k : Nat))) := zMulV_l (by decide)
  have dpos := q.den_pos
  have le1 := intL_len (i := q.num) (k := 12) (by decide) qn
  have le2 := TL.numL_len (n := q.den) (k := 5) (by decide) qd
  have pl : (partL q).length ≤ 19 := by
    unfold partL
    rw [List.length_append]
    split
    · simp only [List.length_nil]; omega
    · rw [List.length_cons]; omega
  have big : (10 : Nat) ^ 12 < 2 ^ 60 := by decide
  have t1 := zStr_t (i := q.num) (k := 60) (by omega) (by decide) (by decide)
  have t2 := zStr_t (i := (q.den : Int)) (k := 60) (by omega) (by decide) (by decide)
  rw [intL_nn] at t2
  have sl : ∀ l : List Nat, l.length ≤ 100 → zAddV (.str "/") (.str (tS l)) = some (.str (tS (47 :: l))) := fun l hl => by
    have := zAdd_t (a := [47]) (b := l) (by simp; omega)
    rw [← lit_s] at this
    exact this
  have a3 := sl (TL.numL q.den) (by omega)
  -- the text
  have st3 : kAsg (xOp zAddV (xCB zStr (zCons (xOp zIx (xV 4) (xC (.int 0))) zNil)) (xOp zMulS (xOp zAddV (xC (.str "/")) (xCB zStr (zCons (xOp zIx (xV 4) (xC (.int 1))) zNil))) (xCB zInt (zCons (xOp zNe (xOp zIx (xV 4) (xC (.int 1))) (xC (.int 1))) zNil)))) 5 (S04 sc xs (.dat (natD k)) (.dat (.list (ys.map .int))) (.dat (encR q)) .no .no .no .no .no w1 w2) = .nx (S04 sc xs (.dat (natD k)) (.dat (.list (ys.map .int))) (.dat (encR q)) (.dat (.str (tS (partL q)))) .no .no .no .no w1 w2) := by
    by_cases h1 : q.den = 1
    · have c1 : decide ((q.den : Int) = 1) = true := decide_eq_true (by omega)
      have e0 : Str.empty = tS [] := by kernel_rfl
      have x1 := zAdd_t (a := intL q.num) (b := []) (by simp only [List.length_nil]; omega)
      rw [← e0] at x1
      have hp : partL q = intL q.num ++ [] := by unfold partL; rw [if_pos h1]
      rw [hp]
      simp only [zR0, zR1, zR2, zR3, zR4, zR5, zR6, zR7, zR8, zR9, zR10, zR11, zR12, slotsM, kFor_a, Rz.bind_ok, Rz.of_some, Rz.calm_ok, Option.bind_some, Option.bind_none, slots, sel, Arg.get, List.filterMap_cons, List.filterMap_nil, List.length_cons, List.length_nil, List.map_cons, List.map_nil, List.cons_append, List.nil_append, List.append_nil, List.getElem?_cons_succ, List.getElem?_cons_zero, List.getElem?_nil, List.set_cons_zero, List.set_cons_succ, List.set_nil, List.replicate_succ, List.replicate_zero, if_true, Nat.sub_self, Nat.reduceAdd, Nat.reduceSub, Nat.reduceLeDiff, Nat.reduceEqDiff, Nat.reduceLT, Int.reduceLT, Int.reduceLE, Int.reduceNeg, Int.reduceEq, Nat.zero_add, and_self, if_false, Bool.not_true, Bool.not_false, Bool.false_eq_true, Nat.zero_le, decide_true, decide_false, reduceCtorEq, t1, t2, a3, c1, x1]
    · have c1 : decide ((q.den : Int) = 1) = false := decide_eq_false (by omega)
      have x1 := zAdd_t (a := intL q.num) (b := 47 :: TL.numL q.den) (by rw [List.length_cons]; omega)
      have hp : partL q = intL q.num ++ 47 :: TL.numL q.den := by unfold partL; rw [if_neg h1]
      rw [hp]
      simp only [zR0, zR1, zR2, zR3, zR4, zR5, zR6, zR7, zR8, zR9, zR10, zR11, zR12, slotsM, kFor_a, Rz.bind_ok, Rz.of_some, Rz.calm_ok, Option.bind_some, Option.bind_none, slots, sel, Arg.get, List.filterMap_cons, List.filterMap_nil, List.length_cons, List.length_nil, List.map_cons, List.map_nil, List.cons_append, List.nil_append, List.append_nil, List.getElem?_cons_succ, List.getElem?_cons_zero, List.getElem?_nil, List.set_cons_zero, List.set_cons_succ, List.set_nil, List.replicate_succ, List.replicate_zero, if_true, Nat.sub_self, Nat.reduceAdd, Nat.reduceSub, Nat.reduceLeDiff, Nat.reduceEqDiff, Nat.reduceLT, Int.reduceLT, Int.reduceLE, Int.reduceNeg, Int.reduceEq, Nat.zero_add, and_self, if_false, Bool.not_true, Bool.not_false, Bool.false_eq_true, Nat.zero_le, decide_true, decide_false, reduceCtorEq, t1, t2, a3, c1, x1]
  have ptx := z_part_text (q := q) (by omega) (by omega) (by omega)
  have pof := part_of_some (in_own (q := q) (by omega))
  have same1 := same_ok (d := .list [.str (tS (partL q)), encR q]) (.list (by simp) fun d hd => by
    simp only [List.mem_cons, List.not_mem_nil, or_false] at hd
    rcases hd with z | z
    · subst z; exact pl_t (Asc.part q)
    · subst z; exact pl_encR q)
  obtain ⟨h4, e4⟩ := atI_int (xs := ys.map PyData.int) (i := 4) (by omega) (by rw [List.length_map]; omega)
  obtain ⟨h5, e5⟩ := atI_int (xs := ys.map PyData.int) (i := 5) (by omega) (by rw [List.length_map]; omega)
  rw [List.getElem_map] at e4 e5
  generalize ys[(4 : Int).toNat]'(by rw [List.length_map] at h4; exact h4) = v4 at *
  generalize ys[(5 : Int).toNat]'(by rw [List.length_map] at h5; exact h5) = v5 at *
  have m7 := zMod_i (i := v4) (j := 7) (by decide)
  have m3 := zMod_i (i := v5) (j := 3) (by decide)
  have k3 := fmod_in (a := v5) (b := 3) (by decide)
  -- three times both
  have st5 : ∃ l, Asc l ∧ l.length ≤ 60 ∧ kIf (yV (xOp zEq (xOp zMod (xOp zIx (xV 3) (xC (.int 4))) (xC (.int 7))) (xC (.int 6)))) (kAsg (xOp zAddV (xOp zAddV (xCB zStr (zCons (xOp zMulV (xOp zIx (xV 4) (xC (.int 0))) (xC (.int 3))) zNil)) (xC (.str "/"))) (xCB zStr (zCons (xOp zMulV (xOp zIx (xV 4) (xC (.int 1))) (xC (.int 3))) zNil))) 5) kNx (S04 sc xs (.dat (natD k)) (.dat (.list (ys.map .int))) (.dat (encR q)) (.dat (.str (tS (partL q)))) .no .no .no .no w1 w2) = .nx (S04 sc xs (.dat (natD k)) (.dat (.list (ys.map .int))) (.dat (encR q)) (.dat (.str (tS l))) .no .no .no .no w1 w2) := by
    by_cases h6 : v4.fmod 7 = 6
    · have c6 : decide (v4.fmod 7 = 6) = true := decide_eq_true h6
      have n3 : zMulV (.int q.num) (.int 3) = some (.int (q.num * 3)) := zMulV_r (by decide)
      have d3 : zMulV (.int (q.den : Int)) (.int 3) = some (.int (((q.den * 3 : Nat)) : Int)) := by
        rw [zMulV_r (by decide)]
        norm_cast
      have u1 := zStr_t (i := q.num * 3) (k := 60) (by omega) (by decide) (by decide)
      have u2 := zStr_t (i := ((q.den * 3 : Nat) : Int)) (k := 60) (by omega) (by decide) (by decide)
      rw [intL_nn] at u2
      have l1 := intL_len (i := q.num * 3) (k := 13) (by decide) (by omega)
      have l2 := TL.numL_len (n := q.den * 3) (k := 6) (by decide) (by omega)
      have x1 := zAdd_t (a := intL (q.num * 3)) (b := [47]) (by rw [List.length_singleton]; omega)
      have x2 := zAdd_t (a := intL (q.num * 3) ++ [47]) (b := TL.numL (q.den * 3)) (by rw [List.length_append, List.length_singleton]; omega)
      rw [← lit_s] at x1
      refine ⟨intL (q.num * 3) ++ [47] ++ TL.numL (q.den * 3), ((Asc.int _).app (Asc.one (by decide))).app (Asc.num _), by rw [List.length_append, List.length_append, List.length_singleton]; omega, ?_⟩
      simp only [zR0, zR1, zR2, zR3, zR4, zR5, zR6, zR7, zR8, zR9, zR10, zR11, zR12, slotsM, kFor_a, Rz.bind_ok, Rz.of_some, Rz.calm_ok, Option.bind_some, Option.bind_none, slots, sel, Arg.get, List.filterMap_cons, List.filterMap_nil, List.length_cons, List.length_nil, List.map_cons, List.map_nil, List.cons_append, List.nil_append, List.append_nil, List.getElem?_cons_succ, List.getElem?_cons_zero, List.getElem?_nil, List.set_cons_zero, List.set_cons_succ, List.set_nil, List.replicate_succ, List.replicate_zero, if_true, Nat.sub_self, Nat.reduceAdd, Nat.reduceSub, Nat.reduceLeDiff, Nat.reduceEqDiff, Nat.reduceLT, Int.reduceLT, Int.reduceLE, Int.reduceNeg, Int.reduceEq, Nat.zero_add, and_self, if_false, Bool.not_true, Bool.not_false, Bool.false_eq_true, Nat.zero_le, decide_true, decide_false, reduceCtorEq, e4, m7, c6, n3, d3, u1, u2, x1, x2]
    · have c6 : decide (v4.fmod 7 = 6) = false := decide_eq_false h6
      refine ⟨partL q, Asc.part q, by omega, ?_⟩
      simp only [zR0, zR1, zR2, zR3, zR4, zR5, zR6, zR7, zR8, zR9, zR10, zR11, zR12, slotsM, kFor_a, Rz.bind_ok, Rz.of_some, Rz.calm_ok, Option.bind_some, Option.bind_none, slots, sel, Arg.get, List.filterMap_cons, List.filterMap_nil, List.length_cons, List.length_nil, List.map_cons, List.map_nil, List.cons_append, List.nil_append, List.append_nil, List.getElem?_cons_succ, List.getElem?_cons_zero, List.getElem?_nil, List.set_cons_zero, List.set_cons_succ, List.set_nil, List.replicate_succ, List.replicate_zero, if_true, Nat.sub_self, Nat.reduceAdd, Nat.reduceSub, Nat.reduceLeDiff, Nat.reduceEqDiff, Nat.reduceLT, Int.reduceLT, Int.reduceLE, Int.reduceNeg, Int.reduceEq, Nat.zero_add, and_self, if_false, Bool.not_true, Bool.not_false, Bool.false_eq_true, Nat.zero_le, decide_true, decide_false, reduceCtorEq, e4, m7, c6]
  obtain ⟨l, la, ll, st5⟩ := st5
  -- bent
  obtain ⟨m, hm⟩ := Int.eq_ofNat_of_zero_le k3.1
  have st6 : ∃ l', Asc l' ∧ l'.length ≤ 62 ∧ kFor (iA rng1 (zCons (xOp zMod (xOp zIx (xV 3) (xC (.int 5))) (xC (.int 3))) zNil)) (gN 6) [6, 7, 8] b1_law (S04 sc xs (.dat (natD k)) (.dat (.list (ys.map .int))) (.dat (encR q)) (.dat (.str (tS l))) .no .no .no .no w1 w2) = .nx (S04 sc xs (.dat (natD k)) (.dat (.list (ys.map .int))) (.dat (encR q)) (.dat (.str (tS l'))) .no .no .no .no w1 w2) := by
    have hm3 : m < 3 := by omega
    obtain ⟨ρ', e, l', a', b', rfl⟩ := forL_ex (g := gN 6) (wp := [6, 7, 8]) (b := b1_law) (enc := natD) (F := fun n ρ => ρ.set 6 (.dat (natD n))) (fun j ρ => ∃ l', Asc l' ∧ l'.length ≤ 60 + j ∧ ρ = S04 sc xs (.dat (natD k)) (.dat (.list (ys.map .int))) (.dat (encR q)) (.dat (.str (tS l'))) .no .no .no .no w1 w2)
      (List.range m) 0 (S04 sc xs (.dat (natD k)) (.dat (.list (ys.map .int))) (.dat (encR q)) (.dat (.str (tS l))) .no .no .no .no w1 w2) (fun n _ => rfl) ⟨l, la, ll, rfl⟩ (fun i n ρ hi hp => by
        obtain ⟨l1, p1, p2, rfl⟩ := hp
        have hi := List.getElem?_eq_some_iff.mp hi
        obtain ⟨hi1, hi2⟩ := hi
        rw [List.length_range] at hi1
        rw [List.getElem_range] at hi2
        subst hi2
        obtain ⟨l2, q1, q2, a, b, q3⟩ := k04_bend (sc := sc) (k := .dat (natD k)) (this := .dat (encR q)) (turn := .no) (due := .no) (w1 := w1) (w2 := w2) (xs := xs) y1 yf p1 (by omega) (n := i) (by omega)
        exact ⟨_, q3, l2, q1, by omega, rfl⟩)
    refine ⟨l', a', by rw [List.length_range] at b'; omega, ?_⟩
    rw [kFor_a, kE_a]
    have r : rng1 [.int (m : Int)] = some ((List.range m).map natD) := by
      rw [rng1_n (by omega)]
      congr 1
      refine List.map_congr_left fun x _ => ?_
      show PyData.int (0 + (x : Int)) = PyData.int (x : Int)
      rw [Int.zero_add]
    simp only [zR0, zR1, zR2, zR3, zR4, zR5, zR6, zR7, zR8, zR9, zR10, zR11, zR12, slotsM, kFor_a, Rz.bind_ok, Rz.of_some, Rz.calm_ok, Option.bind_some, Option.bind_none, slots, sel, Arg.get, List.filterMap_cons, List.filterMap_nil, List.length_cons, List.length_nil, List.map_cons, List.map_nil, List.cons_append, List.nil_append, List.append_nil, List.getElem?_cons_succ, List.getElem?_cons_zero, List.getElem?_nil, List.set_cons_zero, List.set_cons_succ, List.set_nil, List.replicate_succ, List.replicate_zero, if_true, Nat.sub_self, Nat.reduceAdd, Nat.reduceSub, Nat.reduceLeDiff, Nat.reduceEqDiff, Nat.reduceLT, Int.reduceLT, Int.reduceLE, Int.reduceNeg, Int.reduceEq, Nat.zero_add, and_self, if_false, Bool.not_true, Bool.not_false, Bool.false_eq_true, Nat.zero_le, decide_true, decide_false, reduceCtorEq, e5, m3, hm, r]
    exact e
  obtain ⟨l', la', ll', st6⟩ := st6
  obtain ⟨r, rp, rl⟩ := read_both la' (by omega)
  refine ⟨S04 sc xs (.dat (natD k)) (.dat (.list (ys.map .int))) (.dat (encR q)) (.dat (.str (tS l'))) .no .no .no (.dat (encO r)) w1 w2, ?_, rfl⟩
  rw [b2_law_a]
  refine seq_step (ρ' := S04 sc xs (.dat (natD k)) (.dat (.list (ys.map .int))) .no .no .no .no .no .no w1 w2) (by simp only [zR0, zR1, zR2, zR3, zR4, zR5, zR6, zR7, zR8, zR9, zR10, zR11, zR12, slotsM, kFor_a, Rz.bind_ok, Rz.of_some, Rz.calm_ok, Option.bind_some, Option.bind_none, slots, sel, Arg.get, List.filterMap_cons, List.filterMap_nil, List.length_cons, List.length_nil, List.map_cons, List.map_nil, List.cons_append, List.nil_append, List.append_nil, List.getElem?_cons_succ, List.getElem?_cons_zero, List.getElem?_nil, List.set_cons_zero, List.set_cons_succ, List.set_nil, List.replicate_succ, List.replicate_zero, if_true, Nat.sub_self, Nat.reduceAdd, Nat.reduceSub, Nat.reduceLeDiff, Nat.reduceEqDiff, Nat.reduceLT, Int.reduceLT, Int.reduceLE, Int.reduceNeg, Int.reduceEq, Nat.zero_add, and_self, if_false, Bool.not_true, Bool.not_false, Bool.false_eq_true, Nat.zero_le, decide_true, decide_false, reduceCtorEq, natD, h12, y3]) ?_
  refine seq_step (ρ' := S04 sc xs (.dat (natD k)) (.dat (.list (ys.map .int))) (.dat (encR q)) .no .no .no .no .no w1 w2) (by simp only [zR0, zR1, zR2, zR3, zR4, zR5, zR6, zR7, zR8, zR9, zR10, zR11, zR12, slotsM, kFor_a, Rz.bind_ok, Rz.of_some, Rz.calm_ok, Option.bind_some, Option.bind_none, slots, sel, Arg.get, List.filterMap_cons, List.filterMap_nil, List.length_cons, List.length_nil, List.map_cons, List.map_nil, List.cons_append, List.nil_append, List.append_nil, List.getElem?_cons_succ, List.getElem?_cons_zero, List.getElem?_nil, List.set_cons_zero, List.set_cons_succ, List.set_nil, List.replicate_succ, List.replicate_zero, if_true, Nat.sub_self, Nat.reduceAdd, Nat.reduceSub, Nat.reduceLeDiff, Nat.reduceEqDiff, Nat.reduceLT, Int.reduceLT, Int.reduceLE, Int.reduceNeg, Int.reduceEq, Nat.zero_add, and_self, if_false, Bool.not_true, Bool.not_false, Bool.false_eq_true, Nat.zero_le, decide_true, decide_false, reduceCtorEq, hq]) ?_
  refine seq_step st3 ?_
  refine seq_step (ρ' := S04 sc xs (.dat (natD k)) (.dat (.list (ys.map .int))) (.dat (encR q)) (.dat (.str (tS (partL q)))) .no .no .no .no w1 w2) (by simp only [zR0, zR1, zR2, zR3, zR4, zR5, zR6, zR7, zR8, zR9, zR10, zR11, zR12, slotsM, kFor_a, Rz.bind_ok, Rz.of_some, Rz.calm_ok, Option.bind_some, Option.bind_none, slots, sel, Arg.get, List.filterMap_cons, List.filterMap_nil, List.length_cons, List.length_nil, List.map_cons, List.map_nil, List.cons_append, List.nil_append, List.append_nil, List.getElem?_cons_succ, List.getElem?_cons_zero, List.getElem?_nil, List.set_cons_zero, List.set_cons_succ, List.set_nil, List.replicate_succ, List.replicate_zero, if_true, Nat.sub_self, Nat.reduceAdd, Nat.reduceSub, Nat.reduceLeDiff, Nat.reduceEqDiff, Nat.reduceLT, Int.reduceLT, Int.reduceLE, Int.reduceNeg, Int.reduceEq, Nat.zero_add, and_self, if_false, Bool.not_true, Bool.not_false, Bool.false_eq_true, Nat.zero_le, decide_true, decide_false, reduceCtorEq, ptx, pof, same1]) ?_
  refine seq_step st5 ?_
  refine seq_step st6 ?_
  refine seq_step (ρ' := S04 sc xs (.dat (natD k)) (.dat (.list (ys.map .int))) (.dat (encR q)) (.dat (.str (tS l'))) .no .no .no (.dat (encO r)) w1 w2) (by simp only [zR0, zR1, zR2, zR3, zR4, zR5, zR6, zR7, zR8, zR9, zR10, zR11, zR12, slotsM, kFor_a, Rz.bind_ok, Rz.of_some, Rz.calm_ok, Option.bind_some, Option.bind_none, slots, sel, Arg.get, List.filterMap_cons, List.filterMap_nil, List.length_cons, List.length_nil, List.map_cons, List.map_nil, List.cons_append, List.nil_append, List.append_nil, List.getElem?_cons_succ, List.getElem?_cons_zero, List.getElem?_nil, List.set_cons_zero, List.set_cons_succ, List.set_nil, List.replicate_succ, List.replicate_zero, if_true, Nat.sub_self, Nat.reduceAdd, Nat.reduceSub, Nat.reduceLeDiff, Nat.reduceEqDiff, Nat.reduceLT, Int.reduceLT, Int.reduceLE, Int.reduceNeg, Int.reduceEq, Nat.zero_add, and_self, if_false, Bool.not_true, Bool.not_false, Bool.false_eq_true, Nat.zero_le, decide_true, decide_false, reduceCtorEq, rl]) ?_
  cases r with
  | none =>
    have po := part_of_none rp
    have same2 := same_ok (d := .tuple [.none, .str "BadText 0"]) (pl_two (n := 7) .none (pl_str _))
    have n1 : isNone .none = true := rfl
    have n2 : encO none = .none := rfl
    simp only [zR0, zR1, zR2, zR3, zR4, zR5, zR6, zR7, zR8, zR9, zR10, zR11, zR12, slotsM, kFor_a, Rz.bind_ok, Rz.of_some, Rz.calm_ok, Option.bind_some, Option.bind_none, slots, sel, Arg.get, List.filterMap_cons, List.filterMap_nil, List.length_cons, List.length_nil, List.map_cons, List.map_nil, List.cons_append, List.nil_append, List.append_nil, List.getElem?_cons_succ, List.getElem?_cons_zero, List.getElem?_nil, List.set_cons_zero, List.set_cons_succ, List.set_nil, List.replicate_succ, List.replicate_zero, if_true, Nat.sub_self, Nat.reduceAdd, Nat.reduceSub, Nat.reduceLeDiff, Nat.reduceEqDiff, Nat.reduceLT, Int.reduceLT, Int.reduceLE, Int.reduceNeg, Int.reduceEq, Nat.zero_add, and_self, if_false, Bool.not_true, Bool.not_false, Bool.false_eq_true, Nat.zero_le, decide_true, decide_false, reduceCtorEq, po, xTry_a, tryD_ex wt_BadText, n1, n2, same2]
  | some x =>
    have po := part_of_some rp
    have same2 := same_ok (d := .tuple [encR x, .str ""]) (pl_two (n := 7) (pl_encR _) (pl_str _))
    have n1 : isNone (encR x) = false := rfl
    have n2 : encO (some x) = encR x := rfl
    simp only [zR0, zR1, zR2, zR3, zR4, zR5, zR6, zR7, zR8, zR9, zR10, zR11, zR12, slotsM, kFor_a, Rz.bind_ok, Rz.of_some, Rz.calm_ok, Option.bind_some, Option.bind_none, slots, sel, Arg.get, List.filterMap_cons, List.filterMap_nil, List.length_cons, List.length_nil, List.map_cons, List.map_nil, List.cons_append, List.nil_append, List.append_nil, List.getElem?_cons_succ, List.getElem?_cons_zero, List.getElem?_nil, List.set_cons_zero, List.set_cons_succ, List.set_nil, List.replicate_succ, List.replicate_zero, if_true, Nat.sub_self, Nat.reduceAdd, Nat.reduceSub, Nat.reduceLeDiff, Nat.reduceEqDiff, Nat.reduceLT, Int.reduceLT, Int.reduceLE, Int.reduceNeg, Int.reduceEq, Nat.zero_add, and_self, if_false, Bool.not_true, Bool.not_false, Bool.false_eq_true, Nat.zero_le, decide_true, decide_false, reduceCtorEq, po, xTry_a, tryD_ok, n2, n1, same2]
instance (l : List Nat) : Decidable (Asc l) := inferInstanceAs (Decidable (∀ c ∈ l, c < 128))
abbrev w04 : List Str := ["", "-", "-0", "0/2", "1/", "/2", "2/4", "3/1", "1/0", "--1", "1/-2", "01", "1/02", " 1", "1/2/3", "+1"]
theorem k04_words : ∀ w ∈ w04, d_part_of [.str w] = .ex ⟨"BadText", [("at", .int 0)]⟩ := by
  have e1 : d_part_of [.str ""] = .ex ⟨"BadText", [("at", .int 0)]⟩ := bw1 false [] (by kernel_rfl) (by intro c hc; cases hc) (by decide) (by decide) (by decide) (by decide)
  have e2 : d_part_of [.str "-"] = .ex ⟨"BadText", [("at", .int 0)]⟩ := bw1 true [] (by kernel_rfl) (by decide) (by decide) (by decide) (by decide) (by decide)
  have e3 : d_part_of [.str "-0"] = .ex ⟨"BadText", [("at", .int 0)]⟩ := bw1 true [48] (by kernel_rfl) (by decide) (by decide) (by decide) (by decide) (by decide)
  have e4 : d_part_of [.str "0/2"] = .ex ⟨"BadText", [("at", .int 0)]⟩ := bw2 false [48] [50] (by kernel_rfl) (by decide) (by decide) (by decide) (by decide) (by decide)
  have e5 : d_part_of [.str "1/"] = .ex ⟨"BadText", [("at", .int 0)]⟩ := bw2 false [49] [] (by kernel_rfl) (by decide) (by decide) (by decide) (by decide) (by decide)
  have e6 : d_part_of [.str "/2"] = .ex ⟨"BadText", [("at", .int 0)]⟩ := bw2 false [] [50] (by kernel_rfl) (by decide) (by decide) (by decide) (by decide) (by decide)
  have e7 : d_part_of [.str "2/4"] = .ex ⟨"BadText", [("at", .int 0)]⟩ := bw2 false [50] [52] (by kernel_rfl) (by decide) (by decide) (by decide) (by decide) (by decide)
  have e8 : d_part_of [.str "3/1"] = .ex ⟨"BadText", [("at", .int 0)]⟩ := bw2 false [51] [49] (by kernel_rfl) (by decide) (by decide) (by decide) (by decide) (by decide)
  have e9 : d_part_of [.str "1/0"] = .ex ⟨"BadText", [("at", .int 0)]⟩ := bw2 false [49] [48] (by kernel_rfl) (by decide) (by decide) (by decide) (by decide) (by decide)
  have f1 : d_part_of [.str "--1"] = .ex ⟨"BadText", [("at", .int 0)]⟩ := bw1 true [45, 49] (by kernel_rfl) (by decide) (by decide) (by decide) (by decide) (by decide)
  have f2 : d_part_of [.str "1/-2"] = .ex ⟨"BadText", [("at", .int 0)]⟩ := bw2 false [49] [45, 50] (by kernel_rfl) (by decide) (by decide) (by decide) (by decide) (by decide)
  have f3 : d_part_of [.str "01"] = .ex ⟨"BadText", [("at", .int 0)]⟩ := bw1 false [48, 49] (by kernel_rfl) (by decide) (by decide) (by decide) (by decide) (by decide)
  have f4 : d_part_of [.str "1/02"] = .ex ⟨"BadText", [("at", .int 0)]⟩ := bw2 false [49] [48, 50] (by kernel_rfl) (by decide) (by decide) (by decide) (by decide) (by decide)
  have f5 : d_part_of [.str " 1"] = .ex ⟨"BadText", [("at", .int 0)]⟩ := bw1 false [32, 49] (by kernel_rfl) (by decide) (by decide) (by decide) (by decide) (by decide)
  have f6 : d_part_of [.str "1/2/3"] = .ex ⟨"BadText", [("at", .int 0)]⟩ := bw2 false [49] [50, 47, 51] (by kernel_rfl) (by decide) (by decide) (by decide) (by decide) (by decide)
  have f7 : d_part_of [.str "+1"] = .ex ⟨"BadText", [("at", .int 0)]⟩ := bw1 false [43, 49] (by kernel_rfl) (by decide) (by decide) (by decide) (by decide) (by decide)
  intro w hw
  simp only [w04, List.mem_cons, List.not_mem_nil, or_false] at hw
  rcases hw with z | z | z | z | z | z | z | z | z | z | z | z | z | z | z | z <;> subst z <;> assumption
theorem pure_law (sc : Slot) (xs : List Int) (hx : xs.length = 80) (hf : Few xs) : m_law [sc, .dat (.list (xs.map .int)), .no, .no, .no, .no, .no, .no, .no, .no, .no, .no] = .rt (.bool true) := by
  have r6 : rng1 [.int 6] = some ((List.range 6).map natD) := rfl
  have loop : forL (gN 2) [2, 3, 4, 5, 6, 7, 8, 9] b2_law ((List.range 6).map natD) (S04 sc xs .no .no .no .no .no .no .no .no .no .no) = .nx (S04 sc xs .no .no .no .no .no .no .no .no .no .no) :=
    forL_id (F := fun k ρ => ρ.set 2 (.dat (natD k))) (fun k _ => rfl) fun k hk => k04_turn hx hf (List.mem_range.mp hk)
  unfold m_law
  refine seq_step (ρ' := S04 sc xs .no .no .no .no .no .no .no .no .no .no) (by rw [kFor_a, kE_a]; simp only [zR0, zR1, zR2, zR3, zR4, zR5, zR6, zR7, zR8, zR9, zR10, zR11, zR12, slotsM, kFor_a, Rz.bind_ok, Rz.of_some, Rz.calm_ok, Option.bind_some, Option.bind_none, slots, sel, Arg.get, List.filterMap_cons, List.filterMap_nil, List.length_cons, List.length_nil, List.map_cons, List.map_nil, List.cons_append, List.nil_append, List.append_nil, List.getElem?_cons_succ, List.getElem?_cons_zero, List.getElem?_nil, List.set_cons_zero, List.set_cons_succ, List.set_nil, List.replicate_succ, List.replicate_zero, if_true, Nat.sub_self, Nat.reduceAdd, Nat.reduceSub, Nat.reduceLeDiff, Nat.reduceEqDiff, Nat.reduceLT, Int.reduceLT, Int.reduceLE, Int.reduceNeg, Int.reduceEq, Nat.zero_add, and_self, if_false, Bool.not_true, Bool.not_false, Bool.false_eq_true, Nat.zero_le, decide_true, decide_false, reduceCtorEq, r6]; exact loop) ?_
  refine seq_step (ρ' := S04 sc xs .no .no .no .no .no .no .no .no (.dat (.list (w04.map .str))) .no) (by simp only [zR0, zR1, zR2, zR3, zR4, zR5, zR6, zR7, zR8, zR9, zR10, zR11, zR12, slotsM, kFor_a, Rz.bind_ok, Rz.of_some, Rz.calm_ok, Option.bind_some, Option.bind_none, slots, sel, Arg.get, List.filterMap_cons, List.filterMap_nil, List.length_cons, List.length_nil, List.map_cons, List.map_nil, List.cons_append, List.nil_append, List.append_nil, List.getElem?_cons_succ, List.getElem?_cons_zero, List.getElem?_nil, List.set_cons_zero, List.set_cons_succ, List.set_nil, List.replicate_succ, List.replicate_zero, if_true, Nat.sub_self, Nat.reduceAdd, Nat.reduceSub, Nat.reduceLeDiff, Nat.reduceEqDiff, Nat.reduceLT, Int.reduceLT, Int.reduceLE, Int.reduceNeg, Int.reduceEq, Nat.zero_add, and_self, if_false, Bool.not_true, Bool.not_false, Bool.false_eq_true, Nat.zero_le, decide_true, decide_false, reduceCtorEq]) ?_
  have lc : lcL (gN 11) yYes (xF (dRel Rsame8) (zCons (xTry wTry (xF d_part_of (zCons (xV 11) zNil))) (zCons (xTup (zCons (xC .none) (zCons (xC (.str "BadText 0")) zNil))) zNil))) (S04 sc xs .no .no .no .no .no .no .no .no (.dat (.list (w04.map .str))) .no) (w04.map .str) = .ok (w04.map fun _ => .bool true) := by
    refine lcL_map (F := fun w ρ => ρ.set 11 (.dat (.str w))) (fun w _ => rfl) (fun w _ => rfl) fun w hw => ?_
    have po := k04_words w hw
    have same2 := same_ok (d := .tuple [.none, .str "BadText 0"]) (pl_two (n := 7) .none (pl_str _))
    simp only [zR0, zR1, zR2, zR3, zR4, zR5, zR6, zR7, zR8, zR9, zR10, zR11, zR12, slotsM, kFor_a, Rz.bind_ok, Rz.of_some, Rz.calm_ok, Option.bind_some, Option.bind_none, slots, sel, Arg.get, List.filterMap_cons, List.filterMap_nil, List.length_cons, List.length_nil, List.map_cons, List.map_nil, List.cons_append, List.nil_append, List.append_nil, List.getElem?_cons_succ, List.getElem?_cons_zero, List.getElem?_nil, List.set_cons_zero, List.set_cons_succ, List.set_nil, List.replicate_succ, List.replicate_zero, if_true, Nat.sub_self, Nat.reduceAdd, Nat.reduceSub, Nat.reduceLeDiff, Nat.reduceEqDiff, Nat.reduceLT, Int.reduceLT, Int.reduceLE, Int.reduceNeg, Int.reduceEq, Nat.zero_add, and_self, if_false, Bool.not_true, Bool.not_false, Bool.false_eq_true, Nat.zero_le, decide_true, decide_false, reduceCtorEq, po, xTry_a, tryD_ex wt_BadText, same2]
  have al := zAll_m w04 fun _ => true
  have hl : (w04.map PyData.str).length ≤ 1000000 := by decide
  have xv : xV 10 (S04 sc xs .no .no .no .no .no .no .no .no (.dat (.list (w04.map .str))) .no) = .ok (.list (w04.map .str)) := rfl
  have wp : wipeS (S04 sc xs .no .no .no .no .no .no .no .no (.dat (.list (w04.map .str))) .no) [11] = S04 sc xs .no .no .no .no .no .no .no .no (.dat (.list (w04.map .str))) .no := rfl
  have al2 : zAll [.list (w04.map fun _ => .bool true)] = some (.bool true) := by
    refine al.trans ?_
    rw [List.all_eq_true.mpr fun _ _ => rfl]
  rw [kRet_a, kE_a, xCB_a, zCons_a, xL_a, fLc_a, iS_a, xv, wp]
  rw [Rz.bind_ok, seqOf_l, Rz.of_some, Rz.bind_ok, if_pos hl, lc, Rz.bind_ok, Rz.bind_ok, zNil_a, Rz.bind_ok, Rz.bind_ok, al2]
  rfl

theorem fmod_few {a b : Int} (hb : 0 < b) : 0 ≤ a.fmod b ∧ a.fmod b < b := by
  rw [Int.fmod_eq_emod_of_nonneg a (by omega)]
  exact ⟨Int.emod_nonneg a (by omega), Int.emod_lt_of_pos a hb⟩
theorem map_app (xs : List Int) (y : Int) : xs.map PyData.int ++ [PyData.int y] = (xs ++ [y]).map PyData.int := by simp
def numI (many : Nat) (ns : List Int) (n : Nat) (ρ : List Slot) : Prop := ∃ (xs : List Int) (seed : Int), Le [.scr (ns.map .int), .dat (.int many), .own (.lst (xs.map .int)), .dat (.int seed), .no, .no, .no] ρ ∧ Few xs ∧ xs.length ≤ n ∧ 0 ≤ seed ∧ seed < 2147483648
def numJ (many : Nat) (ns : List Int) (n : Nat) (ρ : List Slot) : Prop := ∃ (xs : List Int) (seed rest : Int), Le [.scr (ns.map .int), .dat (.int many), .own (.lst (xs.map .int)), .dat (.int seed), .no, .dat (.int rest), .no] ρ ∧ Few xs ∧ xs.length ≤ n ∧ 0 ≤ seed ∧ seed < 2147483648
theorem ok__law_numbers {P : Program} {w : World} {K : PySem.W.Frag} {T : Tb} {mg : Str → Option Value} {base : Heap} {f : Addr} {fd : FuncData} {dvs : List V} (F : FnP K "_law_numbers" s__law_numbers dvs f fd) (Z : Blt mg) :
    FnOk P w K mg base CX0 41 f fd ["_law_script", "_law_many"] (spA K T Rnumbers) := by
  refine fnA F sc__law_numbers (fun ds r h => ?_) (fun cdv A outer s H E hr => ?_)
  · obtain ⟨ns, many, hns, hm, rfl, rfl⟩ := h
    rfl
  · have nd := sc__law_numbers.nd
    refine ⟨_, (pss_cons (ps_set (i := 2) nd rfl (Or.inl rfl) (pe_lst pa_nil))
      (pss_cons (ps_set (i := 3) nd rfl (Or.inl rfl) pe_int)
      (pss_cons (ps_for PassesOwn.never rfl (pi_seqK K (pe_slice (sl_anyK K) (pv 0) po_none (po_some pe_int))) (pg_name (i := 4) nd rfl (Or.inl rfl)) (pss_cons (ps_set (i := 3) nd rfl (Or.inl rfl) (pe_op op_modN (pe_op (op_addK K) (pe_op (op_addK K) (pe_op op_mulA (pv 3) pe_int) (pe_op op_modN (pv 4) pe_int)) pe_int) pe_int))
      (pss_cons (ps_set (i := 5) nd rfl (Or.inl rfl) (pe_op op_sub (pv 4) (pe_op op_pow pe_int pe_int)))
      (pss_cons (ps_if (pt_cmpR op_lt (pv 5) pe_int (nomark _)) (pss_one (ps_expr (pe_bmK K PySem.F.plainAttrs_list PySem.F.slot_list_append PySem.F.type_list_append mt_append (pv 2) (pa_cons (pe_op op_modN (pv 4) pe_int) pa_nil)))) pss_nil)
      (pss_one (ps_for PassesOwn.never rfl (pi_range1 (by rfl) Z.range (pa_cons pe_int pa_nil)) (pg_name (i := 6) nd rfl (Or.inl rfl)) (pss_one (ps_if (pt_cmpR op_gt (pv 5) pe_int (nomark _)) (pss_cons (ps_expr (pe_bmK K PySem.F.plainAttrs_list PySem.F.slot_list_append PySem.F.type_list_append mt_append (pv 2) (pa_cons (pe_op op_modN (pv 5) pe_int) pa_nil)))
      (pss_one (ps_set (i := 5) nd rfl (Or.inl rfl) (pe_op op_fdX (pv 5) pe_int)))) pss_nil))))))))
      (pss_cons (ps_while PassesOwn.never (pt_cmpR op_lt (pe_callB (call_lenK K) (by rfl) Z.len PySem.boot_len (pa_cons (pv 2) pa_nil)) (pv 1) (nomark _)) (pss_cons (ps_set (i := 3) nd rfl (Or.inl rfl) (pe_op op_modN (pe_op (op_addK K) (pe_op (op_addK K) (pe_op (op_addK K) (pe_op op_mulA (pv 3) (pv 3)) (pe_op op_mulA pe_int (pv 3))) (pe_op op_mulA pe_int (pe_callB (call_lenK K) (by rfl) Z.len PySem.boot_len (pa_cons (pv 2) pa_nil)))) pe_int) pe_int))
      (pss_one (ps_expr (pe_bmK K PySem.F.plainAttrs_list PySem.F.slot_list_append PySem.F.type_list_append mt_append (pv 2) (pa_cons (pe_op op_modN (pe_op op_fdX (pv 3) pe_int) pe_int) pa_nil))))))
      (pss_one (ps_ret (pe_slice (sl_anyK K) (pv 2) po_none (po_some (pv 1))))))))), ?_⟩
    wtm_at "cx"
    rintro ss Po ⟨ns, many, hns, hm, rfl, rfl⟩ H0 C D hrt
    show Tri K T H0 _ C [.scr (ns.map .int), .dat (.int many), .no, .no, .no, .no, .no] _ D
    wtm_at "own"
    wtm_at "asg"
    have hit : IterD K T (iSeq K (tSl (rSlX K) (tVar 0) tNoPart (tPart (tC (.int 63))))) [.scr (ns.map .int), .dat (.int many), .own (.lst []), .dat (.int 97), .no, .no, .no] (cutD (ns.map .int) none (some 63)) :=
      it_list (ef_slS rfl ep_none (ep_some ev_int)).ev
    have hcut : cutD (ns.map .int) none (some 63) = ns.map .int := by
      unfold cutD
      have e1 : HT.sIx (ns.map PyData.int).length 0 none = 0 := rfl
      have e2 : HT.sIx (ns.map PyData.int).length (ns.map PyData.int).length (some 63) = ns.length := by
        rw [show (63 : Int) = ((63 : Nat) : Int) from rfl, HT.sIx_nat, List.length_map]
        omega
      rw [e1, e2, List.drop_zero, Nat.sub_zero]
      exact List.take_of_length_le (by simp)
    rw [hcut] at hit
    refine q_forG hit (fun i ρ => numI many ns (61 * i) ρ) ⟨[], 97, ?_, (fun x hx => by cases hx), by simp, by decide, by decide⟩ ?_ ?_
    · simp only [List.map_nil]
      wtm_at "le"
    · rintro B' i d ρi hB hd ⟨xs, seed, hle, hf, hl, h0, h1⟩
      rw [List.getElem?_map] at hd
      cases e : ns[i]? with
      | none => rw [e] at hd; cases hd
      | some cell =>
        rw [e] at hd
        cases hd
        have hi : i < ns.length := (List.getElem?_eq_some_iff.mp e).1
        refine ⟨_, _, tg_name, s_weak (hle.set 4 _) ?_⟩
        show Tri K T H0 B' C [.scr (ns.map .int), .dat (.int many), .own (.lst (xs.map .int)), .dat (.int seed), .dat (.int cell), .no, .no] _ _
        have b1 := fmod_few (a := cell) (b := 999979) (by decide)
        have b2 := fmod_few (a := seed * 40014 + cell.fmod 999979 + 41) (b := 2147483563) (by decide)
        wtm_at "asg"
        wtm_at "asg"
        have go : ∀ (ys : List Int) (rest : Int), Few ys → ys.length ≤ 61 * i + 1 → Tri K T H0 B' C [.scr (ns.map .int), .dat (.int many), .own (.lst (ys.map .int)), .dat (.int ((seed * 40014 + cell.fmod 999979 + 41).fmod 2147483563)), .dat (.int cell), .dat (.int rest), .no]
            (tFor (iRng1 (tCons (tC (.int 60)) tNil)) (gName 6) (tIfS (tTest (tOp (rI0 fun i j => .bl (decide (j < i))) (tVar 5) (tC (.int 0)))) (tSeq (tDrop (tBM K "list" rAppend (tVar 2) (tCons (tOp (rI (fun _ j => j ≠ 0) fun i j => .int (i.fmod j)) (tVar 5) (tC (.int 1013))) tNil))) (tAsg (tOp (rI CFd fun i j => .int (i.fdiv j)) (tVar 5) (tC (.int 1013))) (gName 5))) tNext))
            { nx := Nxt K T H0 B' C (numI many ns (61 * (i + 1))), rt := D.rt, bk := fun σ H => tSeq (tWhile (tTest (tOp (rI0 fun i j => .bl (decide (i < j))) (tCB (rLenA K) (tCons (tVar 2) tNil)) (tVar 1))) (tSeq (tAsg (tOp (rI (fun _ j => j ≠ 0) fun i j => .int (i.fmod j)) (tOp (rAddA K) (tOp (rAddA K) (tOp (rAddA K) (tOp rMulA (tVar 3) (tVar 3)) (tOp rMulA (tC (.int 52774)) (tVar 3))) (tOp rMulA (tC (.int 23)) (tCB (rLenA K) (tCons (tVar 2) tNil)))) (tC (.int 5))) (tC (.int 2147483629))) (gName 3)) (tDrop (tBM K "list" rAppend (tVar 2) (tCons (tOp (rI (fun _ j => j ≠ 0) fun i j => .int (i.fmod j)) (tOp (rI CFd fun i j => .int (i.fdiv j)) (tVar 3) (tC (.int 1019))) (tC (.int 9967))) tNil))))) (tRet (tSl (rSlX K) (tVar 2) tNoPart (tPart (tVar 1)))) D σ H, ct := Nxt K T H0 B' C (numI many ns (61 * (i + 1))) } := by
          intro ys rest hy hyl
          refine s_forG (it_range1 (by wtm_at "ea") (by decide) (by decide)) (fun k ρ => numJ many ns (61 * i + 1 + k) ρ) ⟨ys, _, rest, ?_, hy, hyl, b2.1, Int.lt_trans b2.2 (by decide)⟩ ?_ ?_
          · wtm_at "le"
          · rintro B2 k d2 ρk hB2 hd2 ⟨zs, sd, r2, hle2, hf2, hl2, h02, h12⟩
            obtain ⟨hk, rfl⟩ := rgD_get hd2
            refine ⟨_, _, tg_name, s_weak (hle2.set 6 _) ?_⟩
            show Tri K T H0 B2 C [.scr (ns.map .int), .dat (.int many), .own (.lst (zs.map .int)), .dat (.int sd), .no, .dat (.int r2), .dat (.int (0 + (k : Int)))] _ _
            have hk60 : k < 60 := hk
            refine s_if (by wtm_at "et") (fun c => ?_) (fun c => ?_)
            · have b3 := fmod_few (a := r2) (b := 1013) (by decide)
              refine q_app rfl (by wtm_at "ev") (by rw [List.length_map]; omega) ?_
              wtm_at "nf"
              rw [map_app]
              wtm_at "asg1"
              refine s_nxt (ρ' := [.scr (ns.map .int), .dat (.int many), .own (.lst ((zs ++ [r2.fmod 1013]).map .int)), .dat (.int sd), .no, .dat (.int (r2.fdiv 1013)), .no]) ⟨zs ++ [r2.fmod 1013], sd, r2.fdiv 1013, Le.refl _, hf2.app (.one b3.1 (by omega)), by simp; omega, h02, h12⟩ ?_ rfl
              wtm_at "le"
            · refine s_nxt (ρ' := [.scr (ns.map .int), .dat (.int many), .own (.lst (zs.map .int)), .dat (.int sd), .no, .dat (.int r2), .no]) ⟨zs, sd, r2, Le.refl _, hf2, by omega, h02, h12⟩ ?_ rfl
              wtm_at "le"
          · rintro ρn ⟨zs, sd, r2, hle2, hf2, hl2, h02, h12⟩
            rw [rgD_len] at hl2
            refine s_weak hle2 (s_nxt (ρ' := [.scr (ns.map .int), .dat (.int many), .own (.lst (zs.map .int)), .dat (.int sd), .no, .no, .no]) ⟨zs, sd, Le.refl _, hf2, by simp at hl2; omega, h02, h12⟩ ?_ rfl)
            wtm_at "le"
        refine q_when (by wtm_at "et") (fun c => ?_) (fun c => ?_)
        · have b3 := fmod_few (a := cell) (b := 9967) (by decide)
          refine s_app rfl (by wtm_at "ev") (by rw [List.length_map]; omega) ?_
          wtm_at "nf"
          rw [map_app]
          exact s_to (go _ _ (hf.app (.one b3.1 b3.2)) (by simp; omega))
        · exact go _ _ hf (by omega)
    · rintro ρn ⟨xs, seed, hle, hf, hl, h0, h1⟩
      rw [List.length_map] at hl
      refine s_weak hle ?_
      refine q_while (fun m ρ => ∃ (ys : List Int) (sd : Int), ρ = [.scr (ns.map .int), .dat (.int many), .own (.lst (ys.map .int)), .dat (.int sd), .no, .no, .no] ∧ Few ys ∧ ys.length ≤ 4000 + many ∧ 0 ≤ sd ∧ sd < 2147483648 ∧ m = many - ys.length) (many - xs.length) ⟨xs, seed, rfl, hf, by omega, h0, h1, rfl⟩ ?_
      rintro m ρ ⟨ys, sd, rfl, hf2, hl2, h02, h12, rfl⟩
      refine ⟨_, by wtm_at "et", fun c => ?_, fun c => ?_⟩
      · have c' := of_decide_eq_true c
        rw [List.length_map] at c'
        have mm : IntMulOk sd sd := mulOkL (by omega)
        have b2 := fmod_few (a := sd * sd + 52774 * sd + 23 * ((ys.map PyData.int).length : Int) + 5) (b := 2147483629) (by decide)
        wtm_at "asg"
        have b3 := fmod_few (a := ((sd * sd + 52774 * sd + 23 * ((ys.map PyData.int).length : Int) + 5).fmod 2147483629).fdiv 1019) (b := 9967) (by decide)
        refine s_app rfl (by wtm_at "ev") (by rw [List.length_map]; omega) ?_
        wtm_at "nf"
        rw [map_app]
        intro σ H g
        refine ⟨_, _, ?_, ⟨ys ++ [_], _, rfl, hf2.app (.one b3.1 b3.2), ?_, b2.1, Int.lt_trans b2.2 (by decide), rfl⟩, g⟩
        · simp; omega
        · simp; omega
      · have c' := of_decide_eq_false c
        rw [List.length_map] at c'
        refine s_freeze (i := 2) rfl ?_
        wtm_at "nf"
        refine s_ret (d := .list (cutD (ys.map .int) none (some many))) ?_ (hrt _ ⟨ys.take many, by rw [List.length_take]; omega, fun x hx => hf2 x (List.mem_of_mem_take hx), ?_⟩)
        · wtm_at "ev"
        · unfold cutD
          have e1 : HT.sIx (ys.map PyData.int).length 0 none = 0 := rfl
          have e2 : HT.sIx (ys.map PyData.int).length (ys.map PyData.int).length (some (many : Int)) = many := by
            rw [HT.sIx_nat, List.length_map]
            omega
          rw [e1, e2, List.drop_zero, Nat.sub_zero, List.map_take]
theorem ok_law {P : Program} {w : World} {K : PySem.W.Frag} {T : Tb} {mg : Str → Option Value} {base : Heap} {fd : FuncData} {dvs : List V} (F : FnP K "law" s_law dvs (He.ga K "law") fd) (Z : Blt mg) (Er : ErrT K mg erL) (Fd : FdT K)
    (cL : CalL K mg "_law_tried" s__law_tried "_law_ask") (cf : CalH P w K mg base 42 "_law_flags" ["_law_e"] (spY K T erL flD)) (cw : CalH P w K mg base 42 "_law_word" ["_law_flags_here"] (fun _ _ _ => spZ K T .no fun ds => (d__law_word ds).calm)) (TL : LamTab K T mg base "law")
    (c__law_numbers : Cal P w K mg base 41 "_law_numbers" ["_law_script", "_law_many"] [] (spA K T Rnumbers))
    (c__law_any_part : CalX P w K mg base 42 "_law_any_part" ["_law_d"] [] (spZ K T .no d__law_any_part))
    (c__law_read : CalX P w K mg base 42 "_law_read" ["_law_text"] [] (spZ K T .no d__law_read))
    (c__law_same : Cal P w K mg base 50 "_law_same" ["_law_found", "_law_due"] [] (spR K T Rsame8))
    (c_part_text : CalX P w K mg base 41 "part_text" ["one"] [] (spZ K T .no d_part_text))
    (c_part_of : CalX P w K mg base 44 "part_of" ["text"] [] (spZ K T .no d_part_of)) :
    FnOk P w K mg base CX0 51 (He.ga K "law") fd ["_law_script"] (spA K T Rlaw) := by
  refine fnAL F sc_law (fun ds r h => ?_) (fun A outer s H E hr => ?_)
  · obtain ⟨_, _, rfl, _⟩ := h
    rfl
  · have nd := sc_law.nd
    refine ⟨_, (pss_cons (ps_set (i := 1) nd rfl (Or.inl rfl) (pe_callC c__law_numbers hr rfl (pa_cons (pv 0) (pa_cons pe_int pa_nil))))
      (pss_cons (ps_for PassesOwn.never rfl (pi_range1 (by rfl) Z.range (pa_cons pe_int pa_nil)) (pg_name (i := 2) nd rfl (Or.inl rfl)) (pss_cons (ps_set (i := 3) nd rfl (Or.inl rfl) (pe_slice (sl_anyK K) (pv 1) (po_some (pe_op op_mulA pe_int (pv 2))) (po_some (pe_op (op_addK K) (pe_op op_mulA pe_int (pv 2)) pe_int))))
      (pss_cons (ps_set (i := 4) nd rfl (Or.inl rfl) (pe_callC c__law_any_part.calmZ hr rfl (pa_cons (pv 3) pa_nil)))
      (pss_cons (ps_set (i := 5) nd rfl (Or.inr rfl) (pe_op (op_addK K) (pe_callTy call_strK (by rfl) Z.str (by decide +kernel) (pa_cons (pe_ix (ix_seqK K) (pv 4) pe_int (fun _ _ => rfl)) pa_nil)) (pe_op op_mulS (pe_op (op_addK K) pe_str (pe_callTy call_strK (by rfl) Z.str (by decide +kernel) (pa_cons (pe_ix (ix_seqK K) (pv 4) pe_int (fun _ _ => rfl)) pa_nil))) (pe_callTy call_int1 (by rfl) Z.int (by decide +kernel) (pa_cons (pe_cmpR (op_neK K hr.units) (pe_ix (ix_seqK K) (pv 4) pe_int (fun _ _ => rfl)) pe_int (nomark _)) pa_nil)))))
      (pss_cons (ps_if (pt_not (pt_val (pe_callC c__law_same hr rfl (pa_cons (pe_lst (pa_cons (pe_callC c_part_text.calmZ hr rfl (pa_cons (pv 4) pa_nil)) (pa_cons (pe_callC c_part_of.calmZ hr rfl (pa_cons (pv 5) pa_nil)) pa_nil))) (pa_cons (pe_lst (pa_cons (pv 5) (pa_cons (pv 4) pa_nil))) pa_nil))))) (pss_one (ps_ret pe_bl)) pss_nil)
      (pss_cons (ps_if (pt_cmpR (op_eqK K hr.units) (pe_op op_modN (pe_ix (ix_seqK K) (pv 3) pe_int (fun _ _ => rfl)) pe_int) pe_int (nomark _)) (pss_one (ps_set (i := 5) nd rfl (Or.inr rfl) (pe_op (op_addK K) (pe_op (op_addK K) (pe_callTy call_strK (by rfl) Z.str (by decide +kernel) (pa_cons (pe_op op_mulA (pe_ix (ix_seqK K) (pv 4) pe_int (fun _ _ => rfl)) pe_int) pa_nil)) pe_str) (pe_callTy call_strK (by rfl) Z.str (by decide +kernel) (pa_cons (pe_op op_mulA (pe_ix (ix_seqK K) (pv 4) pe_int (fun _ _ => rfl)) pe_int) pa_nil))))) pss_nil)
      (pss_cons (ps_for PassesOwn.never rfl (pi_range1 (by rfl) Z.range (pa_cons (pe_op op_modN (pe_ix (ix_seqK K) (pv 3) pe_int (fun _ _ => rfl)) pe_int) pa_nil)) (pg_name (i := 6) nd rfl (Or.inl rfl)) (pss_cons (ps_set (i := 7) nd rfl (Or.inl rfl) (pe_op op_modN (pe_ix (ix_seqK K) (pv 3) (pe_op (op_addK K) pe_int (pe_op op_mulA pe_int (pv 6))) (fun _ _ => rfl)) (pe_op (op_addK K) (pe_callB (call_lenK K) (by rfl) Z.len PySem.boot_len (pa_cons (pv 5) pa_nil)) pe_int)))
      (pss_cons (ps_set (i := 8) nd rfl (Or.inl rfl) (pe_ix (ix_seqK K) pe_str (pe_op op_modN (pe_ix (ix_seqK K) (pv 3) (pe_op (op_addK K) pe_int (pe_op op_mulA pe_int (pv 6))) (fun _ _ => rfl)) pe_int) (fun _ _ => rfl)))
      (pss_one (ps_set (i := 5) nd rfl (Or.inr rfl) (pe_op (op_addK K) (pe_op (op_addK K) (pe_slice sl_str (pv 5) po_none (po_some (pv 7))) (pe_ix (ix_seqK K) (pe_lst (pa_cons (pv 8) (pa_cons pe_str (pa_cons (pv 8) pa_nil)))) (pe_op op_modN (pe_ix (ix_seqK K) (pv 3) pe_int (fun _ _ => rfl)) pe_int) (fun _ _ => rfl))) (pe_slice sl_str (pv 5) (po_some (pe_op (op_addK K) (pv 7) (pe_callTy call_int1 (by rfl) Z.int (by decide +kernel) (pa_cons (pe_cmpR op_gt (pe_op op_modN (pe_ix (ix_seqK K) (pv 3) pe_int (fun _ _ => rfl)) pe_int) pe_int (nomark _)) pa_nil)))) po_none)))))))
      (pss_cons (ps_set (i := 9) nd rfl (Or.inl rfl) (pe_callC c__law_read.calmZ hr rfl (pa_cons (pv 5) pa_nil)))
      (pss_one (ps_if (pt_not (pt_val (pe_callC c__law_same hr rfl (pa_cons (pe_tried (y := "law") cL Z Fd Er cf cw TL rfl rfl rfl hr (by decide) (LamX.lamS_by (sc := defScope s_law) (by decide +kernel)) rfl (fun _ _ _ _ _ => by rfl) (fun A outer s H E f c' hr => (pe_callX c_part_of (L2N.takes_of rfl rfl rfl rfl) hr rfl (pa_cons (pv 5) pa_nil)))) (pa_cons (pe_tup (pa_cons (pv 9) (pa_cons (pe_ifExp (pt_cmpR op_notN (pv 9) pe_non (nomark _)) pe_str pe_str) pa_nil))) pa_nil))))) (pss_one (ps_ret pe_bl)) pss_nil))))))))))
      (pss_cons (ps_set (i := 10) nd rfl (Or.inl rfl) (pe_lst (pa_cons pe_str (pa_cons pe_str (pa_cons pe_str (pa_cons pe_str (pa_cons pe_str (pa_cons pe_str (pa_cons pe_str (pa_cons pe_str (pa_cons pe_str (pa_cons pe_str (pa_cons pe_str (pa_cons pe_str (pa_cons pe_str (pa_cons pe_str (pa_cons pe_str (pa_cons pe_str pa_nil))))))))))))))))))
      (pss_one (ps_ret (pe_callB (cr_allK K rfl) (by rfl) Z.all (by decide +kernel) (pa_cons (pe_lc (own := [("_law_word_here", 11)]) rfl nd (pi_seqK K (pv 10)) (blkOk_by (own := [("_law_word_here", 11)]) (N := ["_law_script", "_law_numbers_here", "_law_k", "_law_d", "_law_this", "_law_text", "_law_turn", "_law_at", "_law_sign", "_law_due", "_law_words", "_law_word_here"]) (sc := defScope s_law) (by decide +kernel)) (fun _ _ _ _ _ => (pg_name (i := 11) nd rfl (Or.inr rfl))) (fun _ _ _ _ _ => pts_nil) (fun _ _ _ _ _ => (pe_callC c__law_same hr rfl (pa_cons (by exact (pe_triedK K (y := "law") cL Z Fd Er cf cw TL rfl rfl rfl hr (by decide) (LamX.lamS_by (sc := _) (by kernel_rfl)) rfl (fun _ _ _ _ _ => by rfl) (fun A outer s H E f c' hr => (pe_callX c_part_of (L2N.takes_of rfl rfl rfl rfl) hr rfl (pa_cons (pv 11) pa_nil))))) (pa_cons (pe_tup (pa_cons pe_non (pa_cons pe_str pa_nil))) pa_nil))))) pa_nil))))))), ?_⟩
    rintro ss Po ⟨ns, hl, rfl, rfl⟩ H0 C D hrt
    refine q_num (many := 80) rfl hl (by decide) fun xs hx hf => ?_
    refine tri_sim (fr := .no) (W := fun _ _ _ _ => False) (m := m_law) ((sim_seq (sim_for (sim_rng1 (sim_cons sim_int sim_nil)) simG_N (sim_seq (sim_asg (sim_sl r_slV sim_V (sim_oAt (sim_op r_mulV sim_int sim_V)) (sim_oAt (sim_op r_addV (sim_op r_mulV sim_int sim_V) sim_int))))
    (sim_seq (sim_asg (sim_callC0 (sim_cons sim_V sim_nil)))
    (sim_seq (sim_asg (sim_op r_addV (sim_cb r_str (sim_cons (sim_op r_ix sim_V sim_int) sim_nil)) (sim_op r_mulS (sim_op r_addV sim_str (sim_cb r_str (sim_cons (sim_op r_ix sim_V sim_int) sim_nil))) (sim_cb r_int (sim_cons (sim_op r_ne (sim_op r_ix sim_V sim_int) sim_int) sim_nil)))))
    (sim_seq (sim_kIf (sim_yNot (sim_yB (sim_rel (sim_cons (sim_L (sim_lstF (sim_cons (sim_callC0 (sim_cons sim_V sim_nil)) (sim_cons (sim_callC0 (sim_cons sim_V sim_nil)) sim_nil)))) (sim_cons (sim_L (sim_lstF (sim_cons sim_V (sim_cons sim_V sim_nil)))) sim_nil))))) (sim_ret sim_bl) sim_kNx)
    (sim_seq (sim_kIf (sim_yT (sim_op r_eq (sim_op r_mod (sim_op r_ix sim_V sim_int) sim_int) sim_int)) (sim_asg (sim_op r_addV (sim_op r_addV (sim_cb r_str (sim_cons (sim_op r_mulV (sim_op r_ix sim_V sim_int) sim_int) sim_nil)) sim_str) (sim_cb r_str (sim_cons (sim_op r_mulV (sim_op r_ix sim_V sim_int) sim_int) sim_nil)))) sim_kNx)
    (sim_seq (sim_for (sim_rng1 (sim_cons (sim_op r_mod (sim_op r_ix sim_V sim_int) sim_int) sim_nil)) simG_N (sim_seq (sim_asg (sim_op r_mod (sim_op r_ix sim_V (sim_op r_addV sim_int (sim_op r_mulV sim_int sim_V))) (sim_op r_addV (sim_cb r_len (sim_cons sim_V sim_nil)) sim_int)))
    (sim_seq (sim_asg (sim_op r_ix sim_str (sim_op r_mod (sim_op r_ix sim_V (sim_op r_addV sim_int (sim_op r_mulV sim_int sim_V))) sim_int)))
    (sim_asg (sim_op r_addV (sim_op r_addV (sim_sl r_slS sim_V sim_oNo (sim_oAt sim_V)) (sim_op r_ix (sim_L (sim_lstF (sim_cons sim_V (sim_cons sim_str (sim_cons sim_V sim_nil))))) (sim_op r_mod (sim_op r_ix sim_V sim_int) sim_int))) (sim_sl r_slS sim_V (sim_oAt (sim_op r_addV sim_V (sim_cb r_int (sim_cons (sim_op r_gt (sim_op r_mod (sim_op r_ix sim_V sim_int) sim_int) sim_int) sim_nil)))) sim_oNo))))))
    (sim_seq (sim_asg (sim_callC0 (sim_cons sim_V sim_nil)))
    (sim_kIf (sim_yNot (sim_yB (sim_rel (sim_cons (sim_try fun E => (sim_call0 (sim_cons sim_V sim_nil))) (sim_cons (sim_tup (sim_cons sim_V (sim_cons (sim_if (sim_yT (sim_op r_notN sim_V sim_non)) sim_str sim_str) sim_nil))) sim_nil))))) (sim_ret sim_bl) sim_kNx)))))))))
    (sim_seq (sim_asg (sim_L (sim_lstF (sim_cons sim_str (sim_cons sim_str (sim_cons sim_str (sim_cons sim_str (sim_cons sim_str (sim_cons sim_str (sim_cons sim_str (sim_cons sim_str (sim_cons sim_str (sim_cons sim_str (sim_cons sim_str (sim_cons sim_str (sim_cons sim_str (sim_cons sim_str (sim_cons sim_str (sim_cons sim_str sim_nil)))))))))))))))))))
    (sim_ret (sim_cb r_all (sim_cons (sim_L (sim_lc (W' := fun _ _ _ _ => False) (sim_iS sim_V) simG_N sim_yYes (sim_rel (sim_cons (sim_try fun E => (sim_call0 (sim_cons sim_V sim_nil))) (sim_cons (sim_tup (sim_cons sim_non (sim_cons sim_str sim_nil))) sim_nil))) (by decide))) sim_nil)))))) ?_
    have e := pure_law (.scr (ns.map .int)) xs hx hf
    show PostS K T .no H0 _ C D _ (m_law [.scr (ns.map .int), .dat (.list (xs.map .int)), .no, .no, .no, .no, .no, .no, .no, .no, .no, .no])
    rw [e]
    exact hrt _ rfl
theorem factsL {P : Program} {w : World} {K : PySem.W.Frag} {h : Heap} {mg : Str → Option Value} {f : Addr} (X : K.In h) (G : h.Ns mainGlobals mg) (hfa : mg ("law" : Str) = some (.ref f)) (c : He.SaysD faL fnL K) (hP : P.given.tree = none) (ck : ckL K = true) (ndT : (tfL.map fun p => (He.cT K p).2).Nodup) :
    ∃ fd : FuncData, (∀ (s : Shared) (v : Value), BindsTo s fd ⟨[v], []⟩ [("_law_script", v)]) ∧ ∀ base : Heap, K.In base → base.Ns mainGlobals mg → (∀ p ∈ tfL.map (He.cT K), LamX.TabB base mg p.1 p.2) → FnOk P w K mg base CX0 51 f fd ["_law_script"] (spA K (tabT tfL K) Rlaw) := by
  obtain ⟨fd_common, F_common⟩ := c.def_ 0 (d := dk "common" s_common [] []) rfl
  have m_common := He.glo_ok X G (c.fact 0 (f := .glo "common") rfl)
  replace F_common : FnQ K "common" s_common [] [] (He.ga K "common") fd_common := F_common
  obtain ⟨fd_part, F_part⟩ := c.def_ 1 (d := dk "part" s_part [.int 1] []) rfl
  have m_part := He.glo_ok X G (c.fact 1 (f := .glo "part") rfl)
  replace F_part : FnQ K "part" s_part [V.int 1] [] (He.ga K "part") fd_part := F_part
  obtain ⟨fd_part_text, F_part_text⟩ := c.def_ 2 (d := dk "part_text" s_part_text [] []) rfl
  have m_part_text := He.glo_ok X G (c.fact 2 (f := .glo "part_text") rfl)
  replace F_part_text : FnQ K "part_text" s_part_text [] [] (He.ga K "part_text") fd_part_text := F_part_text
  obtain ⟨fd_number_in, F_number_in⟩ := c.def_ 3 (d := dk "number_in" s_number_in [] []) rfl
  have m_number_in := He.glo_ok X G (c.fact 3 (f := .glo "number_in") rfl)
  replace F_number_in : FnQ K "number_in" s_number_in [] [] (He.ga K "number_in") fd_number_in := F_number_in
  obtain ⟨fd_part_in, F_part_in⟩ := c.def_ 4 (d := dk "part_in" s_part_in [] []) rfl
  have m_part_in := He.glo_ok X G (c.fact 4 (f := .glo "part_in") rfl)
  replace F_part_in : FnQ K "part_in" s_part_in [] [] (He.ga K "part_in") fd_part_in := F_part_in
  obtain ⟨fd_part_of, F_part_of⟩ := c.def_ 5 (d := dk "part_of" s_part_of [] []) rfl
  have m_part_of := He.glo_ok X G (c.fact 5 (f := .glo "part_of") rfl)
  replace F_part_of : FnQ K "part_of" s_part_of [] [] (He.ga K "part_of") fd_part_of := F_part_of
  obtain ⟨fd__law_part, F__law_part⟩ := c.def_ 6 (d := dk "_law_part" s__law_part [] []) rfl
  have m__law_part := He.glo_ok X G (c.fact 6 (f := .glo "_law_part") rfl)
  replace F__law_part : FnQ K "_law_part" s__law_part [] [] (He.ga K "_law_part") fd__law_part := F__law_part
  obtain ⟨fd__law_numbers, F__law_numbers⟩ := c.def_ 7 (d := dk "_law_numbers" s__law_numbers [] []) rfl
  have m__law_numbers := He.glo_ok X G (c.fact 7 (f := .glo "_law_numbers") rfl)
  replace F__law_numbers : FnQ K "_law_numbers" s__law_numbers [] [] (He.ga K "_law_numbers") fd__law_numbers := F__law_numbers
  obtain ⟨fd__law_any_part, F__law_any_part⟩ := c.def_ 8 (d := dk "_law_any_part" s__law_any_part [] []) rfl
  have m__law_any_part := He.glo_ok X G (c.fact 8 (f := .glo "_law_any_part") rfl)
  replace F__law_any_part : FnQ K "_law_any_part" s__law_any_part [] [] (He.ga K "_law_any_part") fd__law_any_part := F__law_any_part
  obtain ⟨fd__law_same, F__law_same⟩ := c.def_ 9 (d := dk "_law_same" s__law_same [] []) rfl
  have m__law_same := He.glo_ok X G (c.fact 9 (f := .glo "_law_same") rfl)
  replace F__law_same : FnQ K "_law_same" s__law_same [] [] (He.ga K "_law_same") fd__law_same := F__law_same
  obtain ⟨fd__law_word, F__law_word⟩ := c.def_ 10 (d := dk "_law_word" s__law_word [] []) rfl
  have m__law_word := He.glo_ok X G (c.fact 10 (f := .glo "_law_word") rfl)
  replace F__law_word : FnQ K "_law_word" s__law_word [] [] (He.ga K "_law_word") fd__law_word := F__law_word
  obtain ⟨fd__law_flags, F__law_flags⟩ := c.def_ 11 (d := dk "_law_flags" s__law_flags [] []) rfl
  have m__law_flags := He.glo_ok X G (c.fact 11 (f := .glo "_law_flags") rfl)
  replace F__law_flags : FnQ K "_law_flags" s__law_flags [] [] (He.ga K "_law_flags") fd__law_flags := F__law_flags
  obtain ⟨fd__law_tried, F__law_tried⟩ := c.def_ 12 (d := dk "_law_tried" s__law_tried [] []) rfl
  have m__law_tried := He.glo_ok X G (c.fact 12 (f := .glo "_law_tried") rfl)
  replace F__law_tried : FnQ K "_law_tried" s__law_tried [] [] (He.ga K "_law_tried") fd__law_tried := F__law_tried
  obtain ⟨fd__law_plain, F__law_plain⟩ := c.def_ 13 (d := dk "_law_plain" s__law_plain [] []) rfl
  have m__law_plain := He.glo_ok X G (c.fact 13 (f := .glo "_law_plain") rfl)
  replace F__law_plain : FnQ K "_law_plain" s__law_plain [] [] (He.ga K "_law_plain") fd__law_plain := F__law_plain
  obtain ⟨fd__law_read, F__law_read⟩ := c.def_ 14 (d := dk "_law_read" s__law_read [] []) rfl
  have m__law_read := He.glo_ok X G (c.fact 14 (f := .glo "_law_read") rfl)
  replace F__law_read : FnQ K "_law_read" s__law_read [] [] (He.ga K "_law_read") fd__law_read := F__law_read
  obtain ⟨fd_law, F_law⟩ := c.def_ 15 (d := dk "law" s_law [] []) rfl
  have m_law := He.glo_ok X G (c.fact 15 (f := .glo "law") rfl)
  replace F_law : FnQ K "law" s_law [] [] (He.ga K "law") fd_law := F_law
  have Z : Blt mg := ⟨He.free_ok X G (c.fact 16 (f := .free "len") rfl), He.free_ok X G (c.fact 17 (f := .free "range") rfl), He.free_ok X G (c.fact 18 (f := .free "abs") rfl), He.free_ok X G (c.fact 19 (f := .free "int") rfl), He.free_ok X G (c.fact 20 (f := .free "list") rfl), He.free_ok X G (c.fact 21 (f := .free "tuple") rfl), He.free_ok X G (c.fact 22 (f := .free "all") rfl), He.free_ok X G (c.fact 23 (f := .free "any") rfl), He.free_ok X G (c.fact 24 (f := .free "str") rfl), He.free_ok X G (c.fact 25 (f := .free "sum") rfl), He.free_ok X G (c.fact 26 (f := .free "max") rfl), He.free_ok X G (c.fact 27 (f := .free "min") rfl), He.free_ok X G (c.fact 28 (f := .free "zip") rfl), He.free_ok X G (c.fact 29 (f := .free "enumerate") rfl), He.free_ok X G (c.fact 30 (f := .free "isinstance") rfl), He.free_ok X G (c.fact 31 (f := .free "sorted") rfl), He.free_ok X G (c.fact 32 (f := .free "reversed") rfl), He.free_ok X G (c.fact 33 (f := .free "bool") rfl), He.free_ok X G (c.fact 34 (f := .free "ValueError") rfl), He.free_ok X G (c.fact 35 (f := .free "ZeroDivisionError") rfl), He.free_ok X G (c.fact 36 (f := .free "dict") rfl)⟩
  have ckk : ckL K = true := ck
  unfold ckL at ckk
  obtain ⟨ckk, ck_3⟩ := He.ba ckk
  obtain ⟨ckk, ck_2⟩ := He.ba ckk
  obtain ⟨ckk, ck_1⟩ := He.ba ckk
  have Se : Seer P K := ⟨hP, ckk⟩
  have Er : ErrT K mg erL := erB_ok X G ck_3
  have Fd : FdT K := fdB_ok ck_2
  obtain ⟨fx_BadText, X_BadText⟩ := c.def_ 16 (d := dx_BadText) rfl
  replace X_BadText : FnM K "__init__" "BadText.__init__" s_BadText_i [] (He.ma K (He.ga K "BadText") "__init__") fx_BadText := X_BadText
  have g_FIGURES : Cst mg K "FIGURES" (.str "0123456789") := cst_str (He.str_ok X G (c.fact 37 (f := .str "FIGURES" "0123456789") rfl))
  cases hfa.symm.trans m_law
  refine ⟨fd_law, fun s v => FunD.bindsA (ps := ["_law_script"]) F_law (fun _ _ _ _ _ _ us hl => match us, hl with | [_], _ => rfl) s [v] rfl, fun base _ _ tbs => ?_⟩
  have xi_BadText : ExI P w K mg base 1 "BadText" "at" := exi_mk ck_1 (erf_BadText Er).g (ok_BadText_i X_BadText) (X_BadText.bindsN (ps := ["self", "at"]) (fun _ _ _ _ _ _ us hl => match us, hl with | [_, _], _ => rfl))
  have TL_law : LamTab K (tabT tfL K) mg base "law" := ⟨tbs _ (List.mem_map.mpr ⟨("law", none), List.mem_of_getElem? (i := 0) rfl, rfl⟩), tabT_mem (p := ("law", none)) (List.mem_of_getElem? (i := 0) rfl), tabT_one ndT (p := ("law", none)) (List.mem_of_getElem? (i := 0) rfl)⟩
  have cL : CalL K mg "_law_tried" s__law_tried "_law_ask" := ⟨⟨_, _, F__law_tried, m__law_tried, F__law_tried.bindsN (ps := ["_law_ask"]) (fun _ _ _ _ _ _ us hl => match us, hl with | [_], _ => rfl)⟩⟩
  have cf : CalH P w K mg base 42 "_law_flags" ["_law_e"] (spY K (tabT tfL K) erL flD) := ⟨⟨_, _, okH__law_flags F__law_flags Z Er, m__law_flags, F__law_flags.kp, F__law_flags.bindsN (ps := ["_law_e"]) (fun _ _ _ _ _ _ us hl => match us, hl with | [_], _ => rfl)⟩⟩
  have cw : CalH P w K mg base 42 "_law_word" ["_law_flags_here"] (fun _ _ _ => spZ K (tabT tfL K) .no fun ds => (d__law_word ds).calm) := ⟨⟨_, _, okH__law_word F__law_word Z, m__law_word, F__law_word.kp, F__law_word.bindsN (ps := ["_law_flags_here"]) (fun _ _ _ _ _ _ us hl => match us, hl with | [_], _ => rfl)⟩⟩
  have G__law_numbers : FnOk P w K mg base CX0 41 _ fd__law_numbers ["_law_script", "_law_many"] (spA K (tabT tfL K) Rnumbers) := ok__law_numbers F__law_numbers Z
  have c__law_numbers := cal_mk (x := "_law_numbers") G__law_numbers m__law_numbers F__law_numbers.kp (F__law_numbers.bindsN (ps := ["_law_script", "_law_many"]) (fun _ _ _ _ _ _ us hl => match us, hl with | [_, _], _ => rfl))
  have G__law_part : FnOk P w K mg base (L2N.CX P w) 41 _ fd__law_part ["_law_up", "_law_down"] (spZ K (tabT tfL K) .no d__law_part) := ok__law_part F__law_part Z Se
  have c__law_part : CalX P w K mg base 41 "_law_part" ["_law_up", "_law_down"] [] (spZ K (tabT tfL K) .no d__law_part) := calX_mk G__law_part m__law_part F__law_part.kp (F__law_part.bindsN (ps := ["_law_up", "_law_down"]) (fun _ _ _ _ _ _ us hl => match us, hl with | [_, _], _ => rfl))
  have G__law_any_part : FnOk P w K mg base (L2N.CX P w) 42 _ fd__law_any_part ["_law_d"] (spZ K (tabT tfL K) .no d__law_any_part) := ok__law_any_part F__law_any_part Z c__law_part
  have c__law_any_part : CalX P w K mg base 42 "_law_any_part" ["_law_d"] [] (spZ K (tabT tfL K) .no d__law_any_part) := calX_mk G__law_any_part m__law_any_part F__law_any_part.kp (F__law_any_part.bindsN (ps := ["_law_d"]) (fun _ _ _ _ _ _ us hl => match us, hl with | [_], _ => rfl))
  have G__law_plain : FnOk P w K mg base (L2N.CX P w) 41 _ fd__law_plain ["_law_text"] (spZ K (tabT tfL K) .no d__law_plain) := ok__law_plain F__law_plain Z
  have c__law_plain : CalX P w K mg base 41 "_law_plain" ["_law_text"] [] (spZ K (tabT tfL K) .no d__law_plain) := calX_mk G__law_plain m__law_plain F__law_plain.kp (F__law_plain.bindsN (ps := ["_law_text"]) (fun _ _ _ _ _ _ us hl => match us, hl with | [_], _ => rfl))
  have G__law_read : FnOk P w K mg base (L2N.CX P w) 42 _ fd__law_read ["_law_text"] (spZ K (tabT tfL K) .no d__law_read) := ok__law_read F__law_read Z c__law_part c__law_plain
  have c__law_read : CalX P w K mg base 42 "_law_read" ["_law_text"] [] (spZ K (tabT tfL K) .no d__law_read) := calX_mk G__law_read m__law_read F__law_read.kp (F__law_read.bindsN (ps := ["_law_text"]) (fun _ _ _ _ _ _ us hl => match us, hl with | [_], _ => rfl))
  have self : ∀ (k : Nat) (R : List PyData → PyData → Prop), FnOk P w K mg base CX0 k _ fd__law_same ["_law_found", "_law_due"] (spR K (tabT tfL K) R) → Cal P w K mg base k "_law_same" ["_law_found", "_law_due"] [] (spR K (tabT tfL K) R) := fun k R G => cal_mk G m__law_same F__law_same.kp (F__law_same.bindsN (ps := ["_law_found", "_law_due"]) (fun _ _ _ _ _ _ us hl => match us, hl with | [_, _], _ => rfl))
  have c__law_same := self 50 Rsame8 (ok__law_same F__law_same Z self)
  have G_part_text : FnOk P w K mg base (L2N.CX P w) 41 _ fd_part_text ["one"] (spZ K (tabT tfL K) .no d_part_text) := ok_part_text F_part_text Z
  have c_part_text : CalX P w K mg base 41 "part_text" ["one"] [] (spZ K (tabT tfL K) .no d_part_text) := calX_mk G_part_text m_part_text F_part_text.kp (F_part_text.bindsN (ps := ["one"]) (fun _ _ _ _ _ _ us hl => match us, hl with | [_], _ => rfl))
  have G_common : FnOk P w K mg base (L2N.CX P w) 41 _ fd_common ["one", "other"] (spZ K (tabT tfL K) .no d_common) := ok_common F_common Z
  have c_common : CalX P w K mg base 41 "common" ["one", "other"] [] (spZ K (tabT tfL K) .no d_common) := calX_mk G_common m_common F_common.kp (F_common.bindsN (ps := ["one", "other"]) (fun _ _ _ _ _ _ us hl => match us, hl with | [_, _], _ => rfl))
  have G_part : FnOk P w K mg base (L2N.CX P w) 42 _ fd_part ["upper", "lower"] (spZ K (tabT tfL K) .no d_part) := ok_part F_part Z Se Er c_common
  have c_part : CalX P w K mg base 42 "part" ["upper", "lower"] [] (spZ K (tabT tfL K) .no d_part) := calX_mkD G_part m_part F_part.kp (FunD.binds1 F_part 2 1 (by first | decide | exact List.cons_ne_nil _ _) (by first | decide | rfl) (fun _ _ _ _ _ _ _ us its hu hi => match us, its, hu, hi with | [_, _], [_], _, _ => ⟨_, rfl, rfl⟩))
  have G_number_in : FnOk P w K mg base (L2N.CX P w) 41 _ fd_number_in ["text"] (spZ K (tabT tfL K) .no d_number_in) := ok_number_in F_number_in Z g_FIGURES
  have c_number_in : CalX P w K mg base 41 "number_in" ["text"] [] (spZ K (tabT tfL K) .no d_number_in) := calX_mk G_number_in m_number_in F_number_in.kp (F_number_in.bindsN (ps := ["text"]) (fun _ _ _ _ _ _ us hl => match us, hl with | [_], _ => rfl))
  have G_part_in : FnOk P w K mg base (L2N.CX P w) 43 _ fd_part_in ["text"] (spZ K (tabT tfL K) .no d_part_in) := ok_part_in F_part_in Z c_part c_number_in c_part_text
  have c_part_in : CalX P w K mg base 43 "part_in" ["text"] [] (spZ K (tabT tfL K) .no d_part_in) := calX_mk G_part_in m_part_in F_part_in.kp (F_part_in.bindsN (ps := ["text"]) (fun _ _ _ _ _ _ us hl => match us, hl with | [_], _ => rfl))
  have G_part_of : FnOk P w K mg base (L2N.CX P w) 44 _ fd_part_of ["text"] (spZ K (tabT tfL K) .no d_part_of) := ok_part_of F_part_of Z Er xi_BadText c_part_in
  have c_part_of : CalX P w K mg base 44 "part_of" ["text"] [] (spZ K (tabT tfL K) .no d_part_of) := calX_mk G_part_of m_part_of F_part_of.kp (F_part_of.bindsN (ps := ["text"]) (fun _ _ _ _ _ _ us hl => match us, hl with | [_], _ => rfl))
  exact ok_law F_law Z Er Fd cL cf cw TL_law c__law_numbers c__law_any_part c__law_read c__law_same c_part_text c_part_of
end Lw
open PySem PySem.W PySem.Calls PyProof.Rows
set_option maxRecDepth 100000 in
set_option maxHeartbeats 0 in
theorem PySem.Challenge.cw_lullworks_k04_parts_as_texts_holds : PySem.Challenge.rw_lullworks_k04_parts_as_texts.Holds := by
  w_on; o_law
  refine HandSHeadRun.head_any (r := OpenLaw.row PySem.Challenge.rw_lullworks_k04_parts_as_texts) (q := view (OpenLaw.row PySem.Challenge.rw_lullworks_k04_parts_as_texts).prog [43]) (H := Lw.hkL) (ob := Lw.obL) (M := 14000) (loose := Lw.looseL) (d := HandSHeadRun.topDef (OpenLaw.row PySem.Challenge.rw_lullworks_k04_parts_as_texts).prog 43) (kwd := []) Lw.obL_eq
    (by kernel_rfl) (fun s => by kernel_rfl) Lw.runL (by kernel_rfl) (by kernel_rfl) (by kernel_rfl) (by rfl) (by first | assumption | decide +kernel) (by decide +kernel) ⟨rfl, rfl, rfl, rfl, rfl, by decide +kernel⟩ ?hw ?hc
  case hw => w_witness2
  case hc =>
    refine Lw.walk_ofTE (l := PySem.Challenge.rw_lullworks_k04_parts_as_texts) (n := 63) (k := 51) (x := "_law_script") (CX := L2.CX0) rfl (by decide) (by kernel_rfl) ⟨rfl, by decide, by decide⟩ ?F (fun _ _ _ _ z => z)
    intro w mg fa h Y G hmg0
    obtain ⟨K, KX, c⟩ := Y
    have hmg : mg ("law" : PySem.Str) = some (.ref fa) := by
      have e : (HandSHeadRun.topDef (OpenLaw.row PySem.Challenge.rw_lullworks_k04_parts_as_texts).prog 43).name = ("law" : PySem.Str) := by kernel_rfl
      rw [← e]
      exact hmg0
    obtain ⟨fd, hb, hF⟩ := Lw.factsL (P := (PySem.Challenge.rw_lullworks_k04_parts_as_texts).prog) (w := w) KX G hmg c.d rfl c.ck c.nd
    exact ⟨K, KX, fd, Lw.tfL.map (He.cT K), Lw.spA K (Lw.tabT Lw.tfL K) Lw.Rlaw, fun p hp => (by obtain ⟨q, hq, rfl⟩ := List.mem_map.mp hp; exact c.empty q hq), fun p hp => (by obtain ⟨q, hq, rfl⟩ := List.mem_map.mp hp; exact c.out q hq),
      fun p hp => (by obtain ⟨q, hq, rfl⟩ := List.mem_map.mp hp; exact PySem.W.codeHd_of_K KX (c.hd q hq)), hb, fun H a ns hl _ hT hS => Lw.law_wish hl hS (Lw.tabs_start hT), hF⟩
