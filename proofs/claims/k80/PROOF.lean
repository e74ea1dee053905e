import PyProof.Rows.All
import Wide.All
import OpenK.AllK
import Wide.FinOn
import PyProof.EqAt
import PyProof.EqKinds
import PyProof.TupleCall
import HandS.ForMost
import HandS.Exc
import HandS.TryOnly
import HandS.ExcOwn
import HandS.WordsExc
import HandS.Head2
import KE.KExcInit
import KE.KIsAll
import HandS.HeadHook4
import HandS.Wide
import HandS.TupAny
import HandS.Flow
import HandS.IsInst
import HandS.TupLe
import HandS.Defaults
import HandS.CallSlots
import HandS.DictComp
import HandS.Iter
import HandS.OwnEq
import HandS.More
import HandS.Dict
import HandS.SetKeys
import PyProof.ReprRoads
import PyProof.CallFns
import HandS.RaiseMore
import PyProof.ExcClass
import PyProof.ExcBaseAll.IndexError
import PyProof.ExcBaseAll.LookupError
import PyProof.ExcBaseAll.RuntimeError
import PyProof.ExcBaseAll.ValueError
import PyProof.FactsTree
import HandS.ExcInit
import PyProof.Rows.FactsExc_KeyError
import KE.KExcIs
import HandS.ExcField
import HandS.Deep
import KE.DataFind
import PyProof.ReprText
import PyProof.FitsInt
import PyProof.StrLawsRepr
import KE.DataMinMax
import KE.DatumOrd
import HandS.Text
import HandS.Codes
import OpenK.KOps
import HandS.Records
import PyProof.CallType
import PyProof.Conv_bool
import HandS.MakeKwOnly
import PyProof.Rows.ListMulArg
import PyProof.Rows.SortShell
import PyProof.Rows.SortKeyStr
import PyProof.Rows.StrInSeq
import KE.KSortTup
import KE.KItemsList
import HandS.SortOrd
import HandS.SortRule
import HandS.ListItems
import KE.KEqNest
import HandS.Conv
import HandS.Style
import HandS.Finally
import PyProof.CollectIter
import PyProof.WalksMore
import PyProof.TupleIter
import HandS.Set
import HandS.SetFor
import HandS.StrMore
import HandS.TupMul
import KE.KUnpack
import HandS.DictTup
import HandS.Comp
import HandS.CallLocal
import HandS.FStr
import KE.GoesZip
import HandS.Zip0
import KE.GoesMore
import KE.IntTextLaws
import KE.IntTextText
import KE.GoesEnumKw
import PyProof.Rows.CallKwBuiltin
import PyProof.Rows.StrDigitsNeg
import PyProof.Rows.StrMul
import PySem.Challenge.RW_stampedwait_k80_texts_of_no_deed
set_option Elab.async false
set_option linter.all false
set_option maxRecDepth 100000
namespace DL
open PySem PySem.Spec L2
open PyProof.Rows hiding St

/-! ### data: tuples by value, mutable objects by address; kl: a list that never changes -/
inductive D where
  | non | bl (b : Bool) | int (i : Int) | str (x : Str) | ty (n : String) | ref (a : Addr) | tup (ds : List D) | kl (ds : List D) | kc (ds : List D) | exc (C : Addr) (ns : List Str) (ds : List D) | emp

/-! ### the top's facts, read off the heap behind it -/
def mA (K : PySem.W.Frag) (C : Addr) (m : Str) : Addr := match PySem.W.findIn K (.ref C) m with
  | some (some (.ref a)) => a
  | _ => 0
end DL

namespace DL
open PySem PySem.Spec L2
open PyProof.Rows hiding St

inductive MO where
  | lst (xs : List D)
  | dK (kvs : List (Key × D))
  | dT (kvs : List (List Key × D))
  | ins (C : Addr) (fs : List (Str × D))
  | fz (ob : Obj) (w : HO) (u : MO)

abbrev HD := Addr → Option MO
def put (H : HD) (a : Addr) (o : MO) : HD := fun b => if b = a then some o else H b
theorem put_same {H : HD} {a : Addr} {o : MO} : put H a o a = some o := if_pos rfl
theorem put_ne {H : HD} {a b : Addr} {o : MO} (h : b ≠ a) : put H a o b = H b := if_neg h
/-- a part of a heap -/
def Le (H H' : HD) : Prop := ∀ a o, H a = some o → H' a = some o
theorem Le.refl (H : HD) : Le H H := fun _ _ h => h
theorem Le.trans {A B C : HD} (x : Le A B) (y : Le B C) : Le A C := fun a o h => y a o (x a o h)
theorem Le.no {H H' : HD} (x : Le H H') {a : Addr} (h : H' a = none) : H a = none := by
  cases q : H a with
  | none => rfl
  | some o => rw [x a o q] at h; cases h
theorem Le.newB {H : HD} {a : Addr} {o : MO} (h : H a = none) : Le H (put H a o) := fun b u e => by
  rw [put_ne (by rintro rfl; rw [h] at e; cases e)]; exact e

/-- an exception object that was caught -/
def ExV (C : Addr) (dd : Option Addr) (a : Addr) : HO := .ext fun h => ∃ (oe : Obj) (vs : Array Value), h.get? a = some oe ∧ Zc (.ref C) dd oe ∧ oe.data = .fields vs
/-- the object of an empty dict that never changes -/
def EmOb (ob : Obj) : Prop := ob.ExactDict ∧ ∃ ep, ob.data = .dict #[] ep
def EmV (ob : Obj) (a : Addr) : HO := .ext fun h => h.get? a = some ob
mutual
def Rp (K : PySem.W.Frag) (H : Hp) : D → V → Prop
  | .non, v => v = .non
  | .bl b, v => v = .bl b
  | .int i, v => v = .int i
  | .str x, v => v = .str x
  | .ty n, v => v = .ty n
  | .ref a, v => v = .ref a
  | .tup ds, v => ∃ a vs, v = .ref a ∧ SqT K H a vs ∧ Rps K H ds vs
  | .kl ds, v => ∃ a vs, v = .ref a ∧ (∃ o, H a = some (.frz o (.lst vs))) ∧ Rps K H ds vs
  | .kc ds, v => ∃ a vs, v = .ref a ∧ ((∃ o, H a = some (.frz o (.lst vs))) ∨ ∃ (o : Obj) (its : Array Value) (n : Nat), K.lookup a = some o ∧ o.cls = .type "list" ∧ o.dict = none ∧ o.data = .seq its n ∧ its.size ≤ sizeLine ∧ Vals vs its.toList) ∧ Rps K H ds vs
  | .exc C ns ds, v => ∃ a dd vs, v = .ref a ∧ H a = some (ExV C dd a) ∧ ns.length = ds.length ∧ ((dd = none ∧ ns = []) ∨ ∃ b, dd = some b ∧ H b = some (.xd (ns.zip vs))) ∧ Rps K H ds vs
  | .emp, v => ∃ a ob, v = .ref a ∧ (a == sysModules) = false ∧ H a = some (EmV ob a) ∧ EmOb ob
def Rps (K : PySem.W.Frag) (H : Hp) : List D → List V → Prop
  | [], vs => vs = []
  | d :: ds, vs => ∃ v r, vs = v :: r ∧ Rp K H d v ∧ Rps K H ds r
end

/-- names (keys) and values -/
def RKV {κ : Type} (K : PySem.W.Frag) (H : Hp) : List (κ × D) → List (κ × V) → Prop
  | [], l => l = []
  | p :: ps, l => ∃ v r, l = (p.1, v) :: r ∧ Rp K H p.2 v ∧ RKV K H ps r

def RO (K : PySem.W.Frag) (H : Hp) : MO → HO → Prop
  | .lst ds, o => ∃ vs, o = .lst vs ∧ Rps K H ds vs
  | .dK kvs, o => ∃ l, o = .dK l ∧ RKV K H kvs l
  | .dT kvs, o => ∃ l, o = .dT l ∧ RKV K H kvs l
  | .ins C fs, o => ∃ dx l, o = .ins C dx l ∧ RKV K H fs l
  | .fz ob w u, o => o = .frz ob w ∧ RO K H u w ∧ (∀ vs, w ≠ .lst vs) ∧ (∀ vs, w ≠ .tup vs)

def Sim (K : PySem.W.Frag) (G : HD) (H : Hp) : Prop := ∀ a o, G a = some o → ∃ o', H a = some o' ∧ RO K H o o'
/-- what is not of ours stays -/
def Ext (G : HD) (H : Hp) (G' : HD) (H' : Hp) : Prop := ∀ a o, G a = none → H a = some o → H' a = some o ∧ G' a = none

section
variable {K : PySem.W.Frag} {G G' G1 G2 : HD} {H H' H1 H2 : Hp}
theorem Sim.le (s : Sim K G H) (l : Le G' G) : Sim K G' H := fun a o e => s a o (l a o e)
theorem Sim.no (s : Sim K G H) {a : Addr} (h : H a = none) : G a = none := by
  cases q : G a with
  | none => rfl
  | some o => obtain ⟨o', e, _⟩ := s a o q; rw [h] at e; cases e
theorem Ext.refl : Ext G H G H := fun _ _ g h => ⟨h, g⟩
theorem Ext.trans (x : Ext G H G1 H1) (y : Ext G1 H1 G2 H2) : Ext G H G2 H2 := fun a o g h =>
  let ⟨h1, g1⟩ := x a o g h
  y a o g1 h1
theorem Ext.le (x : Ext G H G1 H1) (l : Le G2 G1) : Ext G H G2 H1 := fun a o g h =>
  let ⟨h1, g1⟩ := x a o g h
  ⟨h1, l.no g1⟩
theorem Ext.of_le (l : Le G' G) : Ext G H G' H := Ext.refl.le l

theorem Sim.tup (s : Sim K G H) {a : Addr} {vs : List V} (h : H a = some (.tup vs)) : G a = none := by
  cases q : G a with
  | none => rfl
  | some o =>
    obtain ⟨o', e, r⟩ := s a o q
    rw [h] at e; cases e
    cases o with
    | lst ds => obtain ⟨_, e, _⟩ := r; cases e
    | dK ds => obtain ⟨_, e, _⟩ := r; cases e
    | dT ds => obtain ⟨_, e, _⟩ := r; cases e
    | ins C fs => obtain ⟨_, _, e, _⟩ := r; cases e
    | fz ob w u => obtain ⟨e, _⟩ := r; cases e
theorem Sim.frzT (s : Sim K G H) {a : Addr} {ob : Obj} {vs : List V} (h : H a = some (.frz ob (.tup vs))) : G a = none := by
  cases q : G a with
  | none => rfl
  | some o =>
    obtain ⟨o', e, r⟩ := s a o q
    rw [h] at e; cases e
    cases o with
    | lst ds => obtain ⟨_, e, _⟩ := r; cases e
    | dK ds => obtain ⟨_, e, _⟩ := r; cases e
    | dT ds => obtain ⟨_, e, _⟩ := r; cases e
    | ins C fs => obtain ⟨_, _, e, _⟩ := r; cases e
    | fz ob w u => obtain ⟨e, _, _, z⟩ := r; cases e; exact (z _ rfl).elim
theorem Sim.frzL (s : Sim K G H) {a : Addr} {ob : Obj} {vs : List V} (h : H a = some (.frz ob (.lst vs))) : G a = none := by
  cases q : G a with
  | none => rfl
  | some o =>
    obtain ⟨o', e, r⟩ := s a o q
    rw [h] at e; cases e
    cases o with
    | lst ds => obtain ⟨_, e, _⟩ := r; cases e
    | dK ds => obtain ⟨_, e, _⟩ := r; cases e
    | dT ds => obtain ⟨_, e, _⟩ := r; cases e
    | ins C fs => obtain ⟨_, _, e, _⟩ := r; cases e
    | fz ob w u => obtain ⟨e, _, z, _⟩ := r; cases e; exact (z _ rfl).elim
theorem Sim.extN (s : Sim K G H) {a : Addr} {φ : Heap → Prop} (h : H a = some (.ext φ)) : G a = none := by
  cases q : G a with
  | none => rfl
  | some o =>
    obtain ⟨o', e, r⟩ := s a o q
    rw [h] at e; cases e
    cases o with
    | lst ds => obtain ⟨_, e, _⟩ := r; cases e
    | dK ds => obtain ⟨_, e, _⟩ := r; cases e
    | dT ds => obtain ⟨_, e, _⟩ := r; cases e
    | ins C fs => obtain ⟨_, _, e, _⟩ := r; cases e
    | fz ob w u => obtain ⟨e, _⟩ := r; cases e
theorem Sim.xdN (s : Sim K G H) {a : Addr} {l : List (Str × V)} (h : H a = some (.xd l)) : G a = none := by
  cases q : G a with
  | none => rfl
  | some o =>
    obtain ⟨o', e, r⟩ := s a o q
    rw [h] at e; cases e
    cases o with
    | lst ds => obtain ⟨_, e, _⟩ := r; cases e
    | dK ds => obtain ⟨_, e, _⟩ := r; cases e
    | dT ds => obtain ⟨_, e, _⟩ := r; cases e
    | ins C fs => obtain ⟨_, _, e, _⟩ := r; cases e
    | fz ob w u => obtain ⟨e, _⟩ := r; cases e
/-- the same of all but plain lists that are not of ours -/
def ExtL (G : HD) (H : Hp) (G' : HD) (H' : Hp) : Prop := ∀ a o, (∀ l, o ≠ HO.lst l) → G a = none → H a = some o → H' a = some o ∧ G' a = none
theorem Ext.l (x : Ext G H G1 H1) : ExtL G H G1 H1 := fun a o _ g h => x a o g h
theorem nl_tup {vs : List V} : ∀ l, HO.tup vs ≠ .lst l := fun _ z => nomatch z
theorem nl_frz {o : Obj} {u : HO} : ∀ l, HO.frz o u ≠ .lst l := fun _ z => nomatch z
theorem nl_ext {φ : Heap → Prop} : ∀ l, HO.ext φ ≠ .lst l := fun _ z => nomatch z
theorem nl_xd {m : List (Str × V)} : ∀ l, HO.xd m ≠ .lst l := fun _ z => nomatch z
theorem SqT.extL {a : Addr} {vs : List V} (s : Sim K G H) (x : ExtL G H G' H') (h : SqT K H a vs) : SqT K H' a vs := by
  rcases h with (h | ⟨o, h⟩) | h
  · exact .inl (.inl (x a _ nl_tup (s.tup h) h).1)
  · exact .inl (.inr ⟨o, (x a _ nl_frz (s.frzT h) h).1⟩)
  · exact .inr h
mutual
theorem Rp.extL (s : Sim K G H) (x : ExtL G H G' H') : ∀ (d : D) (v : V), Rp K H d v → Rp K H' d v
  | .non, _, h => h
  | .bl _, _, h => h
  | .int _, _, h => h
  | .str _, _, h => h
  | .ty _, _, h => h
  | .ref _, _, h => h
  | .tup ds, v, h => by
    obtain ⟨a, vs, e, t, r⟩ := h
    exact ⟨a, vs, e, SqT.extL s x t, Rps.extL s x ds vs r⟩
  | .kl ds, v, h => by
    obtain ⟨a, vs, e, ⟨o, t⟩, r⟩ := h
    exact ⟨a, vs, e, ⟨o, (x a _ nl_frz (s.frzL t) t).1⟩, Rps.extL s x ds vs r⟩
  | .kc ds, v, h => by
    obtain ⟨a, vs, e, t, r⟩ := h
    refine ⟨a, vs, e, ?_, Rps.extL s x ds vs r⟩
    rcases t with ⟨o, t⟩ | t
    · exact .inl ⟨o, (x a _ nl_frz (s.frzL t) t).1⟩
    · exact .inr t
  | .exc C ns ds, v, h => by
    obtain ⟨a, dd, vs, e, t, hl, q, r⟩ := h
    refine ⟨a, dd, vs, e, (x a _ nl_ext (s.extN t) t).1, hl, ?_, Rps.extL s x ds vs r⟩
    rcases q with q | ⟨b, q1, q2⟩
    · exact .inl q
    · exact .inr ⟨b, q1, (x b _ nl_xd (s.xdN q2) q2).1⟩
  | .emp, v, h => by
    obtain ⟨a, ob, e, m, t, q⟩ := h
    exact ⟨a, ob, e, m, (x a _ nl_ext (s.extN t) t).1, q⟩
theorem Rps.extL (s : Sim K G H) (x : ExtL G H G' H') : ∀ (ds : List D) (vs : List V), Rps K H ds vs → Rps K H' ds vs
  | [], _, h => h
  | d :: ds, vs, h => by
    obtain ⟨v, r, e, h1, h2⟩ := h
    exact ⟨v, r, e, Rp.extL s x d v h1, Rps.extL s x ds r h2⟩
end
theorem SqT.ext {a : Addr} {vs : List V} (s : Sim K G H) (x : Ext G H G' H') (h : SqT K H a vs) : SqT K H' a vs := by
  rcases h with (h | ⟨o, h⟩) | h
  · exact .inl (.inl (x a _ (s.tup h) h).1)
  · exact .inl (.inr ⟨o, (x a _ (s.frzT h) h).1⟩)
  · exact .inr h
mutual
theorem Rp.ext (s : Sim K G H) (x : Ext G H G' H') : ∀ (d : D) (v : V), Rp K H d v → Rp K H' d v
  | .non, _, h => h
  | .bl _, _, h => h
  | .int _, _, h => h
  | .str _, _, h => h
  | .ty _, _, h => h
  | .ref _, _, h => h
  | .tup ds, v, h => by
    obtain ⟨a, vs, e, t, r⟩ := h
    exact ⟨a, vs, e, SqT.ext s x t, Rps.ext s x ds vs r⟩
  | .kl ds, v, h => by
    obtain ⟨a, vs, e, ⟨o, t⟩, r⟩ := h
    exact ⟨a, vs, e, ⟨o, (x a _ (s.frzL t) t).1⟩, Rps.ext s x ds vs r⟩
  | .kc ds, v, h => by
    obtain ⟨a, vs, e, t, r⟩ := h
    refine ⟨a, vs, e, ?_, Rps.ext s x ds vs r⟩
    rcases t with ⟨o, t⟩ | t
    · exact .inl ⟨o, (x a _ (s.frzL t) t).1⟩
    · exact .inr t
  | .exc C ns ds, v, h => by
    obtain ⟨a, dd, vs, e, t, hl, q, r⟩ := h
    refine ⟨a, dd, vs, e, (x a _ (s.extN t) t).1, hl, ?_, Rps.ext s x ds vs r⟩
    rcases q with q | ⟨b, q1, q2⟩
    · exact .inl q
    · exact .inr ⟨b, q1, (x b _ (s.xdN q2) q2).1⟩
  | .emp, v, h => by
    obtain ⟨a, ob, e, m, t, q⟩ := h
    exact ⟨a, ob, e, m, (x a _ (s.extN t) t).1, q⟩
theorem Rps.ext (s : Sim K G H) (x : Ext G H G' H') : ∀ (ds : List D) (vs : List V), Rps K H ds vs → Rps K H' ds vs
  | [], _, h => h
  | d :: ds, vs, h => by
    obtain ⟨v, r, e, h1, h2⟩ := h
    exact ⟨v, r, e, Rp.ext s x d v h1, Rps.ext s x ds r h2⟩
end
theorem RKV.ext {κ : Type} (s : Sim K G H) (x : Ext G H G' H') : ∀ (l : List (κ × D)) (m : List (κ × V)), RKV K H l m → RKV K H' l m
  | [], _, h => h
  | p :: ps, m, h => by
    obtain ⟨v, r, e, h1, h2⟩ := h
    exact ⟨v, r, e, h1.ext s x _ _, RKV.ext s x ps r h2⟩
theorem RO.ext (s : Sim K G H) (x : Ext G H G' H') : ∀ (o : MO) (o' : HO), RO K H o o' → RO K H' o o'
  | .lst ds, _, h => let ⟨vs, e, r⟩ := h; ⟨vs, e, r.ext s x _ _⟩
  | .dK _, _, h => let ⟨vs, e, r⟩ := h; ⟨vs, e, r.ext s x _ _⟩
  | .dT _, _, h => let ⟨vs, e, r⟩ := h; ⟨vs, e, r.ext s x _ _⟩
  | .ins _ _, _, h => let ⟨dx, vs, e, r⟩ := h; ⟨dx, vs, e, r.ext s x _ _⟩
  | .fz ob w u, _, h => let ⟨e, r, z⟩ := h; ⟨e, RO.ext s x u w r, z⟩
/-- a new object that we do not name (a tuple ..) -/
theorem Ext.new {p : Addr} {o : HO} (h : H p = none) (g : G p = none) : Ext G H G (upd H p o) := fun a u ga e =>
  ⟨by rw [upd_ne (by rintro rfl; rw [h] at e; cases e)]; exact e, ga⟩
theorem Sim.newO {p : Addr} {o : HO} (s : Sim K G H) (h : H p = none) : Sim K G (upd H p o) := fun a u e => by
  obtain ⟨o', e1, r⟩ := s a u e
  have hn : a ≠ p := by rintro rfl; rw [h] at e1; cases e1
  exact ⟨o', by rw [upd_ne hn]; exact e1, r.ext s (Ext.new h (s.no h)) _ _⟩
/-- a new object of ours -/
theorem Ext.newM {p : Addr} {o : HO} {m : MO} (h : H p = none) : Ext G H (put G p m) (upd H p o) := fun a u ga e => by
  have hn : a ≠ p := by rintro rfl; rw [h] at e; cases e
  exact ⟨by rw [upd_ne hn]; exact e, by rw [put_ne hn]; exact ga⟩
theorem Sim.newM {p : Addr} {o : HO} {m : MO} (s : Sim K G H) (h : H p = none) (r : RO K H m o) : Sim K (put G p m) (upd H p o) := fun a u e => by
  by_cases hn : a = p
  · subst hn
    rw [put_same] at e; cases e
    exact ⟨o, upd_same, r.ext s (Ext.newM (m := m) (o := o) h) _ _⟩
  · rw [put_ne hn] at e
    obtain ⟨o', e1, r1⟩ := s a u e
    exact ⟨o', by rw [upd_ne hn]; exact e1, r1.ext s (Ext.newM (m := m) (o := o) h) _ _⟩
/-- an object of ours is written -/
theorem Ext.wr {p : Addr} {o : HO} {m m0 : MO} (g : G p = some m0) : Ext G H (put G p m) (upd H p o) := fun a u ga e => by
  have hn : a ≠ p := by rintro rfl; rw [g] at ga; cases ga
  exact ⟨by rw [upd_ne hn]; exact e, by rw [put_ne hn]; exact ga⟩
theorem Sim.wr {p : Addr} {o : HO} {m m0 : MO} (s : Sim K G H) (g : G p = some m0) (r : RO K H m o) : Sim K (put G p m) (upd H p o) := fun a u e => by
  by_cases hn : a = p
  · subst hn
    rw [put_same] at e; cases e
    exact ⟨o, upd_same, r.ext s (Ext.wr (m := m) (o := o) g) _ _⟩
  · rw [put_ne hn] at e
    obtain ⟨o', e1, r1⟩ := s a u e
    exact ⟨o', by rw [upd_ne hn]; exact e1, r1.ext s (Ext.wr (m := m) (o := o) g) _ _⟩
theorem Sim.lst (s : Sim K G H) {a : Addr} {ds : List D} (g : G a = some (.lst ds)) : ∃ vs, H a = some (.lst vs) ∧ Rps K H ds vs := by
  obtain ⟨o', e, vs, rfl, r⟩ := s a _ g
  exact ⟨vs, e, r⟩
theorem Sim.ins (s : Sim K G H) {a C : Addr} {fs : List (Str × D)} (g : G a = some (.ins C fs)) : ∃ dx l, H a = some (.ins C dx l) ∧ RKV K H fs l := by
  obtain ⟨o', e, dx, l, rfl, r⟩ := s a _ g
  exact ⟨dx, l, e, r⟩
theorem Sim.dK (s : Sim K G H) {a : Addr} {l : List (Key × D)} (g : G a = some (.dK l)) : ∃ m, H a = some (.dK m) ∧ RKV K H l m := by
  obtain ⟨o', e, vs, rfl, r⟩ := s a _ g
  exact ⟨vs, e, r⟩
theorem Sim.dT (s : Sim K G H) {a : Addr} {l : List (List Key × D)} (g : G a = some (.dT l)) : ∃ m, H a = some (.dT m) ∧ RKV K H l m := by
  obtain ⟨o', e, vs, rfl, r⟩ := s a _ g
  exact ⟨vs, e, r⟩

/-! lists -/
theorem Rps.length : ∀ {ds : List D} {vs : List V}, Rps K H ds vs → vs.length = ds.length
  | [], _, h => by cases h; rfl
  | d :: ds, _, h => by obtain ⟨v, r, rfl, _, h2⟩ := h; simp [Rps.length h2]
theorem Rps.cons {d : D} {ds : List D} {v : V} {vs : List V} (h : Rp K H d v) (t : Rps K H ds vs) : Rps K H (d :: ds) (v :: vs) := ⟨v, vs, rfl, h, t⟩
theorem Rps.nil : Rps K H [] [] := rfl
theorem Rps.get : ∀ {ds : List D} {vs : List V} {i : Nat} {d : D}, Rps K H ds vs → ds[i]? = some d → ∃ v, vs[i]? = some v ∧ Rp K H d v
  | [], _, _, _, _, e => by simp at e
  | d :: ds, _, 0, _, h, e => by obtain ⟨v, r, rfl, h1, _⟩ := h; cases e; exact ⟨v, rfl, h1⟩
  | d :: ds, _, i + 1, _, h, e => by obtain ⟨v, r, rfl, _, h2⟩ := h; exact Rps.get (i := i) h2 e
theorem Rps.app : ∀ {ds es : List D} {vs ws : List V}, Rps K H ds vs → Rps K H es ws → Rps K H (ds ++ es) (vs ++ ws)
  | [], _, _, _, h, k => by cases h; exact k
  | d :: ds, _, _, _, h, k => by obtain ⟨v, r, rfl, h1, h2⟩ := h; exact ⟨v, _, rfl, h1, Rps.app h2 k⟩
theorem Rps.set : ∀ {ds : List D} {vs : List V} {i : Nat} {d : D} {v : V}, Rps K H ds vs → Rp K H d v → Rps K H (ds.set i d) (vs.set i v)
  | [], _, _, _, _, h, _ => by cases h; exact rfl
  | d :: ds, _, 0, _, _, h, k => by obtain ⟨v, r, rfl, h1, h2⟩ := h; exact ⟨_, r, rfl, k, h2⟩
  | d :: ds, _, i + 1, _, _, h, k => by obtain ⟨v, r, rfl, h1, h2⟩ := h; exact ⟨v, _, rfl, h1, Rps.set (i := i) h2 k⟩
theorem Rps.take : ∀ {ds : List D} {vs : List V} (n : Nat), Rps K H ds vs → Rps K H (ds.take n) (vs.take n)
  | _, _, 0, _ => by simp; exact rfl
  | [], _, n + 1, h => by cases h; exact rfl
  | d :: ds, _, n + 1, h => by obtain ⟨v, r, rfl, h1, h2⟩ := h; exact ⟨v, _, rfl, h1, Rps.take n h2⟩
theorem Rps.drop : ∀ {ds : List D} {vs : List V} (n : Nat), Rps K H ds vs → Rps K H (ds.drop n) (vs.drop n)
  | _, _, 0, h => by simpa using h
  | [], _, n + 1, h => by cases h; exact rfl
  | d :: ds, _, n + 1, h => by obtain ⟨v, r, rfl, h1, h2⟩ := h; exact Rps.drop n h2
theorem Rps.ints : ∀ {ns : List Int} {vs : List V}, Rps K H (ns.map D.int) vs → vs = ns.map V.int
  | [], _, h => h
  | n :: ns, _, h => by obtain ⟨v, r, rfl, h1, h2⟩ := h; cases h1; rw [Rps.ints h2]; rfl
theorem Rps.ofInts : ∀ (ns : List Int), Rps K H (ns.map D.int) (ns.map V.int)
  | [] => rfl
  | n :: ns => ⟨_, _, rfl, rfl, Rps.ofInts ns⟩
theorem Rps.bls : ∀ {ns : List Bool} {vs : List V}, Rps K H (ns.map D.bl) vs → vs = ns.map V.bl
  | [], _, h => h
  | n :: ns, _, h => by obtain ⟨v, r, rfl, h1, h2⟩ := h; cases h1; rw [Rps.bls h2]; rfl
/-! names and values -/
theorem RKV.length {κ : Type} : ∀ {l : List (κ × D)} {m : List (κ × V)}, RKV K H l m → m.length = l.length
  | [], _, h => by cases h; rfl
  | p :: l, _, h => by obtain ⟨v, r, rfl, _, h2⟩ := h; simp [RKV.length h2]
theorem RKV.keys {κ : Type} : ∀ {l : List (κ × D)} {m : List (κ × V)}, RKV K H l m → m.map (·.1) = l.map (·.1)
  | [], _, h => by cases h; rfl
  | p :: l, _, h => by obtain ⟨v, r, rfl, _, h2⟩ := h; simp [RKV.keys h2]
theorem RKV.lookup {f : Str} : ∀ {l : List (Str × D)} {m : List (Str × V)} {d : D}, RKV K H l m → l.lookup f = some d → ∃ v, m.lookup f = some v ∧ Rp K H d v
  | [], _, _, _, e => by simp at e
  | (n, d) :: l, _, _, h, e => by
    obtain ⟨v, r, rfl, h1, h2⟩ := h
    rw [List.lookup_cons] at e ⊢
    show ∃ w, (match f == n with | true => some v | false => List.lookup f r) = some w ∧ _
    cases q : f == n with
    | true => rw [q] at e; cases e; exact ⟨v, rfl, h1⟩
    | false => rw [q] at e; exact RKV.lookup h2 e
end
/-- a field is stored -/
def putD (f : Str) (d : D) : List (Str × D) → List (Str × D)
  | [] => [(f, d)]
  | (n, e) :: r => if n = f then (n, d) :: r else (n, e) :: putD f d r
end DL

namespace DL
open PySem PySem.Spec L2
open PyProof.Rows hiding St

/-! ### readings over data -/
abbrev DSt := List (Option D)
abbrev Post := D → HD → Prop
abbrev DX := Value → List (Str × D) → HD → Prop
abbrev DW := Value → List (Str × D) → DSt → HD → Prop
abbrev TD := DW → DSt → HD → Post → Prop
abbrev TDT := DW → DSt → HD → (Bool → HD → Prop) → Prop
abbrev TDA := DW → DSt → HD → (List D → HD → Prop) → Prop
structure DEnds where
  nx : DSt → HD → Prop
  rt : Post
  bk : DSt → HD → Prop := fun _ _ => False
  ct : DSt → HD → Prop := fun _ _ => False
abbrev TDS := DW → DEnds → DSt → HD → Prop

def RpS (K : PySem.W.Frag) (H : Hp) : DSt → St → Prop
  | [], l => l = []
  | o :: r, l => ∃ w t, l = w :: t ∧ (∀ d, o = some d → ∃ v, w = some v ∧ Rp K H d v) ∧ RpS K H r t
/-- an exception's own fields -/
def XF (K : PySem.W.Frag) (H : Hp) (fs : List (Str × D)) : Option Addr → Prop
  | none => fs = []
  | some a => ∃ l, H a = some (.xd l) ∧ RKV K H fs l
def liftQ (K : PySem.W.Frag) (G : HD) (H : Hp) (Q : Post) : VK := fun v H' => ∃ d G', Rp K H' d v ∧ Sim K G' H' ∧ Ext G H G' H' ∧ Q d G'
def liftB (K : PySem.W.Frag) (G : HD) (H : Hp) (Q : Bool → HD → Prop) : Bool → Hp → Prop := fun b H' => ∃ G', Sim K G' H' ∧ Ext G H G' H' ∧ Q b G'
def liftA (K : PySem.W.Frag) (G : HD) (H : Hp) (Q : List D → HD → Prop) : List V → Hp → Prop := fun vs H' => ∃ ds G', Rps K H' ds vs ∧ Sim K G' H' ∧ Ext G H G' H' ∧ Q ds G'
def liftN (K : PySem.W.Frag) (G : HD) (H : Hp) (Q : DSt → HD → Prop) : St → Hp → Prop := fun t H' => ∃ σ G', RpS K H' σ t ∧ Sim K G' H' ∧ Ext G H G' H' ∧ Q σ G'
def liftW (K : PySem.W.Frag) (G : HD) (H : Hp) (W : DW) : WX := fun c dd t H' => ∃ σ fs G', RpS K H' σ t ∧ XF K H' fs dd ∧ Sim K G' H' ∧ Ext G H G' H' ∧ W c fs σ G'
def liftX (K : PySem.W.Frag) (G : HD) (H : Hp) (E : DX) : XK := fun c dd H' => ∃ fs G', XF K H' fs dd ∧ Sim K G' H' ∧ Ext G H G' H' ∧ E c fs G'
def liftD (K : PySem.W.Frag) (G : HD) (H : Hp) (D : DEnds) : Ends := { nx := liftN K G H D.nx, rt := liftQ K G H D.rt, bk := liftN K G H D.bk, ct := liftN K G H D.ct }

section
variable {K : PySem.W.Frag} {G G' G1 G2 : HD} {H H' H1 H2 : Hp}
theorem RpS.ext (s : Sim K G H) (x : Ext G H G' H') : ∀ (σ : DSt) (t : St), RpS K H σ t → RpS K H' σ t
  | [], _, h => h
  | o :: r, _, h => by
    obtain ⟨w, t, rfl, h1, h2⟩ := h
    refine ⟨w, t, rfl, fun d e => ?_, RpS.ext s x r t h2⟩
    obtain ⟨v, e1, e2⟩ := h1 d e
    exact ⟨v, e1, e2.ext s x _ _⟩
theorem RpS.get : ∀ {σ : DSt} {t : St} {i : Nat} {d : D}, RpS K H σ t → σ[i]? = some (some d) → ∃ v, t[i]? = some (some v) ∧ Rp K H d v
  | [], _, _, _, _, e => by simp at e
  | o :: r, _, 0, d, h, e => by
    obtain ⟨w, t, rfl, h1, _⟩ := h
    have e' : o = some d := by simpa using e
    obtain ⟨v, rfl, r1⟩ := h1 d e'
    exact ⟨v, rfl, r1⟩
  | o :: r, _, i + 1, d, h, e => by
    obtain ⟨w, t, rfl, _, h2⟩ := h
    exact RpS.get (i := i) h2 (by simpa using e)
theorem RpS.set : ∀ {σ : DSt} {t : St} {i : Nat} {d : D} {v : V}, RpS K H σ t → Rp K H d v → RpS K H (σ.set i (some d)) (t.set i (some v))
  | [], _, _, _, _, h, _ => by cases h; exact rfl
  | o :: r, _, 0, d, v, h, k => by
    obtain ⟨w, t, rfl, _, h2⟩ := h
    exact ⟨_, t, rfl, fun e q => ⟨v, rfl, by cases q; exact k⟩, h2⟩
  | o :: r, _, i + 1, d, v, h, k => by
    obtain ⟨w, t, rfl, h1, h2⟩ := h
    exact ⟨w, _, rfl, h1, RpS.set (i := i) h2 k⟩
theorem RpS.drop1 : ∀ {σ : DSt} {t : St} {i : Nat} {w : Option V}, RpS K H σ t → RpS K H (σ.set i none) (t.set i w)
  | [], _, _, _, h => by cases h; exact rfl
  | o :: r, _, 0, _, h => by
    obtain ⟨w, t, rfl, _, h2⟩ := h
    exact ⟨_, t, rfl, (fun e q => by cases q), h2⟩
  | o :: r, _, i + 1, _, h => by
    obtain ⟨w, t, rfl, h1, h2⟩ := h
    exact ⟨w, _, rfl, h1, RpS.drop1 (i := i) h2⟩
theorem RpS.start : ∀ {ds : List D} {vs : List V} (n : Nat), Rps K H ds vs → RpS K H (ds.map some ++ List.replicate n none) (vs.map some ++ List.replicate n none)
  | [], _, 0, h => by cases h; exact rfl
  | [], _, n + 1, h => by
    have ih := RpS.start (ds := []) n h
    cases h
    exact ⟨none, _, rfl, (fun _ q => nomatch q), ih⟩
  | d :: ds, _, n, h => by
    obtain ⟨v, r, rfl, h1, h2⟩ := h
    exact ⟨some v, _, rfl, (fun e q => ⟨v, rfl, by cases q; exact h1⟩), RpS.start n h2⟩

theorem liftQ.of {Q : Post} {d : D} {v : V} (r : Rp K H' d v) (s : Sim K G' H') (x : Ext G H G' H') (q : Q d G') : liftQ K G H Q v H' := ⟨d, G', r, s, x, q⟩
theorem liftQ.up {Q : Post} {v : V} (x : Ext G H G1 H1) (h : liftQ K G1 H1 Q v H2) : liftQ K G H Q v H2 := by
  obtain ⟨d, G', r, s, y, q⟩ := h
  exact ⟨d, G', r, s, x.trans y, q⟩
theorem liftB.up {Q : Bool → HD → Prop} {v : Bool} (x : Ext G H G1 H1) (h : liftB K G1 H1 Q v H2) : liftB K G H Q v H2 := by
  obtain ⟨G', s, y, q⟩ := h
  exact ⟨G', s, x.trans y, q⟩
theorem liftA.up {Q : List D → HD → Prop} {v : List V} (x : Ext G H G1 H1) (h : liftA K G1 H1 Q v H2) : liftA K G H Q v H2 := by
  obtain ⟨d, G', r, s, y, q⟩ := h
  exact ⟨d, G', r, s, x.trans y, q⟩
theorem liftN.up {Q : DSt → HD → Prop} {t : St} (x : Ext G H G1 H1) (h : liftN K G1 H1 Q t H2) : liftN K G H Q t H2 := by
  obtain ⟨d, G', r, s, y, q⟩ := h
  exact ⟨d, G', r, s, x.trans y, q⟩
theorem liftW.up {W : DW} {c : Value} {dd : Option Addr} {t : St} (x : Ext G H G1 H1) (h : liftW K G1 H1 W c dd t H2) : liftW K G H W c dd t H2 := by
  obtain ⟨σ, fs, G', r, f, s, y, q⟩ := h
  exact ⟨σ, fs, G', r, f, s, x.trans y, q⟩
theorem liftX.up {W : DX} {c : Value} {dd : Option Addr} (x : Ext G H G1 H1) (h : liftX K G1 H1 W c dd H2) : liftX K G H W c dd H2 := by
  obtain ⟨fs, G', f, s, y, q⟩ := h
  exact ⟨fs, G', f, s, x.trans y, q⟩
end

/-! ### what an expression, a statement is worth, by the model itself -/
section
variable (X : Cx)
def semE (e : Expr) : TE := fun σ H Q => ∀ (pins : List (Addr × Obj)) (s : Shared), Inv X pins σ H s → wpAny (model X.prog X.w) X.A (eval e X.env) (EP X pins σ Q) X.xe s
def semT (e : Expr) : TT := fun σ H Q => ∀ (pins : List (Addr × Obj)) (s : Shared), Inv X pins σ H s → wpAny (model X.prog X.w) X.A (isTrue e X.env (eval e X.env)) (TP X pins σ Q) X.xe s
def semTw (e : Expr) : TT := fun σ H Q => ∀ (wh : Sem Value) (pins : List (Addr × Obj)) (s : Shared), Inv X pins σ H s → wpAny (model X.prog X.w) X.A (isTrue e X.env wh) (TP X pins σ Q) X.xe s
def semA (es : List Expr) : TA := fun σ H Q => ∀ (pos : Pos) (pins : List (Addr × Obj)) (s : Shared), Inv X pins σ H s → wpAny (model X.prog X.w) X.A (spliced (backTo pos (starEach es X.env))) (AP X pins σ Q) X.xe s
def semS (st : Stmt) : TS := fun D σ H => ∀ (pins : List (Addr × Obj)) (s : Shared), Inv X pins σ H s → wpAny (model X.prog X.w) X.A (exec st X.env) (SP X pins D) X.xe s
def semSs (st : List Stmt) : TS := fun D σ H => ∀ (pins : List (Addr × Obj)) (s : Shared), Inv X pins σ H s → wpAny (model X.prog X.w) X.A (execs st X.env) (SP X pins D) X.xe s
end
section
variable {X : Cx} {e : Expr} {st : Stmt} {sts : List Stmt} {es : List Expr} {σ : St} {H : Hp}
theorem peSem : PE X e (semE X e) := ⟨fun pins s _ _ _ I h => h pins s I⟩
theorem ptSem : PT X e (semT X e) := ⟨fun pins s _ _ _ I h => h pins s I⟩
theorem pwSem : PW X e (semTw X e) := ⟨fun wh pins s _ _ _ I h => h wh pins s I⟩
theorem paSem : PA X es (semA X es) := ⟨fun pos pins s _ _ _ I h => h pos pins s I⟩
theorem psSem : PS X st (semS X st) := ⟨fun pins s _ _ _ I h => h pins s I⟩
theorem pssSem : PSs X sts (semSs X sts) := ⟨fun pins s _ _ _ I h => h pins s I⟩
theorem semE.of {t : TE} {Q : VK} (p : PE X e t) (h : t σ H Q) : semE X e σ H Q := fun pins s I => p.run pins s σ H Q I h
theorem semT.of {t : TT} {Q : Bool → Hp → Prop} (p : PT X e t) (h : t σ H Q) : semT X e σ H Q := fun pins s I => p.run pins s σ H Q I h
theorem semTw.of {t : TT} {Q : Bool → Hp → Prop} (p : PW X e t) (h : t σ H Q) : semTw X e σ H Q := fun wh pins s I => p.run wh pins s σ H Q I h
theorem semA.of {t : TA} {Q : List V → Hp → Prop} (p : PA X es t) (h : t σ H Q) : semA X es σ H Q := fun pos pins s I => p.run pos pins s σ H Q I h
theorem semS.of {t : TS} {D : Ends} (p : PS X st t) (h : t D σ H) : semS X st D σ H := fun pins s I => p.run pins s σ H D I h
theorem semSs.of {t : TS} {D : Ends} (p : PSs X sts t) (h : t D σ H) : semSs X sts D σ H := fun pins s I => p.run pins s σ H D I h
theorem semE.imp {Q Q' : VK} (h : semE X e σ H Q) (q : ∀ v H', Q v H' → Q' v H') : semE X e σ H Q' := fun pins s I =>
  thn (h pins s I) fun _ _ ⟨v, H', I', r, z⟩ => ⟨v, H', I', r, q v H' z⟩
theorem semT.imp {Q Q' : Bool → Hp → Prop} (h : semT X e σ H Q) (q : ∀ v H', Q v H' → Q' v H') : semT X e σ H Q' := fun pins s I =>
  thn (h pins s I) fun b _ ⟨H', I', z⟩ => ⟨H', I', q b H' z⟩
theorem semTw.imp {Q Q' : Bool → Hp → Prop} (h : semTw X e σ H Q) (q : ∀ v H', Q v H' → Q' v H') : semTw X e σ H Q' := fun wh pins s I =>
  thn (h wh pins s I) fun b _ ⟨H', I', z⟩ => ⟨H', I', q b H' z⟩
theorem semA.imp {Q Q' : List V → Hp → Prop} (h : semA X es σ H Q) (q : ∀ v H', Q v H' → Q' v H') : semA X es σ H Q' := fun pos pins s I =>
  thn (h pos pins s I) fun _ _ ⟨v, H', I', r, z⟩ => ⟨v, H', I', r, q v H' z⟩
/-- ends that are implied -/
structure EndsLe (D D' : Ends) : Prop where
  nx : ∀ t H', D.nx t H' → D'.nx t H'
  rt : ∀ v H', D.rt v H' → D'.rt v H'
  bk : ∀ t H', D.bk t H' → D'.bk t H'
  ct : ∀ t H', D.ct t H' → D'.ct t H'
theorem spLe {pins : List (Addr × Obj)} {D D' : Ends} (l : EndsLe D D') (f : Flow) (s' : Shared) (h : SP X pins D f s') : SP X pins D' f s' := by
  cases f with
  | next => obtain ⟨a, b, c, d⟩ := h; exact ⟨a, b, c, l.nx _ _ d⟩
  | brk => obtain ⟨a, b, c, d⟩ := h; exact ⟨a, b, c, l.bk _ _ d⟩
  | cont => obtain ⟨a, b, c, d⟩ := h; exact ⟨a, b, c, l.ct _ _ d⟩
  | ret u => obtain ⟨v, a, b, c, r, d⟩ := h; exact ⟨v, a, b, c, r, l.rt _ _ d⟩
theorem semS.imp {D D' : Ends} (h : semS X st D σ H) (l : EndsLe D D') : semS X st D' σ H := fun pins s I => thn (h pins s I) (spLe l)
theorem semSs.imp {D D' : Ends} (h : semSs X sts D σ H) (l : EndsLe D D') : semSs X sts D' σ H := fun pins s I => thn (h pins s I) (spLe l)
end

/-! ### the judgements -/
structure SR (X : Cx) (G : HD) (H : Hp) (σ : DSt) (t : St) (W : DW) : Prop where
  sim : Sim X.K G H
  slots : RpS X.K H σ t
  takes : Takes X (liftW X.K G H W)
section
variable {X : Cx} {G G1 : HD} {H H1 : Hp} {σ : DSt} {t : St} {W : DW}
theorem SR.ext (r : SR X G H σ t W) (s : Sim X.K G1 H1) (x : Ext G H G1 H1) : SR X G1 H1 σ t W :=
  ⟨s, r.slots.ext r.sim x _ _, r.takes.imp fun _ _ _ _ h => h.up x⟩
theorem SR.slot (r : SR X G H σ t W) {σ' : DSt} {t' : St} (h : RpS X.K H σ' t') : SR X G H σ' t' W := ⟨r.sim, h, r.takes⟩
end
structure DE (X : Cx) (e : Expr) (t : TD) : Prop where
  run : ∀ (G : HD) (H : Hp) (σ : DSt) (τ : St) (W : DW) (Q : Post), SR X G H σ τ W → t W σ G Q → semE X e τ H (liftQ X.K G H Q)
structure DT (X : Cx) (e : Expr) (t : TDT) : Prop where
  run : ∀ (G : HD) (H : Hp) (σ : DSt) (τ : St) (W : DW) (Q : Bool → HD → Prop), SR X G H σ τ W → t W σ G Q → semT X e τ H (liftB X.K G H Q)
structure DTw (X : Cx) (e : Expr) (t : TDT) : Prop where
  run : ∀ (G : HD) (H : Hp) (σ : DSt) (τ : St) (W : DW) (Q : Bool → HD → Prop), SR X G H σ τ W → t W σ G Q → semTw X e τ H (liftB X.K G H Q)
structure DA (X : Cx) (es : List Expr) (t : TDA) : Prop where
  run : ∀ (G : HD) (H : Hp) (σ : DSt) (τ : St) (W : DW) (Q : List D → HD → Prop), SR X G H σ τ W → t W σ G Q → semA X es τ H (liftA X.K G H Q)
structure DS (X : Cx) (st : Stmt) (t : TDS) : Prop where
  run : ∀ (G : HD) (H : Hp) (σ : DSt) (τ : St) (W : DW) (D : DEnds), SR X G H σ τ W → t W D σ G → semS X st (liftD X.K G H D) τ H
structure DSs (X : Cx) (st : List Stmt) (t : TDS) : Prop where
  run : ∀ (G : HD) (H : Hp) (σ : DSt) (τ : St) (W : DW) (D : DEnds), SR X G H σ τ W → t W D σ G → semSs X st (liftD X.K G H D) τ H

section
variable {X : Cx} {a b e : Expr} {ta tb : TD} {es : List Expr} {ts : TDA}
/-- then: the next expression, in the state behind the first -/
theorem DE.then (h : DE X a ta) {G : HD} {H : Hp} {σ : DSt} {τ : St} {W : DW} {R : D → HD → Prop} {Q : VK} (r : SR X G H σ τ W) (q : ta W σ G R)
    (k : ∀ d v G1 H1, SR X G1 H1 σ τ W → Ext G H G1 H1 → Rp X.K H1 d v → R d G1 → Q v H1) : semE X a τ H Q :=
  (h.run G H σ τ W R r q).imp fun v H1 ⟨d, G1, r1, s1, x1, q1⟩ => k d v G1 H1 (r.ext s1 x1) x1 r1 q1
theorem DT.then {t : TDT} (h : DT X a t) {G : HD} {H : Hp} {σ : DSt} {τ : St} {W : DW} {R : Bool → HD → Prop} {Q : Bool → Hp → Prop} (r : SR X G H σ τ W) (q : t W σ G R)
    (k : ∀ d G1 H1, SR X G1 H1 σ τ W → Ext G H G1 H1 → R d G1 → Q d H1) : semT X a τ H Q :=
  (h.run G H σ τ W R r q).imp fun v H1 ⟨G1, s1, x1, q1⟩ => k v G1 H1 (r.ext s1 x1) x1 q1
theorem DTw.then {t : TDT} (h : DTw X a t) {G : HD} {H : Hp} {σ : DSt} {τ : St} {W : DW} {R : Bool → HD → Prop} {Q : Bool → Hp → Prop} (r : SR X G H σ τ W) (q : t W σ G R)
    (k : ∀ d G1 H1, SR X G1 H1 σ τ W → Ext G H G1 H1 → R d G1 → Q d H1) : semTw X a τ H Q :=
  (h.run G H σ τ W R r q).imp fun v H1 ⟨G1, s1, x1, q1⟩ => k v G1 H1 (r.ext s1 x1) x1 q1
theorem DA.then (h : DA X es ts) {G : HD} {H : Hp} {σ : DSt} {τ : St} {W : DW} {R : List D → HD → Prop} {Q : List V → Hp → Prop} (r : SR X G H σ τ W) (q : ts W σ G R)
    (k : ∀ ds vs G1 H1, SR X G1 H1 σ τ W → Ext G H G1 H1 → Rps X.K H1 ds vs → R ds G1 → Q vs H1) : semA X es τ H Q :=
  (h.run G H σ τ W R r q).imp fun v H1 ⟨d, G1, r1, s1, x1, q1⟩ => k d v G1 H1 (r.ext s1 x1) x1 r1 q1

/-! ### names, constants -/
def dVar (i : Nat) : TD := fun _ σ G Q => match σ[i]? with
  | some (some d) => Q d G
  | _ => False
def dC (d : D) : TD := fun _ _ G Q => Q d G
theorem de_var {i : Nat} {x : Str} {pos : Pos} (p : PE X (.Name x pos) (tVar i)) : DE X (.Name x pos) (dVar i) := ⟨fun G H σ τ W Q r h => by
  refine semE.of p ?_
  unfold dVar at h
  split at h
  · rename_i d e
    obtain ⟨v, e1, r1⟩ := r.slots.get e
    exact ⟨v, e1, .of r1 r.sim .refl h⟩
  · exact h.elim⟩
/-- a slot -/
theorem dv (i : Nat) {x : Str} {pos : Pos} (hN : X.N[i]? = some x := by rfl) (hv : Vis X.env.scope x := by first | exact Or.inl rfl | exact Or.inr (Or.inl rfl) | exact Or.inr (Or.inr rfl)) (hd : (x == ("__debug__" : Str)) = false := by decide)
    (hcd : (x == ("__classdict__" : Str)) = false := by decide) : DE X (.Name x pos) (dVar i) := de_var (pe_var hN hv hd hcd)
theorem de_const {v : V} {d : D} (p : PE X e (tC v)) (h : ∀ K H, Rp K H d v) : DE X e (dC d) := ⟨fun G H σ τ W Q r q => semE.of p (.of (h _ _) r.sim .refl q)⟩
theorem de_int {i j pos} : DE X (.Constant (.int i) j pos) (dC (.int i)) := de_const pe_int fun _ _ => rfl
theorem de_bl {i j pos} : DE X (.Constant (.bool i) j pos) (dC (.bl i)) := de_const pe_bl fun _ _ => rfl
theorem de_non {j pos} : DE X (.Constant .none j pos) (dC .non) := de_const pe_non fun _ _ => rfl
theorem de_str {i j pos} : DE X (.Constant (.str i) j pos) (dC (.str i)) := de_const pe_str fun _ _ => rfl
/-- a constant of the module -/
theorem de_glob {x : Str} {d : D} {v : V} {u : Value} {pos : Pos} (hg : Gl X x) (hm : X.mg x = some u) (r : RelV v u) (h : ∀ H, Rp X.K H d v) (hd : (x == ("__debug__" : Str)) = false := by decide) : DE X (.Name x pos) (dC d) :=
  ⟨fun G H σ τ W Q r' q => semE.of (pe_glob hg hm r hd) (.of (h _) r'.sim .refl q)⟩
/-- a built-in type by its name -/
theorem de_bty {x : Str} {n : String} {pos : Pos} (hg : Gl X x) (hm : X.mg x = none) (hv : bootBuiltins x = some (.type n)) (hn : x ≠ "__name__" := by decide) (hd : (x == ("__debug__" : Str)) = false := by decide) : DE X (.Name x pos) (dC (.ty n)) :=
  ⟨fun G H σ τ W Q r' q => semE.of (pe_bltn (v := .ty n) hg hm hv rfl hn hd) (.of (d := .ty n) (show Rp X.K H (.ty n) (.ty n) from rfl) r'.sim .refl q)⟩

/-! ### operators by values -/
/-- a reading of values over data -/
def OpD (K : PySem.W.Frag) (r : R2) (rd : D → D → HD → Post → Prop) : Prop :=
  ∀ (G : HD) (H : Hp) (d e : D) (x y : V) (Q : Post) (Q' : VK), Sim K G H → Rp K H d x → Rp K H e y → (∀ v H', liftQ K G H Q v H' → Q' v H') → rd d e G Q → r x y H Q'
def dOp (rd : D → D → HD → Post → Prop) (ta tb : TD) : TD := fun W σ G Q => ta W σ G fun d G1 => tb W σ G1 fun e G2 => rd d e G2 Q
theorem de_two {r : R2} {rd : D → D → HD → Post → Prop} (hd : OpD X.K r rd) (p : PE X e (tOp r (semE X a) (semE X b))) (ha : DE X a ta) (hb : DE X b tb) : DE X e (dOp rd ta tb) :=
  ⟨fun G H σ τ W Q r0 h => semE.of p (ha.then r0 h fun d x G1 H1 r1 x1 k1 q1 => hb.then r1 q1 fun d2 y G2 H2 r2 x2 k2 q2 =>
    hd G2 H2 d d2 x y Q _ r2.sim (k1.ext r1.sim x2 _ _) k2 (fun _ _ z => z.up (x1.trans x2)) q2)⟩
theorem de_op {op : Operator} {r : R2} {rd : D → D → HD → Post → Prop} {pos : Pos} (ho : OpR X (binaryOp op) r) (hd : OpD X.K r rd) (ha : DE X a ta) (hb : DE X b tb) : DE X (.BinOp a op b pos) (dOp rd ta tb) :=
  de_two hd (pe_op ho peSem peSem) ha hb
theorem de_cmp {op : CmpOp} {r : R2} {rd : D → D → HD → Post → Prop} {pos : Pos} (ho : OpR X (compareOp op) r) (hd : OpD X.K r rd) (ha : DE X a ta) (hb : DE X b tb) (hm : behindInMarks op b = false) : DE X (.Compare a [op] [b] pos) (dOp rd ta tb) :=
  de_two hd (pe_cmpR ho peSem peSem hm) ha hb
theorem de_ix {r : R2} {rd : D → D → HD → Post → Prop} {pos : Pos} (ho : IxR X r) (hd : OpD X.K r rd) (ha : DE X a ta) (hb : DE X b tb) (hs : PlainIx b) : DE X (.Subscript a b pos) (dOp rd ta tb) :=
  de_two hd (pe_ix ho peSem peSem hs) ha hb
def dTest (t : TD) : TDT := fun W σ G Q => t W σ G fun d G1 => match d with
  | .bl k => Q k G1
  | _ => False
theorem dt_cmp {op : CmpOp} {r : R2} {rd : D → D → HD → Post → Prop} {pos : Pos} (ho : OpR X (compareOp op) r) (hd : OpD X.K r rd) (ha : DE X a ta) (hb : DE X b tb) (hm : behindInMarks op b = false) : DT X (.Compare a [op] [b] pos) (dTest (dOp rd ta tb)) :=
  ⟨fun G H σ τ W Q r0 h => semT.of (pt_cmpR ho peSem peSem hm) (ha.then r0 h fun d x G1 H1 r1 x1 k1 q1 => hb.then r1 q1 fun d2 y G2 H2 r2 x2 k2 q2 =>
    hd G2 H2 d d2 x y _ _ r2.sim (k1.ext r1.sim x2 _ _) k2 (fun v H' ⟨d3, G3, k3, s3, x3, q3⟩ => by
      cases d3 with
      | bl k => exact ⟨k, k3, G3, s3, (x1.trans x2).trans x3, q3⟩
      | _ => exact q3.elim) q2)⟩
theorem OpD.or {K : PySem.W.Frag} {r r' : R2} {rd : D → D → HD → Post → Prop} {rd' : D → D → HD → Post → Prop} (h : OpD K r rd) (h' : OpD K r' rd') :
    OpD K (fun x y H Q => r x y H Q ∨ r' x y H Q) (fun d e G Q => rd d e G Q ∨ rd' d e G Q) := fun G H d e x y Q Q' s k1 k2 f q => q.elim (fun z => .inl (h G H d e x y Q Q' s k1 k2 f z)) fun z => .inr (h' G H d e x y Q Q' s k1 k2 f z)
end
end DL

namespace DL
open PySem PySem.Spec L2
open PyProof.Rows hiding St

section
variable {K : PySem.W.Frag} {G : HD} {H : Hp}
/-- a list that is read: one of ours, or one that never changes -/
def asL (G : HD) : D → Option (List D)
  | .kl ds => some ds
  | .kc ds => some ds
  | .ref a => match G a with
    | some (.lst ds) => some ds
    | _ => none
  | _ => none
def asQ (G : HD) : D → Option (List D)
  | .tup ds => some ds
  | d => asL G d
theorem Rp.lst (s : Sim K G H) {d : D} {v : V} {ds : List D} (r : Rp K H d v) (h : asL G d = some ds) : ∃ a vs, v = .ref a ∧ SqL K H a vs ∧ Rps K H ds vs := by
  cases d with
  | kl es =>
    cases h
    obtain ⟨a, vs, rfl, ⟨o, t⟩, q⟩ := r
    exact ⟨a, vs, rfl, .inl (.inr ⟨o, t⟩), q⟩
  | kc es =>
    cases h
    obtain ⟨a, vs, rfl, t, q⟩ := r
    refine ⟨a, vs, rfl, ?_, q⟩
    rcases t with ⟨o, t⟩ | t
    · exact .inl (.inr ⟨o, t⟩)
    · exact .inr t
  | exc _ _ _ => cases h
  | emp => cases h
  | ref a =>
    cases (show v = .ref a from r)
    simp only [asL] at h
    split at h
    · rename_i es e
      cases h
      obtain ⟨vs, e1, r1⟩ := s.lst e
      exact ⟨a, vs, rfl, .of e1, r1⟩
    · cases h
  | non => cases h
  | bl _ => cases h
  | int _ => cases h
  | str _ => cases h
  | ty _ => cases h
  | tup _ => cases h
theorem Rp.seq (s : Sim K G H) {d : D} {v : V} {ds : List D} (r : Rp K H d v) (h : asQ G d = some ds) : ∃ a vs, v = .ref a ∧ (SqL K H a vs ∨ SqT K H a vs) ∧ Rps K H ds vs := by
  by_cases z : ∃ es, d = .tup es
  · obtain ⟨es, rfl⟩ := z
    cases h
    obtain ⟨a, vs, rfl, t, q⟩ := r
    exact ⟨a, vs, rfl, .inr t, q⟩
  · have h' : asL G d = some ds := by
      cases d with
      | tup es => exact (z ⟨es, rfl⟩).elim
      | _ => exact h
    obtain ⟨a, vs, e, t, q⟩ := r.lst s h'
    exact ⟨a, vs, e, .inl t, q⟩
end
/-- a new list -/
def newL (G : HD) (ds : List D) (Q : Post) : Prop := ∀ p, G p = none → Q (.ref p) (put G p (.lst ds))
theorem newL.fin {K : PySem.W.Frag} {G : HD} {H : Hp} {ds : List D} {vs : List V} {Q : Post} {Q' : VK} (s : Sim K G H) (r : Rps K H ds vs) (f : ∀ v H', liftQ K G H Q v H' → Q' v H') (q : newL G ds Q) :
    ∀ p, H p = none → Q' (.ref p) (upd H p (.lst vs)) := fun p hp =>
  f _ _ (.of (d := .ref p) rfl (s.newM (m := .lst ds) hp ⟨vs, rfl, r⟩) (.newM hp) (q p (s.no hp)))
theorem newT.fin {K : PySem.W.Frag} {G : HD} {H : Hp} {ds : List D} {vs : List V} {Q : Post} {Q' : VK} (s : Sim K G H) (r : Rps K H ds vs) (f : ∀ v H', liftQ K G H Q v H' → Q' v H') (q : Q (.tup ds) G) :
    ∀ p, H p = none → Q' (.ref p) (upd H p (.tup vs)) := fun p hp =>
  f _ _ (.of (d := .tup ds) ⟨p, vs, rfl, .of upd_same, r.ext s (Ext.new hp (s.no hp)) _ _⟩ (s.newO hp) (.new hp (s.no hp)) q)

/-! ### + - * // % ** -/
def dAdd : D → D → HD → Post → Prop := fun d e G Q => match d, e with
  | .int i, .int j => Q (.int (i + j)) G
  | .str x, .str y => x.length + y.length ≤ sizeLine ∧ Q (.str (x ++ y)) G
  | .tup xs, .tup ys => xs.length + ys.length ≤ sizeLine ∧ Q (.tup (xs ++ ys)) G
  | .ref a, .ref b => match G a, G b with
    | some (.lst xs), some (.lst ys) => xs.length + ys.length ≤ sizeLine ∧ newL G (xs ++ ys) Q
    | _, _ => False
  | _, _ => False
def rAddU (K : PySem.W.Frag) : R2 := fun x y H Q => rI0 (fun i j => .int (i + j)) x y H Q ∨ (∃ i j, x = .str i ∧ y = .str j ∧ i.length + j.length ≤ sizeLine ∧ Q (.str (i ++ j)) H) ∨ rCatA K x y H Q ∨ rCat x y H Q
theorem od_add (K : PySem.W.Frag) : OpD K (rAddU K) dAdd := fun G H d e x y Q Q' s k1 k2 f q => by
  unfold dAdd at q
  split at q
  · cases k1; cases k2
    exact .inl ⟨_, _, rfl, rfl, f _ _ (.of (d := .int _) rfl s .refl q)⟩
  · cases k1; cases k2
    exact .inr (.inl ⟨_, _, rfl, rfl, q.1, f _ _ (.of (d := .str _) rfl s .refl q.2)⟩)
  · rename_i xs ys
    obtain ⟨a, vs, rfl, t1, r1⟩ := id k1
    obtain ⟨b, ws, rfl, t2, r2⟩ := id k2
    refine .inr (.inr (.inl ⟨a, b, vs, ws, rfl, rfl, t1, t2, by rw [r1.length, r2.length]; exact q.1, fun e => ?_, fun _ e => ?_, fun _ _ => newT.fin s (r1.app r2) f q.2⟩))
    · subst e
      have e1 : xs = [] := List.eq_nil_of_length_eq_zero (by rw [← r1.length]; rfl)
      subst e1
      exact f _ _ (.of (d := .tup ys) k2 s .refl q.2)
    · subst e
      have e1 : ys = [] := List.eq_nil_of_length_eq_zero (by rw [← r2.length]; rfl)
      subst e1
      exact f _ _ (.of (d := .tup xs) k1 s .refl (by simpa using q.2))
  · split at q
    · rename_i xs ys e1 e2
      cases k1; cases k2
      obtain ⟨vs, g1, r1⟩ := s.lst e1
      obtain ⟨ws, g2, r2⟩ := s.lst e2
      exact .inr (.inr (.inr ⟨_, _, vs, ws, rfl, rfl, g1, g2, by rw [r1.length, r2.length]; exact q.1, newL.fin s (r1.app r2) f q.2⟩))
    · exact q.elim
  · exact q.elim
def dSub : D → D → HD → Post → Prop := fun d e G Q => match d, e with
  | .int i, .int j => Q (.int (i - j)) G
  | _, _ => False
theorem od_int {K : PySem.W.Frag} {C : Int → Int → Prop} {g : Int → Int → V} {gd : Int → Int → D} (hg : ∀ i j K H, Rp K H (gd i j) (g i j)) :
    OpD K (rI C g) (fun d e G Q => match d, e with | .int i, .int j => C i j ∧ Q (gd i j) G | _, _ => False) := fun G H d e x y Q Q' s k1 k2 f q => by
  dsimp only at q
  split at q
  · cases k1; cases k2
    exact ⟨_, _, rfl, rfl, q.1, f _ _ (.of (hg _ _ _ _) s .refl q.2)⟩
  · exact q.elim
theorem od_int0 {K : PySem.W.Frag} {g : Int → Int → V} {gd : Int → Int → D} (hg : ∀ i j K H, Rp K H (gd i j) (g i j)) :
    OpD K (rI0 g) (fun d e G Q => match d, e with | .int i, .int j => Q (gd i j) G | _, _ => False) := fun G H d e x y Q Q' s k1 k2 f q => by
  dsimp only at q
  split at q
  · cases k1; cases k2
    exact ⟨_, _, rfl, rfl, f _ _ (.of (hg _ _ _ _) s .refl q)⟩
  · exact q.elim
theorem od_sub (K : PySem.W.Frag) : OpD K (rI0 fun i j => .int (i - j)) dSub := od_int0 (gd := fun i j => .int (i - j)) fun _ _ _ _ => rfl
def MulOk (i j : Int) : Prop := CMul i j ∨ CMulW i j
def dMul : D → D → HD → Post → Prop := fun d e G Q => match d, e with
  | .int i, .int j => MulOk i j ∧ Q (.int (i * j)) G
  | _, _ => False
def rMulU : R2 := fun x y H Q => rI CMul (fun i j => .int (i * j)) x y H Q ∨ rI CMulW (fun i j => .int (i * j)) x y H Q
theorem od_mul (K : PySem.W.Frag) : OpD K rMulU dMul := fun G H d e x y Q Q' s k1 k2 f q => by
  unfold dMul at q
  split at q
  · cases k1; cases k2
    exact q.1.elim (fun z => .inl ⟨_, _, rfl, rfl, z, f _ _ (.of (d := .int _) rfl s .refl q.2)⟩) fun z => .inr ⟨_, _, rfl, rfl, z, f _ _ (.of (d := .int _) rfl s .refl q.2)⟩
  · exact q.elim
def dDiv : D → D → HD → Post → Prop := fun d e G Q => match d, e with
  | .int i, .int j => CDivW i j ∧ Q (.int (i / j)) G
  | _, _ => False
theorem od_div (K : PySem.W.Frag) : OpD K (rI CDivW fun i j => .int (i / j)) dDiv := od_int (gd := fun i j => .int (i / j)) fun _ _ _ _ => rfl
def dMod : D → D → HD → Post → Prop := fun d e G Q => match d, e with
  | .int i, .int j => 0 < j ∧ Q (.int (i % j)) G
  | _, _ => False
theorem od_mod (K : PySem.W.Frag) : OpD K (rI (fun _ j => 0 < j) fun i j => .int (i % j)) dMod := od_int (gd := fun i j => .int (i % j)) fun _ _ _ _ => rfl
def dPow : D → D → HD → Post → Prop := fun d e G Q => match d, e with
  | .int i, .int j => CPow i j ∧ Q (.int (i ^ j.toNat)) G
  | _, _ => False
theorem od_pow (K : PySem.W.Frag) : OpD K (rI CPow fun i j => .int (i ^ j.toNat)) dPow := od_int (gd := fun i j => .int (i ^ j.toNat)) fun _ _ _ _ => rfl
section
variable {X : Cx} {a b : Expr} {ta tb : TD} {pos : Pos}
theorem de_sub (ha : DE X a ta) (hb : DE X b tb) : DE X (.BinOp a .Sub b pos) (dOp dSub ta tb) := de_op op_sub (od_sub X.K) ha hb
theorem de_mul (ha : DE X a ta) (hb : DE X b tb) : DE X (.BinOp a .Mult b pos) (dOp dMul ta tb) := de_op (op_mul.or op_mulW) (od_mul X.K) ha hb
theorem de_div (ha : DE X a ta) (hb : DE X b tb) : DE X (.BinOp a .FloorDiv b pos) (dOp dDiv ta tb) := de_op op_fdivW (od_div X.K) ha hb
theorem de_mod (ha : DE X a ta) (hb : DE X b tb) : DE X (.BinOp a .Mod b pos) (dOp dMod ta tb) := de_op op_mod (od_mod X.K) ha hb
theorem de_pow (ha : DE X a ta) (hb : DE X b tb) : DE X (.BinOp a .Pow b pos) (dOp dPow ta tb) := de_op op_pow (od_pow X.K) ha hb
end

/-! ### comparisons -/
def dCmpI (p : Int → Int → Bool) : D → D → HD → Post → Prop := fun d e G Q => match d, e with
  | .int i, .int j => Q (.bl (p i j)) G
  | _, _ => False
theorem od_cmpI (K : PySem.W.Frag) (p : Int → Int → Bool) : OpD K (rI0 fun i j => .bl (p i j)) (dCmpI p) := od_int0 (gd := fun i j => .bl (p i j)) fun _ _ _ _ => rfl
def isNon : D → Bool
  | .non => true
  | _ => false
theorem isNon_of {K : PySem.W.Frag} {H : Hp} {d : D} {v : V} (r : Rp K H d v) : decide (v = .non) = isNon d := by
  cases d with
  | non => cases r; rfl
  | bl _ => cases r; rfl
  | int _ => cases r; rfl
  | str _ => cases r; rfl
  | ty _ => cases r; rfl
  | ref _ => cases r; rfl
  | tup _ => obtain ⟨_, _, rfl, _⟩ := r; rfl
  | kl _ => obtain ⟨_, _, rfl, _⟩ := r; rfl
  | kc _ => obtain ⟨_, _, rfl, _⟩ := r; rfl
  | exc _ _ _ => obtain ⟨_, _, _, rfl, _⟩ := r; rfl
  | emp => obtain ⟨_, _, rfl, _⟩ := r; rfl
def dIsN (neg : Bool) : D → D → HD → Post → Prop := fun d e G Q => match e with
  | .non => Q (.bl (if neg then !isNon d else isNon d)) G
  | _ => False
theorem od_isN (K : PySem.W.Frag) : OpD K (fun x y H Q => y = .non ∧ Q (.bl (decide (x = .non))) H) (dIsN false) := fun G H d e x y Q Q' s k1 k2 f q => by
  unfold dIsN at q
  split at q
  · cases k2
    refine ⟨rfl, f _ _ (.of (d := .bl (isNon d)) ?_ s .refl q)⟩
    rw [isNon_of k1]; exact rfl
  · exact q.elim
theorem od_notN (K : PySem.W.Frag) : OpD K (fun x y H Q => y = .non ∧ Q (.bl (!decide (x = .non))) H) (dIsN true) := fun G H d e x y Q Q' s k1 k2 f q => by
  unfold dIsN at q
  split at q
  · cases k2
    refine ⟨rfl, f _ _ (.of (d := .bl (!isNon d)) ?_ s .refl q)⟩
    rw [isNon_of k1]; exact rfl
  · exact q.elim

/-! == and != of data -/
/-- data by value, as the library's PyData; fuel: its depth -/
def pyD : Nat → HD → D → Option PyData
  | 0, _, _ => none
  | n + 1, G, d => match d with
    | .non => some .none
    | .bl b => some (.bool b)
    | .int i => some (.int i)
    | .str x => if PyData.strOk x = true then some (.str x) else none
    | .tup ds => (ds.mapM (pyD n G)).map .tuple
    | .kl ds => (ds.mapM (pyD n G)).map .list
    | .kc ds => (ds.mapM (pyD n G)).map .list
    | .exc _ _ _ => none
    | .emp => none
    | .ref a => match G a with
      | some (.lst ds) => (ds.mapM (pyD n G)).map .list
      | _ => none
    | .ty _ => none
section
variable {K : PySem.W.Frag} {G : HD} {H : Hp}
theorem mapM_cons_some {α β : Type} {f : α → Option β} {a : α} {l : List α} {ys : List β} (h : (a :: l).mapM f = some ys) : ∃ y zs, f a = some y ∧ l.mapM f = some zs ∧ ys = y :: zs := by
  rw [List.mapM_cons] at h
  cases e : f a with
  | none => rw [e] at h; cases h
  | some y =>
    rw [e] at h
    cases e2 : l.mapM f with
    | none => rw [e2] at h; cases h
    | some zs => rw [e2] at h; cases h; exact ⟨y, zs, rfl, rfl, rfl⟩
theorem pyDs_dp {n : Nat} (s : Sim K G H) (ih : ∀ (d : D) (v : V) (p : PyData), pyD n G d = some p → Rp K H d v → Dp K H v p ∧ p.canLay0 = true ∧ p.depth ≤ n) :
    ∀ (ds : List D) (vs : List V) (ps : List PyData), ds.mapM (pyD n G) = some ps → Rps K H ds vs → DpAll K H vs ps ∧ PyData.canLayAll0 ps = true ∧ PyData.depthAll ps ≤ n
  | [], vs, ps, h, r => by
    cases r
    simp only [List.mapM_nil, Option.pure_def, Option.some.injEq] at h
    subst h
    exact ⟨.nil, by simp only [PyData.canLayAll0], by simp only [PyData.depthAll]; exact Nat.zero_le _⟩
  | d :: ds, vs, ps, h, r => by
    obtain ⟨y, zs, e1, e2, rfl⟩ := mapM_cons_some h
    obtain ⟨v, r', rfl, h1, h2⟩ := r
    obtain ⟨a1, a2, a3⟩ := ih d v y e1 h1
    obtain ⟨b1, b2, b3⟩ := pyDs_dp s ih ds r' zs e2 h2
    refine ⟨.cons a1 b1, by simp only [PyData.canLayAll0, a2, b2, Bool.and_self], ?_⟩
    simp only [PyData.depthAll]
    omega
theorem pyD_dp (s : Sim K G H) : ∀ (n : Nat) (d : D) (v : V) (p : PyData), pyD n G d = some p → Rp K H d v → Dp K H v p ∧ p.canLay0 = true ∧ p.depth ≤ n
  | 0, _, _, _, h, _ => by cases h
  | n + 1, d, v, p, h, r => by
    cases d with
    | non => cases h; cases r; exact ⟨.non, by simp only [PyData.canLay0], by simp only [PyData.depth]; omega⟩
    | bl b => cases h; cases r; exact ⟨.bl b, by simp only [PyData.canLay0], by simp only [PyData.depth]; omega⟩
    | int i => cases h; cases r; exact ⟨.int i, by simp only [PyData.canLay0], by simp only [PyData.depth]; omega⟩
    | str x =>
      unfold pyD at h
      simp only at h
      split at h
      · rename_i hx
        cases h; cases r; exact ⟨.str x, by simp only [PyData.canLay0, hx], by simp only [PyData.depth]; omega⟩
      · cases h
    | ty _ => cases h
    | tup ds =>
      unfold pyD at h
      simp only [Option.map_eq_some_iff] at h
      obtain ⟨ps, e, rfl⟩ := h
      obtain ⟨a, vs, rfl, t, r2⟩ := r
      obtain ⟨x1, x2, x3⟩ := pyDs_dp s (pyD_dp s n) ds vs ps e r2
      exact ⟨.tup t x1, by simp only [PyData.canLay0, x2], by simp only [PyData.depth]; omega⟩
    | kl ds =>
      have r0 := r
      unfold pyD at h
      simp only [Option.map_eq_some_iff] at h
      obtain ⟨ps, e, rfl⟩ := h
      obtain ⟨a, vs, rfl, t, r2⟩ := Rp.lst (ds := ds) s r rfl
      obtain ⟨x1, x2, x3⟩ := pyDs_dp s (pyD_dp s n) ds vs ps e r2
      exact ⟨.lst t x1, by simp only [PyData.canLay0, x2], by simp only [PyData.depth]; omega⟩
    | kc ds =>
      have r0 := r
      unfold pyD at h
      simp only [Option.map_eq_some_iff] at h
      obtain ⟨ps, e, rfl⟩ := h
      obtain ⟨a, vs, rfl, t, r2⟩ := Rp.lst (ds := ds) s r rfl
      obtain ⟨x1, x2, x3⟩ := pyDs_dp s (pyD_dp s n) ds vs ps e r2
      exact ⟨.lst t x1, by simp only [PyData.canLay0, x2], by simp only [PyData.depth]; omega⟩
    | exc _ _ _ => cases h
    | emp => cases h
    | ref a =>
      unfold pyD at h
      simp only at h
      split at h
      · rename_i ds eg
        simp only [Option.map_eq_some_iff] at h
        obtain ⟨ps, e, rfl⟩ := h
        cases r
        obtain ⟨vs, e1, r2⟩ := s.lst eg
        obtain ⟨x1, x2, x3⟩ := pyDs_dp s (pyD_dp s n) ds vs ps e r2
        exact ⟨.lst (.of e1) x1, by simp only [PyData.canLay0, x2], by simp only [PyData.depth]; omega⟩
      · cases h
theorem pyD_shaped {n : Nat} (s : Sim K G H) {d : D} {v : V} {p : PyData} (h : pyD n G d = some p) (hn : n ≤ 64) (r : Rp K H d v) : Dp K H v p ∧ SeqAt.shaped p = true := by
  obtain ⟨a, b, c⟩ := pyD_dp s n d v p h r
  exact ⟨a, by unfold SeqAt.shaped; rw [b, decide_eq_true (Nat.le_trans c hn)]; rfl⟩
end
/-- the answer of == -/
def eqO (G : HD) (d e : D) : Option Bool := match pyD 9 G d, pyD 9 G e with
  | some p, some q => some (PyData.eqv p q)
  | _, _ => none
def dEq (neg : Bool) : D → D → HD → Post → Prop := fun d e G Q => match eqO G d e with
  | some b => Q (.bl (if neg then !b else b)) G
  | none => False
theorem eqO_some {G : HD} {d e : D} {b : Bool} (h : eqO G d e = some b) : ∃ p q, pyD 9 G d = some p ∧ pyD 9 G e = some q ∧ b = PyData.eqv p q := by
  unfold eqO at h
  split at h
  · rename_i p q e1 e2
    cases h
    exact ⟨p, q, e1, e2, rfl⟩
  · cases h
theorem od_eq (K : PySem.W.Frag) : OpD K (rEqD K) (dEq false) := fun G H d e x y Q Q' s k1 k2 f q => by
  unfold dEq at q
  split at q
  · rename_i b hb
    obtain ⟨p1, p2, e1, e2, rfl⟩ := eqO_some hb
    obtain ⟨a1, a2⟩ := pyD_shaped s e1 (by decide) k1
    obtain ⟨b1, b2⟩ := pyD_shaped s e2 (by decide) k2
    exact ⟨p1, p2, a1, b1, a2, b2, f _ _ (.of (d := .bl _) rfl s .refl q)⟩
  · exact q.elim
theorem od_ne (K : PySem.W.Frag) : OpD K (rNeD K) (dEq true) := fun G H d e x y Q Q' s k1 k2 f q => by
  unfold dEq at q
  split at q
  · rename_i b hb
    obtain ⟨p1, p2, e1, e2, rfl⟩ := eqO_some hb
    obtain ⟨a1, a2⟩ := pyD_shaped s e1 (by decide) k1
    obtain ⟨b1, b2⟩ := pyD_shaped s e2 (by decide) k2
    exact ⟨p1, p2, a1, b1, a2, b2, f _ _ (.of (d := .bl _) rfl s .refl q)⟩
  · exact q.elim

/-! ### items -/
theorem Rps.at {K : PySem.W.Frag} {H : Hp} {ds : List D} {vs : List V} {i : Int} {d : D} (r : Rps K H ds vs) (h : atI ds i = some d) : ∃ v, atI vs i = some v ∧ Rp K H d v := by
  unfold atI at h ⊢
  rw [r.length]
  cases e : ixN ds.length i with
  | none => rw [e] at h; cases h
  | some j => rw [e] at h; exact r.get h
def dIx : D → D → HD → Post → Prop := fun d e G Q => match e with
  | .int i => match d with
    | .str z => z.length ≤ sizeLine ∧ match atI z.cps.toList i with
      | some c => Q (.str ⟨#[c]⟩) G
      | none => False
    | _ => match asQ G d with
      | some ds => match atI ds i with
        | some v => Q v G
        | none => False
      | none => False
  | _ => False
theorem od_ix (K : PySem.W.Frag) : OpD K (rIx K) dIx := fun G H d e x y Q Q' s k1 k2 f q => by
  unfold dIx at q
  split at q
  · cases k2
    split at q
    · obtain ⟨hz, q⟩ := q
      split at q
      · rename_i c hc
        cases k1
        exact .inr (.inr ⟨_, _, c, rfl, rfl, hz, hc, f _ _ (.of (d := .str _) rfl s .refl q)⟩)
      · exact q.elim
    · split at q
      · rename_i ds hd
        split at q
        · rename_i v hv
          obtain ⟨a, vs, rfl, t, r⟩ := k1.seq s hd
          obtain ⟨v', h1, h2⟩ := r.at hv
          rcases t with t | t
          · exact .inl ⟨a, vs, _, v', rfl, rfl, t, h1, f _ _ (.of h2 s .refl q)⟩
          · exact .inr (.inl ⟨a, vs, _, v', rfl, rfl, t, h1, f _ _ (.of h2 s .refl q)⟩)
        · exact q.elim
      · exact q.elim
  · exact q.elim
section
variable {X : Cx} {a b : Expr} {ta tb : TD} {pos : Pos}
theorem de_item (ha : DE X a ta) (hb : DE X b tb) (hs : PlainIx b := by intro _ _; rfl) : DE X (.Subscript a b pos) (dOp dIx ta tb) := de_ix ix_seq (od_ix X.K) ha hb hs
end
end DL

namespace DL
open PySem PySem.Spec L2
open PyProof.Rows hiding St

/-! ### argument lists, displays -/
section
variable {X : Cx} {a b e : Expr} {ta tb : TD} {es : List Expr} {ts : TDA} {pos : Pos}
def dNil : TDA := fun _ _ G Q => Q [] G
def dCons (ta : TD) (tr : TDA) : TDA := fun W σ G Q => ta W σ G fun d G1 => tr W σ G1 fun ds G2 => Q (d :: ds) G2
theorem da_nil : DA X [] dNil := ⟨fun G H σ τ W Q r q => semA.of pa_nil ⟨[], G, rfl, r.sim, .refl, q⟩⟩
theorem da_cons (ha : DE X e ta) (hr : DA X es ts) (hs : starEach (e :: es) X.env = (false, eval e X.env) :: starEach es X.env := by rfl) : DA X (e :: es) (dCons ta ts) :=
  ⟨fun G H σ τ W Q r0 h => semA.of (pa_cons peSem paSem hs) (ha.then r0 h fun d v G1 H1 r1 x1 k1 q1 => hr.then r1 q1 fun ds vs G2 H2 r2 x2 k2 q2 =>
    ⟨d :: ds, G2, .cons (k1.ext r1.sim x2 _ _) k2, r2.sim, x1.trans x2, q2⟩)⟩
def dTup (ts : TDA) : TD := fun W σ G Q => ts W σ G fun ds G1 => ds.length ≤ 1000 ∧ Q (.tup ds) G1
def dLst (ts : TDA) : TD := fun W σ G Q => ts W σ G fun ds G1 => ds.length ≤ 1000 ∧ newL G1 ds Q
theorem le1000 {n : Nat} (h : n ≤ 1000) : n ≤ sizeLine := Nat.le_of_lt (small1000 h)
theorem de_tup {x1} (h : DA X es ts) : DE X (.Tuple es x1 pos) (dTup ts) :=
  ⟨fun G H σ τ W Q r0 q => semE.of (pe_tup paSem) (h.then r0 q fun ds vs G1 H1 r1 x1 k1 q1 => ⟨by rw [k1.length]; exact le1000 q1.1, newT.fin r1.sim k1 (fun _ _ z => z.up x1) q1.2⟩)⟩
theorem de_lst (h : DA X es ts) : DE X (.List es pos) (dLst ts) :=
  ⟨fun G H σ τ W Q r0 q => semE.of (pe_lst paSem) (h.then r0 q fun ds vs G1 H1 r1 x1 k1 q1 => ⟨by rw [k1.length]; exact le1000 q1.1, newL.fin r1.sim k1 (fun _ _ z => z.up x1) q1.2⟩)⟩

/-! ### truth -/
def truD (G : HD) : D → Option Bool
  | .non => some false
  | .bl b => some b
  | .int i => some (i != 0)
  | .str x => if x.length ≤ sizeLine then some ((x.length : Int) != 0) else none
  | .tup ds => some (!ds.isEmpty)
  | .kl ds => some (!ds.isEmpty)
  | .kc ds => some (!ds.isEmpty)
  | .exc _ _ _ => none
  | .emp => none
  | .ref a => match G a with
    | some (.lst ds) => some (!ds.isEmpty)
    | some (.dK l) => some (!l.isEmpty)
    | _ => none
  | .ty _ => none
theorem isEmpty_eq {α β : Type} {l : List α} {m : List β} (h : m.length = l.length) : m.isEmpty = l.isEmpty := by
  cases l <;> cases m <;> first | rfl | (simp at h)
theorem truD_ok {K : PySem.W.Frag} {G : HD} {H : Hp} {d : D} {v : V} {b : Bool} (s : Sim K G H) (r : Rp K H d v) (h : truD G d = some b) : TruV K v H b := by
  cases d with
  | non => cases r; cases h; exact rfl
  | bl c => cases r; cases h; exact rfl
  | int i => cases r; cases h; exact rfl
  | str x =>
    cases r
    simp only [truD] at h
    split at h
    · rename_i z; cases h; exact ⟨z, rfl⟩
    · cases h
  | ty _ => cases h
  | tup ds =>
    obtain ⟨a, vs, rfl, t, r2⟩ := r
    cases h
    exact .inr (.inl ⟨vs, t, by rw [isEmpty_eq r2.length]⟩)
  | kl ds =>
    obtain ⟨a, vs, rfl, t, r2⟩ := Rp.lst (ds := ds) s r rfl
    cases h
    exact .inl ⟨vs, t, by rw [isEmpty_eq r2.length]⟩
  | kc ds =>
    obtain ⟨a, vs, rfl, t, r2⟩ := Rp.lst (ds := ds) s r rfl
    cases h
    exact .inl ⟨vs, t, by rw [isEmpty_eq r2.length]⟩
  | exc _ _ _ => cases h
  | emp => cases h
  | ref a =>
    cases r
    simp only [truD] at h
    split at h
    · rename_i ds e
      cases h
      obtain ⟨vs, e1, r1⟩ := s.lst e
      exact .inl ⟨vs, .of e1, by rw [isEmpty_eq r1.length]⟩
    · rename_i l e
      cases h
      obtain ⟨m, e1, r1⟩ := s.dK e
      exact .inr (.inr ⟨m, e1, by rw [isEmpty_eq r1.length]⟩)
    · cases h
def dTru (t : TD) : TDT := fun W σ G Q => t W σ G fun d G1 => match truD G1 d with
  | some b => Q b G1
  | none => False
theorem dt_tru (ha : DE X a ta) (he : ∀ whole, isTrue a X.env whole = (do let v ← whole; standAt a.pos; holding [v] (truthy v)) := by intro _; rfl) : DT X a (dTru ta) :=
  ⟨fun G H σ τ W Q r0 h => semT.of (pt_truth peSem he) (ha.then r0 h fun d v G1 H1 r1 x1 k1 q1 => by
    try dsimp only at q1
    split at q1
    · rename_i b e
      exact ⟨b, truD_ok r1.sim k1 e, G1, r1.sim, x1, q1⟩
    · exact q1.elim)⟩
def dAnd (t u : TDT) : TDT := fun W σ G Q => t W σ G fun c G1 => if c = true then u W σ G1 Q else Q false G1
def dOr (t u : TDT) : TDT := fun W σ G Q => t W σ G fun c G1 => if c = true then Q true G1 else u W σ G1 Q
def dNot (t : TDT) : TDT := fun W σ G Q => t W σ G fun c G1 => Q (!c) G1
variable {t u : TDT} {rest : List Expr}
theorem dtw_and1 (h : DT X a t) : DTw X (.BoolOp .And [a] pos) t := ⟨fun G H σ τ W Q r q => semTw.of (pw_and1 ptSem) (h.run G H σ τ W Q r q)⟩
theorem dtw_or1 (h : DT X a t) : DTw X (.BoolOp .Or [a] pos) t := ⟨fun G H σ τ W Q r q => semTw.of (pw_or1 ptSem) (h.run G H σ τ W Q r q)⟩
theorem dtw_and (h : DT X a t) (k : DTw X (.BoolOp .And (b :: rest) pos) u) : DTw X (.BoolOp .And (a :: b :: rest) pos) (dAnd t u) :=
  ⟨fun G H σ τ W Q r q => semTw.of (pw_and ptSem pwSem) (h.then r q fun c G1 H1 r1 x1 q1 => by
    cases c with
    | true => exact (k.run G1 H1 σ τ W Q r1 q1).imp fun _ _ z => z.up x1
    | false => exact ⟨G1, r1.sim, x1, q1⟩)⟩
theorem dtw_or (h : DT X a t) (k : DTw X (.BoolOp .Or (b :: rest) pos) u) : DTw X (.BoolOp .Or (a :: b :: rest) pos) (dOr t u) :=
  ⟨fun G H σ τ W Q r q => semTw.of (pw_or ptSem pwSem) (h.then r q fun c G1 H1 r1 x1 q1 => by
    cases c with
    | false => exact (k.run G1 H1 σ τ W Q r1 q1).imp fun _ _ z => z.up x1
    | true => exact ⟨G1, r1.sim, x1, q1⟩)⟩
theorem dt_w (h : DTw X a t) : DT X a t := ⟨fun G H σ τ W Q r q => semT.of pwSem.pt (h.run G H σ τ W Q r q)⟩
theorem dt_not (h : DT X a t) : DT X (.UnaryOp .Not a pos) (dNot t) := ⟨fun G H σ τ W Q r q => semT.of (pt_not ptSem) (h.run G H σ τ W (fun c G' => Q (!c) G') r q)⟩
/-- and, or, not as values -/
def dAndV (ta tb : TD) : TD := fun W σ G Q => ta W σ G fun d G1 => match truD G1 d with
  | some b => if b = true then tb W σ G1 Q else Q d G1
  | none => False
def dOrV (ta tb : TD) : TD := fun W σ G Q => ta W σ G fun d G1 => match truD G1 d with
  | some b => if b = true then Q d G1 else tb W σ G1 Q
  | none => False
def dNotV (ta : TD) : TD := fun W σ G Q => ta W σ G fun d G1 => match truD G1 d with
  | some b => Q (.bl (!b)) G1
  | none => False
theorem de_one {op} (h : DE X a ta) : DE X (.BoolOp op [a] pos) ta := ⟨fun G H σ τ W Q r q => semE.of (pe_one peSem) (h.run G H σ τ W Q r q)⟩
theorem de_and (h : DE X a ta) (k : DE X (.BoolOp .And (b :: rest) pos) tb) : DE X (.BoolOp .And (a :: b :: rest) pos) (dAndV ta tb) :=
  ⟨fun G H σ τ W Q r q => semE.of (pe_andT peSem peSem) (h.then r q fun d v G1 H1 r1 x1 k1 q1 => by
    try dsimp only at q1
    split at q1
    · rename_i c e
      refine ⟨c, truD_ok r1.sim k1 e, ?_⟩
      cases c with
      | true => exact (k.run G1 H1 σ τ W Q r1 q1).imp fun _ _ z => z.up x1
      | false => exact .of k1 r1.sim x1 q1
    · exact q1.elim)⟩
theorem de_or (h : DE X a ta) (k : DE X (.BoolOp .Or (b :: rest) pos) tb) : DE X (.BoolOp .Or (a :: b :: rest) pos) (dOrV ta tb) :=
  ⟨fun G H σ τ W Q r q => semE.of (pe_orT peSem peSem) (h.then r q fun d v G1 H1 r1 x1 k1 q1 => by
    try dsimp only at q1
    split at q1
    · rename_i c e
      refine ⟨c, truD_ok r1.sim k1 e, ?_⟩
      cases c with
      | false => exact (k.run G1 H1 σ τ W Q r1 q1).imp fun _ _ z => z.up x1
      | true => exact .of k1 r1.sim x1 q1
    · exact q1.elim)⟩
theorem de_not (h : DE X a ta) : DE X (.UnaryOp .Not a pos) (dNotV ta) :=
  ⟨fun G H σ τ W Q r q => semE.of (pe_notT peSem) (h.then r q fun d v G1 H1 r1 x1 k1 q1 => by
    try dsimp only at q1
    split at q1
    · rename_i c e
      exact ⟨c, truD_ok r1.sim k1 e, .of (d := .bl (!c)) rfl r1.sim x1 q1⟩
    · exact q1.elim)⟩
def dIf (t : TDT) (ta tb : TD) : TD := fun W σ G Q => t W σ G fun c G1 => if c = true then ta W σ G1 Q else tb W σ G1 Q
theorem de_ifExp {c : Expr} (hc : DT X c t) (ha : DE X a ta) (hb : DE X b tb) : DE X (.IfExp c a b pos) (dIf t ta tb) :=
  ⟨fun G H σ τ W Q r q => semE.of (pe_ifExp ptSem peSem peSem) (hc.then r q fun c G1 H1 r1 x1 q1 => by
    cases c with
    | true => exact (ha.run G1 H1 σ τ W Q r1 q1).imp fun _ _ z => z.up x1
    | false => exact (hb.run G1 H1 σ τ W Q r1 q1).imp fun _ _ z => z.up x1)⟩
def dNeg : D → HD → Post → Prop := fun d G Q => match d with
  | .int i => Q (.int (-i)) G
  | _ => False
def dUn (rd : D → HD → Post → Prop) (ta : TD) : TD := fun W σ G Q => ta W σ G fun d G1 => rd d G1 Q
theorem de_neg (ha : DE X a ta) : DE X (.UnaryOp .USub a pos) (dUn dNeg ta) :=
  ⟨fun G H σ τ W Q r q => semE.of (pe_un un_neg peSem) (ha.then r q fun d v G1 H1 r1 x1 k1 q1 => by
    unfold dNeg at q1
    split at q1
    · cases k1; exact ⟨_, rfl, .of (d := .int _) rfl r1.sim x1 q1⟩
    · exact q1.elim)⟩
end
end DL

namespace DL
open PySem PySem.Spec L2
open PyProof.Rows hiding St

/-! ### comparisons by their rules -/
/-- an operator of two values and its reading over data -/
def CmpR (X : Cx) (op : CmpOp) (rd : D → D → HD → Post → Prop) : Prop := ∃ r, OpR X (compareOp op) r ∧ OpD X.K r rd
def asInts : List D → Option (List Int)
  | [] => some []
  | .int i :: r => (asInts r).map (i :: ·)
  | _ :: _ => none
theorem asInts_eq : ∀ {ds : List D} {ns : List Int}, asInts ds = some ns → ds = ns.map D.int
  | [], _, h => by cases h; rfl
  | .int i :: r, ns, h => by
    simp only [asInts, Option.map_eq_some_iff] at h
    obtain ⟨ms, e, rfl⟩ := h
    rw [asInts_eq e]; rfl
  | .non :: _, _, h => by cases h
  | .bl _ :: _, _, h => by cases h
  | .str _ :: _, _, h => by cases h
  | .ty _ :: _, _, h => by cases h
  | .ref _ :: _, _, h => by cases h
  | .tup _ :: _, _, h => by cases h
  | .kl _ :: _, _, h => by cases h
  | .kc _ :: _, _, h => by cases h
  | .exc _ _ _ :: _, _, h => by cases h
  | .emp :: _, _, h => by cases h
def dLtD : D → D → HD → Post → Prop := fun d e G Q => match d, e with
  | .int i, .int j => Q (.bl (decide (i < j))) G
  | .str x, .str y => Q (.bl (decide (x.cps.toList < y.cps.toList))) G
  | .tup xs, .tup ys => match asInts xs, asInts ys with
    | some ns, some ms => Q (.bl (HT.lexLt ns ms)) G
    | _, _ => False
  | _, _ => False
theorem c_lt {X : Cx} (hu : X.A.units + 64 < cLine) : CmpR X .Lt dLtD := ⟨_, op_lt.or (op_lt_str.or (op_ltT (Nat.lt_of_le_of_lt (Nat.le_add_right _ _) hu))), fun G H d e x y Q Q' s k1 k2 f q => by
  unfold dLtD at q
  split at q
  · cases k1; cases k2
    exact .inl ⟨_, _, rfl, rfl, f _ _ (.of (d := .bl _) rfl s .refl q)⟩
  · cases k1; cases k2
    exact .inr (.inl ⟨_, _, rfl, rfl, f _ _ (.of (d := .bl _) rfl s .refl q)⟩)
  · split at q
    · rename_i ns ms e1 e2
      obtain rfl := asInts_eq e1
      obtain rfl := asInts_eq e2
      obtain ⟨a, vs, rfl, t1, r1⟩ := k1
      obtain ⟨b, ws, rfl, t2, r2⟩ := k2
      obtain rfl := r1.ints
      obtain rfl := r2.ints
      exact .inr (.inr ⟨a, b, ns, ms, rfl, rfl, t1, t2, f _ _ (.of (d := .bl _) rfl s .refl q)⟩)
    · exact q.elim
  · exact q.elim⟩
theorem c_le {X : Cx} (hu : X.A.units + 64 < cLine) : CmpR X .LtE (dCmpI fun i j => decide (i ≤ j)) := ⟨_, op_le, od_cmpI X.K _⟩
theorem c_gt {X : Cx} (hu : X.A.units + 64 < cLine) : CmpR X .Gt (dCmpI fun i j => decide (j < i)) := ⟨_, op_gt, od_cmpI X.K _⟩
theorem c_ge {X : Cx} (hu : X.A.units + 64 < cLine) : CmpR X .GtE (dCmpI fun i j => decide (j ≤ i)) := ⟨_, op_ge, od_cmpI X.K _⟩
section
variable {X : Cx} {a b e c : Expr} {ta tb tc : TD} {pos : Pos} {op op' : CmpOp} {rd rd' : D → D → HD → Post → Prop}
theorem de_c1 (h : CmpR X op rd) (ha : DE X a ta) (hb : DE X b tb) (hm : behindInMarks op b = false := by first | exact nobehind _ (by decide) (by decide) | rfl) : DE X (.Compare a [op] [b] pos) (dOp rd ta tb) :=
  let ⟨_, h1, h2⟩ := h; de_cmp h1 h2 ha hb hm
theorem dt_c1 (h : CmpR X op rd) (ha : DE X a ta) (hb : DE X b tb) (hm : behindInMarks op b = false := by first | exact nobehind _ (by decide) (by decide) | rfl) : DT X (.Compare a [op] [b] pos) (dTest (dOp rd ta tb)) :=
  let ⟨_, h1, h2⟩ := h; dt_cmp h1 h2 ha hb hm
/-! chains: the rest of one, behind its first value -/
structure DCh (X : Cx) (ops : List CmpOp) (rs : List Expr) (t : D → TD) : Prop where
  val : ∀ (pos : Pos) (pins : List (Addr × Obj)) (s : Shared) (G : HD) (H : Hp) (σ : DSt) (τ : St) (W : DW) (Q : Post) (d : D) (x : V) (v : Value), SR X G H σ τ W → Inv X pins τ H s → Rp X.K H d x → RelV x v → t d W σ G Q →
    wpAny (model X.prog X.w) X.A (compareChain pos v ops (evalEach rs X.env)) (EP X pins τ (liftQ X.K G H Q)) X.xe s
  test : ∀ (pos : Pos) (pins : List (Addr × Obj)) (s : Shared) (G : HD) (H : Hp) (σ : DSt) (τ : St) (W : DW) (Q : Bool → HD → Prop) (d : D) (x : V) (v : Value), SR X G H σ τ W → Inv X pins τ H s → Rp X.K H d x → RelV x v →
    t d W σ G (fun z G1 => match z with | .bl k => Q k G1 | _ => False) → wpAny (model X.prog X.w) X.A (testChain pos v ops (evalEach rs X.env)) (TP X pins τ (liftB X.K G H Q)) X.xe s
def dLast (rd : D → D → HD → Post → Prop) (tb : TD) : D → TD := fun d W σ G Q => tb W σ G fun e G1 => rd d e G1 fun z G2 => match z with
  | .bl k => Q (.bl k) G2
  | _ => False
def dLink (rd : D → D → HD → Post → Prop) (tb : TD) (t : D → TD) : D → TD := fun d W σ G Q => tb W σ G fun e G1 => rd d e G1 fun z G2 => match z with
  | .bl k => if k = true then t e W σ G2 Q else Q (.bl false) G2
  | _ => False
theorem dch_last (h : CmpR X op rd) (hb : DE X b tb) : DCh X [op] [b] (dLast rd tb) := by
  obtain ⟨r, h1, h2⟩ := h
  refine ⟨fun pos pins s G H σ τ W Q d x v r0 I k0 l0 q => ?_, fun pos pins s G H σ τ W Q d x v r0 I k0 l0 q => ?_⟩
  · show wpAny _ _ (compareChain pos v [op] [eval b X.env]) _ _ _
    refine chain_last (thn ((hb.then (Q := fun y H1 => r x y H1 (liftQ X.K G H Q)) r0 q fun e y G1 H1 r1 x1 k1 q1 => ?_) pins s I) fun u s1 ⟨y, H1, I1, l1, q1⟩ => h1 pins s1 τ H1 x y v u _ I1 l0 l1 q1)
    refine h2 G1 H1 d e x y _ _ r1.sim (k0.ext r0.sim x1 _ _) k1 (fun w H2 ⟨z, G2, k2, s2, x2, q2⟩ => ?_) q1
    cases z with
    | bl k => exact ⟨.bl k, G2, k2, s2, x1.trans x2, q2⟩
    | _ => exact q2.elim
  · show wpAny _ _ (testChain pos v [op] [eval b X.env]) _ _ _
    refine test_last (thn ((hb.then (Q := fun y H1 => r x y H1 (fun w H2 => ∃ k, w = .bl k ∧ liftB X.K G H Q k H2)) r0 q fun e y G1 H1 r1 x1 k1 q1 => ?_) pins s I) fun u s1 ⟨y, H1, I1, l1, q1⟩ =>
      thn (h1 pins s1 τ H1 x y v u _ I1 l0 l1 q1) fun c s2 ⟨w, H2, I2, l2, k, ew, q2⟩ => ?_)
    · refine h2 G1 H1 d e x y _ _ r1.sim (k0.ext r0.sim x1 _ _) k1 (fun w H2 ⟨z, G2, k2, s2, x2, q2⟩ => ?_) q1
      cases z with
      | bl k => exact ⟨k, k2, G2, s2, x1.trans x2, q2⟩
      | _ => exact q2.elim
    · subst ew; cases l2
      exact wpAny_truthy_bool ⟨H2, I2, q2⟩
theorem dch_link {ops : List CmpOp} {rs : List Expr} {t : D → TD} (h : CmpR X op rd) (hb : DE X b tb) (hc : DCh X (op' :: ops) (c :: rs) t) : DCh X (op :: op' :: ops) (b :: c :: rs) (dLink rd tb t) := by
  obtain ⟨r, h1, h2⟩ := h
  refine ⟨fun pos pins s G H σ τ W Q d x v r0 I k0 l0 q => ?_, fun pos pins s G H σ τ W Q d x v r0 I k0 l0 q => ?_⟩
  · show wpAny _ _ (compareChain pos v (op :: op' :: ops) (eval b X.env :: eval c X.env :: evalEach rs X.env)) _ _ _
    refine chain_link (thn ((hb.run G H σ τ W _ r0 q) pins s I) fun u s1 ⟨y, H1, I1, l1, e, G1, k1, sm1, x1, q1⟩ => ?_)
    have r1 := r0.ext sm1 x1
    refine thn (h1 pins s1 τ H1 x y v u (fun w H2 => ∃ k G2, w = .bl k ∧ Sim X.K G2 H2 ∧ Ext G1 H1 G2 H2 ∧ if k = true then t e W σ G2 Q else Q (.bl false) G2) I1 l0 l1
      (h2 G1 H1 d e x y _ _ sm1 (k0.ext r0.sim x1 _ _) k1 (fun w H2 ⟨z, G2, k2, s2, x2, q2⟩ => ?_) q1)) fun cv s2 ⟨w, H2, I2, l2, k, G2, ew, sm2, x2, q2⟩ => ?_
    · subst ew; cases l2
      refine wpAny_truthy_bool ?_
      cases k with
      | false => exact ite_ff ⟨.bl false, H2, I2, rfl, .of (d := .bl false) rfl sm2 (x1.trans x2) q2⟩
      | true => exact ite_tt (thn (hc.val pos pins s2 G2 H2 σ τ W Q e y u (r1.ext sm2 x2) I2 (k1.ext sm1 x2 _ _) l1 q2) fun _ _ ⟨v3, H3, I3, l3, q3⟩ => ⟨v3, H3, I3, l3, q3.up (x1.trans x2)⟩)
    · cases z with
      | bl k => exact ⟨k, G2, k2, s2, x2, q2⟩
      | _ => exact q2.elim
  · show wpAny _ _ (testChain pos v (op :: op' :: ops) (eval b X.env :: eval c X.env :: evalEach rs X.env)) _ _ _
    refine test_link (thn ((hb.run G H σ τ W _ r0 q) pins s I) fun u s1 ⟨y, H1, I1, l1, e, G1, k1, sm1, x1, q1⟩ => ?_)
    have r1 := r0.ext sm1 x1
    refine thn (h1 pins s1 τ H1 x y v u (fun w H2 => ∃ k G2, w = .bl k ∧ Sim X.K G2 H2 ∧ Ext G1 H1 G2 H2 ∧ if k = true then t e W σ G2 (fun z G1 => match z with | .bl k => Q k G1 | _ => False) else Q false G2) I1 l0 l1
      (h2 G1 H1 d e x y _ _ sm1 (k0.ext r0.sim x1 _ _) k1 (fun w H2 ⟨z, G2, k2, s2, x2, q2⟩ => ?_) q1)) fun cv s2 ⟨w, H2, I2, l2, k, G2, ew, sm2, x2, q2⟩ => ?_
    · subst ew; cases l2
      refine wpAny_truthy_bool ?_
      cases k with
      | false => exact ite_ff ⟨H2, I2, G2, sm2, x1.trans x2, q2⟩
      | true => exact ite_tt (thn (hc.test pos pins s2 G2 H2 σ τ W Q e y u (r1.ext sm2 x2) I2 (k1.ext sm1 x2 _ _) l1 q2) fun _ _ ⟨H3, I3, q3⟩ => ⟨H3, I3, q3.up (x1.trans x2)⟩)
    · cases z with
      | bl k => exact ⟨k, G2, k2, s2, x2, q2⟩
      | _ => exact q2.elim
def dChn (ta : TD) (t : D → TD) : TD := fun W σ G Q => ta W σ G fun d G1 => t d W σ G1 Q
def dChnT (ta : TD) (t : D → TD) : TDT := fun W σ G Q => ta W σ G fun d G1 => t d W σ G1 fun z G2 => match z with
  | .bl k => Q k G2
  | _ => False
theorem de_chain {ops : List CmpOp} {rs : List Expr} {t : D → TD} (ha : DE X a ta) (h : DCh X (op :: op' :: ops) (b :: c :: rs) t) (hm : lastMarks (op :: op' :: ops) (b :: c :: rs) = false := by with_unfolding_all rfl) :
    DE X (.Compare a (op :: op' :: ops) (b :: c :: rs) pos) (dChn ta t) := ⟨fun G H σ τ W Q r0 q pins s I => by
  refine Compare_chain (thn ((ha.run G H σ τ W _ r0 q) pins s I) fun u s1 ⟨y, H1, I1, l1, d, G1, k1, sm1, x1, q1⟩ => ?_) hm
  exact thn (h.val pos pins s1 G1 H1 σ τ W Q d y u (r0.ext sm1 x1) I1 k1 l1 q1) fun _ _ ⟨v3, H3, I3, l3, q3⟩ => ⟨v3, H3, I3, l3, q3.up x1⟩⟩
theorem dt_chain {ops : List CmpOp} {rs : List Expr} {t : D → TD} (ha : DE X a ta) (h : DCh X (op :: op' :: ops) (b :: c :: rs) t) (hm : lastMarks (op :: op' :: ops) (b :: c :: rs) = false := by with_unfolding_all rfl) :
    DT X (.Compare a (op :: op' :: ops) (b :: c :: rs) pos) (dChnT ta t) := ⟨fun G H σ τ W Q r0 q pins s I => by
  refine isTrue_chain (thn ((ha.run G H σ τ W _ r0 q) pins s I) fun u s1 ⟨y, H1, I1, l1, d, G1, k1, sm1, x1, q1⟩ => ?_) hm
  exact thn (h.test pos pins s1 G1 H1 σ τ W Q d y u (r0.ext sm1 x1) I1 k1 l1 q1) fun _ _ ⟨H3, I3, q3⟩ => ⟨H3, I3, q3.up x1⟩⟩
end

/-! ### statements -/
section
variable {X : Cx} {a b e : Expr} {ta tb : TD} {pos : Pos} {st : Stmt} {sts ss1 ss2 : List Stmt} {t u : TDS}
def sNext : TDS := fun _ D σ G => D.nx σ G
def sSeq (t u : TDS) : TDS := fun W D σ G => t W { D with nx := fun σ' G' => u W D σ' G' } σ G
theorem dss_nil : DSs X [] sNext := ⟨fun G H σ τ W D r q => semSs.of pss_nil ⟨σ, G, r.slots, r.sim, .refl, q⟩⟩
theorem endsUp {K : PySem.W.Frag} {G G1 : HD} {H H1 : Hp} {D : DEnds} (x : Ext G H G1 H1) : EndsLe (liftD K G1 H1 D) (liftD K G H D) := ⟨fun _ _ h => h.up x, fun _ _ h => h.up x, fun _ _ h => h.up x, fun _ _ h => h.up x⟩
theorem dss_cons (h : DS X st t) (k : DSs X sts u) : DSs X (st :: sts) (sSeq t u) := ⟨fun G H σ τ W D r q => semSs.of (pss_cons psSem pssSem)
  ((h.run G H σ τ W _ r q).imp ⟨fun τ' H' ⟨σ', G', k1, s1, x1, q1⟩ => (k.run G' H' σ' τ' W D ⟨s1, k1, r.takes.imp fun _ _ _ _ z => z.up x1⟩ q1).imp (endsUp x1), fun _ _ z => z, fun _ _ z => z, fun _ _ z => z⟩)⟩
theorem dss_one (h : DS X st t) : DSs X [st] t := ⟨fun G H σ τ W D r q => semSs.of (pss_one psSem) (h.run G H σ τ W D r q)⟩
def sBrk : TDS := fun _ D σ G => D.bk σ G
def sCont : TDS := fun _ D σ G => D.ct σ G
def sDrop (te : TD) : TDS := fun W D σ G => te W σ G fun _ G1 => D.nx σ G1
theorem ds_expr (he : DE X e ta) (hs : swapsWith e none pos.line X.env = pure false := by rfl) : DS X (.Expr e pos) (sDrop ta) :=
  ⟨fun G H σ τ W D r q => semS.of (ps_expr peSem hs) (he.then r q fun d v G1 H1 r1 x1 k1 q1 => ⟨σ, G1, r1.slots, r1.sim, x1, q1⟩)⟩
def sRet (te : TD) : TDS := fun W D σ G => te W σ G D.rt
theorem ds_ret (he : DE X e ta) : DS X (.Return (some e) pos) (sRet ta) := ⟨fun G H σ τ W D r q => semS.of (ps_ret peSem) (he.run G H σ τ W D.rt r q)⟩
def sRetN : TDS := fun _ D _ G => D.rt .non G
def sIf (c : TDT) (t u : TDS) : TDS := fun W D σ G => c W σ G fun b G1 => if b = true then t W D σ G1 else u W D σ G1
theorem ds_if {c : Expr} {tc : TDT} (hc : DT X c tc) (h1 : DSs X ss1 t) (h2 : DSs X ss2 u) : DS X (.If c ss1 ss2 pos) (sIf tc t u) :=
  ⟨fun G H σ τ W D r q => semS.of (ps_if ptSem pssSem pssSem) (hc.then r q fun b G1 H1 r1 x1 q1 => by
    cases b with
    | true => exact (h1.run G1 H1 σ τ W D r1 q1).imp (endsUp x1)
    | false => exact (h2.run G1 H1 σ τ W D r1 q1).imp (endsUp x1))⟩
/-! targets: a name, or names of a tuple -/
def sSet (i : Nat) (te : TD) : TDS := fun W D σ G => te W σ G fun d G1 => D.nx (σ.set i (some d)) G1
theorem ds_set {i : Nat} {x : Str} {pos' : Pos} (he : DE X e ta) (hN : X.N.Nodup) (hi : X.N[i]? = some x := by rfl) (hx : Loc X.env.scope x := by first | exact Or.inl rfl | exact Or.inr rfl) (hs : swapsWith e (some (.Name x pos')) pos.line X.env = pure false := by rfl) (hf : X.fn x = true ∨ X.env.scope.names.lookup x = some .local := by first | exact .inl rfl | exact .inr rfl | assumption) :
    DS X (.Assign [.Name x pos'] e pos) (sSet i ta) :=
  ⟨fun G H σ τ W D r q => semS.of (ps_set hN hi hx peSem hs hf) (he.then r q fun d v G1 H1 r1 x1 k1 q1 => ⟨_, G1, r1.slots.set k1, r1.sim, x1, q1⟩)⟩
def setAll : List Nat → List D → DSt → DSt
  | i :: is, d :: ds, σ => setAll is ds (σ.set i (some d))
  | _, _, σ => σ
def sUnp (is : List Nat) (te : TD) : TDS := fun W D σ G => te W σ G fun d G1 => match d with
  | .tup ds => ds.length = is.length ∧ D.nx (setAll is ds σ) G1
  | _ => False
/-- the names of a tuple target, by their slots -/
inductive Slots (X : Cx) : List Expr → List Nat → TGs → Prop where
  | nil : Slots X [] [] gNil
  | cons {x : Str} {pos : Pos} {i : Nat} {es : List Expr} {is : List Nat} {g : TGs} (h : PG X (.Name x pos) (gName i)) (r : Slots X es is g) (hs : (assignEach (.Name x pos :: es) X.env).map (·.2) = assign (.Name x pos) X.env :: (assignEach es X.env).map (·.2)) : Slots X (.Name x pos :: es) (i :: is) (gCons (gName i) g)
theorem Slots.pgs {es : List Expr} {is : List Nat} {g : TGs} (s : Slots X es is g) : PGs X es g := by
  induction s with
  | nil => exact pgs_nil
  | cons h _ hs ih => exact pgs_cons h ih hs
theorem Slots.run {es : List Expr} {is : List Nat} {g : TGs} (s : Slots X es is g) {K : PySem.W.Frag} {H : Hp} {Q : St → Hp → Prop} : ∀ {ds : List D} {vs : List V} {σ : DSt} {τ : St}, Rps K H ds vs → ds.length = is.length → RpS K H σ τ → (∀ τ', RpS K H (setAll is ds σ) τ' → Q τ' H) → g vs τ H Q := by
  induction s with
  | nil =>
    intro ds vs σ τ r hl k q
    have e : ds = [] := List.eq_nil_of_length_eq_zero hl
    subst e
    cases r
    exact ⟨rfl, q τ k⟩
  | cons h _ hs ih =>
    intro ds vs σ τ r hl k q
    cases ds with
    | nil => cases hl
    | cons d ds =>
      obtain ⟨v, vr, rfl, r1, r2⟩ := r
      exact ⟨v, vr, rfl, ih r2 (Nat.succ.inj hl) (k.set r1) q⟩
theorem Slots.one (hN : X.N.Nodup) {x : Str} {pos : Pos} (i : Nat) {es : List Expr} {is : List Nat} {g : TGs} (r : Slots X es is g) (hi : X.N[i]? = some x := by rfl) (hx : Loc X.env.scope x := by first | exact Or.inl rfl | exact Or.inr rfl) (hf : X.fn x = true ∨ X.env.scope.names.lookup x = some .local := by first | exact .inl rfl | exact .inr rfl | assumption)
    (hs : (assignEach (.Name x pos :: es) X.env).map (·.2) = assign (.Name x pos) X.env :: (assignEach es X.env).map (·.2) := by rfl) : Slots X (.Name x pos :: es) (i :: is) (gCons (gName i) g) := .cons (pg_name hN hi hx hf) r hs
/-- a, b = x, y -/
def sPar (i j : Nat) (ts : TDA) : TDS := fun W D σ G => ts W σ G fun ds G1 => match ds with
  | [d, e] => D.nx ((σ.set i (some d)).set j (some e)) G1
  | _ => False
end
end DL

namespace DL
open PySem PySem.Spec L2
open PyProof.Rows hiding St

/-! ### fields -/
def AttrOk (K : PySem.W.Frag) (C : Addr) (f : Str) : Prop := Cls K C ∧ NoAttr K C f
section
variable {X : Cx} {a b e o : Expr} {ta tb : TD} {pos pos' : Pos} {f : Str} {ok : Addr → Str → Prop}
def dFld (ok : Addr → Str → Prop) (f : Str) (ta : TD) : TD := fun W σ G Q => ta W σ G fun d G1 => match d with
  | .ref a => match G1 a with
    | some (.ins C fs) => ok C f ∧ match fs.lookup f with
      | some v => Q v G1
      | none => False
    | _ => False
  | _ => False
theorem RKV.put {K : PySem.W.Frag} {H : Hp} {f : Str} {d : D} {v : V} (k : Rp K H d v) : ∀ {l : List (Str × D)} {m : List (Str × V)}, RKV K H l m → RKV K H (putD f d l) (putF f v m)
  | [], _, h => by cases h; exact ⟨v, [], rfl, k, rfl⟩
  | (n, e) :: l, _, h => by
    obtain ⟨w, r, rfl, h1, h2⟩ := h
    show RKV K H (if n = f then (n, d) :: l else (n, e) :: putD f d l) (if n = f then (n, v) :: r else (n, w) :: putF f v r)
    by_cases z : n = f
    · rw [if_pos z, if_pos z]; exact ⟨v, r, rfl, k, h2⟩
    · rw [if_neg z, if_neg z]; exact ⟨w, _, rfl, h1, RKV.put k h2⟩
def sFldD (ok : Addr → Str → Prop) (f : Str) (to tv : TD) : TDS := fun W D σ G => tv W σ G fun v G1 => to W σ G1 fun d G2 => match d with
  | .ref a => match G2 a with
    | some (.ins C fs) => ok C f ∧ fs.length < 1000 ∧ D.nx σ (put G2 a (.ins C (putD f v fs)))
    | _ => False
  | _ => False
end

/-! ### defs: promises over data -/
abbrev SpD := List D → HD → Post → DX → Prop
/-- what may be forgotten at a def's end -/
def fg (Q : Post) : Post := fun d G => ∃ G0, Le G0 G ∧ Q d G0
def fgX (E : DX) : DX := fun c fs G => ∃ G0, Le G0 G ∧ E c fs G0
def liftSp (K : PySem.W.Frag) (n : Nat) (sp : SpD) : Sp := fun vs H Q E => vs.length = n ∧ ∃ ds G Qd Ed, Rps K H ds vs ∧ Sim K G H ∧ sp ds G Qd Ed ∧ (∀ v H', liftQ K G H Qd v H' → Q v H') ∧ (∀ c dd H', liftX K G H Ed c dd H' → E c dd H')
/-- a def's body, read from its arguments -/
def wpf (n m : Nat) (t : TDS) : SpD := fun ds G Q E => ds.length = n ∧ t (fun c fs _ G' => fgX E c fs G') { nx := fun _ G' => fg Q .non G', rt := fg Q } (ds.map some ++ List.replicate m none) G
/-- room for k calls, and no repr under way -/
structure RoomG (k : Nat) (A : Around) : Prop extends Room k A where
  gd : A.guards = some []
theorem RoomG.mono {j k : Nat} {A : Around} (r : RoomG k A) (h : j ≤ k) : RoomG j A := ⟨r.toRoom.mono h, r.gd⟩
theorem RoomG.units {k : Nat} {A : Around} (r : RoomG k A) : A.units + 64 < cLine := r.toRoom.units
theorem RoomG.deeper {k : Nat} {A : Around} (r : RoomG (k + 1) A) (env : Env) : RoomG k (A.deeper env) := ⟨r.toRoom.deeper env, r.gd⟩
theorem RoomG.in1 {k : Nat} {A : Around} (r : RoomG (k + 1) A) : RoomG k A.in1 := ⟨r.toRoom.in1, r.gd⟩
theorem RoomG.make {k : Nat} {A : Around} (r : RoomG (k + 1) A) (C : Addr) (us : List Value) (kw : List (Str × Value)) : RoomG k (A.under (.builtin "type.__call__" ⟨.ref C :: us, kw⟩)) :=
  ⟨r.toRoom.make C us kw, by have := r.gd; first | exact this | simpa [Around.under, guardIds] using this⟩
/-- a def's promise, kept where no repr is under way -/
structure FnG (P : Program) (w : World) (K : PySem.W.Frag) (mg : Str → Option Value) (base : Heap) (k : Nat) (f : Addr) (fd : FuncData) (ps : List Str) (sp : Sp) : Prop where
  len : ∀ vs H Q E, sp vs H Q E → vs.length = ps.length
  run : ∀ (A : Around) (outer : List Env) (s : Shared) (H : Hp) (args : Args) (us : List Value) (vs : List V) (Q : VK) (E : XK), RoomG k A → Env0 P w K mg base A outer s H →
    BindsTo s fd args (ps.zip us) → Vals vs us → sp vs H Q E → codeAny (model P w) A (.call (.ref f) args) (CR (L2.CX P w) outer P w H s Q E) s
section
variable {P : Program} {w : World} {K : PySem.W.Frag} {mg : Str → Option Value} {base : Heap} {k : Nat} {f : Addr} {fd : FuncData} {ps : List Str} {sp sp' : Sp}
theorem FnG.imp (F : FnG P w K mg base k f fd ps sp) (i : ∀ vs H Q E, sp' vs H Q E → sp vs H Q E) : FnG P w K mg base k f fd ps sp' :=
  ⟨fun _ _ _ _ q => F.len _ _ _ _ (i _ _ _ _ q), fun A o s H args us vs Q E r e b v q => F.run A o s H args us vs Q E r e b v (i _ _ _ _ q)⟩
theorem FnG.mono {j : Nat} (F : FnG P w K mg base k f fd ps sp) (h : k ≤ j) : FnG P w K mg base j f fd ps sp :=
  ⟨F.len, fun A o s H args us vs Q E r => F.run A o s H args us vs Q E (r.mono h)⟩
theorem fnG_of {N : List Str} {x qual : Str} {pa : Arguments} {bd : List Stmt} {sc : Scope} {dvs : List V} {kws : List (Str × V)} (F : L2.FunD K x qual pa bd sc dvs kws f fd) (S : FnScope N ps sc) (len : ∀ vs H Q E, sp vs H Q E → vs.length = ps.length)
    (hb : ∀ (cdv : Value) (A : Around) (outer : List Env) (s : Shared) (H : Hp) (vs : List V) (Q : VK) (E : XK), RoomG k (A.deeper (envOfC qual sc s.heap.objs.size f cdv)) → sp vs H Q E →
      ∃ t, PSs (cxOf (L2.CX P w) P w K mg base N qual sc f cdv A outer s H E) bd t ∧ t { nx := fun _ H' => Q .non H', rt := Q } (L2.start N vs) H) : FnG P w K mg base (k + 1) f fd ps sp := by
  obtain ⟨oc, od, dV, kV, doc, pm, an, cdv, ct, osl, rfl, lk, hcd, hD, hK⟩ := F.ex
  refine ⟨len, ?_⟩
  intro A outer s H args us vs Q E room e0 bind rv hsp
  have stay : ∀ b o, base.get? b = some o → s.heap.get? b = some o := fun b o e => (e0.bs b o e).1
  have kin := e0.mod.kin.keeps stay
  have par : ∀ z ∈ ps.zip us, sc.names.lookup z.1 = some .local ∨ (sc.names.lookup z.1 = some .cell ∧ ((cellsFrom (s.heap.objs.size + 1) sc.names []).lookup z.1).isSome = true) := by
    intro z hz
    exact (S.par z.1 (List.of_mem_zip (a := z.1) (b := z.2) hz).1).imp id fun q => ⟨q, PySem.W.cellsFrom_some _ _ _ (.inl q)⟩
  refine codeAny_call_function room.toRoom.depth (kin _ _ lk) rfl S.co S.gen rfl (PySem.W.codeRec_of kin hcd) (bind _ _ _ _ (wpAny_newFunctionEnv_cells S.kind par fun env ee s1 fresh => ?_))
  subst ee
  obtain ⟨t, pt, q⟩ := hb cdv A outer s H vs Q E (room.deeper _) hsp
  have inv := inv_start (CX := L2.CX P w) (E := E) (N := N) S room.hd e0 (len _ _ _ _ hsp) rv fresh
  refine ⟨(e0.mod.nolimit.keeps stay).keeps fresh.toInCall.keep, codeAny_func (wpAny_mono (pt.run [] s1 (L2.start N vs) H _ inv q) (fun fl s2 h => ?_) fun _ _ z => z)⟩
  match fl, h with
  | .ret u, ⟨v, _, H2, J, r2, q2⟩ => exact ⟨v, H2, J.os, J.bare, J.base, J.hok, r2, q2⟩
  | .next, ⟨_, H2, J, q2⟩ => exact ⟨V.non, H2, J.os, J.bare, J.base, J.hok, rfl, q2⟩
  | .brk, ⟨_, _, _, z⟩ => exact z.elim
  | .cont, ⟨_, _, _, z⟩ => exact z.elim
end
abbrev FnK (P : Program) (w : World) (K : PySem.W.Frag) (mg : Str → Option Value) (base : Heap) (k : Nat) (f : Addr) (fd : FuncData) (ps : List Str) (sp : SpD) : Prop := FnG P w K mg base k f fd ps (liftSp K ps.length sp)
theorem FnK.imp {P : Program} {w : World} {K : PySem.W.Frag} {mg : Str → Option Value} {base : Heap} {k : Nat} {f : Addr} {fd : FuncData} {ps : List Str} {sp sp' : SpD} (h : FnK P w K mg base k f fd ps sp) (i : ∀ ds G Q E, sp' ds G Q E → sp ds G Q E) : FnK P w K mg base k f fd ps sp' :=
  FnG.imp h fun vs H Q E ⟨l, ds, G, Qd, Ed, r, s, q, z1, z2⟩ => ⟨l, ds, G, Qd, Ed, r, s, i _ _ _ _ q, z1, z2⟩
section
variable {P : Program} {w : World} {K : PySem.W.Frag} {mg : Str → Option Value} {base : Heap} {x qual : Str} {params : Arguments} {body : List Stmt} {scope : Scope} {dvs : List V} {kws : List (Str × V)} {f : Addr} {fd : FuncData}
/-- a def: its body's reading is its promise -/
theorem fnd {N ps : List Str} {k n m : Nat} {t : TDS} (F : L2.FunD K x qual params body scope dvs kws f fd) (S : FnScope N ps scope) (hn : ps.length = n) (hm : N.length - n = m)
    (hb : ∀ (cdv : Value) (A : Around) (outer : List Env) (s : Shared) (H : Hp) (E : XK), RoomG k (A.deeper (envOfC qual scope s.heap.objs.size f cdv)) → DSs (cxOf (L2.CX P w) P w K mg base N qual scope f cdv A outer s H E) body t) : FnK P w K mg base (k + 1) f fd ps (wpf n m t) := by
  subst hn hm
  refine fnG_of F S (fun vs H Q E h => h.1) fun cdv A outer s H vs Q E hr h => ?_
  obtain ⟨hl, ds, G, Qd, Ed, rr, sm, ⟨hl2, q⟩, z1, z2⟩ := h
  refine ⟨semSs _ body, pssSem, ?_⟩
  have tk : Takes (cxOf (L2.CX P w) P w K mg base N qual scope f cdv A outer s H E) (fun c d _ H' => E c d H') := takes_of rfl rfl rfl rfl
  have st : RpS K H (ds.map some ++ List.replicate (N.length - ps.length) none) (L2.start N vs) := by
    unfold L2.start
    rw [hl]
    exact RpS.start _ rr
  refine ((hb cdv A outer s H E hr).run G H _ _ _ _ ⟨sm, st, tk.imp fun c dd τ H' hw => ?_⟩ q).imp ⟨fun τ' H' hh => ?_, fun v H' hh => ?_, fun _ _ hh => ?_, fun _ _ hh => ?_⟩
  · obtain ⟨σ', fs, G', k1, xf, s1, x1, G0, l0, q0⟩ := hw
    exact z2 c dd H' ⟨fs, G0, xf, s1.le l0, x1.le l0, q0⟩
  · obtain ⟨σ', G', k1, s1, x1, G0, l0, q0⟩ := hh
    exact z1 _ _ ⟨.non, G0, rfl, s1.le l0, x1.le l0, q0⟩
  · obtain ⟨d, G', k1, s1, x1, G0, l0, q0⟩ := hh
    exact z1 _ _ ⟨d, G0, k1, s1.le l0, x1.le l0, q0⟩
  · obtain ⟨_, _, _, _, _, q0⟩ := hh
    exact q0.elim
  · obtain ⟨_, _, _, _, _, q0⟩ := hh
    exact q0.elim
end

/-! ### calls of them -/
section
variable {X : Cx} {k n : Nat} {f C : Addr} {fd : FuncData} {ps ks : List Str} {sp : SpD} {x m : Str} {p pos apos : Pos} {e o : Expr} {es : List Expr} {ta : TD} {ts tk : TDA} {dvs : List V} {dds : List D} {ds : List Value}
/-- the exceptions of a callee, wished for here -/
theorem passK {G : HD} {H : Hp} {σ : DSt} {τ : St} {W : DW} (r : SR X G H σ τ W) : PassesAt (L2.CX X.prog X.w) X τ (liftX X.K G H fun c fs G' => W c fs σ G') := fun pins H0 s e s' I c =>
  r.takes e s' (XE.of_call I (W := liftW X.K G H W) (fun c dd H' ⟨fs, G', xf, s1, x1, q⟩ => ⟨σ, fs, G', r.slots.ext r.sim x1 _ _, xf, s1, x1, q⟩) c)
/-- the callee runs -/
theorem runK {pins : List (Addr × Obj)} {s : Shared} {G : HD} {H : Hp} {σ : DSt} {τ : St} {W : DW} {Q : Post} {us : List Value} {vs : List V} {es : List D} {args : Args} (F : FnK X.prog X.w X.K X.mg X.base k f fd ps sp) (hr : RoomG k X.A) (hb : BindsTo s fd args (ps.zip us))
    (r : SR X G H σ τ W) (I : Inv X pins τ H s) (rv : Vals vs us) (rd : Rps X.K H es vs) (hl : vs.length = ps.length) (h : sp es G Q fun c fs G' => W c fs σ G') :
    codeAny (model X.prog X.w) X.A (.call (.ref f) args) (fun z s' => match z with | .ok (.ret u) => EP X pins τ (liftQ X.K G H Q) u s' | .ok _ => False | .error e => X.xe e s') s := by
  refine codeAny_mono (F.run X.A X.stack s H args us vs (liftQ X.K G H Q) (liftX X.K G H fun c fs G' => W c fs σ G') hr I.env0 hb rv ⟨hl, es, G, Q, _, rd, r.sim, h, fun _ _ z => z, fun _ _ _ z => z⟩) fun z s' hq => ?_
  cases z with
  | error e => exact passK r pins H s e s' I hq
  | ok fl =>
    cases fl with
    | ret u => exact I.after hq
    | next => exact False.elim hq
    | brk => exact False.elim hq
    | cont => exact False.elim hq
def dCall (sp : SpD) (dds : List D) (ts : TDA) : TD := fun W σ G Q => ts W σ G fun ds G1 => sp (ds ++ dds) G1 Q fun c fs G' => W c fs σ G'
/-- what is bound beside the written arguments: values of the written part -/
structure Dfl (K : PySem.W.Frag) (dds : List D) (dvs : List V) : Prop where
  rel : ∀ H, Rps K H dds dvs
theorem Dfl.nil {K : PySem.W.Frag} : Dfl K [] [] := ⟨fun _ => rfl⟩
theorem runC {pins : List (Addr × Obj)} {s : Shared} {G : HD} {H : Hp} {σ : DSt} {τ : St} {W : DW} {Q : Post} {us : List Value} {vs : List V} {es : List D} (F : FnK X.prog X.w X.K X.mg X.base k f fd ps sp) (hr : RoomG k X.A) (hb : Binds X.K fd ps ds) (hd : Vals dvs ds) (hdd : Dfl X.K dds dvs)
    (r : SR X G H σ τ W) (I : Inv X pins τ H s) (rv : Vals vs us) (rd : Rps X.K H es vs) (hl : es.length + dds.length = ps.length) (h : sp (es ++ dds) G Q fun c fs G' => W c fs σ G') : wpAny (model X.prog X.w) X.A (call (.ref f) us) (EP X pins τ (liftQ X.K G H Q)) X.xe s := by
  have r2 := rv.append hd
  have r3 : Rps X.K H (es ++ dds) (vs ++ dvs) := rd.app (hdd.rel H)
  have l3 : (vs ++ dvs).length = ps.length := by rw [r3.length, List.length_append, hl]
  exact wpAny_call (codeAny_mono (runK F hr (hb s us I.kIn (by rw [← r2.length]; exact l3)) r I r2 r3 l3 h) fun z s' hq => by
    cases z with
    | error e => exact hq
    | ok fl => cases fl <;> first | exact hq | exact False.elim hq)
theorem de_call (F : FnK X.prog X.w X.K X.mg X.base k f fd ps sp) (hr : RoomG k X.A) (hm : X.mg x = some (.ref f)) (hk : PySem.W.keepIn X.K (.ref f) = true) (hb : Binds X.K fd ps ds) (hd : Vals dvs ds) (hdd : Dfl X.K dds dvs) (ha : DA X (e :: es) ts)
    (hl : ∀ ds G E Q, sp ds G E Q → ds.length = ps.length) (hg : Gl X x := by rfl) (hdb : (x == ("__debug__" : Str)) = false := by decide) (he : starEach (e :: es) X.env = (false, eval e X.env) :: starEach es X.env := by rfl) (hpl : (backTo pos (starEach es X.env)).any (·.1) = false := by rfl) :
    DE X (.Call (.Name x p) (e :: es) [] pos) (dCall sp dds ts) := ⟨fun G H σ τ W Q r q pins s I => by
  refine wpAny_Call_Name_kw (ld_glob I hg hm ?_ hdb)
  refine PySem.W.callWith_K (h₀ := X.base) I.ok.mod.kin hk (thn ((ha.run G H σ τ W _ r q) pos pins s I) fun us s1 ⟨vs, H1, I1, rv, es', G1, k1, sm1, x1, q1⟩ => ⟨I1.kIn, ?_⟩) he hpl
  exact thn (runC F hr hb hd hdd (r.ext sm1 x1) I1 rv k1 (by have := hl _ _ _ _ q1; rwa [List.length_append] at this) q1) fun _ _ ⟨v, H2, I2, l2, q2⟩ => ⟨v, H2, I2, l2, q2.up x1⟩⟩
theorem de_call0 (F : FnK X.prog X.w X.K X.mg X.base k f fd ps sp) (hr : RoomG k X.A) (hm : X.mg x = some (.ref f)) (hk : PySem.W.keepIn X.K (.ref f) = true) (hb : Binds X.K fd ps ds) (hd : Vals dvs ds) (hdd : Dfl X.K dds dvs)
    (hl : ∀ ds G E Q, sp ds G E Q → ds.length = ps.length) (hg : Gl X x := by rfl) (hdb : (x == ("__debug__" : Str)) = false := by decide) :
    DE X (.Call (.Name x p) [] [] pos) (dCall sp dds dNil) := ⟨fun G H σ τ W Q r q pins s I => by
  refine wpAny_Call_Name_kw (ld_glob I hg hm ?_ hdb)
  exact PySem.W.callWith_K0 I.kIn hk (runC (us := []) (vs := []) (es := []) F hr hb hd hdd r I .nil rfl (by have := hl _ _ _ _ q; rwa [List.length_append] at this) q)⟩
theorem wpf_len {n m : Nat} {t : TDS} : ∀ ds G E Q, wpf n m t ds G E Q → ds.length = n := fun _ _ _ _ h => h.1

/-! ### methods -/
/-- a method of the class at C, by its promise -/
structure MethK (X : Cx) (k : Nat) (m : Str) (C : Addr) (sp : SpD) (dds : List D) : Prop where
  ex : ∃ (f : Addr) (fd : FuncData) (ps : List Str) (dvs : List V) (ds : List Value), Cls X.K C ∧ Meth X.K C m f ∧ FnK X.prog X.w X.K X.mg X.base k f fd ps sp ∧ Binds X.K fd ps ds ∧ Vals dvs ds ∧ Dfl X.K dds dvs ∧ ∀ ds G E Q, sp ds G E Q → ds.length = ps.length
/-- o.m(..): tab: the classes that may have it -/
def dMeth (tab : List (Addr × SpD)) (m : Str) (dds : List D) (ta : TD) (ts : TDA) : TD := fun W σ G Q => ta W σ G fun d G1 => match d with
  | .ref a => match G1 a with
    | some (.ins C fs) => fs.lookup m = none ∧ ∃ q ∈ tab, q.1 = C ∧ ts W σ G1 fun ds G2 => q.2 (.ref a :: (ds ++ dds)) G2 Q fun c fs G' => W c fs σ G'
    | _ => False
  | _ => False
/-! ### a new instance -/
def dMake (C : Addr) (sp : SpD) (dds : List D) (ts : TDA) : TD := fun W σ G Q => ts W σ G fun ds G1 => ∀ p, G1 p = none → sp (.ref p :: (ds ++ dds)) (put G1 p (.ins C [])) (fun d G2 => match d with | .non => Q (.ref p) G2 | _ => False) fun c fs G' => W c fs σ G'
end
end DL

namespace DL
open PySem PySem.Spec L2
open PyProof.Rows hiding St

section
variable {X : Cx} {k n : Nat} {f C : Addr} {fd : FuncData} {ps ks : List Str} {sp : SpD} {x m : Str} {p pos apos : Pos} {e o : Expr} {es : List Expr} {ta : TD} {ts tk : TDA} {dvs : List V} {dds : List D} {ds : List Value}
end

/-! ### what a loop walks: items that stand fixed, while ok holds -/
structure ItD where
  xs : List D
  ok : HD → Prop
structure ItRel (K : PySem.W.Frag) (G1 : HD) (H1 : Hp) (I : ItD) (J : It) : Prop where
  go : ∀ i G H, Sim K G H → ExtL G1 H1 G H → I.ok G → i < I.xs.length → J.go i H
  yld : ∀ i G H x H', Sim K G H → ExtL G1 H1 G H → I.ok G → i < I.xs.length → J.yld i H x H' → ∃ d, I.xs[i]? = some d ∧ Rp K H' d x ∧ Sim K G H' ∧ Ext G H G H'
  stop : ∀ i G H, Sim K G H → ExtL G1 H1 G H → I.ok G → I.xs.length ≤ i → J.stop i H
abbrev TDI := DW → DSt → HD → (ItD → HD → Prop) → Prop
structure DI (X : Cx) (tg iter : Expr) (wi : TI) (ti : TDI) : Prop where
  pi : PI X tg iter wi
  run : ∀ (G : HD) (H : Hp) (σ : DSt) (τ : St) (W : DW) (R : ItD → HD → Prop) (R' : It → Hp → Prop), SR X G H σ τ W → ti W σ G R →
    (∀ I J G1 H1, Sim X.K G1 H1 → Ext G H G1 H1 → ItRel X.K G1 H1 I J → R I G1 → R' J H1) → wi τ H R'
section
variable {X : Cx} {tg l a b : Expr} {tl ta tb : TD} {pos p : Pos}
/-- a list or a tuple -/
def iSeq (K : PySem.W.Frag) (te : TE) : TI := fun σ H R => te σ H fun x H1 => ∃ a, x = .ref a ∧ ((∃ xs, SqL K H1 a xs ∧ R (Itl K a) H1) ∨ ∃ xs, SqT K H1 a xs ∧ R (Itt K a) H1)
theorem pi_seq {te : TE} (he : PE X l te) : PI X tg l (iSeq X.K te) := by
  refine ⟨fun pins s0 σ H R J h => thn (he.run pins s0 σ H _ J h) fun v s1 hv => ?_⟩
  obtain ⟨x, H1, I1, r1, a, rfl, q1⟩ := hv
  cases r1
  rcases q1 with ⟨xs, hq, q⟩ | ⟨xs, hq, q⟩
  · obtain ⟨its, rv, pl, hz⟩ := I1.list hq
    refine wpAny_pyIter_list pl.isList ⟨s1.heap.objs.size, [s1.heap.objs.size], _, _, H1, rfl, I1.kept (t' := s1.toks) fun b o ho => Heap.get?_push_of_some _ ho, turn_list a _, ⟨_, Heap.get?_push_size _ rfl, rfl, rfl⟩, fun b hb => ?_, q⟩
    obtain rfl : b = s1.heap.objs.size := by simpa using hb
    exact I1.fpOk (Nat.le_refl _) (I1.hok.fresh (Nat.le_refl _))
  · obtain ⟨its, rv, pl, hz⟩ := I1.tuple hq
    refine wpAny_pyIter_tuple (show s1.heap.IsTuple a its.toArray from pl) ⟨s1.heap.objs.size, [s1.heap.objs.size], _, _, H1, rfl, I1.kept (t' := s1.toks) fun b o ho => Heap.get?_push_of_some _ ho, turn_tuple a _, ⟨_, Heap.get?_push_size _ rfl, rfl, rfl⟩, fun b hb => ?_, q⟩
    obtain rfl : b = s1.heap.objs.size := by simpa using hb
    exact I1.fpOk (Nat.le_refl _) (I1.hok.fresh (Nat.le_refl _))
def jSeq (tl : TD) : TDI := fun W σ G R => tl W σ G fun d G1 => match d with
  | .tup ds => R ⟨ds, fun _ => True⟩ G1
  | .kl ds => R ⟨ds, fun _ => True⟩ G1
  | .kc ds => R ⟨ds, fun _ => True⟩ G1
  | .ref a => match G1 a with
    | some (.lst ds) => R ⟨ds, fun G => G a = some (.lst ds)⟩ G1
    | _ => False
  | _ => False
theorem di_seq (hl : DE X l tl) : DI X tg l (iSeq X.K (semE X l)) (jSeq tl) :=
  ⟨pi_seq peSem, fun G H σ τ W R R' r q fin => hl.then r q fun d v G1 H1 r1 x1 k1 q1 => by
    try dsimp only at q1
    split at q1
    · rename_i ds
      obtain ⟨a, vs, rfl, t, rr⟩ := k1
      refine ⟨a, rfl, .inr ⟨vs, t, fin _ _ G1 H1 r1.sim x1 ⟨fun i G2 H2 s2 x2 _ hi => ?_, fun i G2 H2 x H3 s2 x2 _ hi hy => ?_, fun i G2 H2 s2 x2 _ hi => ?_⟩ q1⟩⟩
      · exact ⟨vs, vs[i]'(by rw [rr.length]; exact hi), SqT.extL r1.sim x2 t, by simp⟩
      · obtain ⟨rfl, hy⟩ := hy
        have e1 := hy vs (SqT.extL r1.sim x2 t)
        obtain ⟨v', e2, e3⟩ := rr.get (i := i) (d := ds[i]) (by simp)
        rw [e1] at e2; cases e2
        exact ⟨ds[i], by simp, e3.extL r1.sim x2 _ _, s2, .refl⟩
      · exact ⟨vs, SqT.extL r1.sim x2 t, by rw [rr.length]; exact hi⟩
    · rename_i ds
      obtain ⟨a, vs, rfl, ⟨o, t⟩, rr⟩ := id k1
      have sq : ∀ {G2 H2}, ExtL G1 H1 G2 H2 → SqL X.K H2 a vs := fun {G2 H2} x2 => by
        exact .inl (.inr ⟨o, (x2 a _ nl_frz (r1.sim.frzL t) t).1⟩)
      refine ⟨a, rfl, .inl ⟨vs, sq Ext.refl.l, fin _ _ G1 H1 r1.sim x1 ⟨fun i G2 H2 s2 x2 _ hi => ?_, fun i G2 H2 x H3 s2 x2 _ hi hy => ?_, fun i G2 H2 s2 x2 _ hi => ?_⟩ q1⟩⟩
      · exact ⟨vs, vs[i]'(by rw [rr.length]; exact hi), sq x2, by simp⟩
      · obtain ⟨rfl, hy⟩ := hy
        have e1 := hy vs (sq x2)
        obtain ⟨v', e2, e3⟩ := rr.get (i := i) (d := ds[i]) (by simp)
        rw [e1] at e2; cases e2
        exact ⟨ds[i], by simp, e3.extL r1.sim x2 _ _, s2, .refl⟩
      · exact ⟨vs, sq x2, by rw [rr.length]; exact hi⟩
    · rename_i ds
      obtain ⟨a, vs, rfl, t, rr⟩ := id k1
      have sq : ∀ {G2 H2}, ExtL G1 H1 G2 H2 → SqL X.K H2 a vs := fun {G2 H2} x2 => by
        rcases t with ⟨o, t⟩ | t
        · exact .inl (.inr ⟨o, (x2 a _ nl_frz (r1.sim.frzL t) t).1⟩)
        · exact .inr t
      refine ⟨a, rfl, .inl ⟨vs, sq Ext.refl.l, fin _ _ G1 H1 r1.sim x1 ⟨fun i G2 H2 s2 x2 _ hi => ?_, fun i G2 H2 x H3 s2 x2 _ hi hy => ?_, fun i G2 H2 s2 x2 _ hi => ?_⟩ q1⟩⟩
      · exact ⟨vs, vs[i]'(by rw [rr.length]; exact hi), sq x2, by simp⟩
      · obtain ⟨rfl, hy⟩ := hy
        have e1 := hy vs (sq x2)
        obtain ⟨v', e2, e3⟩ := rr.get (i := i) (d := ds[i]) (by simp)
        rw [e1] at e2; cases e2
        exact ⟨ds[i], by simp, e3.extL r1.sim x2 _ _, s2, .refl⟩
      · exact ⟨vs, sq x2, by rw [rr.length]; exact hi⟩
    · rename_i a
      cases k1
      split at q1
      · rename_i ds eg
        obtain ⟨vs, e1, rr⟩ := r1.sim.lst eg
        refine ⟨a, rfl, .inl ⟨vs, .of e1, fin _ _ G1 H1 r1.sim x1 ⟨fun i G2 H2 s2 x2 hok hi => ?_, fun i G2 H2 x H3 s2 x2 hok hi hy => ?_, fun i G2 H2 s2 x2 hok hi => ?_⟩ q1⟩⟩
        · obtain ⟨ws, e2, r2⟩ := s2.lst hok
          exact ⟨ws, ws[i]'(by rw [r2.length]; exact hi), .of e2, by simp⟩
        · obtain ⟨ws, e2, r2⟩ := s2.lst hok
          obtain ⟨rfl, hy⟩ := hy
          have e3 := hy ws (.of e2)
          obtain ⟨v', e4, e5⟩ := r2.get (i := i) (d := ds[i]) (by simp)
          rw [e3] at e4; cases e4
          exact ⟨ds[i], by simp, e5, s2, .refl⟩
        · obtain ⟨ws, e2, r2⟩ := s2.lst hok
          exact ⟨ws, .of e2, by rw [r2.length]; exact hi⟩
      · exact q1.elim
    · exact q1.elim⟩
end

/-! ### range -/
section
variable {X : Cx} {tg a b : Expr} {ts : TDA} {pos p : Pos}
def intsD (lo : Int) (n : Nat) : List D := (List.range n).map fun i => .int (lo + (i : Nat))
theorem ints_get {lo : Int} {n i : Nat} (h : i < n) : (intsD lo n)[i]? = some (.int (lo + (i : Nat))) := by
  unfold intsD
  rw [List.getElem?_map, List.getElem?_range h]; rfl
theorem ints_len {lo : Int} {n : Nat} : (intsD lo n).length = n := by unfold intsD; rw [List.length_map, List.length_range]
theorem itr_rel {K : PySem.W.Frag} {G1 : HD} {H1 : Hp} (lo : Int) (n : Nat) : ItRel K G1 H1 ⟨intsD lo n, fun _ => True⟩ (Itr lo n) :=
  ⟨fun i G H s x _ hi => by rw [ints_len] at hi; exact hi, fun i G H x H' s _ _ hi hy => by
    obtain ⟨rfl, rfl⟩ := hy
    rw [ints_len] at hi
    exact ⟨_, ints_get hi, rfl, s, .refl⟩, fun i G H s x _ hi => by rw [ints_len] at hi; exact hi⟩
def jRng1 (ts : TDA) : TDI := fun W σ G R => ts W σ G fun ds G1 => match ds with
  | [.int j] => j < 2 ^ 62 ∧ -(2 ^ 62) ≤ j ∧ R ⟨intsD 0 j.toNat, fun _ => True⟩ G1
  | _ => False
theorem di_range1 (hm : X.mg "range" = none) (ha : DA X [a] ts) (hg : Gl X "range" := by rfl) (hs : starEach [a] X.env = [(false, eval a X.env)] := by rfl) : DI X tg (.Call (.Name "range" p) [a] [] pos) (iRng1 (semA X [a])) (jRng1 ts) :=
  ⟨pi_range1 hg hm paSem hs, fun G H σ τ W R R' r q fin => ha.then r q fun ds vs G1 H1 r1 x1 k1 q1 => by
    try dsimp only at q1
    split at q1
    · rename_i j
      obtain ⟨v, t, rfl, h1, h2⟩ := k1
      cases h1; cases h2
      exact ⟨j, rfl, q1.2.1, q1.1, fin _ _ G1 H1 r1.sim x1 (itr_rel 0 j.toNat) q1.2.2⟩
    · exact q1.elim⟩
def jRng2 (ts : TDA) : TDI := fun W σ G R => ts W σ G fun ds G1 => match ds with
  | [.int i, .int j] => (-(2 ^ 62) ≤ i ∧ i < 2 ^ 62 ∧ -(2 ^ 62) ≤ j ∧ j < 2 ^ 62) ∧ R ⟨intsD i (j - i).toNat, fun _ => True⟩ G1
  | _ => False
end

/-! ### targets of loops -/
inductive Tgt where
  | one (i : Nat) | many (is : List Nat) | nest (i : Nat) (js : List Nat)
def Tgt.slots : Tgt → List Nat
  | .one i => [i]
  | .many is => is
  | .nest i js => i :: js
def Tgt.put : Tgt → D → DSt → (DSt → Prop) → Prop
  | .one i, d, σ, k => k (σ.set i (some d))
  | .many is, d, σ, k => match d with
    | .tup ds => ds.length = is.length ∧ k (setAll is ds σ)
    | _ => False
  | .nest i js, d, σ, k => match d with
    | .tup [d0, .tup ds] => ds.length = js.length ∧ k (setAll js ds (σ.set i (some d0)))
    | _ => False
theorem wipe_at {τ : L2.St} {j : Nat} : ∀ {vs : List Nat}, (wipe τ vs)[j]? = if j ∈ vs then (if j < τ.length then some none else none) else τ[j]?
  | [] => by simp [wipe]
  | v :: vs => by
    unfold wipe
    by_cases h : v = j
    · subst h
      by_cases hl : v < τ.length
      · rw [List.getElem?_set_self (by rw [wipe_length]; exact hl)]; simp [hl]
      · rw [List.getElem?_eq_none (by rw [List.length_set, wipe_length]; omega)]; simp [hl]
    · rw [List.getElem?_set_ne h, wipe_at (vs := vs)]
      have : (j ∈ v :: vs) ↔ j ∈ vs := by simp [Ne.symm h]
      simp only [this]
theorem wipe_set {τ : L2.St} {i : Nat} {w : Option V} {vs : List Nat} (h : i ∈ vs) : wipe (τ.set i w) vs = wipe τ vs := by
  apply List.ext_getElem?
  intro j
  rw [wipe_at, wipe_at, List.length_set]
  by_cases e : i = j
  · subst e; rw [if_pos h, if_pos h]
  · rw [List.getElem?_set_ne e]
theorem wipe_wipe {τ : L2.St} {vs : List Nat} : wipe (wipe τ vs) vs = wipe τ vs := by
  apply List.ext_getElem?
  intro j
  rw [wipe_at, wipe_length, wipe_at]
  by_cases e : j ∈ vs
  · rw [if_pos e, if_pos e]
  · simp only [if_neg e]
structure TgRun (K : PySem.W.Frag) (t : Tgt) (g : TG) : Prop where
  run : ∀ (H : Hp) (σ : DSt) (τ : L2.St) (d : D) (v : V) (k : DSt → Prop) (Q : L2.St → Hp → Prop), RpS K H σ τ → Rp K H d v → t.put d σ k → (∀ σ' τ', RpS K H σ' τ' → k σ' → (∀ vs, (∀ i ∈ t.slots, i ∈ vs) → wipe τ' vs = wipe τ vs) → Q τ' H) → g v τ H Q
structure TgOk (X : Cx) (tg : Expr) (t : Tgt) (g : TG) : Prop where
  pg : PG X tg g
  rn : TgRun X.K t g
theorem tr_one {K : PySem.W.Frag} {i : Nat} : TgRun K (.one i) (gName i) := ⟨fun H σ τ d v k Q r rd hk q => q _ _ (r.set rd) hk fun vs h => wipe_set (h i (by simp [Tgt.slots]))⟩
section
variable {X : Cx} {pos : Pos}
theorem tg_one {x : Str} (hN : X.N.Nodup) (i : Nat) (hi : X.N[i]? = some x := by rfl) (hx : Loc X.env.scope x := by first | exact Or.inl rfl | exact Or.inr rfl) (hf : X.fn x = true ∨ X.env.scope.names.lookup x = some .local := by first | exact .inl rfl | exact .inr rfl | assumption) : TgOk X (.Name x pos) (.one i) (gName i) :=
  ⟨pg_name hN hi hx hf, tr_one⟩
theorem Slots.run2 {es : List Expr} {is : List Nat} {g : TGs} (s : Slots X es is g) {K : PySem.W.Frag} {H : Hp} {Q : L2.St → Hp → Prop} : ∀ {ds : List D} {vs : List V} {σ : DSt} {τ : L2.St}, Rps K H ds vs → ds.length = is.length → RpS K H σ τ → (∀ τ', RpS K H (setAll is ds σ) τ' → (∀ ws, (∀ i ∈ is, i ∈ ws) → wipe τ' ws = wipe τ ws) → Q τ' H) → g vs τ H Q := by
  induction s with
  | nil =>
    intro ds vs σ τ r hl k q
    obtain rfl : ds = [] := List.eq_nil_of_length_eq_zero hl
    cases r
    exact ⟨rfl, q τ k fun _ _ => rfl⟩
  | cons h _ hs ih =>
    intro ds vs σ τ r hl k q
    cases ds with
    | nil => cases hl
    | cons d ds =>
      obtain ⟨v, vr, rfl, r1, r2⟩ := r
      exact ⟨v, vr, rfl, ih r2 (Nat.succ.inj hl) (k.set r1) fun τ' k' hw => q τ' k' fun ws hi => (hw ws fun i hm => hi i (List.mem_cons_of_mem _ hm)).trans (wipe_set (hi _ List.mem_cons_self))⟩
theorem tg_many {es : List Expr} {is : List Nat} {g : TGs} {kk : Nat} (hc : X.calm = true) (s : Slots X es is g) (hn : (assignEach es X.env).length = is.length := by rfl) (hst : (assignEach es X.env).findIdx? (·.1) = none := by rfl) : TgOk X (.Tuple es kk pos) (.many is) (gTup X.K is.length g) :=
  ⟨pg_tup hc s.pgs hn hst, ⟨fun H σ τ d v k Q r rd hk q => by
    simp only [Tgt.put] at hk
    split at hk
    · obtain ⟨a, vs, rfl, t, rr⟩ := rd
      exact ⟨a, vs, rfl, t, rr.length.trans hk.1, s.run2 rr hk.1 r fun τ' k' hw => q _ τ' k' hk.2 hw⟩
    · exact hk.elim⟩⟩
end

/-! ### for -/
def forD (ok : HD → Prop) (step : D → (DSt → HD → Prop) → DSt → HD → Prop) (fin : DSt → HD → Prop) : List D → DSt → HD → Prop
  | [] => fun σ G => ∃ G0, Le G0 G ∧ ok G0 ∧ fin σ G0
  | x :: xs => fun σ G => ∃ G0, Le G0 G ∧ ok G0 ∧ step x (forD ok step fin xs) σ G0
def sFor (ti : TDI) (t : Tgt) (tb : TDS) : TDS := fun W D σ G => ti W σ G fun I G1 => forD I.ok (fun d k σ' G' => t.put d σ' fun σ2 => tb W { D with nx := k, ct := k, bk := D.nx } σ2 G') D.nx I.xs σ G1
theorem drop_get {α : Type} {l : List α} {i : Nat} {x : α} (h : l[i]? = some x) : l.drop i = x :: l.drop (i + 1) := by
  obtain ⟨h1, h2⟩ := List.getElem?_eq_some_iff.mp h
  rw [← h2]
  exact List.drop_eq_getElem_cons h1
theorem ds_for {X : Cx} {tg iter : Expr} {body : List Stmt} {wi : TI} {ti : TDI} {t : Tgt} {g : TG} {tb : TDS} {pos : Pos} (hp : PassesOwn (model X.prog X.w) X.A X.env X.xe) (hc : X.calm = true) (hi : DI X tg iter wi ti) (hg : TgOk X tg t g) (hb : DSs X body tb)
    (hs : ∀ x, foldedSetIterable iter X.env x = pure x := by intro _; rfl) : DS X (.For tg iter body [] pos) (sFor ti t tb) := ⟨fun G H σ τ W D r q => semS.of (ps_for hp hc hi.pi hg.pg pssSem hs) (hi.run G H σ τ W _ _ r q fun I J G1 H1 s1 x1 rel q1 => by
  have r1 := r.ext s1 x1
  refine ⟨fun i m τ' H' => ∃ σ' G', RpS X.K H' σ' τ' ∧ Sim X.K G' H' ∧ Ext G1 H1 G' H' ∧ m = I.xs.length - i ∧ i ≤ I.xs.length ∧ forD I.ok (fun d k σ' G' => t.put d σ' fun σ2 => tb W { D with nx := k, ct := k, bk := D.nx } σ2 G') D.nx (I.xs.drop i) σ' G',
    ⟨_, σ, G1, r1.slots, s1, .refl, rfl, Nat.zero_le _, by rw [List.drop_zero]; exact q1⟩, ?_⟩
  rintro i m τ' H' ⟨σ', G', k', s', x', rfl, hle, q'⟩
  by_cases hlt : i < I.xs.length
  · have hx : I.xs[i]? = some I.xs[i] := by simp [hlt]
    rw [drop_get hx] at q'
    obtain ⟨G0, l0, ok0, q0⟩ := q'
    have s0 := s'.le l0
    have x0 : Ext G1 H1 G0 H' := x'.le l0
    refine .inr ⟨rel.go i G0 H' s0 x0.l ok0 hlt, fun τ2 H2 => ∃ σ2 G2, RpS X.K H2 σ2 τ2 ∧ Sim X.K G2 H2 ∧ Ext G1 H1 G2 H2 ∧ forD I.ok (fun d k σ' G' => t.put d σ' fun σ2 => tb W { D with nx := k, ct := k, bk := D.nx } σ2 G') D.nx (I.xs.drop (i + 1)) σ2 G2,
      fun τ2 H2 ⟨σ2, G2, a1, a2, a3, a4⟩ => ⟨_, by omega, σ2, G2, a1, a2, a3, rfl, hlt, a4⟩, fun v H2 hy => ?_⟩
    obtain ⟨d, e1, e2, e3, e4⟩ := rel.yld i G0 H' v H2 s0 x0.l ok0 hlt hy
    rw [hx] at e1; cases e1
    refine hg.rn.run H2 σ' τ' _ v _ _ (k'.ext s0 e4 _ _) e2 q0 fun σ2 τ2 k2 q2 _ => ?_
    have x2 := x0.trans e4
    have rr : SR X G0 H2 σ2 τ2 W := ⟨e3, k2, r1.takes.imp fun _ _ _ _ z => z.up x2⟩
    exact (hb.run G0 H2 σ2 τ2 W _ rr q2).imp ⟨fun τ3 H3 ⟨σ3, G3, b1, b2, b3, b4⟩ => ⟨σ3, G3, b1, b2, x2.trans b3, b4⟩, fun v H3 z => z.up (x1.trans x2), fun τ3 H3 z => z.up (x1.trans x2), fun τ3 H3 ⟨σ3, G3, b1, b2, b3, b4⟩ => ⟨σ3, G3, b1, b2, x2.trans b3, b4⟩⟩
  · have e : I.xs.drop i = [] := List.drop_eq_nil_of_le (by omega)
    rw [e] at q'
    obtain ⟨G0, l0, ok0, q0⟩ := q'
    exact .inl ⟨rel.stop i G0 H' (s'.le l0) (x'.le l0).l ok0 (by omega), σ', G0, k', s'.le l0, (x1.trans x').le l0, q0⟩)⟩

/-! ### while -/
def whD (test : DSt → HD → (Bool → HD → Prop) → Prop) (body : (DSt → HD → Prop) → DSt → HD → Prop) (fin : DSt → HD → Prop) : Nat → DSt → HD → Prop
  | 0 => fun _ _ => False
  | n + 1 => fun σ G => ∃ G0, Le G0 G ∧ test σ G0 fun b G1 => if b = true then body (whD test body fin n) σ G1 else fin σ G1
def sWhile (tc : TDT) (tb : TDS) : TDS := fun W D σ G => ∃ n, whD (fun σ' G' k => tc W σ' G' k) (fun k σ' G' => tb W { D with nx := k, ct := k, bk := D.nx } σ' G') D.nx n σ G
end DL

namespace DL
open PySem PySem.Spec L2
open PyProof.Rows hiding St

/-! ### list comprehensions -/
section
variable (X : Cx)
def semTs (ifs : List Expr) : TT := fun σ H Q => ∀ (pins : List (Addr × Obj)) (s : Shared), Inv X pins σ H s →
  wpAny (model X.prog X.w) X.A (forIn ifs true fun c r => if r = true then do let ok ← isTrue c X.env (eval c X.env); pure (ForInStep.yield ok) else pure (ForInStep.yield r)) (TP X pins σ Q) X.xe s
end
/-- a clause's tests -/
structure DTs (X : Cx) (ifs : List Expr) (t : TDT) : Prop where
  run : ∀ (G : HD) (H : Hp) (σ : DSt) (τ : L2.St) (W : DW) (Q : Bool → HD → Prop), SR X G H σ τ W → t W σ G Q → semTs X ifs τ H (liftB X.K G H Q)
def dYes : TDT := fun _ _ G Q => Q true G
section
variable {X : Cx} {c : Expr} {cs : List Expr} {t u : TDT}
theorem dts_nil : DTs X [] dYes := ⟨fun G H σ τ W Q r q pins s I => pts_nil.run pins s τ H _ I ⟨G, r.sim, .refl, q⟩⟩
theorem dts_one (h : DT X c t) : DTs X [c] t := ⟨fun G H σ τ W Q r q pins s I => (pts_one ptSem).run pins s τ H _ I (h.run G H σ τ W Q r q)⟩
end

section
variable {K : PySem.W.Frag} {G : HD} {H : Hp}
/-- a list that is not of ours grows -/
theorem SqT.aside {p : Addr} {l : List V} {o' : HO} (hp : H p = some (.lst l)) {a : Addr} {vs : List V} (h : SqT K H a vs) : SqT K (upd H p o') a vs := by
  rcases h with (h | ⟨o, h⟩) | h
  · exact .inl (.inl (by rw [upd_ne (by rintro rfl; rw [hp] at h; cases h)]; exact h))
  · exact .inl (.inr ⟨o, by rw [upd_ne (by rintro rfl; rw [hp] at h; cases h)]; exact h⟩)
  · exact .inr h
mutual
theorem Rp.aside {p : Addr} {l : List V} {o' : HO} (hp : H p = some (.lst l)) : ∀ (d : D) (v : V), Rp K H d v → Rp K (upd H p o') d v
  | .non, _, h => h
  | .bl _, _, h => h
  | .int _, _, h => h
  | .str _, _, h => h
  | .ty _, _, h => h
  | .ref _, _, h => h
  | .tup ds, v, h => by
    obtain ⟨a, vs, e, t, r⟩ := h
    exact ⟨a, vs, e, SqT.aside hp t, Rps.aside hp ds vs r⟩
  | .kl ds, v, h => by
    obtain ⟨a, vs, e, ⟨o, t⟩, r⟩ := h
    exact ⟨a, vs, e, ⟨o, by rw [upd_ne (by rintro rfl; rw [hp] at t; cases t)]; exact t⟩, Rps.aside hp ds vs r⟩
  | .kc ds, v, h => by
    obtain ⟨a, vs, e, t, r⟩ := h
    refine ⟨a, vs, e, ?_, Rps.aside hp ds vs r⟩
    rcases t with ⟨o, t⟩ | t
    · exact .inl ⟨o, by rw [upd_ne (by rintro rfl; rw [hp] at t; cases t)]; exact t⟩
    · exact .inr t
  | .exc C ns ds, v, h => by
    obtain ⟨a, dd, vs, e, t, hl, q, r⟩ := h
    refine ⟨a, dd, vs, e, by rw [upd_ne (by rintro rfl; rw [hp] at t; cases t)]; exact t, hl, ?_, Rps.aside hp ds vs r⟩
    rcases q with q | ⟨b, q1, q2⟩
    · exact .inl q
    · exact .inr ⟨b, q1, by rw [upd_ne (by rintro rfl; rw [hp] at q2; cases q2)]; exact q2⟩
  | .emp, v, h => by
    obtain ⟨a, ob, e, m, t, q⟩ := h
    exact ⟨a, ob, e, m, by rw [upd_ne (by rintro rfl; rw [hp] at t; cases t)]; exact t, q⟩
theorem Rps.aside {p : Addr} {l : List V} {o' : HO} (hp : H p = some (.lst l)) : ∀ (ds : List D) (vs : List V), Rps K H ds vs → Rps K (upd H p o') ds vs
  | [], _, h => h
  | d :: ds, vs, h => by
    obtain ⟨v, r, e, h1, h2⟩ := h
    exact ⟨v, r, e, Rp.aside hp d v h1, Rps.aside hp ds r h2⟩
end
theorem RKV.aside {κ : Type} {p : Addr} {l : List V} {o1 : HO} (hp : H p = some (.lst l)) : ∀ (a : List (κ × D)) (m : List (κ × V)), RKV K H a m → RKV K (upd H p o1) a m
  | [], _, h => h
  | q :: a, m, h => by
    obtain ⟨v, r, e, h1, h2⟩ := h
    exact ⟨v, r, e, h1.aside hp _ _, RKV.aside hp a r h2⟩
theorem RO.aside {p : Addr} {l : List V} {o1 : HO} (hp : H p = some (.lst l)) : ∀ (o : MO) (o' : HO), RO K H o o' → RO K (upd H p o1) o o'
  | .lst ds, _, h => let ⟨vs, e, r⟩ := h; ⟨vs, e, r.aside hp _ _⟩
  | .dK _, _, h => let ⟨vs, e, r⟩ := h; ⟨vs, e, r.aside hp _ _⟩
  | .dT _, _, h => let ⟨vs, e, r⟩ := h; ⟨vs, e, r.aside hp _ _⟩
  | .ins _ _, _, h => let ⟨dx, vs, e, r⟩ := h; ⟨dx, vs, e, r.aside hp _ _⟩
  | .fz ob w u, _, h => let ⟨e, r, z⟩ := h; ⟨e, RO.aside hp u w r, z⟩
theorem Sim.aside (s : Sim K G H) {p : Addr} {l : List V} {o1 : HO} (hp : H p = some (.lst l)) (hg : G p = none) : Sim K G (upd H p o1) := fun a o e => by
  obtain ⟨o', e1, r⟩ := s a o e
  have hn : a ≠ p := by rintro rfl; rw [hg] at e; cases e
  exact ⟨o', by rw [upd_ne hn]; exact e1, r.aside hp _ _⟩
theorem RpS.aside {p : Addr} {l : List V} {o1 : HO} (hp : H p = some (.lst l)) : ∀ (σ : DSt) (t : L2.St), RpS K H σ t → RpS K (upd H p o1) σ t
  | [], _, h => h
  | o :: r, _, h => by
    obtain ⟨w, t, rfl, h1, h2⟩ := h
    refine ⟨w, t, rfl, fun d e => ?_, RpS.aside hp r t h2⟩
    obtain ⟨v, e1, e2⟩ := h1 d e
    exact ⟨v, e1, e2.aside hp _ _⟩
end
def dwipe (σ : DSt) : List Nat → DSt
  | [] => σ
  | v :: vs => (dwipe σ vs).set v none
theorem RpS.wipe {K : PySem.W.Frag} {H : Hp} {σ : DSt} {τ : L2.St} (h : RpS K H σ τ) : ∀ vs : List Nat, RpS K H (dwipe σ vs) (L2.wipe τ vs)
  | [] => h
  | v :: vs => (RpS.wipe h vs).drop1
abbrev W0 : DW := fun _ _ _ _ => False
def lcD (ok : HD → Prop) (step : D → (D → HD → Prop) → (HD → Prop) → HD → Prop) (fin : List D → HD → Prop) : List D → List D → HD → Prop
  | [], acc => fun G => ∃ G0, Le G0 G ∧ ok G0 ∧ fin acc G0
  | x :: xs, acc => fun G => ∃ G0, Le G0 G ∧ ok G0 ∧ step x (fun y G' => lcD ok step fin xs (acc ++ [y]) G') (fun G' => lcD ok step fin xs acc G') G0
def dLcG (fin : List D → HD → Prop) (ti : TDI) (t : Tgt) (dt : TDT) (te : TD) (vs : List Nat) (W : DW) (σ : DSt) (G : HD) : Prop := ti W σ G fun I G1 => I.xs.length ≤ 1000000 ∧
  lcD I.ok (fun d ky kn G' => t.put d (dwipe σ vs) fun σ2 => dt W0 σ2 G' fun b G2 => if b = true then te W0 σ2 G2 ky else kn G2) fin I.xs [] G1
def dLc (ti : TDI) (t : Tgt) (dt : TDT) (te : TD) (vs : List Nat) : TD := fun W σ G Q => dLcG (fun acc G2 => newL G2 acc Q) ti t dt te vs W σ G
/-- the same, the list by value -/
def dLcV (ti : TDI) (t : Tgt) (dt : TDT) (te : TD) (vs : List Nat) : TD := fun W σ G Q => dLcG (fun acc G2 => Q (.kl acc) G2) ti t dt te vs W σ G
section
variable {X : Cx} {elt tg iter : Expr} {ifs : List Expr} {scope : Scope} {own : List (Str × Nat)} {pos : Pos} {wi : TI} {ti : TDI} {t : Tgt} {g : TG} {dt : TDT} {te : TD}
theorem million {n : Nat} (h : n ≤ 1000000) : n ≤ sizeLine := by rw [sizeLine_eq]; omega
/-- the loop of a block, shown once for values and for stores -/
theorem lc_run (hi : DI X tg iter wi ti) (hg : TgRun X.K t g)
    (hsl : ∀ i ∈ t.slots, i ∈ own.map (·.2))
    {tt : TT} {teV : TE}
    (htt : ∀ (G : HD) (H : Hp) (σ : DSt) (τ : L2.St) (Q : Bool → HD → Prop) (Q' : Bool → Hp → Prop), Sim X.K G H → RpS X.K H σ τ → dt W0 σ G Q → (∀ b H', liftB X.K G H Q b H' → Q' b H') → tt τ H Q')
    (hte : ∀ (G : HD) (H : Hp) (σ : DSt) (τ : L2.St) (Q : Post) (Q' : VK), Sim X.K G H → RpS X.K H σ τ → te W0 σ G Q → (∀ v H', liftQ X.K G H Q v H' → Q' v H') → teV τ H Q')
    {G : HD} {H : Hp} {σ : DSt} {τ : L2.St} {W : DW} {F : List D → HD → Prop} {Q' : VK} (r : SR X G H σ τ W) (q : dLcG F ti t dt te (own.map (·.2)) W σ G)
    (fin : ∀ D0 acc accV G0 H', (∀ a o, G a = none → H a = some o → a ≠ D0) → Sim X.K G0 H' → Ext G H G0 H' → H' D0 = some (.lst accV) → G0 D0 = none → Rps X.K H' acc accV → F acc G0 → Q' (.ref D0) H') : tLc wi g tt teV (own.map (·.2)) τ H Q' := by
  refine hi.run G H σ τ W _ _ r q fun I J G1 H1 s1 x1 rel q1 D0 hD => ?_
  obtain ⟨hz, q1⟩ := q1
  have r1 := r.ext s1 x1
  have n0 := s1.no hD
  refine ⟨fun i m H' => ∃ G' acc accV, H' D0 = some (.lst accV) ∧ G' D0 = none ∧ Rps X.K H' acc accV ∧ acc.length ≤ i ∧ Sim X.K G' H' ∧ Ext G1 H1 G' H' ∧ m = I.xs.length - i ∧ i ≤ I.xs.length ∧
      lcD I.ok (fun d ky kn G' => t.put d (dwipe σ (own.map (·.2))) fun σ2 => dt W0 σ2 G' fun b G2 => if b = true then te W0 σ2 G2 ky else kn G2) F (I.xs.drop i) acc G',
    ⟨_, G1, [], [], upd_same, n0, rfl, Nat.zero_le _, s1.newO hD, .new hD n0, rfl, Nat.zero_le _, by rw [List.drop_zero]; exact q1⟩, ?_⟩
  rintro i m H' ⟨G', acc, accV, hl, hn, ra, hle0, s', x', rfl, hle, q'⟩
  by_cases hlt : i < I.xs.length
  · have hx : I.xs[i]? = some I.xs[i] := by simp [hlt]
    rw [drop_get hx] at q'
    obtain ⟨G0, l0, ok0, q0⟩ := q'
    have s0 := s'.le l0
    have x0 : Ext G1 H1 G0 H' := x'.le l0
    have e0 : Ext G' H' G0 H' := .of_le l0
    refine .inr ⟨rel.go i G0 H' s0 x0.l ok0 hlt, fun H2 => ∃ G2 acc2 accV2, H2 D0 = some (.lst accV2) ∧ G2 D0 = none ∧ Rps X.K H2 acc2 accV2 ∧ acc2.length ≤ i + 1 ∧ Sim X.K G2 H2 ∧ Ext G1 H1 G2 H2 ∧
        lcD I.ok (fun d ky kn G' => t.put d (dwipe σ (own.map (·.2))) fun σ2 => dt W0 σ2 G' fun b G2 => if b = true then te W0 σ2 G2 ky else kn G2) F (I.xs.drop (i + 1)) acc2 G2,
      fun H2 ⟨G2, a2, v2, b1, b2, b3, b4, b5, b6, b7⟩ => ⟨_, by omega, G2, a2, v2, b1, b2, b3, b4, b5, b6, rfl, hlt, b7⟩, fun v H2 hy => ?_⟩
    obtain ⟨d, e1, e2, e3, e4⟩ := rel.yld i G0 H' v H2 s0 x0.l ok0 hlt hy
    rw [hx] at e1; cases e1
    have x2 := x0.trans e4
    have slots2 : RpS X.K H2 (dwipe σ (own.map (·.2))) (L2.wipe τ (own.map (·.2))) := (r1.slots.ext s1 x2 _ _).wipe _
    refine hg.run H2 _ _ _ v _ _ slots2 e2 q0 fun σ2 τ2 k2 q2 hw => ⟨(hw _ hsl).trans wipe_wipe, ?_⟩
    have n1 : G0 D0 = none := l0.no hn
    obtain ⟨hl2, n2⟩ := e4 D0 _ n1 hl
    have ra2 : Rps X.K H2 acc accV := ra.ext s' (e0.trans e4) _ _
    refine htt G0 H2 σ2 τ2 _ _ e3 k2 q2 fun b H3 ⟨G3, s3, x3, q3⟩ => ?_
    obtain ⟨hl3, n3⟩ := x3 D0 _ n2 hl2
    have ra3 : Rps X.K H3 acc accV := ra2.ext e3 x3 _ _
    cases b with
    | true =>
      refine hte G3 H3 σ2 τ2 _ _ s3 (k2.ext e3 x3 _ _) q3 fun y H4 ⟨dy, G4, ry, s4, x4, q4⟩ => ?_
      obtain ⟨hl4, n4⟩ := x4 D0 _ n3 hl3
      have ra4 : Rps X.K H4 acc accV := ra3.ext s3 x4 _ _
      refine ⟨accV, hl4, ?_, G4, acc ++ [dy], accV ++ [y], upd_same, n4, (ra4.app (.cons ry .nil)).aside hl4 _ _, by simp; omega, s4.aside hl4 n4, fun a o ga ha => ?_, q4⟩
      · rw [ra4.length]
        have := million hz
        omega
      · obtain ⟨h5, g5⟩ := ((x2.trans x3).trans x4) a o ga ha
        have hne : a ≠ D0 := by rintro rfl; rw [hD] at ha; cases ha
        exact ⟨by rw [upd_ne hne]; exact h5, g5⟩
    | false => exact ⟨G3, acc, accV, hl3, n3, ra3, by omega, s3, x2.trans x3, q3⟩
  · have e : I.xs.drop i = [] := List.drop_eq_nil_of_le (by omega)
    rw [e] at q'
    obtain ⟨G0, l0, ok0, q0⟩ := q'
    have s0 := s'.le l0
    have n1 : G0 D0 = none := l0.no hn
    have h0 : ∀ a o, G a = none → H a = some o → a ≠ D0 := fun a o ga ha e => by
      obtain ⟨h6, _⟩ := x1 a o ga ha
      rw [e, hD] at h6; cases h6
    exact .inl ⟨rel.stop i G0 H' s0 (x'.le l0).l ok0 (by omega), fin D0 acc accV G0 H' h0 s0 (x1.trans (x'.le l0)) hl n1 (ra.ext s' (.of_le l0) _ _) q0⟩

end

/-- what a new list may still become: a value that never changes -/
def liftF (K : PySem.W.Frag) (G : HD) (H : Hp) (Q : Post) : VK := fun v H' => liftQ K G H Q v H' ∨ ∃ p vs, v = .ref p ∧ H' p = some (.lst vs) ∧ ∀ ob, liftQ K G H Q (.ref p) (upd H' p (.frz ob (.lst vs)))
theorem liftF.of {K : PySem.W.Frag} {G G' : HD} {H H' : Hp} {Q : Post} {d : D} {v : V} (r : Rp K H' d v) (s : Sim K G' H') (x : Ext G H G' H') (q : Q d G') : liftF K G H Q v H' := .inl ⟨d, G', r, s, x, q⟩
theorem liftF.up {K : PySem.W.Frag} {G G1 : HD} {H H1 H2 : Hp} {Q : Post} {v : V} (x : Ext G H G1 H1) (h : liftF K G1 H1 Q v H2) : liftF K G H Q v H2 :=
  h.elim (fun z => .inl (z.up x)) fun ⟨p, vs, e, hp, q⟩ => .inr ⟨p, vs, e, hp, fun ob => (q ob).up x⟩
theorem semE.frz {X : Cx} {e : Expr} {τ : L2.St} {G : HD} {H H0 : Hp} {Q : Post} (h : semE X e τ H (liftF X.K G H0 Q)) : semE X e τ H (liftQ X.K G H0 Q) := fun pins s I =>
  thn (h pins s I) fun u s1 ⟨v, H1, I1, r, q⟩ => by
    rcases q with q | ⟨p, vs, rfl, hp, q⟩
    · exact ⟨v, H1, I1, r, q⟩
    · obtain ⟨od, I2⟩ := I1.lock hp trivial
      exact ⟨.ref p, _, I2, r, q od⟩
theorem finV {K : PySem.W.Frag} {G : HD} {H : Hp} {Q : Post} {Q' : VK} (f : ∀ v H', liftF K G H Q v H' → Q' v H') : ∀ D0 acc accV G0 H', (∀ a o, G a = none → H a = some o → a ≠ D0) → Sim K G0 H' → Ext G H G0 H' → H' D0 = some (.lst accV) → G0 D0 = none → Rps K H' acc accV → Q (.kl acc) G0 → Q' (.ref D0) H' :=
  fun D0 acc accV G0 H' h0 s0 x0 hl n1 ra q0 => f _ _ (.inr ⟨D0, accV, rfl, hl, fun ob => ⟨.kl acc, G0, ⟨D0, accV, rfl, ⟨ob, upd_same⟩, ra.aside hl _ _⟩, s0.aside hl n1, fun a o ga ha => by
      obtain ⟨h5, g5⟩ := x0 a o ga ha
      exact ⟨by rw [upd_ne (h0 a o ga ha)]; exact h5, g5⟩, q0⟩⟩)
theorem newV.fin {K : PySem.W.Frag} {G : HD} {H : Hp} {ds : List D} {vs : List V} {Q : Post} {Q' : VK} (s : Sim K G H) (r : Rps K H ds vs) (f : ∀ v H', liftF K G H Q v H' → Q' v H') (q : Q (.kl ds) G) :
    ∀ p, H p = none → Q' (.ref p) (upd H p (.lst vs)) := fun p hp => f _ _ (.inr ⟨p, vs, rfl, upd_same, fun ob => by
  rw [upd_upd]
  exact .of (d := .kl ds) ⟨p, vs, rfl, ⟨ob, upd_same⟩, r.ext s (Ext.new hp (s.no hp)) _ _⟩ (s.newO hp) (.new hp (s.no hp)) q⟩)
def gOf : List Nat → TGs
  | [] => gNil
  | i :: is => gCons (gName i) (gOf is)
theorem gOf_run {K : PySem.W.Frag} {H : Hp} {Q : L2.St → Hp → Prop} : ∀ {is : List Nat} {ds : List D} {vs : List V} {σ : DSt} {τ : L2.St}, Rps K H ds vs → ds.length = is.length → RpS K H σ τ → (∀ τ', RpS K H (setAll is ds σ) τ' → (∀ ws, (∀ i ∈ is, i ∈ ws) → L2.wipe τ' ws = L2.wipe τ ws) → Q τ' H) → gOf is vs τ H Q
  | [], ds, vs, σ, τ, r, hl, k, q => by
    obtain rfl : ds = [] := List.eq_nil_of_length_eq_zero hl
    cases r
    exact ⟨rfl, q τ k fun _ _ => rfl⟩
  | i :: is, [], vs, σ, τ, r, hl, k, q => by cases hl
  | i :: is, d :: ds, vs, σ, τ, r, hl, k, q => by
    obtain ⟨v, vr, rfl, r1, r2⟩ := r
    exact ⟨v, vr, rfl, gOf_run r2 (Nat.succ.inj hl) (k.set r1) fun τ' k' hw => q τ' k' fun ws hi => (hw ws fun j hm => hi j (List.mem_cons_of_mem _ hm)).trans (wipe_set (hi _ List.mem_cons_self))⟩
theorem tr_many {K : PySem.W.Frag} {is : List Nat} : TgRun K (.many is) (gTup K is.length (gOf is)) := ⟨fun H σ τ d v k Q r rd hk q => by
  simp only [Tgt.put] at hk
  split at hk
  · obtain ⟨a, vs, rfl, t, rr⟩ := rd
    exact ⟨a, vs, rfl, t, rr.length.trans hk.1, gOf_run rr hk.1 r fun τ' k' hw => q _ τ' k' hk.2 hw⟩
  · exact hk.elim⟩
theorem takes_w0 {X : Cx} {G : HD} {H : Hp} : Takes X (liftW X.K G H W0) := fun _ _ ⟨_, _, _, _, _, _, _, _, _, _, _, _, _, _, _, _, ⟨_, _, _, _, _, _, _, z⟩⟩ => z.elim
section
variable {X : Cx} {elt tg iter : Expr} {ifs : List Expr} {scope : Scope} {own : List (Str × Nat)} {pos : Pos} {wi : TI} {ti : TDI} {t : Tgt} {g : TG} {dt : TDT} {te : TD}
/-- the block's context -/
abbrev BlkDE (X : Cx) (scope : Scope) (e : Expr) (te : TD) : Prop := ∀ (s : Shared) (H : Hp) (C : Addr) (cl : List (Str × Addr)) (fp : List Addr), DE (X.blk s H scope (compEnvC scope cl C X.env) fp) e te
abbrev BlkDTs (X : Cx) (scope : Scope) (es : List Expr) (dt : TDT) : Prop := ∀ (s : Shared) (H : Hp) (C : Addr) (cl : List (Str × Addr)) (fp : List Addr), DTs (X.blk s H scope (compEnvC scope cl C X.env) fp) es dt
abbrev BlkPG (X : Cx) (scope : Scope) (e : Expr) (g : TG) : Prop := ∀ (s : Shared) (H : Hp) (C : Addr) (cl : List (Str × Addr)) (fp : List Addr), PG (X.blk s H scope (compEnvC scope cl C X.env) fp) e g
def blkT (X : Cx) (scope : Scope) (ifs : List Expr) : TT := fun τ H Q => ∀ (s : Shared) (H0 : Hp) (C : Addr) (cl : List (Str × Addr)) (fp : List Addr), semTs (X.blk s H0 scope (compEnvC scope cl C X.env) fp) ifs τ H Q
def blkE (X : Cx) (scope : Scope) (e : Expr) : TE := fun τ H Q => ∀ (s : Shared) (H0 : Hp) (C : Addr) (cl : List (Str × Addr)) (fp : List Addr), semE (X.blk s H0 scope (compEnvC scope cl C X.env) fp) e τ H Q
theorem blk_pts (s : Shared) (H : Hp) (C : Addr) (cl : List (Str × Addr)) (fp : List Addr) : PTs (X.blk s H scope (compEnvC scope cl C X.env) fp) ifs (blkT X scope ifs) := ⟨fun pins s1 _ _ _ I h => h s H C cl fp pins s1 I⟩
theorem blk_pe (s : Shared) (H : Hp) (C : Addr) (cl : List (Str × Addr)) (fp : List Addr) : PE (X.blk s H scope (compEnvC scope cl C X.env) fp) elt (blkE X scope elt) := ⟨fun pins s1 _ _ _ I h => h s H C cl fp pins s1 I⟩
theorem lc_sem (hi : DI X tg iter wi ti) (hgr : TgRun X.K t g) (hsl : ∀ i ∈ t.slots, i ∈ own.map (·.2)) (ht : BlkDTs X scope ifs dt) (he : BlkDE X scope elt te) {G : HD} {H : Hp} {σ : DSt} {τ : L2.St} {W : DW} {F : List D → HD → Prop} (r : SR X G H σ τ W) (q : dLcG F ti t dt te (own.map (·.2)) W σ G)
    {Q' : VK} (fin : ∀ D0 acc accV G0 H', (∀ a o, G a = none → H a = some o → a ≠ D0) → Sim X.K G0 H' → Ext G H G0 H' → H' D0 = some (.lst accV) → G0 D0 = none → Rps X.K H' acc accV → F acc G0 → Q' (.ref D0) H') : tLc wi g (blkT X scope ifs) (blkE X scope elt) (own.map (·.2)) τ H Q' :=
  lc_run hi hgr hsl (fun G H σ τ Q Q' s k q f s0 H0 C cl fp pins s1 I => thn ((ht s0 H0 C cl fp).run G H σ τ W0 Q ⟨s, k, takes_w0⟩ q pins s1 I) fun b s2 ⟨H2, I2, z⟩ => ⟨H2, I2, f b H2 z⟩)
    (fun G H σ τ Q Q' s k q f s0 H0 C cl fp => ((he s0 H0 C cl fp).run G H σ τ W0 Q ⟨s, k, takes_w0⟩ q).imp f) r q fin
theorem de_lcV (hc : X.calm = true) (hN : X.N.Nodup) (hi : DI X tg iter wi ti) (ok : BlkOk X.N X.env.scope scope own) (hg : BlkPG X scope tg g) (hgr : TgRun X.K t g) (hsl : ∀ i ∈ t.slots, i ∈ own.map (·.2)) (ht : BlkDTs X scope ifs dt) (he : BlkDE X scope elt te)
    (hs : ∀ x, foldedSetIterable iter X.env x = pure x := by intro _; rfl) : DE X (.ListComp elt [⟨tg, iter, ifs, 0⟩] scope pos) (dLcV ti t dt te (own.map (·.2))) :=
  ⟨fun G H σ τ W Q r q => semE.frz (semE.of (pe_lc hc hN hi.pi ok hg blk_pts blk_pe hs) (lc_sem hi hgr hsl ht he r q (finV fun _ _ z => z)))⟩
/-- .. at the end of a statement -/
def liftNF (K : PySem.W.Frag) (G : HD) (H : Hp) (Q : DSt → HD → Prop) : L2.St → Hp → Prop := fun t H' => liftN K G H Q t H' ∨ ∃ p vs, H' p = some (.lst vs) ∧ ∀ ob, liftN K G H Q t (upd H' p (.frz ob (.lst vs)))
theorem semS.frz {st : Stmt} {G : HD} {τ : L2.St} {H : Hp} {D : DEnds} (h : semS X st { liftD X.K G H D with nx := liftNF X.K G H D.nx } τ H) : semS X st (liftD X.K G H D) τ H := fun pins s I =>
  thn (h pins s I) fun f s1 q => by
    cases f with
    | next =>
      obtain ⟨τ1, H1, I1, q⟩ := q
      rcases q with q | ⟨p, vs, hp, q⟩
      · exact ⟨τ1, H1, I1, q⟩
      · obtain ⟨od, I2⟩ := I1.lock hp trivial
        exact ⟨τ1, _, I2, q od⟩
    | brk => exact q
    | cont => exact q
    | ret u => exact q
theorem ds_setLcV {i : Nat} {y : Str} {py spos : Pos} (hc : X.calm = true) (hN : X.N.Nodup) (hy : X.N[i]? = some y) (hyl : X.env.scope.names.lookup y = some .local) (hsw : swapsWith (.ListComp elt [⟨tg, iter, ifs, 0⟩] scope pos) (some (.Name y py)) spos.line X.env = pure true)
    (hi : DI X tg iter wi ti) (ok : BlkOk X.N X.env.scope scope own) (hg : BlkPG X scope tg g) (hgr : TgRun X.K t g) (hsl : ∀ i ∈ t.slots, i ∈ own.map (·.2)) (ht : BlkDTs X scope ifs dt) (he : BlkDE X scope elt te)
    (hs : ∀ x, foldedSetIterable iter X.env x = pure x := by intro _; rfl) : DS X (.Assign [.Name y py] (.ListComp elt [⟨tg, iter, ifs, 0⟩] scope pos) spos) (sSet i (dLcV ti t dt te (own.map (·.2)))) :=
  ⟨fun G H σ τ W D r q => semS.frz (semS.of (ps_setLc hc hN hy hyl hsw hi.pi ok hg blk_pts blk_pe hs) (lc_sem hi hgr hsl ht he r q (finV (K := X.K) (G := G) (H := H) (Q := fun d G1 => D.nx (σ.set i (some d)) G1) (Q' := fun v H' => gName i v τ H' (liftNF X.K G H D.nx)) fun v H' z => by
    rcases z with ⟨d, G', k, s, x, q'⟩ | ⟨p, vs, rfl, hp, z⟩
    · exact .inl ⟨_, G', (r.slots.ext r.sim x _ _).set k, s, x, q'⟩
    · exact .inr ⟨p, vs, hp, fun ob => by
        obtain ⟨d, G', k, s, x, q'⟩ := z ob
        exact ⟨_, G', (r.slots.ext r.sim x _ _).set k, s, x, q'⟩⟩)))⟩
end
end DL

namespace DL
open PySem PySem.Spec L2
open PyProof.Rows hiding St

/-! ### calls of built-ins -/
def CallD (K : PySem.W.Frag) (r : List V → Hp → VK → Prop) (rd : List D → HD → Post → Prop) : Prop :=
  ∀ (G : HD) (H : Hp) (ds : List D) (vs : List V) (Q : Post) (Q' : VK), Sim K G H → Rps K H ds vs → (∀ v H', liftQ K G H Q v H' → Q' v H') → rd ds G Q → r vs H Q'
theorem CallR.or {X : Cx} {f : Value} {r r' : List V → Hp → VK → Prop} (h : CallR X f r) (h' : CallR X f r') : CallR X f (fun xs H Q => r xs H Q ∨ r' xs H Q) := by
  intro pins s σ H xs us Q I rv q
  exact q.elim (h pins s σ H xs us Q I rv) (h' pins s σ H xs us Q I rv)
def dCB (rd : List D → HD → Post → Prop) (ts : TDA) : TD := fun W σ G Q => ts W σ G fun ds G1 => rd ds G1 Q
section
variable {X : Cx} {x : Str} {p pos : Pos} {e : Expr} {es : List Expr} {ts : TDA} {id T : String} {r : List V → Hp → VK → Prop} {rd : List D → HD → Post → Prop}
theorem de_cb (hc : CallR X (.builtin id) r) (hd : CallD X.K r rd) (hm : X.mg x = none) (hv : bootBuiltins x = some (.builtin id)) (ha : DA X (e :: es) ts) (hg : Gl X x := by rfl) (hn : x ≠ "__name__" := by decide) (hdb : (x == ("__debug__" : Str)) = false := by decide)
    (he : starEach (e :: es) X.env = (false, eval e X.env) :: starEach es X.env := by rfl) (hpl : (backTo pos (starEach es X.env)).any (·.1) = false := by rfl) : DE X (.Call (.Name x p) (e :: es) [] pos) (dCB rd ts) :=
  ⟨fun G H σ τ W Q r0 q => semE.of (pe_callB hc hg hm hv paSem hn hdb he hpl) (ha.then r0 q fun ds vs G1 H1 r1 x1 k1 q1 => hd G1 H1 ds vs Q _ r1.sim k1 (fun _ _ z => z.up x1) q1)⟩
theorem de_ct (hc : CallR X (.type T) r) (hd : CallD X.K r rd) (hm : X.mg x = none) (hv : bootBuiltins x = some (.type T)) (ha : DA X (e :: es) ts) (hg : Gl X x := by rfl) (hn : x ≠ "__name__" := by decide) (hdb : (x == ("__debug__" : Str)) = false := by decide)
    (he : starEach (e :: es) X.env = (false, eval e X.env) :: starEach es X.env := by rfl) (hpl : (backTo pos (starEach es X.env)).any (·.1) = false := by rfl) : DE X (.Call (.Name x p) (e :: es) [] pos) (dCB rd ts) :=
  ⟨fun G H σ τ W Q r0 q => semE.of (pe_callTy hc hg hm hv paSem hn hdb he hpl) (ha.then r0 q fun ds vs G1 H1 r1 x1 k1 q1 => hd G1 H1 ds vs Q _ r1.sim k1 (fun _ _ z => z.up x1) q1)⟩
end
theorem one_of {K : PySem.W.Frag} {H : Hp} {d : D} {vs : List V} (h : Rps K H [d] vs) : ∃ v, vs = [v] ∧ Rp K H d v := by
  obtain ⟨v, r, rfl, h1, h2⟩ := h
  cases h2
  exact ⟨v, rfl, h1⟩
theorem two_of {K : PySem.W.Frag} {H : Hp} {d e : D} {vs : List V} (h : Rps K H [d, e] vs) : ∃ v w, vs = [v, w] ∧ Rp K H d v ∧ Rp K H e w := by
  obtain ⟨v, r, rfl, h1, h2⟩ := h
  obtain ⟨w, rfl, h3⟩ := one_of h2
  exact ⟨v, w, rfl, h1, h3⟩

def lenD (G : HD) : D → Option Nat
  | .str x => if x.length ≤ sizeLine then some x.length else none
  | .tup ds => some ds.length
  | .kl ds => some ds.length
  | .kc ds => some ds.length
  | .ref a => match G a with
    | some (.lst ds) => some ds.length
    | some (.dK l) => some l.length
    | _ => none
  | _ => none
def rLen : List D → HD → Post → Prop := fun ds G Q => match ds with
  | [d] => match lenD G d with
    | some n => Q (.int n) G
    | none => False
  | _ => False
theorem cd_len (K : PySem.W.Frag) : CallD K (fun xs H Q => (∃ x n, xs = [x] ∧ LenV K x H n ∧ Q (.int n) H) ∨ (∃ a kvs, xs = [V.ref a] ∧ H a = some (.dK kvs) ∧ Q (.int kvs.length) H)) rLen := fun G H ds vs Q Q' s k f q => by
  unfold rLen at q
  split at q
  · rename_i d
    obtain ⟨v, rfl, kd⟩ := one_of k
    split at q
    · rename_i n hn
      have fin : Q' (.int n) H := f _ _ (.of (d := .int n) rfl s .refl q)
      cases d with
      | str x =>
        cases kd
        simp only [lenD] at hn
        split at hn
        · rename_i z; cases hn; exact .inl ⟨_, _, rfl, ⟨z, rfl⟩, fin⟩
        · cases hn
      | tup es =>
        obtain ⟨a, ws, rfl, t, r⟩ := kd
        cases hn
        exact .inl ⟨_, _, rfl, .inr ⟨ws, t, r.length.symm⟩, fin⟩
      | kl es =>
        obtain ⟨a, ws, rfl, t, r⟩ := Rp.lst (ds := es) s kd rfl
        cases hn
        exact .inl ⟨_, _, rfl, .inl ⟨ws, t, r.length.symm⟩, fin⟩
      | kc es =>
        obtain ⟨a, ws, rfl, t, r⟩ := Rp.lst (ds := es) s kd rfl
        cases hn
        exact .inl ⟨_, _, rfl, .inl ⟨ws, t, r.length.symm⟩, fin⟩
      | exc _ _ _ => cases hn
      | emp => cases hn
      | ref a =>
        cases kd
        simp only [lenD] at hn
        split at hn
        · rename_i es eg
          cases hn
          obtain ⟨ws, e1, r⟩ := s.lst eg
          exact .inl ⟨_, _, rfl, .inl ⟨ws, .of e1, r.length.symm⟩, fin⟩
        · rename_i l eg
          cases hn
          obtain ⟨m, e1, r⟩ := s.dK eg
          exact .inr ⟨a, m, rfl, e1, by rw [r.length]; exact fin⟩
        · cases hn
      | non => cases hn
      | bl _ => cases hn
      | int _ => cases hn
      | ty _ => cases hn
    · exact q.elim
  · exact q.elim
/-- max, min of two ints -/
def rMax2 : List D → HD → Post → Prop := fun ds G Q => match ds with
  | [.int i, .int j] => Q (.int (if j > i then j else i)) G
  | [d] => match asL G d with
    | some es => match asInts es with
      | some ns => 0 < ns.length ∧ ∀ m, m ∈ ns → (∀ y, y ∈ ns → y ≤ m) → Q (.int m) G
      | none => False
    | none => False
  | _ => False
def rMin2 : List D → HD → Post → Prop := fun ds G Q => match ds with
  | [.int i, .int j] => Q (.int (if j < i then j else i)) G
  | [d] => match asL G d with
    | some es => match asInts es with
      | some ns => 0 < ns.length ∧ ∀ m, m ∈ ns → (∀ y, y ∈ ns → m ≤ y) → Q (.int m) G
      | none => False
    | none => False
  | _ => False
theorem intsL {K : PySem.W.Frag} {G : HD} {H : Hp} {d : D} {v : V} {es : List D} {ns : List Int} (s : Sim K G H) (k : Rp K H d v) (h : asL G d = some es) (h2 : asInts es = some ns) : ∃ a, v = .ref a ∧ SqL K H a (ns.map V.int) := by
  obtain ⟨a, vs, rfl, t, r⟩ := k.lst s h
  obtain rfl := asInts_eq h2
  obtain rfl := r.ints
  exact ⟨a, rfl, t⟩
theorem cd_max (K : PySem.W.Frag) : CallD K (fun xs H Q => (∃ i j, xs = [.int i, .int j] ∧ Q (.int (if j > i then j else i)) H) ∨ L2.rMax K xs H Q) rMax2 := fun G H ds vs Q Q' s k f q => by
  unfold rMax2 at q
  split at q
  · obtain ⟨v, w, rfl, h1, h2⟩ := two_of k
    cases h1; cases h2
    exact .inl ⟨_, _, rfl, f _ _ (.of (d := .int _) rfl s .refl q)⟩
  · obtain ⟨v, rfl, kd⟩ := one_of k
    split at q
    · rename_i es e1
      split at q
      · rename_i ns e2
        obtain ⟨a, rfl, t⟩ := intsL s kd e1 e2
        exact .inr ⟨a, ns, rfl, t, q.1, fun m h1 h2 => f _ _ (.of (d := .int m) rfl s .refl (q.2 m h1 h2))⟩
      · exact q.elim
    · exact q.elim
  · exact q.elim
theorem cd_min (K : PySem.W.Frag) : CallD K (fun xs H Q => (∃ i j, xs = [.int i, .int j] ∧ Q (.int (if j < i then j else i)) H) ∨ L2.rMin K xs H Q) rMin2 := fun G H ds vs Q Q' s k f q => by
  unfold rMin2 at q
  split at q
  · obtain ⟨v, w, rfl, h1, h2⟩ := two_of k
    cases h1; cases h2
    exact .inl ⟨_, _, rfl, f _ _ (.of (d := .int _) rfl s .refl q)⟩
  · obtain ⟨v, rfl, kd⟩ := one_of k
    split at q
    · rename_i es e1
      split at q
      · rename_i ns e2
        obtain ⟨a, rfl, t⟩ := intsL s kd e1 e2
        exact .inr ⟨a, ns, rfl, t, q.1, fun m h1 h2 => f _ _ (.of (d := .int m) rfl s .refl (q.2 m h1 h2))⟩
      · exact q.elim
    · exact q.elim
  · exact q.elim
def rAbs : List D → HD → Post → Prop := fun ds G Q => match ds with
  | [.int i] => Q (.int (if i < 0 then -i else i)) G
  | _ => False
def rInt : List D → HD → Post → Prop := fun ds G Q => match ds with
  | [.int i] => Q (.int i) G
  | [.bl b] => Q (.int (if b then 1 else 0)) G
  | _ => False
theorem cd_int (K : PySem.W.Frag) : CallD K (fun xs H Q => (∃ i, xs = [.int i] ∧ Q (.int i) H) ∨ ∃ k, xs = [.bl k] ∧ Q (.int (if k then 1 else 0)) H) rInt := fun G H ds vs Q Q' s k f q => by
  unfold rInt at q
  split at q
  · obtain ⟨v, rfl, kd⟩ := one_of k
    cases kd
    exact .inl ⟨_, rfl, f _ _ (.of (d := .int _) rfl s .refl q)⟩
  · obtain ⟨v, rfl, kd⟩ := one_of k
    cases kd
    exact .inr ⟨_, rfl, f _ _ (.of (d := .int _) rfl s .refl q)⟩
  · exact q.elim
def rTuple : List D → HD → Post → Prop := fun ds G Q => match ds with
  | [d] => match asQ G d with
    | some es => Q (.tup es) G
    | none => False
  | _ => False
theorem cd_tuple (K : PySem.W.Frag) : CallD K (fun xs H Q => ∃ p ys, xs = [.ref p] ∧ ((SqL K H p ys ∧ ∀ l, H l = none → Q (.ref l) (upd H l (.tup ys))) ∨ (SqT K H p ys ∧ Q (.ref p) H))) rTuple := fun G H ds vs Q Q' s k f q => by
  unfold rTuple at q
  split at q
  · obtain ⟨v, rfl, kd⟩ := one_of k
    split at q
    · rename_i es e1
      obtain ⟨a, ws, rfl, t, r⟩ := kd.seq s e1
      rcases t with t | t
      · exact ⟨a, ws, rfl, .inl ⟨t, newT.fin s r f q⟩⟩
      · exact ⟨a, ws, rfl, .inr ⟨t, f _ _ (.of (d := .tup es) ⟨a, ws, rfl, t, r⟩ s .refl q)⟩⟩
    · exact q.elim
  · exact q.elim
def asBls : List D → Option (List Bool)
  | [] => some []
  | .bl i :: r => (asBls r).map (i :: ·)
  | _ :: _ => none
theorem asBls_eq : ∀ {ds : List D} {ns : List Bool}, asBls ds = some ns → ds = ns.map D.bl
  | [], _, h => by cases h; rfl
  | .bl i :: r, ns, h => by
    simp only [asBls, Option.map_eq_some_iff] at h
    obtain ⟨ms, e, rfl⟩ := h
    rw [asBls_eq e]; rfl
  | .non :: _, _, h => by cases h
  | .int _ :: _, _, h => by cases h
  | .str _ :: _, _, h => by cases h
  | .ty _ :: _, _, h => by cases h
  | .ref _ :: _, _, h => by cases h
  | .tup _ :: _, _, h => by cases h
  | .kl _ :: _, _, h => by cases h
  | .kc _ :: _, _, h => by cases h
  | .exc _ _ _ :: _, _, h => by cases h
  | .emp :: _, _, h => by cases h
theorem asBls_map : ∀ ns : List Bool, asBls (ns.map D.bl) = some ns
  | [] => rfl
  | n :: ns => by show (asBls (ns.map D.bl)).map (n :: ·) = _; rw [asBls_map ns]; rfl
def rAllD (p : List Bool → Bool) : List D → HD → Post → Prop := fun ds G Q => match ds with
  | [d] => match asL G d with
    | some es => match asBls es with
      | some bs => Q (.bl (p bs)) G
      | none => False
    | none => False
  | _ => False
theorem cd_all (K : PySem.W.Frag) : CallD K (L2.rAll K) (rAllD fun bs => bs.all id) := fun G H ds vs Q Q' s k f q => by
  unfold rAllD at q
  split at q
  · obtain ⟨v, rfl, kd⟩ := one_of k
    split at q
    · rename_i es e1
      split at q
      · rename_i ns e2
        obtain ⟨a, vs, rfl, t, r⟩ := kd.lst s e1
        obtain rfl := asBls_eq e2
        obtain rfl := r.bls
        exact ⟨a, ns, rfl, t, f _ _ (.of (d := .bl _) rfl s .refl q)⟩
      · exact q.elim
    · exact q.elim
  · exact q.elim

/-! isinstance -/
/-- a datum's type: a built-in one by its name, or an own class -/
def tyD (G : HD) : D → Option (String ⊕ Addr)
  | .non => some (.inl "NoneType")
  | .bl _ => some (.inl "bool")
  | .int _ => some (.inl "int")
  | .str _ => some (.inl "str")
  | .tup _ => some (.inl "tuple")
  | .kl _ => some (.inl "list")
  | .kc _ => some (.inl "list")
  | .exc _ _ _ => none
  | .emp => none
  | .ty _ => none
  | .ref a => match G a with
    | some (.lst _) => some (.inl "list")
    | some (.dK _) => some (.inl "dict")
    | some (.dT _) => some (.inl "dict")
    | some (.ins C _) => some (.inr C)
    | _ => none
def tyV2 : String ⊕ Addr → Value
  | .inl n => .type n
  | .inr C => .ref C
/-- isinstance between built-in types -/
def isiB (a b : String) : Option Bool :=
  if a ∈ ["NoneType", "bool", "int", "str", "tuple", "list", "dict"] ∧ b ∈ ["bool", "int", "str", "tuple", "list", "dict"] then some (a == b || (a == "bool" && b == "int")) else none
theorem isiB_ok {a b : String} {r : Bool} (h : isiB a b = some r) : kitB a b = some r := by
  unfold isiB at h
  split at h
  · rename_i z
    obtain ⟨z1, z2⟩ := z
    cases h
    simp only [List.mem_cons, List.not_mem_nil, or_false] at z1 z2
    rcases z1 with rfl | rfl | rfl | rfl | rfl | rfl | rfl <;> rcases z2 with rfl | rfl | rfl | rfl | rfl | rfl <;> decide +kernel
  · cases h
/-- what an own class must have, to be asked for -/
def InsOk (K : PySem.W.Frag) (C : Addr) : Prop := Cls K C ∧ PySem.W.findIn K (.ref C) "__class__" = some (some (.builtin "object.__class__")) ∧
  PySem.W.specialIn K (.builtin "object.__class__") "__get__" = some (some (.builtin "getset_descriptor.__get__")) ∧ PySem.W.takesIn K (.builtin "object.__class__") = some true ∧ PySem.W.mroIn K C (.type "object") = some true
def InsO (K : PySem.W.Frag) : String ⊕ Addr → Prop
  | .inl _ => True
  | .inr C => InsOk K C
/-- ic a c b: a thing of the type a is (b) an instance of c -/
def IsiOk (K : PySem.W.Frag) (a c : String ⊕ Addr) (b : Bool) : Prop := InsO K a ∧ PySem.W.kitOne K (tyV2 a) (tyV2 c) = some b
def rIsiD (ic : String ⊕ Addr → String ⊕ Addr → Bool → Prop) : List D → HD → Post → Prop := fun ds G Q => match ds with
  | [d, .ty n] => match tyD G d with
    | some (.inl a) => match isiB a n with
      | some b => Q (.bl b) G
      | none => False
    | some (.inr C) => ∃ b, ic (.inr C) (.inl n) b ∧ Q (.bl b) G
    | none => False
  | [d, .ref c] => match tyD G d with
    | some t => ∃ b, ic t (.inr c) b ∧ Q (.bl b) G
    | none => False
  | _ => False
theorem tyD_ok {K : PySem.W.Frag} {G : HD} {H : Hp} {d : D} {v : V} {t : String ⊕ Addr} (s : Sim K G H) (k : Rp K H d v) (h : tyD G d = some t) (hi : InsO K t) : TyX K H v (tyV2 t) := by
  cases d with
  | non => cases h; cases k; exact .base .non
  | bl b => cases h; cases k; exact .base (.bl b)
  | int b => cases h; cases k; exact .base (.int b)
  | str b => cases h; cases k; exact .base (.str b)
  | ty _ => cases h
  | tup ds =>
    cases h
    obtain ⟨a, vs, rfl, t, r⟩ := k
    rcases t with (t | ⟨o, t⟩) | ⟨o, its, n, t1, t2, _⟩
    · exact .base (.tup t)
    · exact .fTuple t
    · exact .kTuple t1 t2
  | kl ds =>
    cases h
    obtain ⟨a, vs, rfl, ⟨o, t⟩, r⟩ := k
    exact .base (.frz t)
  | kc ds =>
    cases h
    obtain ⟨a, vs, rfl, t, r⟩ := k
    rcases t with ⟨o, t⟩ | ⟨o, its, n, t1, t2, _⟩
    · exact .base (.frz t)
    · exact .kList t1 t2
  | exc _ _ _ => cases h
  | emp => cases h
  | ref a =>
    cases k
    simp only [tyD] at h
    split at h
    · rename_i ds e
      cases h
      obtain ⟨vs, e1, _⟩ := s.lst e
      exact .base (.lst e1)
    · rename_i ds e
      cases h
      obtain ⟨vs, e1, _⟩ := s.dK e
      exact .base (.dK e1)
    · rename_i ds e
      cases h
      obtain ⟨vs, e1, _⟩ := s.dT e
      exact .base (.dT e1)
    · rename_i C fs e
      cases h
      obtain ⟨dx, l, e1, _⟩ := s.ins e
      obtain ⟨h1, h2, h3, h4, h5⟩ := hi
      exact .base (.ins e1 h1 h2 h3 h4 h5)
    · cases h
theorem cd_isi {K : PySem.W.Frag} {ic : String ⊕ Addr → String ⊕ Addr → Bool → Prop} (hic : ∀ a c b, ic a c b → IsiOk K a c b) : CallD K (rIsi K) (rIsiD ic) := fun G H ds vs Q Q' s k f q => by
  unfold rIsiD at q
  split at q
  · rename_i d n
    obtain ⟨v, w, rfl, h1, h2⟩ := two_of k
    cases h2
    split at q
    · rename_i a e
      split at q
      · rename_i b hb
        exact ⟨v, .ty n, _, _, b, rfl, .ty n, tyD_ok s h1 e trivial, kit_ty (isiB_ok hb), f _ _ (.of (d := .bl b) rfl s .refl q)⟩
      · exact q.elim
    · rename_i C e
      obtain ⟨b, hb, q⟩ := q
      obtain ⟨z1, z2⟩ := hic _ _ _ hb
      exact ⟨v, .ty n, _, _, b, rfl, .ty n, tyD_ok s h1 e z1, z2, f _ _ (.of (d := .bl b) rfl s .refl q)⟩
    · exact q.elim
  · rename_i d c
    obtain ⟨v, w, rfl, h1, h2⟩ := two_of k
    cases h2
    split at q
    · rename_i t e
      obtain ⟨b, hb, q⟩ := q
      obtain ⟨z1, z2⟩ := hic _ _ _ hb
      exact ⟨v, .ref c, _, _, b, rfl, .own c, tyD_ok s h1 e z1, z2, f _ _ (.of (d := .bl b) rfl s .refl q)⟩
    · exact q.elim
  · exact q.elim

/-! o[i] = e, a list -/
def rSetD : D → D → D → HD → (HD → Prop) → Prop := fun o i v G Q => match o, i with
  | .ref a, .int k => match G a with
    | some (.lst xs) => match ixN xs.length k with
      | some j => Q (put G a (.lst (xs.set j v)))
      | none => False
    | _ => False
  | _, _ => False
def sSub (to ti te : TD) (rd : D → D → D → HD → (HD → Prop) → Prop) : TDS := fun W D σ G => te W σ G fun v G1 => to W σ G1 fun o G2 => ti W σ G2 fun i G3 => rd o i v G3 fun G4 => D.nx σ G4
section
variable {X : Cx} {o i e : Expr} {to ti te : TD} {pos pos' : Pos}
def SetD (K : PySem.W.Frag) (r : TSet) (rd : D → D → D → HD → (HD → Prop) → Prop) : Prop :=
  ∀ (G : HD) (H : Hp) (o i v : D) (x y z : V) (Q : HD → Prop) (Q' : Hp → Prop), Sim K G H → Rp K H o x → Rp K H i y → Rp K H v z → (∀ G' H', Sim K G' H' → Ext G H G' H' → Q G' → Q' H') → rd o i v G Q → r x y z H Q'
theorem sd_list (K : PySem.W.Frag) : SetD K rSetL rSetD := fun G H o i v x y z Q Q' s k1 k2 k3 f q => by
  unfold rSetD at q
  split at q
  · rename_i a k
    cases k1; cases k2
    split at q
    · rename_i xs e
      split at q
      · rename_i j hj
        obtain ⟨vs, e1, r⟩ := s.lst e
        exact ⟨a, vs, k, j, rfl, rfl, e1, by rw [r.length]; exact hj, f _ _ (s.wr (m := .lst (xs.set j v)) (o := .lst (vs.set j z)) e ⟨_, rfl, r.set k3⟩) (.wr e) q⟩
      · exact q.elim
    · exact q.elim
  · exact q.elim
theorem ds_sub {r : TSet} {rd : D → D → D → HD → (HD → Prop) → Prop} (hp : PSet X r) (hd : SetD X.K r rd) (ho : DE X o to) (hi : DE X i ti) (he : DE X e te)
    (ha : ∀ v, assign (.Subscript o i pos') X.env v = (do
      let ov ← holding [v] (eval o X.env)
      let iv ← holding [v, ov] (eval i X.env)
      standAt pos'
      holding [v, ov, iv] (setItem ov iv v)
      release [v, ov, iv] []) := by intro _; rfl)
    (hs : swapsWithSole [.Subscript o i pos'] e pos.line X.env = pure false := by rfl) (hw : swappedStores [.Subscript o i pos'] e X.env = pure none := by rfl) (h1 : (assignEach [.Subscript o i pos'] X.env).map (·.2) = [assign (.Subscript o i pos') X.env] := by rfl) :
    DS X (.Assign [.Subscript o i pos'] e pos) (sSub to ti te rd) :=
  ⟨fun G H σ τ W D r0 q => semS.of (ps_asg peSem (pg_sub peSem peSem hp ha) hs hw h1) (he.then r0 q fun v z G1 H1 r1 x1 k1 q1 => ho.then r1 q1 fun d x G2 H2 r2 x2 k2 q2 => hi.then r2 q2 fun c y G3 H3 r3 x3 k3 q3 =>
    hd G3 H3 d c v x y z _ _ r3.sim (k2.ext r2.sim x3 _ _) k3 (k1.ext r1.sim (x2.trans x3) _ _) (fun G4 H4 s4 x4 q4 => ⟨σ, G4, r3.slots.ext r3.sim x4 _ _, s4, ((x1.trans x2).trans x3).trans x4, q4⟩) q3)⟩
end

/-! x += e, o.f += e -/
def dCmpA (g : Int → Int → Int) : D → D → HD → Post → Prop := fun d e G Q => match d, e with
  | .int i, .int j => Q (.int (g i j)) G
  | _, _ => False
def sFldG (ok : Addr → Str → Prop) (f : Str) (g : Int → Int → Int) (to tv : TD) : TDS := fun W D σ G => to W σ G fun d G1 => match d with
  | .ref a => match G1 a with
    | some (.ins C fs) => ok C f ∧ match fs.lookup f with
      | some (.int i) => tv W σ G1 fun v G2 => match v with
        | .int j => match G2 a with
          | some (.ins C2 fs2) => C2 = C ∧ fs2.length < 1000 ∧ D.nx σ (put G2 a (.ins C2 (putD f (.int (g i j)) fs2)))
          | _ => False
        | _ => False
      | _ => False
    | _ => False
  | _ => False
def sAug (i : Nat) (rd : D → D → HD → Post → Prop) (te : TD) : TDS := fun W D σ G => match σ[i]? with
  | some (some d) => te W σ G fun e G1 => rd d e G1 fun z G2 => D.nx (σ.set i (some z)) G2
  | _ => False
section
variable {X : Cx} {e o : Expr} {te to : TD} {pos pos' : Pos}
end
end DL

namespace DL
open PySem PySem.Spec L2
open PyProof.Rows hiding St

/-! ### bundles: a def of the module, a method, a class to be made, as callers want them -/
structure DefK (P : Program) (w : World) (K : PySem.W.Frag) (mg : Str → Option Value) (base : Heap) (k : Nat) (x : Str) (sp : SpD) (dds : List D) : Prop where
  ex : ∃ (f : Addr) (fd : FuncData) (ps : List Str) (dvs : List V) (ds : List Value), FnK P w K mg base k f fd ps sp ∧ mg x = some (.ref f) ∧ PySem.W.keepIn K (.ref f) = true ∧ Binds K fd ps ds ∧ Vals dvs ds ∧ Dfl K dds dvs ∧ ∀ ds G E Q, sp ds G E Q → ds.length = ps.length
structure MetK (P : Program) (w : World) (K : PySem.W.Frag) (mg : Str → Option Value) (base : Heap) (k : Nat) (m : Str) (C : Addr) (sp : SpD) (dds : List D) : Prop where
  ex : ∃ (f : Addr) (fd : FuncData) (ps : List Str) (dvs : List V) (ds : List Value), Cls K C ∧ Meth K C m f ∧ FnK P w K mg base k f fd ps sp ∧ Binds K fd ps ds ∧ Vals dvs ds ∧ Dfl K dds dvs ∧ ∀ ds G E Q, sp ds G E Q → ds.length = ps.length
structure MakK (P : Program) (w : World) (K : PySem.W.Frag) (mg : Str → Option Value) (base : Heap) (k : Nat) (x : Str) (C : Addr) (sp : SpD) (dds : List D) : Prop where
  ex : ∃ (f : Addr) (fd : FuncData) (ps : List Str) (dvs : List V) (ds : List Value), Mk K C f ∧ FnK P w K mg base k f fd ps sp ∧ mg x = some (.ref C) ∧ Binds K fd ps ds ∧ Vals dvs ds ∧ Dfl K dds dvs ∧ ∀ ds G E Q, sp ds G E Q → ds.length = ps.length
section
variable {X : Cx} {k j : Nat} {C : Addr} {sp : SpD} {x m : Str} {p pos apos : Pos} {e o : Expr} {es : List Expr} {ta : TD} {ts : TDA} {dds : List D}
theorem dk_call (F : DefK X.prog X.w X.K X.mg X.base k x sp dds) (hr : RoomG j X.A) (ha : DA X (e :: es) ts) (hj : k ≤ j := by decide) (hg : Gl X x := by rfl) (hdb : (x == ("__debug__" : Str)) = false := by decide) (he : starEach (e :: es) X.env = (false, eval e X.env) :: starEach es X.env := by rfl) (hpl : (backTo pos (starEach es X.env)).any (·.1) = false := by rfl) :
    DE X (.Call (.Name x p) (e :: es) [] pos) (dCall sp dds ts) := by
  obtain ⟨f, fd, ps, dvs, ds, h1, h2, h3, h4, h5, h6, h7⟩ := F.ex
  exact de_call h1 (hr.mono hj) h2 h3 h4 h5 h6 ha h7 hg hdb he hpl
theorem dk_call0 (F : DefK X.prog X.w X.K X.mg X.base k x sp dds) (hr : RoomG j X.A) (hj : k ≤ j := by decide) (hg : Gl X x := by rfl) (hdb : (x == ("__debug__" : Str)) = false := by decide) :
    DE X (.Call (.Name x p) [] [] pos) (dCall sp dds dNil) := by
  obtain ⟨f, fd, ps, dvs, ds, h1, h2, h3, h4, h5, h6, h7⟩ := F.ex
  exact de_call0 h1 (hr.mono hj) h2 h3 h4 h5 h6 h7 hg hdb
theorem MetK.to {q : Addr × SpD} (F : MetK X.prog X.w X.K X.mg X.base k m q.1 q.2 dds) (hj : k ≤ j) : MethK X j m q.1 q.2 dds := by
  obtain ⟨f, fd, ps, dvs, ds, h1, h2, h3, h4, h5, h6, h7⟩ := F.ex
  exact ⟨f, fd, ps, dvs, ds, h1, h2, h3.mono hj, h4, h5, h6, h7⟩
/-- the classes that have the method -/
inductive Mets (X : Cx) (j : Nat) (m : Str) (dds : List D) : List (Addr × SpD) → Prop where
  | nil : Mets X j m dds []
  | cons {q : Addr × SpD} {l : List (Addr × SpD)} (h : MethK X j m q.1 q.2 dds) (t : Mets X j m dds l) : Mets X j m dds (q :: l)
theorem Mets.all {l : List (Addr × SpD)} (h : Mets X j m dds l) : ∀ q ∈ l, MethK X j m q.1 q.2 dds := by
  induction h with
  | nil => intro q hq; cases hq
  | cons h _ ih =>
    intro q hq
    rcases List.mem_cons.mp hq with rfl | hq
    · exact h
    · exact ih q hq
end

/-! ### built-ins in short -/
section
variable {X : Cx} {p pos : Pos} {e : Expr} {es : List Expr} {ts : TDA}
theorem bc_len (hm : X.mg "len" = none) (ha : DA X [e] ts) (hg : Gl X "len" := by rfl) (he : starEach [e] X.env = (false, eval e X.env) :: starEach [] X.env := by rfl) : DE X (.Call (.Name "len" p) [e] [] pos) (dCB rLen ts) := de_cb (CallR.or call_len call_lenD) (cd_len X.K) hm boot_len ha hg (by decide) (by decide) he (by rfl)
theorem bc_max (hc : X.calm = true) (hm : X.mg "max" = none) (ha : DA X (e :: es) ts) (hg : Gl X "max" := by rfl) (he : starEach (e :: es) X.env = (false, eval e X.env) :: starEach es X.env := by rfl) (hpl : (backTo pos (starEach es X.env)).any (·.1) = false := by rfl) : DE X (.Call (.Name "max" p) (e :: es) [] pos) (dCB rMax2 ts) := de_cb (CallR.or (call_max2 hc) (cr_max hc)) (cd_max X.K) hm boot_max ha hg (by decide) (by decide) he hpl
theorem bc_min (hc : X.calm = true) (hm : X.mg "min" = none) (ha : DA X (e :: es) ts) (hg : Gl X "min" := by rfl) (he : starEach (e :: es) X.env = (false, eval e X.env) :: starEach es X.env := by rfl) (hpl : (backTo pos (starEach es X.env)).any (·.1) = false := by rfl) : DE X (.Call (.Name "min" p) (e :: es) [] pos) (dCB rMin2 ts) := de_cb (CallR.or (call_min2 hc) (cr_min hc)) (cd_min X.K) hm boot_min ha hg (by decide) (by decide) he hpl
theorem bc_all (hc : X.calm = true) (hm : X.mg "all" = none) (ha : DA X [e] ts) (hg : Gl X "all" := by rfl) (he : starEach [e] X.env = (false, eval e X.env) :: starEach [] X.env := by rfl) : DE X (.Call (.Name "all" p) [e] [] pos) (dCB (rAllD fun bs => bs.all id) ts) := de_cb (cr_all hc) (cd_all X.K) hm boot_all ha hg (by decide) (by decide) he (by rfl)
theorem bc_int (hm : X.mg "int" = none) (ha : DA X [e] ts) (hg : Gl X "int" := by rfl) (he : starEach [e] X.env = (false, eval e X.env) :: starEach [] X.env := by rfl) : DE X (.Call (.Name "int" p) [e] [] pos) (dCB rInt ts) := de_ct call_int1 (cd_int X.K) hm (by decide +kernel) ha hg (by decide) (by decide) he (by rfl)
theorem bc_tuple (hm : X.mg "tuple" = none) (ha : DA X [e] ts) (hg : Gl X "tuple" := by rfl) (he : starEach [e] X.env = (false, eval e X.env) :: starEach [] X.env := by rfl) : DE X (.Call (.Name "tuple" p) [e] [] pos) (dCB rTuple ts) := de_ct call_tuple_of (cd_tuple X.K) hm (by decide +kernel) ha hg (by decide) (by decide) he (by rfl)
end

/-! ### slices -/
abbrev TDO := DW → DSt → HD → (Option Int → HD → Prop) → Prop
section
variable (X : Cx)
def semO (e : Option Expr) : TO := fun σ H Q => ∀ (pins : List (Addr × Obj)) (s : Shared), Inv X pins σ H s → wpAny (model X.prog X.w) X.A (evalPart e X.env) (fun u s' => ∃ o H', Inv X pins σ H' s' ∧ IsPart u o ∧ Q o H') X.xe s
end
structure DO (X : Cx) (e : Option Expr) (t : TDO) : Prop where
  run : ∀ (G : HD) (H : Hp) (σ : DSt) (τ : L2.St) (W : DW) (R : Option Int → HD → Prop) (Q : Option Int → Hp → Prop), SR X G H σ τ W → t W σ G R → (∀ o G1 H1, SR X G1 H1 σ τ W → Ext G H G1 H1 → R o G1 → Q o H1) → semO X e τ H Q
def oNone : TDO := fun _ _ G Q => Q none G
def oSome (te : TD) : TDO := fun W σ G Q => te W σ G fun d G1 => match d with
  | .int i => Q (some i) G1
  | _ => False
def cutD (xs : List D) (lo hi : Option Int) : List D := (xs.drop (HT.sIx xs.length 0 lo)).take (HT.sIx xs.length xs.length hi - HT.sIx xs.length 0 lo)
def rSliceD : D → Option Int → Option Int → HD → Post → Prop := fun d lo hi G Q => match d with
  | .tup xs => Q (.tup (cutD xs lo hi)) G
  | .str z => z.length ≤ sizeLine ∧ Q (.str (cutS z lo hi)) G
  | d => match asL G d with
    | some xs => newL G (cutD xs lo hi) Q
    | none => False
def dSlice (te : TD) (tl th : TDO) : TD := fun W σ G Q => te W σ G fun d G1 => tl W σ G1 fun lo G2 => th W σ G2 fun hi G3 => rSliceD d lo hi G3 Q
theorem Rps.cut {K : PySem.W.Frag} {H : Hp} {ds : List D} {vs : List V} (r : Rps K H ds vs) (lo hi : Option Int) : Rps K H (cutD ds lo hi) (cutV vs lo hi) := by
  unfold cutD cutV
  rw [r.length]
  exact (r.drop _).take _
section
variable {X : Cx} {e : Expr} {te : TD} {lo hi : Option Expr} {tl th : TDO} {p2 pos : Pos}
theorem do_none : DO X none oNone := ⟨fun G H σ τ W R Q r q f pins s I => po_none.run pins s τ H Q I (f _ _ _ r .refl q)⟩
theorem do_some (h : DE X e te) : DO X (some e) (oSome te) := ⟨fun G H σ τ W R Q r q f pins s I => (po_some peSem).run pins s τ H Q I (h.then r q fun d v G1 H1 r1 x1 k1 q1 => by
  try dsimp only at q1
  split at q1
  · cases k1; exact ⟨_, rfl, f _ _ _ r1 x1 q1⟩
  · exact q1.elim)⟩
theorem poSem {e : Option Expr} : PO X e (semO X e) := ⟨fun pins s _ _ _ I h => h pins s I⟩
def rSlU (K : PySem.W.Frag) : V → Option Int → Option Int → Hp → VK → Prop := fun x lo hi H Q => rSlL K x lo hi H Q ∨ rSlA K x lo hi H Q ∨ rSlS x lo hi H Q
end

/-! ### the law's own call -/
/-- the law's promise: a script of at most 63 ints is handed in, True comes out -/
def lawSp (K : PySem.W.Frag) : Sp := fun vs H Q _ => ∃ (a : Addr) (ns : List Int), vs = [.ref a] ∧ ns.length ≤ 63 ∧ Only H ∧ SqL K H a (ns.map V.int) ∧ ∀ H', Q (.bl true) H'
theorem law_lift {K : PySem.W.Frag} {sp : SpD} (h : ∀ ns : List Int, ns.length ≤ 63 → sp [.kc (ns.map D.int)] (fun _ => none) (fun d _ => d = .bl true) fun _ _ _ => False) : ∀ vs H Q E, lawSp K vs H Q E → liftSp K 1 sp vs H Q E := fun vs H Q E ⟨a, ns, e, hl, ho, hs, q⟩ => by
  subst e
  refine ⟨rfl, [.kc (ns.map D.int)], fun _ => none, _, _, ⟨_, _, rfl, ⟨a, ns.map V.int, rfl, ?_, Rps.ofInts ns⟩, rfl⟩, (fun a o e => by cases e), h ns hl, fun v H' ⟨d, G', k, _, _, e⟩ => ?_, fun c dd H' ⟨_, _, _, _, _, z⟩ => z.elim⟩
  · rcases hs with (hs | ⟨o, hs⟩) | hs
    · rcases ho a with z | ⟨o, xs, z⟩
      · rw [z] at hs; cases hs
      · rw [z] at hs; cases hs
    · exact .inl ⟨o, hs⟩
    · exact .inr hs
  · subst e
    cases k
    exact q H'
end DL

namespace DL
open PySem PySem.Spec L2
open PyProof.Rows hiding St
/-! ### what the top holds, told by values -/
inductive ScaF : Value → D → Prop where
  | non : ScaF .none .non
  | bl {b : Bool} : ScaF (.bool b) (.bl b)
  | int {i : Int} {t : Tok} : ScaF (.int i t) (.int i)
  | str {x : Str} {t : Tok} : ScaF (.str x t) (.str x)
inductive ScasF : List Value → List D → Prop where
  | nil : ScasF [] []
  | cons {u : Value} {d : D} {us : List Value} {ds : List D} (h : ScaF u d) (t : ScasF us ds) : ScasF (u :: us) (d :: ds)
theorem ScaF.to {K : PySem.W.Frag} {u : Value} {d : D} (h : ScaF u d) : ∃ v, RelV v u ∧ ∀ H, Rp K H d v := by
  cases h with
  | non => exact ⟨.non, rfl, fun _ => rfl⟩
  | bl => exact ⟨.bl _, rfl, fun _ => rfl⟩
  | int => exact ⟨.int _, ⟨_, rfl⟩, fun _ => rfl⟩
  | str => exact ⟨.str _, ⟨_, rfl⟩, fun _ => rfl⟩
theorem ScasF.to {K : PySem.W.Frag} {us : List Value} {ds : List D} (h : ScasF us ds) : ∃ vs, Vals vs us ∧ ∀ H, Rps K H ds vs := by
  induction h with
  | nil => exact ⟨[], .nil, fun _ => rfl⟩
  | cons h _ ih =>
    obtain ⟨v, r, p⟩ := h.to (K := K)
    obtain ⟨vs, rs, ps⟩ := ih
    exact ⟨v :: vs, .cons r rs, fun H => ⟨v, vs, rfl, p H, ps H⟩⟩
def ConstF (K : PySem.W.Frag) (mg : Str → Option Value) (x : Str) (d : D) : Prop := ∃ (v : V) (u : Value), mg x = some u ∧ RelV v u ∧ ∀ H, Rp K H d v
theorem ScaF.cf {K : PySem.W.Frag} {mg : Str → Option Value} {x : Str} {u : Value} {d : D} (h : ScaF u d) (m : mg x = some u) : ConstF K mg x d :=
  let ⟨v, r, p⟩ := h.to (K := K)
  ⟨v, u, m, r, p⟩
theorem ConstF.de {X : Cx} {x : Str} {d : D} {pos : Pos} (h : ConstF X.K X.mg x d) (hg : Gl X x) (hd : (x == ("__debug__" : Str)) = false := by decide) : DE X (.Name x pos) (dC d) :=
  let ⟨_, _, m, r, p⟩ := h
  de_glob hg m r p hd
/-- a tuple of the top -/
structure TupF (K : PySem.W.Frag) (o : Obj) (ds : List D) : Prop where
  ex : ∃ (its : Array Value) (n : Nat), o.cls = .type "tuple" ∧ o.data = .seq its n ∧ its.size ≤ sizeLine ∧ ScasF its.toList ds
theorem TupF.rp {K : PySem.W.Frag} {o : Obj} {ds : List D} {a : Addr} (h : TupF K o ds) (l : K.lookup a = some o) : ∀ H, Rp K H (.tup ds) (.ref a) := fun H =>
  let ⟨its, n, h1, h2, h3, h4⟩ := h.ex
  let ⟨vs, r, p⟩ := h4.to (K := K)
  ⟨a, vs, rfl, .inr ⟨o, its, n, l, h1, h2, h3, r⟩, p H⟩
inductive ValF (K : PySem.W.Frag) : Value → D → Prop where
  | sca {u : Value} {d : D} (h : ScaF u d) : ValF K u d
  | tup {a : Addr} {o : Obj} {ds : List D} (l : K.lookup a = some o) (t : TupF K o ds) : ValF K (.ref a) (.tup ds)
inductive ValsF (K : PySem.W.Frag) : List Value → List D → Prop where
  | nil : ValsF K [] []
  | cons {u : Value} {d : D} {us : List Value} {ds : List D} (h : ValF K u d) (t : ValsF K us ds) : ValsF K (u :: us) (d :: ds)
theorem ValF.to {K : PySem.W.Frag} {u : Value} {d : D} (h : ValF K u d) : ∃ v, RelV v u ∧ ∀ H, Rp K H d v := by
  cases h with
  | sca h => exact h.to
  | tup l t => exact ⟨.ref _, rfl, t.rp l⟩
theorem ValsF.to {K : PySem.W.Frag} {us : List Value} {ds : List D} (h : ValsF K us ds) : ∃ vs, Vals vs us ∧ ∀ H, Rps K H ds vs := by
  induction h with
  | nil => exact ⟨[], .nil, fun _ => rfl⟩
  | cons h _ ih =>
    obtain ⟨v, r, p⟩ := h.to
    obtain ⟨vs, rs, ps⟩ := ih
    exact ⟨v :: vs, .cons r rs, fun H => ⟨v, vs, rfl, p H, ps H⟩⟩
/-- a def of the top, a method -/
def DefF (K : PySem.W.Frag) (mg : Str → Option Value) (x : Str) (st : Stmt) (dds : List D) : Prop := ∃ (f : Addr) (fd : FuncData) (dvs : List V), Dfl K dds dvs ∧ L2.FunD K x x (defArgs st) (defBody st) (defScope st) dvs [] f fd ∧ mg x = some (.ref f)
def MetF (K : PySem.W.Frag) (C : Addr) (m qual : Str) (st : Stmt) (dds : List D) : Prop := ∃ (f : Addr) (fd : FuncData) (dvs : List V), Dfl K dds dvs ∧ L2.FunD K m qual (defArgs st) (defBody st) (defScope st) dvs [] f fd ∧ Meth K C m f
theorem Dfl.drop {K : PySem.W.Frag} {dds : List D} {dvs : List V} (h : Dfl K dds dvs) (j : Nat) : Dfl K (dds.drop j) (dvs.drop j) := ⟨fun H => (h.rel H).drop j⟩
section
variable {K : PySem.W.Frag} {x qual : Str} {pa : Arguments} {bd : List Stmt} {sc : Scope} {f T : Addr} {oc kV dc pm cd ct : Value} {od an : Option Addr} {sl : Array (Option Value)} {o : Obj} {ds : List D}
theorem fun_nd (l : K.lookup f = some ⟨oc, od, .func (PySem.W.fnOf x qual pa bd sc .none kV dc pm an cd ct), sl⟩) (c : PySem.W.codeIn K cd qual = true) (k : PySem.W.keepIn K (.ref f) = true) :
    ∃ dvs : List V, Dfl K [] dvs ∧ L2.FunD K x qual pa bd sc dvs [] f (PySem.W.fnOf x qual pa bd sc .none kV dc pm an cd ct) :=
  ⟨[], .nil, ⟨⟨oc, od, .none, kV, dc, pm, an, cd, ct, sl, rfl, l, c, .inl ⟨rfl, rfl⟩, .inl rfl⟩, k⟩⟩
/-- a def's defaults -/
structure DflF (K : PySem.W.Frag) (o : Obj) (ds : List D) : Prop where mk0 ::
  ex : ∃ (its : List Value) (n : Nat), o.data = .seq its.toArray n ∧ ValsF K its ds ∧ ds ≠ []
theorem DflF.mk (h : DflF K o ds) (m : K.lookup T = some o) (l : K.lookup f = some ⟨oc, od, .func (PySem.W.fnOf x qual pa bd sc (.ref T) kV dc pm an cd ct), sl⟩) (c : PySem.W.codeIn K cd qual = true) (k : PySem.W.keepIn K (.ref f) = true) :
    ∃ dvs : List V, Dfl K ds dvs ∧ L2.FunD K x qual pa bd sc dvs [] f (PySem.W.fnOf x qual pa bd sc (.ref T) kV dc pm an cd ct) := by
  obtain ⟨its, n, h1, h2, h3⟩ := h.ex
  obtain ⟨vs, r, p⟩ := h2.to
  refine ⟨vs, ⟨p⟩, ⟨⟨oc, od, .ref T, kV, dc, pm, an, cd, ct, sl, rfl, l, c, .inr ⟨?_, T, o, its, n, rfl, m, h1, r⟩, .inl rfl⟩, k⟩⟩
  rintro rfl
  have := (p (fun _ => none)).length
  cases ds with
  | nil => exact h3 rfl
  | cons _ _ => cases this
end
end DL

namespace DL
open PySem PySem.Spec L2
open PyProof.Rows hiding St
/-! ### for the plain laws -/
theorem fg_in {Q : Post} {d : D} {G : HD} (h : Q d G) : fg Q d G := ⟨G, Le.refl _, h⟩
theorem fg_le {Q : Post} {d : D} {G G0 : HD} (l : Le G0 G) (h : Q d G0) : fg Q d G := ⟨G0, l, h⟩
theorem newL_in {G : HD} {ds : List D} {Q : Post} (h : ∀ (p : Addr) (G' : HD), G p = none → G' = put G p (.lst ds) → G' p = some (.lst ds) → Le G G' → (∀ b, b ≠ p → G' b = G b) → Q (.ref p) G') : newL G ds Q :=
  fun p hp => h p _ hp rfl put_same (Le.newB hp) fun _ hb => put_ne hb
/-- a loop keeps I -/
theorem forD_inv {ok : HD → Prop} {step : D → (DSt → HD → Prop) → DSt → HD → Prop} {fin : DSt → HD → Prop} (I : List D → DSt → HD → Prop) (hok : ∀ l σ G, I l σ G → ok G)
    (hs : ∀ x l k σ G, I (x :: l) σ G → (∀ σ' G', I l σ' G' → k σ' G') → step x k σ G) (hf : ∀ σ G, I [] σ G → fin σ G) : ∀ (l : List D) (σ : DSt) (G : HD), I l σ G → forD ok step fin l σ G
  | [], σ, G, h => ⟨G, Le.refl _, hok _ _ _ h, hf _ _ h⟩
  | x :: l, σ, G, h => ⟨G, Le.refl _, hok _ _ _ h, hs x l _ σ G h fun σ' G' h' => forD_inv I hok hs hf l σ' G' h'⟩
/-- a loop over n ints from lo -/
theorem forR_inv {ok : HD → Prop} {step : D → (DSt → HD → Prop) → DSt → HD → Prop} {fin : DSt → HD → Prop} (I : Nat → DSt → HD → Prop) {lo : Int} {n : Nat} (hok : ∀ G, ok G)
    (hs : ∀ i k σ G, i < n → I i σ G → (∀ σ' G', I (i + 1) σ' G' → k σ' G') → step (.int (lo + (i : Nat))) k σ G) (hf : ∀ σ G, I n σ G → fin σ G) {σ : DSt} {G : HD} (h : I 0 σ G) : forD ok step fin (intsD lo n) σ G := by
  refine forD_inv (fun l σ G => ∃ i, i ≤ n ∧ l = (intsD lo n).drop i ∧ I i σ G) (fun _ _ G _ => hok G) (fun x l k σ G ⟨i, hi, e, h⟩ hk => ?_) (fun σ G ⟨i, hi, e, h⟩ => ?_) _ _ _ ⟨0, Nat.zero_le _, rfl, h⟩
  · by_cases hin : i < n
    · rw [drop_get (ints_get hin)] at e
      injection e with e1 e2
      subst e1
      exact hs i k σ G hin h fun σ' G' h' => hk σ' G' ⟨i + 1, hin, e2, h'⟩
    · rw [List.drop_eq_nil_of_le (by rw [ints_len]; omega)] at e; cases e
  · have : i = n := by
      have := congrArg List.length e
      rw [List.length_drop, ints_len] at this
      simp at this; omega
    subst this; exact hf _ _ h
theorem ixN_nat {n k : Nat} (h : k < n) : ixN n (k : Int) = some k := by
  unfold ixN
  rw [if_pos (by omega), if_pos (by omega)]; rfl
theorem atI_nat {α : Type} {l : List α} {k : Nat} {x : α} (h : l[k]? = some x) : atI l (k : Int) = some x := by
  unfold atI
  rw [ixN_nat (List.getElem?_eq_some_iff.mp h).1]; exact h
theorem atI_of {α : Type} {l : List α} {i : Int} (h0 : 0 ≤ i) : atI l i = l[i.toNat]? := by
  obtain ⟨k, rfl⟩ := Int.eq_ofNat_of_zero_le h0
  cases h : l[((k : Int)).toNat]? with
  | some x => exact atI_nat h
  | none =>
    unfold atI
    rw [show ixN l.length (k : Int) = none from by
      unfold ixN
      have := List.getElem?_eq_none_iff.mp h
      rw [if_pos (by omega), if_neg (by omega)]]
    rfl
theorem atI0 {α : Type} {x : α} {l : List α} : atI (x :: l) 0 = some x := atI_nat (k := 0) rfl
theorem atI1 {α : Type} {x y : α} {l : List α} : atI (x :: y :: l) 1 = some y := atI_nat (k := 1) rfl
theorem atI2 {α : Type} {x y z : α} {l : List α} : atI (x :: y :: z :: l) 2 = some z := atI_nat (k := 2) rfl
theorem atI3 {α : Type} {x y z u : α} {l : List α} : atI (x :: y :: z :: u :: l) 3 = some u := atI_nat (k := 3) rfl
theorem atI4 {α : Type} {x y z u v : α} {l : List α} : atI (x :: y :: z :: u :: v :: l) 4 = some v := atI_nat (k := 4) rfl
theorem ixN3a : ixN 3 0 = some 0 := rfl
theorem ixN3b : ixN 3 1 = some 1 := rfl
theorem ixN3c : ixN 3 2 = some 2 := rfl
theorem pick {α : Type} {l : List α} {r : Int} (h0 : 0 ≤ r) (h1 : r < l.length) : ∃ x, x ∈ l ∧ atI l r = some x := by
  rw [atI_of h0]
  have : r.toNat < l.length := by omega
  exact ⟨l[r.toNat], List.getElem_mem _, List.getElem?_eq_getElem _⟩
theorem eqO_int {G : HD} {i j : Int} : eqO G (.int i) (.int j) = some (decide (i = j)) := by
  simp only [eqO, pyD]
  congr 1
/-! sizes -/
theorem mul_l {i j : Int} (h1 : -(2 ^ 64) < i) (h2 : i < 2 ^ 64) : MulOk i j := .inl (.inl ⟨h1, h2⟩)
theorem mul_r {i j : Int} (h1 : -(2 ^ 64) < j) (h2 : j < 2 ^ 64) : MulOk i j := .inl (.inr ⟨h1, h2⟩)
theorem div_s {i j : Int} (h : 0 < j) (h1 : j < 2 ^ 64) : CDivW i j := wide_div (b := 64) h (by omega) (by omega) (by omega)
end DL

namespace DL
open PySem PySem.Spec L2
open PyProof.Rows hiding St
/-! ### readings at known data (for simp) -/
section
variable {G : HD} {Q : Post} {i j : Int} {a : Addr} {ds xs ys : List D} {b : Bool} {x y : Str} {d : D} {p : Int → Int → Bool} {W : DW} {σ : DSt} {E : DEnds}
def optP (o : Option D) (G : HD) (Q : Post) : Prop := match o with
  | some v => Q v G
  | none => False
theorem r_opt {v : D} : optP (some v) G Q = Q v G := propext ⟨fun h => h, fun h => h⟩
def pickD (o : Option (List D)) (i : Int) (G : HD) (Q : Post) : Prop := match o with
  | some ds => optP (atI ds i) G Q
  | none => False
theorem r_pick : pickD (some ds) i G Q = optP (atI ds i) G Q := propext ⟨fun h => h, fun h => h⟩
theorem r_add : dAdd (.int i) (.int j) G Q = Q (.int (i + j)) G := propext ⟨fun h => h, fun h => h⟩
theorem r_addT : dAdd (.tup xs) (.tup ys) G Q = (xs.length + ys.length ≤ sizeLine ∧ Q (.tup (xs ++ ys)) G) := propext ⟨fun h => h, fun h => h⟩
def addL (u v : Option MO) (G : HD) (Q : Post) : Prop := match u, v with
  | some (.lst xs), some (.lst ys) => xs.length + ys.length ≤ sizeLine ∧ newL G (xs ++ ys) Q
  | _, _ => False
theorem r_addR {c : Addr} : dAdd (.ref a) (.ref c) G Q = addL (G a) (G c) G Q := propext ⟨fun h => h, fun h => h⟩
theorem r_addL : addL (some (.lst xs)) (some (.lst ys)) G Q = (xs.length + ys.length ≤ sizeLine ∧ newL G (xs ++ ys) Q) := propext ⟨fun h => h, fun h => h⟩
theorem r_sub : dSub (.int i) (.int j) G Q = Q (.int (i - j)) G := propext ⟨fun h => h, fun h => h⟩
theorem r_mul : dMul (.int i) (.int j) G Q = (MulOk i j ∧ Q (.int (i * j)) G) := propext ⟨fun h => h, fun h => h⟩
theorem r_div : dDiv (.int i) (.int j) G Q = (CDivW i j ∧ Q (.int (i / j)) G) := propext ⟨fun h => h, fun h => h⟩
theorem r_mod : dMod (.int i) (.int j) G Q = (0 < j ∧ Q (.int (i % j)) G) := propext ⟨fun h => h, fun h => h⟩
theorem r_pow : dPow (.int i) (.int j) G Q = (CPow i j ∧ Q (.int (i ^ j.toNat)) G) := propext ⟨fun h => h, fun h => h⟩
theorem r_cmp : dCmpI p (.int i) (.int j) G Q = Q (.bl (p i j)) G := propext ⟨fun h => h, fun h => h⟩
theorem r_lt : dLtD (.int i) (.int j) G Q = Q (.bl (decide (i < j))) G := propext ⟨fun h => h, fun h => h⟩
theorem r_neg : dNeg (.int i) G Q = Q (.int (-i)) G := propext ⟨fun h => h, fun h => h⟩
theorem r_isN {n : Bool} : dIsN n d .non G Q = Q (.bl (if n then !isNon d else isNon d)) G := propext ⟨fun h => h, fun h => h⟩
theorem r_isNr : isNon (.ref a) = false := rfl
theorem r_isNi : isNon (.int i) = false := rfl
theorem r_isNn : isNon .non = true := rfl
theorem r_isNt : isNon (.tup xs) = false := rfl
theorem r_eqI {n : Bool} : dEq n (.int i) (.int j) G Q = Q (.bl (if n then !decide (i = j) else decide (i = j))) G := by simp only [dEq, eqO_int]
theorem r_ixP : (match asQ G d with | some ds => (match atI ds i with | some v => Q v G | none => False) | none => False) = pickD (asQ G d) i G Q := propext ⟨fun h => h, fun h => h⟩
theorem r_ixT : dIx (.tup xs) (.int i) G Q = pickD (some xs) i G Q := r_ixP (d := .tup xs)
theorem r_ixK : dIx (.kl xs) (.int i) G Q = pickD (some xs) i G Q := r_ixP (d := .kl xs)
theorem r_ixC : dIx (.kc xs) (.int i) G Q = pickD (some xs) i G Q := r_ixP (d := .kc xs)
def lstOf : Option MO → Option (List D)
  | some (.lst ds) => some ds
  | _ => none
theorem r_lstOf : lstOf (some (.lst xs)) = some xs := rfl
theorem asL_ref : asL G (.ref a) = lstOf (G a) := by
  simp only [asL]; unfold lstOf; cases G a with
  | none => rfl
  | some o => cases o <;> rfl
theorem r_ixR : dIx (.ref a) (.int i) G Q = pickD (lstOf (G a)) i G Q := (r_ixP (d := .ref a)).trans (by rw [show asQ G (.ref a) = asL G (.ref a) from rfl, asL_ref])
theorem r_truB : truD G (.bl b) = some b := rfl
theorem r_truI : truD G (.int i) = some (i != 0) := rfl
theorem r_truT : truD G (.tup xs) = some (!xs.isEmpty) := rfl
theorem r_truN : truD G .non = some false := rfl
def truO : Option MO → Option Bool
  | some (.lst ds) => some (!ds.isEmpty)
  | some (.dK l) => some (!l.isEmpty)
  | _ => none
theorem r_truR : truD G (.ref a) = truO (G a) := by
  simp only [truD]; unfold truO; cases G a with
  | none => rfl
  | some o => cases o <;> rfl
theorem r_truL : truO (some (.lst xs)) = some (!xs.isEmpty) := rfl
theorem r_max : rMax2 [.int i, .int j] G Q = Q (.int (if j > i then j else i)) G := propext ⟨fun h => h, fun h => h⟩
theorem r_min : rMin2 [.int i, .int j] G Q = Q (.int (if j < i then j else i)) G := propext ⟨fun h => h, fun h => h⟩
theorem r_intB : rInt [.bl b] G Q = Q (.int (if b then 1 else 0)) G := propext ⟨fun h => h, fun h => h⟩
theorem r_intI : rInt [.int i] G Q = Q (.int i) G := propext ⟨fun h => h, fun h => h⟩
theorem r_abs : rAbs [.int i] G Q = Q (.int (if i < 0 then -i else i)) G := propext ⟨fun h => h, fun h => h⟩
theorem r_lenT : rLen [.tup xs] G Q = Q (.int xs.length) G := propext ⟨fun h => h, fun h => h⟩
theorem r_lenK : rLen [.kl xs] G Q = Q (.int xs.length) G := propext ⟨fun h => h, fun h => h⟩
theorem r_lenC : rLen [.kc xs] G Q = Q (.int xs.length) G := propext ⟨fun h => h, fun h => h⟩
def lenO : Option MO → Option Nat
  | some (.lst ds) => some ds.length
  | some (.dK l) => some l.length
  | _ => none
def lenP (o : Option Nat) (G : HD) (Q : Post) : Prop := match o with
  | some n => Q (.int n) G
  | none => False
theorem r_lenR : rLen [.ref a] G Q = lenP (lenO (G a)) G Q := by
  simp only [rLen, lenD]; unfold lenP lenO; cases G a with
  | none => rfl
  | some o => cases o <;> rfl
theorem r_lenL : lenP (lenO (some (.lst xs))) G Q = Q (.int xs.length) G := propext ⟨fun h => h, fun h => h⟩
def natP (o : Option Nat) (Q : Nat → Prop) : Prop := match o with
  | some n => Q n
  | none => False
theorem r_nat {Q : Nat → Prop} {n : Nat} : natP (some n) Q = Q n := propext ⟨fun h => h, fun h => h⟩
def setP (o : Option MO) (a : Addr) (i : Int) (v : D) (G : HD) (Q : HD → Prop) : Prop := match o with
  | some (.lst xs) => natP (ixN xs.length i) fun j => Q (put G a (.lst (xs.set j v)))
  | _ => False
theorem r_set {Q : HD → Prop} {v : D} : rSetD (.ref a) (.int i) v G Q = setP (G a) a i v G Q := propext ⟨fun h => h, fun h => h⟩
theorem r_setL {Q : HD → Prop} {v : D} : setP (some (.lst xs)) a i v G Q = natP (ixN xs.length i) fun j => Q (put G a (.lst (xs.set j v))) := propext ⟨fun h => h, fun h => h⟩
theorem r_isI {ic : String ⊕ Addr → String ⊕ Addr → Bool → Prop} : rIsiD ic [.int i, .ty "int"] G Q = Q (.bl true) G := propext ⟨fun h => h, fun h => h⟩
theorem r_isB {ic : String ⊕ Addr → String ⊕ Addr → Bool → Prop} : rIsiD ic [.int i, .ty "bool"] G Q = Q (.bl false) G := propext ⟨fun h => h, fun h => h⟩
theorem r_isT {ic : String ⊕ Addr → String ⊕ Addr → Bool → Prop} : rIsiD ic [.tup xs, .ty "tuple"] G Q = Q (.bl true) G := propext ⟨fun h => h, fun h => h⟩
end
section
variable {G : HD} {Q : Post} {a : Addr} {ds : List D} {lo hi : Option Int}
theorem r_sliT : rSliceD (.tup ds) lo hi G Q = Q (.tup (cutD ds lo hi)) G := propext ⟨fun h => h, fun h => h⟩
theorem r_sliK : rSliceD (.kl ds) lo hi G Q = newL G (cutD ds lo hi) Q := propext ⟨fun h => h, fun h => h⟩
theorem r_sliC : rSliceD (.kc ds) lo hi G Q = newL G (cutD ds lo hi) Q := propext ⟨fun h => h, fun h => h⟩
def sliP (o : Option (List D)) (lo hi : Option Int) (G : HD) (Q : Post) : Prop := match o with
  | some xs => newL G (cutD xs lo hi) Q
  | none => False
theorem r_sliR : rSliceD (.ref a) lo hi G Q = sliP (lstOf (G a)) lo hi G Q := by
  rw [← asL_ref]; rfl
theorem r_sliL : sliP (some ds) lo hi G Q = newL G (cutD ds lo hi) Q := propext ⟨fun h => h, fun h => h⟩
end
/-- an instance at a -/
def fldP (o : Option MO) (ok : Addr → Str → Prop) (f : Str) (G : HD) (Q : Post) : Prop := match o with
  | some (.ins C fs) => ok C f ∧ optP (fs.lookup f) G Q
  | _ => False
def fldD (ok : Addr → Str → Prop) (f : Str) (d : D) (G : HD) (Q : Post) : Prop := match d with
  | .ref a => fldP (G a) ok f G Q
  | _ => False
section
variable {G : HD} {Q : Post} {a C : Addr} {ok : Addr → Str → Prop} {f m : Str} {fs : List (Str × D)} {v : D}
theorem r_fld {ta : TD} {W : DW} {σ : DSt} : dFld ok f ta W σ G Q = ta W σ G fun d G1 => fldD ok f d G1 Q := propext ⟨fun h => h, fun h => h⟩
theorem r_fldR : fldD ok f (.ref a) G Q = fldP (G a) ok f G Q := propext ⟨fun h => h, fun h => h⟩
theorem r_fldI : fldP (some (.ins C fs)) ok f G Q = (ok C f ∧ optP (fs.lookup f) G Q) := propext ⟨fun h => h, fun h => h⟩
end
/-- the store of a field -/
def sfdP (o : Option MO) (ok : Addr → Str → Prop) (f : Str) (a : Addr) (v : D) (G : HD) (Q : HD → Prop) : Prop := match o with
  | some (.ins C fs) => ok C f ∧ fs.length < 1000 ∧ Q (put G a (.ins C (putD f v fs)))
  | _ => False
def sfdD (ok : Addr → Str → Prop) (f : Str) (d v : D) (G : HD) (Q : HD → Prop) : Prop := match d with
  | .ref a => sfdP (G a) ok f a v G Q
  | _ => False
section
variable {G : HD} {Q : HD → Prop} {a C : Addr} {ok : Addr → Str → Prop} {f m : Str} {fs : List (Str × D)} {v : D}
theorem r_sfd {to tv : TD} {W : DW} {D : DEnds} {σ : DSt} : sFldD ok f to tv W D σ G = tv W σ G fun v G1 => to W σ G1 fun d G2 => sfdD ok f d v G2 fun G3 => D.nx σ G3 := propext ⟨fun h => h, fun h => h⟩
theorem r_sfdR : sfdD ok f (.ref a) v G Q = sfdP (G a) ok f a v G Q := propext ⟨fun h => h, fun h => h⟩
theorem r_sfdI : sfdP (some (.ins C fs)) ok f a v G Q = (ok C f ∧ fs.length < 1000 ∧ Q (put G a (.ins C (putD f v fs)))) := propext ⟨fun h => h, fun h => h⟩
end
/-- a method's call -/
def metP (o : Option MO) (tab : List (Addr × SpD)) (m : Str) (k : SpD → Prop) : Prop := match o with
  | some (.ins C fs) => fs.lookup m = none ∧ ∃ q ∈ tab, q.1 = C ∧ k q.2
  | _ => False
def metD (tab : List (Addr × SpD)) (m : Str) (d : D) (G : HD) (k : SpD → Prop) : Prop := match d with
  | .ref a => metP (G a) tab m k
  | _ => False
section
variable {G : HD} {Q : Post} {a C : Addr} {m : Str} {tab : List (Addr × SpD)} {dds : List D} {fs : List (Str × D)} {k : SpD → Prop} {sp : SpD}
theorem r_met {ta : TD} {ts : TDA} {W : DW} {σ : DSt} : dMeth tab m dds ta ts W σ G Q = ta W σ G fun d G1 => metD tab m d G1 fun sp => ts W σ G1 fun ds G2 => sp (d :: (ds ++ dds)) G2 Q fun c fs G' => W c fs σ G' := by
  unfold dMeth
  congr 1
  funext d G1
  cases d <;> rfl
theorem r_metR : metD tab m (.ref a) G k = metP (G a) tab m k := propext ⟨fun h => h, fun h => h⟩
theorem r_metI : metP (some (.ins C fs)) tab m k = (fs.lookup m = none ∧ ∃ q ∈ tab, q.1 = C ∧ k q.2) := propext ⟨fun h => h, fun h => h⟩
theorem r_met1 : metP (some (.ins C fs)) [(C, sp)] m k = (fs.lookup m = none ∧ k sp) := by
  rw [r_metI]
  apply propext; constructor
  · rintro ⟨h, q, hq, h1, h2⟩
    rw [List.mem_singleton] at hq; subst hq; exact ⟨h, h2⟩
  · rintro ⟨h, h2⟩; exact ⟨h, _, List.mem_singleton.mpr rfl, rfl, h2⟩
end
/-- a field changed by +=, -= -/
def augP (ok : Addr → Str → Prop) (f : Str) (g : Int → Int → Int) (d : D) (tv : HD → Post → Prop) (G1 : HD) (k : HD → Prop) : Prop := match d with
  | .ref a => match G1 a with
    | some (.ins C fs) => ok C f ∧ match fs.lookup f with
      | some (.int i) => tv G1 fun v G2 => match v with
        | .int j => match G2 a with
          | some (.ins C2 fs2) => C2 = C ∧ fs2.length < 1000 ∧ k (put G2 a (.ins C2 (putD f (.int (g i j)) fs2)))
          | _ => False
        | _ => False
      | _ => False
    | _ => False
  | _ => False
/-! ### readings' own choices, behind names -/
def varP (o : Option (Option D)) (G : HD) (Q : Post) : Prop := match o with
  | some (some d) => Q d G
  | _ => False
def blP (d : D) (k : Bool → Prop) : Prop := match d with
  | .bl b => k b
  | _ => False
def boolP (o : Option Bool) (k : Bool → Prop) : Prop := match o with
  | some b => k b
  | none => False
def unpP (d : D) (n : Nat) (k : List D → Prop) : Prop := match d with
  | .tup ds => ds.length = n ∧ k ds
  | _ => False
def parP (ds : List D) (k : D → D → Prop) : Prop := match ds with
  | [d, e] => k d e
  | _ => False
section
variable {G : HD} {Q : Post} {W : DW} {σ : DSt} {i j : Nat} {d : D} {b : Bool} {k : Bool → Prop} {D : DEnds} {ta tb : TD} {rd : DL.D → DL.D → HD → Post → Prop} {QB : Bool → HD → Prop} {t : DL.D → TD} {ts : TDA}
theorem r_var : dVar i W σ G Q = varP σ[i]? G Q := propext ⟨fun h => h, fun h => h⟩
theorem r_varS : varP (some (some d)) G Q = Q d G := propext ⟨fun h => h, fun h => h⟩
theorem r_blP : blP (.bl b) k = k b := propext ⟨fun h => h, fun h => h⟩
theorem r_boolP : boolP (some b) k = k b := propext ⟨fun h => h, fun h => h⟩
theorem r_unpP {n : Nat} {ds : List DL.D} {k : List DL.D → Prop} : unpP (.tup ds) n k = (ds.length = n ∧ k ds) := propext ⟨fun h => h, fun h => h⟩
theorem r_parP {e : DL.D} {k : DL.D → DL.D → Prop} : parP [d, e] k = k d e := propext ⟨fun h => h, fun h => h⟩
theorem r_test : dTest ta W σ G QB = ta W σ G fun d G1 => blP d fun b => QB b G1 := propext ⟨fun h => h, fun h => h⟩
theorem r_tru : dTru ta W σ G QB = ta W σ G fun d G1 => boolP (truD G1 d) fun b => QB b G1 := propext ⟨fun h => h, fun h => h⟩
theorem r_andV : dAndV ta tb W σ G Q = ta W σ G fun d G1 => boolP (truD G1 d) fun b => if b = true then tb W σ G1 Q else Q d G1 := propext ⟨fun h => h, fun h => h⟩
theorem r_orV : dOrV ta tb W σ G Q = ta W σ G fun d G1 => boolP (truD G1 d) fun b => if b = true then Q d G1 else tb W σ G1 Q := propext ⟨fun h => h, fun h => h⟩
theorem r_notV : dNotV ta W σ G Q = ta W σ G fun d G1 => boolP (truD G1 d) fun b => Q (.bl (!b)) G1 := propext ⟨fun h => h, fun h => h⟩
theorem r_last : dLast rd tb d W σ G Q = tb W σ G fun e G1 => rd d e G1 fun z G2 => blP z fun b => Q (.bl b) G2 := propext ⟨fun h => h, fun h => h⟩
theorem r_link : dLink rd tb t d W σ G Q = tb W σ G fun e G1 => rd d e G1 fun z G2 => blP z fun b => if b = true then t e W σ G2 Q else Q (.bl false) G2 := propext ⟨fun h => h, fun h => h⟩
theorem r_chn : dChn ta t W σ G Q = ta W σ G fun d G1 => t d W σ G1 Q := propext ⟨fun h => h, fun h => h⟩
theorem r_chnT : dChnT ta t W σ G QB = ta W σ G fun d G1 => t d W σ G1 fun z G2 => blP z fun b => QB b G2 := propext ⟨fun h => h, fun h => h⟩
theorem r_unp' {is : List Nat} : sUnp is ta W D σ G = ta W σ G fun d G1 => unpP d is.length fun ds => D.nx (setAll is ds σ) G1 := propext ⟨fun h => h, fun h => h⟩
theorem r_par : sPar i j ts W D σ G = ts W σ G fun ds G1 => parP ds fun d e => D.nx ((σ.set i (some d)).set j (some e)) G1 := by
  unfold sPar
  congr 1
theorem r_set0 : setAll [] [] σ = σ := rfl
theorem r_set1 {is : List Nat} {ds : List DL.D} : setAll (i :: is) (d :: ds) σ = setAll is ds (σ.set i (some d)) := rfl
/-! the frames of statements and values -/
theorem q_seq {t u : TDS} : sSeq t u W D σ G = t W { D with nx := fun σ' G' => u W D σ' G' } σ G := propext ⟨fun h => h, fun h => h⟩
theorem q_set : sSet i ta W D σ G = ta W σ G fun d G1 => D.nx (σ.set i (some d)) G1 := propext ⟨fun h => h, fun h => h⟩
theorem q_ret : sRet ta W D σ G = ta W σ G D.rt := propext ⟨fun h => h, fun h => h⟩
theorem q_retN : sRetN W D σ G = D.rt .non G := propext ⟨fun h => h, fun h => h⟩
theorem q_drop : sDrop ta W D σ G = ta W σ G fun _ G1 => D.nx σ G1 := propext ⟨fun h => h, fun h => h⟩
theorem q_if {c : TDT} {t u : TDS} : sIf c t u W D σ G = c W σ G fun b G1 => if b = true then t W D σ G1 else u W D σ G1 := propext ⟨fun h => h, fun h => h⟩
theorem q_next : sNext W D σ G = D.nx σ G := propext ⟨fun h => h, fun h => h⟩
theorem q_brk : sBrk W D σ G = D.bk σ G := propext ⟨fun h => h, fun h => h⟩
theorem q_cont : sCont W D σ G = D.ct σ G := propext ⟨fun h => h, fun h => h⟩
theorem q_op {u : TD} : dOp rd ta u W σ G Q = ta W σ G fun d G1 => u W σ G1 fun e G2 => rd d e G2 Q := propext ⟨fun h => h, fun h => h⟩
theorem q_un {r1 : DL.D → HD → Post → Prop} : dUn r1 ta W σ G Q = ta W σ G fun d G1 => r1 d G1 Q := propext ⟨fun h => h, fun h => h⟩
theorem q_c : dC d W σ G Q = Q d G := propext ⟨fun h => h, fun h => h⟩
theorem q_cons {R : List DL.D → HD → Prop} : dCons ta ts W σ G R = ta W σ G fun d G1 => ts W σ G1 fun ds G2 => R (d :: ds) G2 := propext ⟨fun h => h, fun h => h⟩
theorem q_nil {R : List DL.D → HD → Prop} : dNil W σ G R = R [] G := propext ⟨fun h => h, fun h => h⟩
theorem q_cb {r : List DL.D → HD → Post → Prop} : dCB r ts W σ G Q = ts W σ G fun ds G1 => r ds G1 Q := propext ⟨fun h => h, fun h => h⟩
theorem q_tup : dTup ts W σ G Q = ts W σ G fun ds G1 => ds.length ≤ 1000 ∧ Q (.tup ds) G1 := propext ⟨fun h => h, fun h => h⟩
theorem q_lst : dLst ts W σ G Q = ts W σ G fun ds G1 => ds.length ≤ 1000 ∧ newL G1 ds Q := propext ⟨fun h => h, fun h => h⟩
theorem q_call {sp : SpD} {dds : List DL.D} : dCall sp dds ts W σ G Q = ts W σ G fun ds G1 => sp (ds ++ dds) G1 Q fun c fs G' => W c fs σ G' := propext ⟨fun h => h, fun h => h⟩
theorem q_sub {to ti te : TD} {r : DL.D → DL.D → DL.D → HD → (HD → Prop) → Prop} : sSub to ti te r W D σ G = te W σ G fun v G1 => to W σ G1 fun o G2 => ti W σ G2 fun i G3 => r o i v G3 fun G4 => D.nx σ G4 := propext ⟨fun h => h, fun h => h⟩
theorem q_not {c : TDT} : dNot c W σ G QB = c W σ G fun b G1 => QB (!b) G1 := propext ⟨fun h => h, fun h => h⟩
theorem q_and {c u : TDT} : dAnd c u W σ G QB = c W σ G fun b G1 => if b = true then u W σ G1 QB else QB false G1 := propext ⟨fun h => h, fun h => h⟩
theorem q_or {c u : TDT} : dOr c u W σ G QB = c W σ G fun b G1 => if b = true then QB true G1 else u W σ G1 QB := propext ⟨fun h => h, fun h => h⟩
theorem q_for {ti : TDI} {tg : Tgt} {u : TDS} : sFor ti tg u W D σ G = ti W σ G fun I G1 => forD I.ok (fun d k σ' G' => tg.put d σ' fun σ2 => u W { D with nx := k, ct := k, bk := D.nx } σ2 G') D.nx I.xs σ G1 := propext ⟨fun h => h, fun h => h⟩
def rng1P (ds : List DL.D) (k : Int → Prop) : Prop := match ds with
  | [.int j] => j < 2 ^ 62 ∧ -(2 ^ 62) ≤ j ∧ k j
  | _ => False
theorem r_rng1P {j : Int} {k : Int → Prop} : rng1P [.int j] k = (j < 2 ^ 62 ∧ -(2 ^ 62) ≤ j ∧ k j) := propext ⟨fun h => h, fun h => h⟩
theorem q_rng1 {R : ItD → HD → Prop} : jRng1 ts W σ G R = ts W σ G fun ds G1 => rng1P ds fun j => R ⟨intsD 0 j.toNat, fun _ => True⟩ G1 := propext ⟨fun h => h, fun h => h⟩
theorem q_if' {c : TDT} : dIf c ta tb W σ G Q = c W σ G fun b G1 => if b = true then ta W σ G1 Q else tb W σ G1 Q := propext ⟨fun h => h, fun h => h⟩
theorem q_put1 {k : DSt → Prop} : (Tgt.one i).put d σ k = k (σ.set i (some d)) := propext ⟨fun h => h, fun h => h⟩
theorem q_putN {is : List Nat} {ds : List DL.D} {k : DSt → Prop} : (Tgt.many is).put (.tup ds) σ k = (ds.length = is.length ∧ k (setAll is ds σ)) := propext ⟨fun h => h, fun h => h⟩
theorem q_slice {tl th : TDO} : dSlice ta tl th W σ G Q = ta W σ G fun d G1 => tl W σ G1 fun lo G2 => th W σ G2 fun hi G3 => rSliceD d lo hi G3 Q := propext ⟨fun h => h, fun h => h⟩
def intP (d : DL.D) (k : Int → Prop) : Prop := match d with
  | .int i => k i
  | _ => False
theorem r_intP {i : Int} {k : Int → Prop} : intP (.int i) k = k i := propext ⟨fun h => h, fun h => h⟩
theorem q_some {R : Option Int → HD → Prop} : oSome ta W σ G R = ta W σ G fun d G1 => intP d fun i => R (some i) G1 := propext ⟨fun h => h, fun h => h⟩
theorem q_none {R : Option Int → HD → Prop} : oNone W σ G R = R none G := propext ⟨fun h => h, fun h => h⟩
theorem q_wpf {n m : Nat} {t : TDS} {ds : List DL.D} {E : DX} : wpf n m t ds G Q E = (ds.length = n ∧ t (fun c fs _ G' => fgX E c fs G') { nx := fun _ G' => fg Q .non G', rt := fg Q } (ds.map some ++ List.replicate m none) G) := propext ⟨fun h => h, fun h => h⟩
end
end DL

namespace DL
open PySem PySem.Spec L2
open PyProof.Rows hiding St
theorem eqO_t2 {G : HD} {a b c d : Int} : eqO G (.tup [.int a, .int b]) (.tup [.int c, .int d]) = some (decide (a = c) && decide (b = d)) := by
  simp only [eqO, pyD, List.mapM_cons, List.mapM_nil]
  simp [PyData.eqv, PyData.eqvAll]
  rfl
theorem r_eqT2 {G : HD} {Q : Post} {a b c d : Int} {n : Bool} : dEq n (.tup [.int a, .int b]) (.tup [.int c, .int d]) G Q = Q (.bl (if n then !(decide (a = c) && decide (b = d)) else (decide (a = c) && decide (b = d)))) G := by simp only [dEq, eqO_t2]
/-- made anew: None must come of __init__ -/
def nonP (k : HD → Prop) : Post := fun d G => match d with
  | .non => k G
  | _ => False
theorem r_nonP {k : HD → Prop} {G : HD} : nonP k .non G = k G := propext ⟨fun h => h, fun h => h⟩
def makP (C : Addr) (sp : SpD) (ds : List D) (G : HD) (Q : Post) (E : DX) : Prop := ∀ p, G p = none → sp (.ref p :: ds) (put G p (.ins C [])) (nonP fun G2 => Q (.ref p) G2) E
theorem q_make {C : Addr} {sp : SpD} {dds : List D} {ts : TDA} {W : DW} {σ : DSt} {G : HD} {Q : Post} : dMake C sp dds ts W σ G Q = ts W σ G fun ds G1 => makP C sp (ds ++ dds) G1 Q fun c fs G' => W c fs σ G' := by
  unfold dMake makP
  congr 1
theorem q_fldg {ok : Addr → Str → Prop} {f : Str} {g : Int → Int → Int} {to tv : TD} {W : DW} {E : DEnds} {σ : DSt} {G : HD} : sFldG ok f g to tv W E σ G = to W σ G fun d G1 => augP ok f g d (fun G2 Q => tv W σ G2 Q) G1 fun G3 => E.nx σ G3 := by
  unfold sFldG augP
  congr 1
/-- what stands beside a stays -/
def LeX (a : Addr) (G G' : HD) : Prop := ∀ b o, b ≠ a → G b = some o → G' b = some o
theorem LeX.refl {a : Addr} {G : HD} : LeX a G G := fun _ _ _ h => h
theorem LeX.trans {a : Addr} {A B C : HD} (x : LeX a A B) (y : LeX a B C) : LeX a A C := fun b o n h => y b o n (x b o n h)
theorem LeX.put {a : Addr} {G : HD} {o : MO} : LeX a G (put G a o) := fun b u n h => (put_ne n).trans h
theorem LeX.of {a : Addr} {A B : HD} (x : Le A B) : LeX a A B := fun b o _ h => x b o h
theorem ixN2a : ixN 2 0 = some 0 := rfl
theorem ixN2b : ixN 2 1 = some 1 := rfl
theorem ixN1a : ixN 1 0 = some 0 := rfl
/-! Euclid -/
end DL

namespace DN
open PySem PySem.Spec PyProof.Rows PySem.SeqAt
section
variable {M : Model} {prog : Program} {w : World} {A : Around} {E : Value → Shared → Prop} {s : Shared} {K : PySem.W.Frag} {x y C f : Addr} {ox : Obj} {od : Option Obj}
end
end DN
namespace DL
open PySem PySem.Spec L2
open PyProof.Rows hiding St
section
variable {X : Cx} {k j : Nat} {C : Addr} {sp : SpD}
/-- below the body of X, no repr under way -/
structure SubG (X : Cx) (k : Nat) (A : Around) : Prop where
  room : RoomG k A
  fr : A.frames = X.A.frames
theorem takesF : Takes X (fun _ _ _ _ => False) := fun _ _ ⟨_, _, _, _, _, _, _, _, _, _, _, _, _, _, _, _, z⟩ => z.elim
theorem passF {τ : L2.St} : PassesAt (L2.CX X.prog X.w) X τ (fun _ _ _ => False) := fun pins H0 s e s' I c => takesF e s' (XE.of_call I (W := fun _ _ _ _ => False) (fun _ _ _ z => z) c)
/-- what an own == tells -/
def ownP (neg : Bool) (Q : Post) : Post := fun d G => match d with
  | .bl r => Q (.bl (if neg then !r else r)) G
  | _ => False
end
/-! ### what is gone through -/
def seqO (o : Option MO) (a : Addr) (G : HD) (R : ItD → HD → Prop) : Prop := match o with
  | some (.lst ds) => R ⟨ds, fun G => G a = some (.lst ds)⟩ G
  | _ => False
def seqP (d : D) (G : HD) (R : ItD → HD → Prop) : Prop := match d with
  | .tup ds => R ⟨ds, fun _ => True⟩ G
  | .kl ds => R ⟨ds, fun _ => True⟩ G
  | .kc ds => R ⟨ds, fun _ => True⟩ G
  | .ref a => seqO (G a) a G R
  | _ => False
section
variable {G : HD} {a : Addr} {ds : List D} {R : ItD → HD → Prop} {W : DW} {σ : DSt} {tl : TD}
theorem q_jseq : jSeq tl W σ G R = tl W σ G fun d G1 => seqP d G1 R := by
  unfold jSeq seqP
  congr 1
theorem r_seqT : seqP (.tup ds) G R = R ⟨ds, fun _ => True⟩ G := propext ⟨fun h => h, fun h => h⟩
theorem r_seqK : seqP (.kl ds) G R = R ⟨ds, fun _ => True⟩ G := propext ⟨fun h => h, fun h => h⟩
theorem r_seqC : seqP (.kc ds) G R = R ⟨ds, fun _ => True⟩ G := propext ⟨fun h => h, fun h => h⟩
theorem r_seqR : seqP (.ref a) G R = seqO (G a) a G R := propext ⟨fun h => h, fun h => h⟩
theorem r_seqL : seqO (some (.lst ds)) a G R = R ⟨ds, fun G => G a = some (.lst ds)⟩ G := propext ⟨fun h => h, fun h => h⟩
theorem q_yes {Q : Bool → HD → Prop} : dYes W σ G Q = Q true G := propext ⟨fun h => h, fun h => h⟩
theorem q_lc {ti : TDI} {t : Tgt} {dt : TDT} {te : TD} {vs : List Nat} {Q : Post} : dLc ti t dt te vs W σ G Q = ti W σ G fun I G1 => I.xs.length ≤ 1000000 ∧ lcD I.ok (fun d ky kn G' => t.put d (dwipe σ vs) fun σ2 => dt W0 σ2 G' fun b G2 => if b = true then te W0 σ2 G2 ky else kn G2) (fun acc G2 => newL G2 acc Q) I.xs [] G1 := propext ⟨fun h => h, fun h => h⟩
theorem r_ownP {n b : Bool} {Q : Post} : ownP n Q (.bl b) G = Q (.bl (if n then !b else b)) G := propext ⟨fun h => h, fun h => h⟩
end
end DL

namespace DL
open PySem PySem.Spec L2
open PyProof.Rows hiding St
/-! ### raise X('text') -/
/-- an own class without __init__ whose instances are raised -/
structure RaiseF (K : PySem.W.Frag) (mg : Str → Option Value) (x : Str) (C : Addr) : Prop where
  ex : ∃ (bmB : List Value) (B newId initId : String), ExcBaseFacts B newId initId bmB ∧ PySem.W.excIn K C bmB newId = true
  mgC : mg x = some (.ref C)
  kp : PySem.W.keepIn K (.ref C) = true
  sub : PySem.W.subIn K (.ref C) (.type "BaseException") = some true
  ty : PySem.W.typeIn K (.ref C) = some (.type "type")
def sRaise (c : Value) : TDS := fun W _ σ G => W c [] σ G
/-! ### try: .. except X: .. -/
theorem liftD_up {K : PySem.W.Frag} {G G1 : HD} {H H1 : Hp} {D : DEnds} (x : Ext G H G1 H1) : EndsLe (liftD K G1 H1 D) (liftD K G H D) :=
  ⟨fun _ _ ⟨a, b, c, d, y, f⟩ => ⟨a, b, c, d, x.trans y, f⟩, fun _ _ ⟨a, b, c, d, y, f⟩ => ⟨a, b, c, d, x.trans y, f⟩, fun _ _ ⟨a, b, c, d, y, f⟩ => ⟨a, b, c, d, x.trans y, f⟩, fun _ _ ⟨a, b, c, d, y, f⟩ => ⟨a, b, c, d, x.trans y, f⟩⟩
/-! ### xs.append(e) -/
def appO (o : Option MO) (a : Addr) (d : D) (G : HD) (Q : Post) : Prop := match o with
  | some (.lst xs) => xs.length < 1000000 ∧ Q .non (put G a (.lst (xs ++ [d])))
  | _ => False
def appP (o d : D) (G : HD) (Q : Post) : Prop := match o with
  | .ref a => appO (G a) a d G Q
  | _ => False
def lstP (o : D) (G : HD) (k : Prop) : Prop := match o with
  | .ref a => (∃ xs, G a = some (.lst xs)) ∧ k
  | _ => False
def dApp (to : TD) (ts : TDA) : TD := fun W σ G Q => to W σ G fun o G1 => lstP o G1 (ts W σ G1 fun ds G2 => match ds with
  | [d] => appP o d G2 Q
  | _ => False)
theorem de_app {X : Cx} {o e : Expr} {to : TD} {ts : TDA} {apos cpos : Pos} (ho : DE X o to) (ha : DA X [e] ts)
    (hbase : attributeBase o "append" X.env (eval o X.env) = eval o X.env := by rfl)
    (hfew : ((backTo cpos (starEach [e] X.env)).all (fun x => !x.1) && (backToKw cpos (keywordEach [] X.env)).all (fun x => x.1.isSome)
      && decide (([e] : List Expr).length + ([] : List Keyword).length + (if ([] : List Keyword).isEmpty then 0 else 1) < 30)) = true := by rfl)
    (hline : (apos.endLine == cpos.line) = true := by rfl) (hs : starEach [e] X.env = (false, eval e X.env) :: starEach [] X.env := by rfl) (hplain : (backTo cpos (starEach [] X.env)).any (·.1) = false := by rfl) :
    DE X (.Call (.Attribute o "append" apos) [e] [] cpos) (dApp to ts) := ⟨fun G H σ τ W Q r q => by
  refine semE.of (pe_bm PySem.F.plainAttrs_list PySem.F.slot_list_append PySem.F.type_list_append mt_append peSem paSem hbase hfew hline hs hplain) ?_
  refine ho.then r q fun d v G1 H1 r1 x1 k1 q1 => ?_
  unfold lstP at q1
  split at q1
  · rename_i a
    obtain ⟨⟨xs, hx⟩, q2⟩ := q1
    cases k1
    obtain ⟨o', e1, vs, rfl, rr⟩ := r1.sim _ _ hx
    refine ⟨.inl ⟨rfl, vs, SqL.of e1⟩, ha.then r1 q2 fun ds us G2 H2 r2 x2 k2 q3 => ?_⟩
    try dsimp only at q3
    split at q3
    · rename_i d
      obtain ⟨w, rfl, kd⟩ := one_of k2
      unfold appP appO at q3
      try dsimp only at q3
      split at q3
      · rename_i ys hy
        obtain ⟨h1, q4⟩ := q3
        obtain ⟨o2, e2, ws, rfl, rr2⟩ := r2.sim _ _ hy
        have hlen : ws.length < sizeLine := by
          rw [rr2.length, sizeLine_eq]; omega
        refine ⟨a, ws, w, rfl, rfl, e2, hlen, ?_⟩
        exact .of (d := .non) rfl (r2.sim.wr (m := .lst (ys ++ [d])) (o := .lst (ws ++ [w])) hy ⟨_, rfl, rr2.app (show Rps X.K H2 [d] [w] from ⟨w, [], rfl, kd, rfl⟩)⟩) ((x1.trans x2).trans (.wr hy)) q4
      · exact q3.elim
    · exact q3.elim
  · exact q1.elim⟩
/-! ### f(k = v, ..), all by names -/
section
variable (X : Cx)
def semK (kws : List Keyword) : TA := fun σ H Q => ∀ (pos : Pos) (pins : List (Addr × Obj)) (s : Shared), Inv X pins σ H s → wpAny (model X.prog X.w) X.A (evalAll ((backToKw pos (keywordEach kws X.env)).map (·.2))) (AP X pins σ Q) X.xe s
end
structure DKw (X : Cx) (kws : List Keyword) (t : TDA) : Prop where
  run : ∀ (G : HD) (H : Hp) (σ : DSt) (τ : L2.St) (W : DW) (Q : List D → HD → Prop), SR X G H σ τ W → t W σ G Q → semK X kws τ H (liftA X.K G H Q)
section
variable {X : Cx} {e : Expr} {te : TD} {t : TDA} {kws : List Keyword} {nm : Option Str} {kpos : Pos}
end
end DL

namespace DL
open PySem PySem.Spec L2
open PyProof.Rows hiding St
/-- a def called by the names of its two parameters, the second one first -/
structure SwpK (P : Program) (w : World) (K : PySem.W.Frag) (mg : Str → Option Value) (base : Heap) (k : Nat) (x : Str) (sp : SpD) (a b : Str) : Prop where
  ex : ∃ (f : Addr) (fd : FuncData), FnK P w K mg base k f fd [a, b] sp ∧ mg x = some (.ref f) ∧ PySem.W.keepIn K (.ref f) = true ∧
    ∀ (s : Shared) (u v : Value), BindsTo s fd ⟨[], [(b, u), (a, v)]⟩ [(a, v), (b, u)]
/-- {} -/
def dDic : TD := fun _ _ G Q => ∀ p, G p = none → Q (.ref p) (put G p (.dK []))
theorem exm_of {K : PySem.W.Frag} {S Y : Addr} {b : Bool} (h1 : PySem.W.subIn K (.ref S) (.type "BaseException") = some true) (h2 : PySem.W.isClsIn K S = true) (h3 : PySem.W.typeIn K (.ref S) = some (.type "type")) (h4 : PySem.W.subIn K (.ref Y) (.ref S) = some b) : PySem.W.exmOne K (.ref Y) (.ref S) = some b := by
  have z : (PySem.W.clsIn K S).isSome = true := h2
  unfold PySem.W.exmOne PySem.W.kitCls
  simp [h1, h3, h4, z]
end DL

namespace DL
open PySem PySem.Spec L2
open PyProof.Rows hiding St
/-! ### is, is not: of None, of truths -/
def dIsX (neg : Bool) : D → D → HD → Post → Prop := fun d e G Q => match d, e with
  | .bl a, .bl b => Q (.bl (if neg then !decide (a = b) else decide (a = b))) G
  | d, e => dIsN neg d e G Q
theorem od_isX {X : Cx} : OpD X.K (fun x y H Q => (y = .non ∧ Q (.bl (decide (x = .non))) H) ∨ ∃ a b, x = .bl a ∧ y = .bl b ∧ Q (.bl (decide (a = b))) H) (dIsX false) := fun G H d e x y Q Q' s k1 k2 f q => by
  unfold dIsX at q
  split at q
  · cases k1; cases k2
    exact .inr ⟨_, _, rfl, rfl, f _ _ (.of (d := .bl _) rfl s .refl q)⟩
  · exact .inl (od_isN X.K G H d e x y Q Q' s k1 k2 f q)
theorem od_isXn {X : Cx} {r : R2} (h : OpD X.K r (dIsN true)) : OpD X.K (fun x y H Q => r x y H Q ∨ ∃ a b, x = .bl a ∧ y = .bl b ∧ Q (.bl (!decide (a = b))) H) (dIsX true) := fun G H d e x y Q Q' s k1 k2 f q => by
  unfold dIsX at q
  split at q
  · cases k1; cases k2
    exact .inr ⟨_, _, rfl, rfl, f _ _ (.of (d := .bl _) rfl s .refl q)⟩
  · exact .inl (h G H d e x y Q Q' s k1 k2 f q)
theorem c_isX {X : Cx} (hu : X.A.units + 64 < cLine) : CmpR X .Is (dIsX false) := ⟨_, op_isN.or op_is_bl, od_isX⟩
theorem c_isnotX {X : Cx} (hu : X.A.units + 64 < cLine) : CmpR X .IsNot (dIsX true) := ⟨_, op_notN.or op_isnot_bl, od_isXn (od_notN X.K)⟩
theorem r_isXB {neg a b : Bool} {G : HD} {Q : Post} : dIsX neg (.bl a) (.bl b) G Q = Q (.bl (if neg then !decide (a = b) else decide (a = b))) G := propext ⟨fun h => h, fun h => h⟩
theorem r_isXN {neg : Bool} {d : D} {G : HD} {Q : Post} : dIsX neg d .non G Q = Q (.bl (if neg then !isNon d else isNon d)) G := by
  unfold dIsX
  split
  · rename_i z; cases z
  · exact r_isN
end DL

namespace DL
open PySem PySem.Spec L2
open PyProof.Rows hiding St
/-! ### dicts with keys that are ints, texts -/
def kD : D → Option Key
  | .int i => some (.inl i)
  | .str x => some (.inr x)
  | _ => none
theorem kD_rp {K : PySem.W.Frag} {H : Hp} {d : D} {k : Key} {v : V} (h : kD d = some k) (r : Rp K H d v) : v = kV k := by
  cases d with
  | int i => cases h; cases r; rfl
  | str x => cases h; cases r; rfl
  | _ => cases h
def valD : List (Key × D) → Key → Option D
  | [], _ => none
  | p :: r, k => if p.1 = k then some p.2 else valD r k
def hasD (l : List (Key × D)) (k : Key) : Bool := l.any fun p => decide (p.1 = k)
def putKD (l : List (Key × D)) (k : Key) (d : D) : List (Key × D) := if hasD l k = true then l.map (fun p => if p.1 = k then (p.1, d) else p) else l ++ [(k, d)]
section
variable {K : PySem.W.Frag} {H : Hp} {k : Key}
theorem RKV.val : ∀ {l : List (Key × D)} {m : List (Key × V)}, RKV K H l m → (valD l k = none ∧ valV m k = none) ∨ ∃ d v, valD l k = some d ∧ valV m k = some v ∧ Rp K H d v
  | [], _, h => by cases h; exact .inl ⟨rfl, rfl⟩
  | p :: r, _, h => by
    obtain ⟨v, t, rfl, h1, h2⟩ := h
    by_cases e : p.1 = k
    · exact .inr ⟨p.2, v, if_pos e, valV_pos e, h1⟩
    · have e1 : valD (p :: r) k = valD r k := if_neg e
      have e2 : valV ((p.1, v) :: t) k = valV t k := valV_neg e
      rw [e1, e2]
      exact RKV.val h2
theorem RKV.has : ∀ {l : List (Key × D)} {m : List (Key × V)}, RKV K H l m → (m.any fun p => decide (p.1 = k)) = hasD l k
  | [], _, h => by cases h; rfl
  | p :: r, _, h => by
    obtain ⟨v, t, rfl, h1, h2⟩ := h
    show (decide (p.1 = k) || t.any _) = (decide (p.1 = k) || hasD r k)
    rw [RKV.has h2]
theorem RKV.len : ∀ {l : List (Key × D)} {m : List (Key × V)}, RKV K H l m → m.length = l.length
  | [], _, h => by cases h; rfl
  | p :: r, _, h => by
    obtain ⟨v, t, rfl, h1, h2⟩ := h
    show t.length + 1 = r.length + 1
    rw [RKV.len h2]
theorem RKV.over {d : D} {v : V} (q : Rp K H d v) : ∀ {l : List (Key × D)} {m : List (Key × V)}, RKV K H l m → RKV K H (l.map fun p => if p.1 = k then (p.1, d) else p) (m.map fun p => if p.1 = k then (p.1, v) else p)
  | [], _, h => by cases h; exact rfl
  | p :: r, _, h => by
    obtain ⟨w, t, rfl, h1, h2⟩ := h
    simp only [List.map_cons]
    by_cases e : p.1 = k
    · rw [if_pos e, if_pos e]
      exact ⟨v, _, rfl, q, RKV.over q h2⟩
    · rw [if_neg e, if_neg e]
      exact ⟨w, _, rfl, h1, RKV.over q h2⟩
theorem RKV.more {d : D} {v : V} (q : Rp K H d v) : ∀ {l : List (Key × D)} {m : List (Key × V)}, RKV K H l m → RKV K H (l ++ [(k, d)]) (m ++ [(k, v)])
  | [], _, h => by cases h; exact ⟨v, [], rfl, q, rfl⟩
  | p :: r, _, h => by
    obtain ⟨w, t, rfl, h1, h2⟩ := h
    exact ⟨w, _, rfl, h1, RKV.more q h2⟩
theorem RKV.putK2 {d : D} {v : V} {l : List (Key × D)} {m : List (Key × V)} (h : RKV K H l m) (q : Rp K H d v) : RKV K H (putKD l k d) (putK m k v) := by
  unfold putKD putK
  rw [h.has]
  split
  · exact h.over q
  · exact h.more q
end
/-- d[k] -/
def dkO (o : Option MO) (k : Option Key) (G : HD) (Q : Post) : Prop := match o, k with
  | some (.dK l), some k => optP (valD l k) G Q
  | some (.fz _ (.dK _) (.dK l)), some k => optP (valD l k) G Q
  | _, _ => False
def dkP (o k : D) (G : HD) (Q : Post) : Prop := match o with
  | .ref a => dkO (G a) (kD k) G Q
  | _ => False
def dDGet (td tk : TD) : TD := fun W σ G Q => td W σ G fun o G1 => tk W σ G1 fun k G2 => dkP o k G2 Q
/-- k in d -/
def inO (neg : Bool) (o : Option MO) (k : Option Key) (G : HD) (Q : Post) : Prop := match o, k with
  | some (.dK l), some k => Q (.bl (if neg then !(valD l k).isSome else (valD l k).isSome)) G
  | some (.fz _ (.dK _) (.dK l)), some k => Q (.bl (if neg then !(valD l k).isSome else (valD l k).isSome)) G
  | _, _ => False
def inP (neg : Bool) (k o : D) (G : HD) (Q : Post) : Prop := match o with
  | .ref a => inO neg (G a) (kD k) G Q
  | _ => False
/-- d[k] = v -/
def dpO (o : Option MO) (a : Addr) (k : Option Key) (v : D) (G : HD) (Q : HD → Prop) : Prop := match o, k with
  | some (.dK l), some k => l.length < 1000000 ∧ Q (put G a (.dK (putKD l k v)))
  | _, _ => False
def dpP (o k v : D) (G : HD) (Q : HD → Prop) : Prop := match o with
  | .ref a => dpO (G a) a (kD k) v G Q
  | _ => False
def sDict (td tk tv : TD) : TDS := fun W E σ G => tv W σ G fun v G1 => td W σ G1 fun o G2 => tk W σ G2 fun k G3 => dpP o k v G3 fun G4 => E.nx σ G4
section
variable {X : Cx} {o i e : Expr} {td tk tv : TD} {pos pos2 : Pos}
theorem fz_at0 {K : PySem.W.Frag} {G2 : HD} {H2 : Hp} {a : Addr} {ob : Obj} {m : List (Key × V)} {l : List (Key × D)} (s2 : Sim K G2 H2) (h2 : G2 a = some (.fz ob (.dK m) (.dK l))) : L2.Rd H2 a (.dK m) ∧ RKV K H2 l m := by
  obtain ⟨o, e1, e2, e3, _⟩ := s2 _ _ h2
  subst e2
  obtain ⟨m', e4, e5⟩ := e3
  cases e4
  exact ⟨.inr ⟨_, e1⟩, e5⟩
theorem dk_at {G : HD} {H : Hp} {od kd : D} {x y : V} {Q : Post} (s : Sim X.K G H) (r1 : Rp X.K H od x) (r2 : Rp X.K H kd y) (q : dkP od kd G Q) : ∃ a l m k, x = .ref a ∧ y = kV k ∧ L2.Rd H a (.dK m) ∧ RKV X.K H l m ∧ optP (valD l k) G Q := by
  unfold dkP at q
  split at q
  · rename_i a
    cases r1
    unfold dkO at q
    split at q
    · rename_i l k e1 e2
      obtain ⟨m, h1, h2⟩ := s.dK e1
      exact ⟨a, l, m, k, rfl, kD_rp e2 r2, .of h1, h2, q⟩
    · rename_i l k e1 e2
      obtain ⟨h1, h2⟩ := fz_at0 s e1
      exact ⟨a, l, _, k, rfl, kD_rp e2 r2, h1, h2, q⟩
    · exact q.elim
  · exact q.elim
theorem de_dget (hu : X.A.units + 64 < cLine) (ho : DE X o td) (hi : DE X i tk) (hs : NoSl i := by intro _ _; rfl) : DE X (.Subscript o i pos) (dDGet td tk) := ⟨fun G H σ τ W Q r q =>
  semE.of (pe_dget (by omega) peSem peSem hs) (ho.then r q fun d x G1 H1 r1 x1 k1 q1 => hi.then r1 q1 fun kd y G2 H2 r2 x2 k2 q2 => by
    obtain ⟨a, l, m, k, rfl, rfl, e2, e3, q3⟩ := dk_at r2.sim (k1.ext r1.sim x2 _ _) k2 q2
    rcases e3.val (k := k) with ⟨z, _⟩ | ⟨d2, v2, z1, z2, z3⟩
    · rw [z] at q3; exact q3.elim
    · rw [z1] at q3
      refine ⟨a, v2, rfl, ?_, .of z3 r2.sim (x1.trans x2) q3⟩
      rw [← z2]
      exact .inl ⟨m, k, e2, rfl, rfl⟩)⟩
end
end DL

namespace DL
open PySem PySem.Spec L2
open PyProof.Rows hiding St
/-! ### d.get(k), d.get(k, z), d.pop(k, z) -/
def dictP (o : D) (G : HD) (k : Prop) : Prop := match o with
  | .ref a => (∃ l, G a = some (.dK l)) ∧ k
  | _ => False
def getO (o : Option MO) (k : Option Key) (z : D) (G : HD) (Q : Post) : Prop := match o, k with
  | some (.dK l), some k => Q ((valD l k).getD z) G
  | _, _ => False
def getP (o k z : D) (G : HD) (Q : Post) : Prop := match o with
  | .ref a => getO (G a) (kD k) z G Q
  | _ => False
def dGet1 (td tk : TD) : TD := fun W σ G Q => td W σ G fun o G1 => dictP o G1 (tk W σ G1 fun k G2 => getP o k .non G2 Q)
def dGet2 (td tk tz : TD) : TD := fun W σ G Q => td W σ G fun o G1 => dictP o G1 (tk W σ G1 fun k G2 => tz W σ G2 fun z G3 => getP o k z G3 Q)
def dropKD (l : List (Key × D)) (k : Key) : List (Key × D) := l.filter fun p => decide (p.1 ≠ k)
def popO (o : Option MO) (a : Addr) (k : Option Key) (z : D) (G : HD) (Q : Post) : Prop := match o, k with
  | some (.dK l), some k => (∀ v, valD l k = some v → Q v (put G a (.dK (dropKD l k)))) ∧ (valD l k = none → Q z G)
  | _, _ => False
def popP (o k z : D) (G : HD) (Q : Post) : Prop := match o with
  | .ref a => popO (G a) a (kD k) z G Q
  | _ => False
def dPop2 (td tk tz : TD) : TD := fun W σ G Q => td W σ G fun o G1 => dictP o G1 (tk W σ G1 fun k G2 => tz W σ G2 fun z G3 => popP o k z G3 Q)
section
variable {K : PySem.W.Frag} {H : Hp} {k : Key}
theorem RKV.getD {l : List (Key × D)} {m : List (Key × V)} {d : D} {v : V} (h : RKV K H l m) (r : Rp K H d v) : Rp K H ((valD l k).getD d) ((valV m k).getD v) := by
  rcases h.val (k := k) with ⟨z, y⟩ | ⟨d2, v2, z1, z2, z3⟩
  · rw [z, y]; exact r
  · rw [z1, z2]; exact z3
theorem RKV.drop : ∀ {l : List (Key × D)} {m : List (Key × V)}, RKV K H l m → RKV K H (dropKD l k) (dropK m k)
  | [], _, h => by cases h; exact rfl
  | p :: r, _, h => by
    obtain ⟨v, t, rfl, h1, h2⟩ := h
    unfold dropKD dropK
    by_cases e : p.1 = k
    · rw [List.filter_cons_of_neg (by simp [e]), List.filter_cons_of_neg (by simp [e])]
      exact RKV.drop h2
    · rw [List.filter_cons_of_pos (by simp [e]), List.filter_cons_of_pos (by simp [e])]
      exact ⟨v, _, rfl, h1, RKV.drop h2⟩
end
section
variable {X : Cx} {o e f : Expr} {td tk tz : TD} {apos cpos : Pos}
theorem de_get1 (hu : X.A.units + 64 < cLine) (ho : DE X o td) (he : DE X e tk) (m : M1 X o "get" apos e cpos) : DE X (.Call (.Attribute o "get" apos) [e] [] cpos) (dGet1 td tk) := ⟨fun G H σ τ W Q r q =>
  semE.of (pe_dget1 (by omega) peSem peSem m) (ho.then r q fun d x G1 H1 r1 x1 k1 q1 => by
    unfold dictP at q1
    split at q1
    · rename_i a
      obtain ⟨⟨l, hl⟩, q2⟩ := q1
      cases k1
      obtain ⟨m1, e1, _⟩ := r1.sim.dK hl
      refine ⟨a, rfl, .inl ⟨_, .inl e1⟩, he.then r1 q2 fun kd y G2 H2 r2 x2 k2 q3 => ?_⟩
      unfold getP getO at q3
      try dsimp only at q3
      split at q3
      · rename_i l2 k e2 e3
        obtain ⟨m2, h1, h2⟩ := r2.sim.dK e2
        have ey := kD_rp e3 k2
        subst ey
        exact ⟨_, .k h1, .of (h2.getD (d := .non) (v := .non) rfl) r2.sim (x1.trans x2) q3⟩
      · exact q3.elim
    · exact q1.elim)⟩
end
end DL

namespace DL
open PySem PySem.Spec L2
open PyProof.Rows hiding St
/-! ### sorted(ints) -/
end DL

namespace DL
open PySem PySem.Spec L2
open PyProof.Rows hiding St
/-! ### d.setdefault(k, z) -/
def sdfO (o : Option MO) (a : Addr) (k : Option Key) (z : D) (G : HD) (Q : Post) : Prop := match o, k with
  | some (.dK l), some k => l.length < 1000000 ∧ (∀ v, valD l k = some v → Q v G) ∧ (valD l k = none → Q z (put G a (.dK (putKD l k z))))
  | _, _ => False
def sdfP (o k z : D) (G : HD) (Q : Post) : Prop := match o with
  | .ref a => sdfO (G a) a (kD k) z G Q
  | _ => False
def dSetd (td tk tz : TD) : TD := fun W σ G Q => td W σ G fun o G1 => dictP o G1 (tk W σ G1 fun k G2 => tz W σ G2 fun z G3 => sdfP o k z G3 Q)
end DL

namespace DL
open PySem PySem.Spec L2
open PyProof.Rows hiding St
/-! ### a dict that stands still while a statement runs -/
section
variable {K : PySem.W.Frag} {G G' : HD} {H H' : Hp} {d : Addr} {ob : Obj} {m : List (Key × V)} {l : List (Key × D)}
end
end DL

namespace DL
open PySem PySem.Spec L2
open PyProof.Rows hiding St
/-! ### for k, v in d.items(), the dict standing still -/
def kDi : Key → D
  | .inl i => .int i
  | .inr x => .str x
def pairD (p : Key × D) : D := .tup [kDi p.1, p.2]
def jItems (td : TD) : TDI := fun W σ G R => td W σ G fun o G1 => match o with
  | .ref a => match G1 a with
    | some (.fz ob (.dK m) (.dK l)) => R ⟨l.map pairD, fun G => G a = some (.fz ob (.dK m) (.dK l))⟩ G1
    | _ => False
  | _ => False
end DL

namespace DL
open PySem PySem.Spec L2
open PyProof.Rows hiding St
end DL

namespace DL
open PySem PySem.Spec L2
open PyProof.Rows hiding St
/-! ### lists by value -/
def OpDF (K : PySem.W.Frag) (r : R2) (rd : D → D → HD → Post → Prop) : Prop :=
  ∀ (G : HD) (H : Hp) (d e : D) (x y : V) (Q : Post) (Q' : VK), Sim K G H → Rp K H d x → Rp K H e y → (∀ v H', liftF K G H Q v H' → Q' v H') → rd d e G Q → r x y H Q'
theorem OpD.F {K : PySem.W.Frag} {r : R2} {rd : D → D → HD → Post → Prop} (h : OpD K r rd) : OpDF K r rd := fun G H d e x y Q Q' s k1 k2 f q => h G H d e x y Q Q' s k1 k2 (fun v H' z => f v H' (.inl z)) q
section
variable {X : Cx} {a b e : Expr} {ta tb te : TD} {es : List Expr} {ts : TDA} {pos : Pos}
theorem de_opF {op : Operator} {r : R2} {rd : D → D → HD → Post → Prop} (ho : OpR X (binaryOp op) r) (hd : OpDF X.K r rd) (ha : DE X a ta) (hb : DE X b tb) : DE X (.BinOp a op b pos) (dOp rd ta tb) :=
  ⟨fun G H σ τ W Q r0 h => semE.frz (semE.of (pe_op ho peSem peSem) (ha.then r0 h fun d x G1 H1 r1 x1 k1 q1 => hb.then r1 q1 fun d2 y G2 H2 r2 x2 k2 q2 =>
    hd G2 H2 d d2 x y Q _ r2.sim (k1.ext r1.sim x2 _ _) k2 (fun _ _ z => z.up (x1.trans x2)) q2))⟩
def dLstV (ts : TDA) : TD := fun W σ G Q => ts W σ G fun ds G1 => ds.length ≤ 1000 ∧ Q (.kl ds) G1
theorem de_lstV (h : DA X es ts) : DE X (.List es pos) (dLstV ts) :=
  ⟨fun G H σ τ W Q r0 q => semE.frz (semE.of (pe_lst paSem) (h.then r0 q fun ds vs G1 H1 r1 x1 k1 q1 => ⟨by rw [k1.length]; exact le1000 q1.1, newV.fin r1.sim k1 (fun _ _ z => z.up x1) q1.2⟩))⟩
/-! + of lists -/
/-- a list that is ours, or stands still -/
def asW (G : HD) : D → Option (List D)
  | .kl ds => some ds
  | .ref a => lstOf (G a)
  | _ => none
theorem lstOf_some {o : Option MO} {ds : List D} (h : lstOf o = some ds) : o = some (.lst ds) := by
  unfold lstOf at h
  split at h
  · cases h; rfl
  · cases h
theorem Rp.wr {K : PySem.W.Frag} {G : HD} {H : Hp} {d : D} {v : V} {ds : List D} (s : Sim K G H) (r : Rp K H d v) (h : asW G d = some ds) : ∃ a vs, v = .ref a ∧ L2.Rd H a (.lst vs) ∧ Rps K H ds vs := by
  cases d with
  | kl es =>
    cases h
    obtain ⟨a, vs, rfl, ⟨o, t⟩, q⟩ := r
    exact ⟨a, vs, rfl, .inr ⟨o, t⟩, q⟩
  | ref a =>
    cases (show v = .ref a from r)
    obtain ⟨vs, e1, r1⟩ := s.lst (lstOf_some h)
    exact ⟨a, vs, rfl, .inl e1, r1⟩
  | _ => cases h
def rCatL : R2 := fun x y H Q => ∃ l b xs zs, x = .ref l ∧ y = .ref b ∧ L2.Rd H l (.lst xs) ∧ L2.Rd H b (.lst zs) ∧ xs.length + zs.length ≤ sizeLine ∧ ∀ p, H p = none → Q (.ref p) (upd H p (.lst (xs ++ zs)))
theorem op_catL : OpR X (binaryOp .Add) rCatL := by
  intro pins s σ H x y v u Q I rx ry ⟨l, b, xs, zs, ex, ey, hx, hy, hz, q⟩
  subst ex; subst ey
  cases rx; cases ry
  obtain ⟨_, i1, n1, v1, e1⟩ := hx.ok I.hok
  obtain ⟨_, i2, n2, v2, e2⟩ := hy.ok I.hok
  have l1 := v1.length
  have l2 := v2.length
  refine PySem.P.add_list e1 e2 ?_ (by simp only [List.size_toArray]; omega)
  rw [show i1.toArray ++ i2.toArray = (i1 ++ i2).toArray by simp]
  exact ⟨.ref _, _, I.lnew (t' := s.toks) (v1.append v2) (by rw [List.length_append]; omega), rfl, q _ I.fresh⟩
def dAddV : D → D → HD → Post → Prop := fun d e G Q => match asW G d, asW G e with
  | some xs, some ys => xs.length + ys.length ≤ sizeLine ∧ Q (.kl (xs ++ ys)) G
  | _, _ => dAdd d e G Q
theorem od_addV (K : PySem.W.Frag) : OpDF K (fun x y H Q => rAddU K x y H Q ∨ rCatL x y H Q) dAddV := fun G H d e x y Q Q' s k1 k2 f q => by
  unfold dAddV at q
  split at q
  · rename_i xs ys e1 e2
    obtain ⟨a, vs, rfl, t1, r1⟩ := k1.wr s e1
    obtain ⟨b, ws, rfl, t2, r2⟩ := k2.wr s e2
    exact .inr ⟨a, b, vs, ws, rfl, rfl, t1, t2, by rw [r1.length, r2.length]; exact q.1, newV.fin s (r1.app r2) f q.2⟩
  · exact .inl ((od_add K).F G H d e x y Q Q' s k1 k2 f q)
theorem de_addV (ha : DE X a ta) (hb : DE X b tb) : DE X (.BinOp a .Add b pos) (dOp dAddV ta tb) := de_opF (op := .Add) ((op_add.or (op_add_str.or (op_catA.or op_cat))).or op_catL) (od_addV X.K) ha hb
/-! slices -/
def rSliceV : D → Option Int → Option Int → HD → Post → Prop := fun d lo hi G Q => match asL G d with
  | some xs => Q (.kl (cutD xs lo hi)) G
  | none => rSliceD d lo hi G Q
def dSliceV (te : TD) (tl th : TDO) : TD := fun W σ G Q => te W σ G fun d G1 => tl W σ G1 fun lo G2 => th W σ G2 fun hi G3 => rSliceV d lo hi G3 Q
theorem de_sliceV {lo hi : Option Expr} {tl th : TDO} {p2 : Pos} (he : DE X e te) (hl : DO X lo tl) (hh : DO X hi th) : DE X (.Subscript e (.Slice lo hi none p2) pos) (dSliceV te tl th) :=
  ⟨fun G H σ τ W Q r q => semE.frz (semE.of (pe_slice (r := rSlU X.K) (sl_list.or (sl_tupA.or sl_str)) peSem poSem poSem) (he.then r q fun d x G1 H1 r1 x1 k1 q1 => hl.run G1 H1 σ τ W _ _ r1 q1 fun l G2 H2 r2 x2 q2 => hh.run G2 H2 σ τ W _ _ r2 q2 fun h G3 H3 r3 x3 q3 => by
    have k3 := k1.ext r1.sim (x2.trans x3) _ _
    have xx := (x1.trans x2).trans x3
    unfold rSliceV at q3
    split at q3
    · rename_i xs e1
      obtain ⟨a, vs, rfl, t, rr⟩ := k3.lst r3.sim e1
      exact .inl ⟨a, vs, rfl, t, newV.fin r3.sim (rr.cut l h) (fun _ _ z => z.up xx) q3⟩
    · rename_i e0
      unfold rSliceD at q3
      split at q3
      · obtain ⟨a, vs, rfl, t, rr⟩ := id k3
        refine .inr (.inl ⟨a, vs, rfl, t, fun hw => ?_, fun _ => newT.fin r3.sim (rr.cut l h) (fun _ _ z => .inl (z.up xx)) q3⟩)
        rename_i xs
        have e1 : cutD xs l h = xs := by
          unfold cutD
          rw [rr.length] at hw
          rw [hw.1, hw.2]
          simp
        rw [e1] at q3
        exact .of (d := .tup xs) k3 r3.sim xx q3
      · cases k3
        exact .inr (.inr ⟨_, rfl, q3.1, .of (d := .str _) rfl r3.sim xx q3.2⟩)
      · split at q3
        · rename_i xs e1
          rw [e0] at e1; cases e1
        · exact q3.elim))⟩
/-! list(x) -/
def rListV : List D → HD → Post → Prop := fun ds G Q => match ds with
  | [d] => match asQ G d with
    | some es => Q (.kl es) G
    | none => False
  | _ => False
/-! a list that is made over to stand still -/
def delG (G : HD) (p : Addr) : HD := fun b => if b = p then none else G b
def frzO (o : Option MO) (p : Addr) (G : HD) (Q : Post) : Prop := match o with
  | some (.lst ds) => Q (.kl ds) (delG G p)
  | _ => Q (.ref p) G
def frzP (Q : Post) : Post := fun d G => match d with
  | .ref p => frzO (G p) p G Q
  | d => Q d G
def dFrz (t : TD) : TD := fun W σ G Q => t W σ G (frzP Q)
theorem delG_le {G : HD} {p : Addr} : Le (delG G p) G := fun a o h => by
  unfold delG at h
  split at h
  · cases h
  · exact h
theorem liftF.frz {K : PySem.W.Frag} {G : HD} {H : Hp} {Q : Post} {v : V} {H' : Hp} (h : liftQ K G H (frzP Q) v H') : liftF K G H Q v H' := by
  obtain ⟨d, G', r, s, x, q⟩ := h
  unfold frzP at q
  split at q
  · rename_i p
    cases r
    unfold frzO at q
    split at q
    · rename_i ds e
      obtain ⟨vs, e1, r1⟩ := s.lst e
      refine .inr ⟨p, vs, rfl, e1, fun ob => ⟨.kl ds, delG G' p, ⟨p, vs, rfl, ⟨ob, upd_same⟩, r1.aside e1 _ _⟩, (s.le delG_le).aside e1 (if_pos rfl), fun a o ga ha => ?_, q⟩⟩
      obtain ⟨h1, g1⟩ := x a o ga ha
      have hne : a ≠ p := by rintro rfl; rw [g1] at e; cases e
      exact ⟨by rw [upd_ne hne]; exact h1, (if_neg hne).trans g1⟩
    · exact .inl ⟨.ref p, G', rfl, s, x, q⟩
  · exact .inl ⟨_, G', r, s, x, q⟩
end
/-! for simp -/
section
variable {G : HD} {Q : Post} {a b : Addr} {xs ys ds : List D} {lo hi : Option Int} {i j : Int} {W : DW} {σ : DSt} {ta : TD} {ts : TDA} {tl th : TDO} {x y : Str}
theorem q_lstV : dLstV ts W σ G Q = ts W σ G fun ds G1 => ds.length ≤ 1000 ∧ Q (.kl ds) G1 := propext ⟨fun h => h, fun h => h⟩
theorem q_sliceV : dSliceV ta tl th W σ G Q = ta W σ G fun d G1 => tl W σ G1 fun lo G2 => th W σ G2 fun hi G3 => rSliceV d lo hi G3 Q := propext ⟨fun h => h, fun h => h⟩
theorem q_frz : dFrz ta W σ G Q = ta W σ G (frzP Q) := propext ⟨fun h => h, fun h => h⟩
theorem r_frzR : frzP Q (.ref a) G = frzO (G a) a G Q := propext ⟨fun h => h, fun h => h⟩
theorem r_frzL : frzO (some (.lst ds)) a G Q = Q (.kl ds) (delG G a) := propext ⟨fun h => h, fun h => h⟩
theorem r_frzT : frzP Q (.tup ds) G = Q (.tup ds) G := propext ⟨fun h => h, fun h => h⟩
theorem r_frzK : frzP Q (.kl ds) G = Q (.kl ds) G := propext ⟨fun h => h, fun h => h⟩
theorem r_frzN : frzP Q .non G = Q .non G := propext ⟨fun h => h, fun h => h⟩
theorem r_addVI : dAddV (.int i) (.int j) G Q = Q (.int (i + j)) G := propext ⟨fun h => h, fun h => h⟩
theorem r_addVS : dAddV (.str x) (.str y) G Q = (x.length + y.length ≤ sizeLine ∧ Q (.str (x ++ y)) G) := propext ⟨fun h => h, fun h => h⟩
theorem r_addVT : dAddV (.tup xs) (.tup ys) G Q = (xs.length + ys.length ≤ sizeLine ∧ Q (.tup (xs ++ ys)) G) := propext ⟨fun h => h, fun h => h⟩
theorem r_addVK : dAddV (.kl xs) (.kl ys) G Q = (xs.length + ys.length ≤ sizeLine ∧ Q (.kl (xs ++ ys)) G) := propext ⟨fun h => h, fun h => h⟩
def addVO (u : Option (List D)) (v : Option (List D)) (G : HD) (Q : Post) : Prop := match u, v with
  | some xs, some ys => xs.length + ys.length ≤ sizeLine ∧ Q (.kl (xs ++ ys)) G
  | _, _ => False
theorem r_addVO : addVO (some xs) (some ys) G Q = (xs.length + ys.length ≤ sizeLine ∧ Q (.kl (xs ++ ys)) G) := propext ⟨fun h => h, fun h => h⟩
theorem r_sliVK : rSliceV (.kl ds) lo hi G Q = Q (.kl (cutD ds lo hi)) G := propext ⟨fun h => h, fun h => h⟩
theorem r_sliVC : rSliceV (.kc ds) lo hi G Q = Q (.kl (cutD ds lo hi)) G := propext ⟨fun h => h, fun h => h⟩
theorem r_sliVT : rSliceV (.tup ds) lo hi G Q = Q (.tup (cutD ds lo hi)) G := propext ⟨fun h => h, fun h => h⟩
def sliVO (o : Option (List D)) (lo hi : Option Int) (G : HD) (Q : Post) : Prop := match o with
  | some xs => Q (.kl (cutD xs lo hi)) G
  | none => False
theorem r_sliVR : rSliceV (.ref a) lo hi G Q = sliVO (lstOf (G a)) lo hi G Q := by
  unfold rSliceV sliVO
  rw [asL_ref]
  cases hh : lstOf (G a) with
  | some xs => rfl
  | none =>
    show rSliceD (.ref a) lo hi G Q = False
    rw [r_sliR, hh]; rfl
theorem r_sliVL : sliVO (some ds) lo hi G Q = Q (.kl (cutD ds lo hi)) G := propext ⟨fun h => h, fun h => h⟩
theorem r_listVK : rListV [.kl ds] G Q = Q (.kl ds) G := propext ⟨fun h => h, fun h => h⟩
theorem r_listVC : rListV [.kc ds] G Q = Q (.kl ds) G := propext ⟨fun h => h, fun h => h⟩
theorem r_listVT : rListV [.tup ds] G Q = Q (.kl ds) G := propext ⟨fun h => h, fun h => h⟩
theorem r_truK : truD G (.kl xs) = some (!xs.isEmpty) := rfl
theorem r_lcV {ti : TDI} {t : Tgt} {dt : TDT} {te : TD} {vs : List Nat} : dLcV ti t dt te vs W σ G Q = ti W σ G fun I G1 => I.xs.length ≤ 1000000 ∧ lcD I.ok (fun d ky kn G' => t.put d (dwipe σ vs) fun σ2 => dt W0 σ2 G' fun b G2 => if b = true then te W0 σ2 G2 ky else kn G2) (fun acc G2 => Q (.kl acc) G2) I.xs [] G1 := propext ⟨fun h => h, fun h => h⟩
end
end DL

namespace DL
open PySem PySem.Spec L2
open PyProof.Rows hiding St
/-! ### the law's call, where no repr is under way -/
section
variable {P : Program} {w : World} {K : PySem.W.Frag} {mg mb : Str → Option Value} {k : Nat} {fa a : Addr} {fd : FuncData} {x : Str} {sp : Sp} {s1 : Shared} {vs : List Value} {ns : List Int}
abbrev TopP (s1 : Shared) : Result → Shared → Prop := fun r s' => r = .ok (.ret (.bool true)) ∧ OldK s1.heap s'.heap ∧ s'.os = s1.os ∧ AllBare s'.gens
/-- what a tracks, at most the script -/
structure Trk (P : Program) (w : World) (K : PySem.W.Frag) (s1 : Shared) (a : Addr) (H : Hp) : Prop where
  hok : HOk P w H s1.heap
  only : ∀ b, H b = none ∨ (b = a ∧ K.lookup b = none ∧ ∃ o xs, H b = some (.frz o (.lst xs)))
theorem Trk.shown {H : Hp} (t : Trk P w K s1 a H) {b : Addr} {o : Obj} (e : s1.heap.get? b = some o) (h : b ≠ a ∨ (K.lookup b).isSome = true) : (hidT s1.heap H).get? b = some o := by
  refine hidT_get e ?_
  rcases t.only b with z | ⟨z1, z2, _⟩
  · exact z
  · rcases h with h | h
    · exact absurd z1 h
    · rw [z2] at h; cases h
theorem top_run (KX : K.In s1.heap) (hns : s1.heap.Ns mainGlobals mg) (hb : s1.heap.Ns builtinsNs mb) (hbb : ∀ x : Str, x ≠ "__name__" → mb x = bootBuiltins x) (hlim : s1.heap.NoLimit) (hg : s1.gens = #[])
    (ha : s1.heap.get? a = some { cls := .type "list", data := .seq vs.toArray }) (hr : RoomG k callerA) (F : ∀ base : Heap, K.In base → base.Ns mainGlobals mg → FnG P w K mg base k fa fd [x] sp) (bind : ∀ (s : Shared) (u : Value), BindsTo s fd ⟨[u], []⟩ [(x, u)])
    {H : Hp} (t : Trk P w K s1 a H) (h : sp [.ref a] H (fun v _ => v = .bl true) fun _ _ _ => False) (hX : ∀ e s', L2.CX P w [] H s1 (fun _ _ _ => False) e s' → False) :
    codeAny (model P w) callerA (.call (.ref fa) ⟨[.ref a], []⟩) (TopP s1) s1 := by
  have seen : ∀ {b : Addr} {m : Str → Option Value}, s1.heap.Ns b m → (hidT s1.heap H).Ns b m := by
    rintro b m ⟨o, es, ep, e, d, r⟩
    refine ⟨o, es, ep, t.shown e (.inl ?_), d, r⟩
    rintro rfl
    rw [ha] at e
    cases e
    exact nomatch (show Data.seq vs.toArray _ = Data.dict es ep from d)
  have kb : K.In (hidT s1.heap H) := fun b o e => t.shown (KX b o e) (.inr (by rw [e]; rfl))
  obtain ⟨mc, l1, l2⟩ := hlim
  have env : Env0 P w K mg (hidT s1.heap H) callerA [] s1 H :=
    { frames := rfl, mod := ⟨kb, seen hns, ⟨mb, seen hb, hbb⟩, ⟨mc, seen l1, l2⟩⟩, bs := fun b o e => of_hidT e, bsz := Nat.le_of_eq (hidT_size _ _), funs := trivial, frf := fun b hb => absurd hb List.not_mem_nil, hok := t.hok, bare := .of_eq hg }
  refine codeAny_mono ((F _ kb (seen hns)).run callerA [] s1 H ⟨[.ref a], []⟩ [.ref a] [.ref a] _ _ hr env (bind s1 (.ref a)) (.cons rfl .nil) h) fun r s' q => ?_
  match r, q with
  | .error e, q => exact (hX e s' q).elim
  | .ok .next, q => exact q.elim
  | .ok .brk, q => exact q.elim
  | .ok .cont, q => exact q.elim
  | .ok (.ret u), q =>
    obtain ⟨v, H2, os, bare, un, hok2, rv, ev⟩ := q
    cases (show v = .bl true from ev)
    cases (show u = Value.bool true from rv)
    refine ⟨rfl, OldK.of_keep fun b o e => ?_, os, bare⟩
    rcases t.only b with z | ⟨_, _, ob, xs, z⟩
    · exact un.keep b o e z List.not_mem_nil List.not_mem_nil
    · have f1 := (t.hok b _ z).1
      rw [e] at f1
      cases f1
      exact (hok2 b _ (un.frzs b _ _ z)).1
theorem law_callG (KX : K.In s1.heap) (hns : s1.heap.Ns mainGlobals mg) (hb : s1.heap.Ns builtinsNs mb) (hbb : ∀ x : Str, x ≠ "__name__" → mb x = bootBuiltins x) (hlim : s1.heap.NoLimit) (hg : s1.gens = #[])
    (ha : s1.heap.get? a = some { cls := .type "list", data := .seq vs.toArray }) (hi : IntsAre vs ns) (hl : ns.length ≤ 63) (hr : RoomG k callerA) (F : ∀ base : Heap, K.In base → base.Ns mainGlobals mg → FnG P w K mg base k fa fd [x] sp) (bind : ∀ (s : Shared) (u : Value), BindsTo s fd ⟨[u], []⟩ [(x, u)])
    (hsp : ∀ H : Hp, Only H → SqL K H a (ns.map V.int) → sp [.ref a] H (fun v _ => v = .bl true) fun _ _ _ => False) (hX : ∀ H e s', L2.CX P w [] H s1 (fun _ _ _ => False) e s' → False) :
    codeAny (model P w) callerA (.call (.ref fa) ⟨[.ref a], []⟩) (TopP s1) s1 := by
  have rv := vals_ints hi
  have hl2 : ns.length ≤ sizeLine := by rw [sizeLine_eq]; omega
  by_cases hk : ∃ o, K.lookup a = some o
  · obtain ⟨o, hk⟩ := hk
    have e := KX a o hk
    rw [ha] at e
    cases e
    refine top_run KX hns hb hbb hlim hg ha hr F bind (H := fun _ => none) ⟨fun b u z => (nomatch (show (none : Option HO) = some u from z)), fun _ => .inl rfl⟩ (hsp _ (fun _ => .inl rfl) (.inr ⟨_, vs.toArray, _, hk, rfl, rfl, rfl, ?_, by simpa using rv⟩)) (hX _)
    rw [List.size_toArray, hi.length]; exact hl2
  · have hn : K.lookup a = none := by
      cases q : K.lookup a with
      | none => rfl
      | some o => exact absurd ⟨o, q⟩ hk
    let ob : Obj := { cls := .type "list", data := .seq vs.toArray }
    have at_a : upd (fun _ => none) a (.frz ob (.lst (ns.map V.int))) a = some (.frz ob (.lst (ns.map V.int))) := upd_same
    have only : ∀ b, upd (fun _ => none) a (.frz ob (.lst (ns.map V.int))) b = none ∨ (b = a ∧ K.lookup b = none ∧ ∃ o xs, upd (fun _ => none) a (.frz ob (.lst (ns.map V.int))) b = some (.frz o (.lst xs))) := fun b => by
      by_cases e : b = a
      · subst e; exact .inr ⟨rfl, hn, _, _, at_a⟩
      · exact .inl (upd_ne e)
    refine top_run KX hns hb hbb hlim hg ha hr F bind (H := upd (fun _ => none) a (.frz ob (.lst (ns.map V.int)))) ⟨fun b u z => ?_, only⟩ (hsp _ (fun b => (only b).imp id fun z => z.2.2) (.inl (.inr ⟨ob, at_a⟩))) (hX _)
    by_cases e : b = a
    · subst e
      rw [at_a] at z
      cases z
      exact ⟨ha, by rw [List.length_map]; exact hl2, vs, _, rv, ha⟩
    · rw [upd_ne e] at z
      cases z
end
theorem walkG {l : PySem.W.OpenLaw} {k : Nat} {q : Program} {loose : List Str} {XP : (Str → Option Value) → Heap → Prop} {YP : World → Heap → Prop} {d : DefRec} {K : Params → PySem.W.Frag} {x : Str} {sp : World → Sp}
    (hn : l.most = some 63) (hdf : d.params.defaults = []) (hr : RoomG k callerA) (hY : ∀ (w : World) (h : Heap), YP w h → (K w.params).In h)
    (F : ∀ (w : World) (mg : Str → Option Value) (fa : Addr) (h : Heap), (K w.params).In h → h.Ns mainGlobals mg → mg d.name = some (.ref fa) →
      ∃ fd : FuncData, (∀ (s : Shared) (u : Value), BindsTo s fd ⟨[u], []⟩ [(x, u)]) ∧ ∀ base : Heap, (K w.params).In base → base.Ns mainGlobals mg → FnG l.prog w (K w.params) mg base k fa fd [x] (sp w))
    (hsp : ∀ (w : World) (H : Hp) (a : Addr) (ns : List Int), ns.length ≤ 63 → Only H → SqL (K w.params) H a (ns.map V.int) → sp w [.ref a] H (fun v _ => v = .bl true) fun _ _ _ => False)
    (hX : ∀ (w : World) (H : Hp) (s : Shared) (e : Value) (s' : Shared), L2.CX l.prog w [] H s (fun _ _ _ => False) e s' → False) : PySem.W.WalkO q loose XP YP l.row.toRowW d [] (fun f vs => PySem.call f vs) :=
  Att.attach_call hn hdf fun w _ s1 mg mb fa _ _ _ _ a vs ns G Y _ _ _ hmg hobj hints hlen hg => by
    have KX := hY w _ Y
    obtain ⟨fd, hb, hF⟩ := F w mg fa _ KX G.T.g hmg
    exact law_callG KX G.T.g G.T.b G.T.builtins G.T.nolimit hg hobj hints hlen hr hF hb (fun H hO hS => hsp w H a ns hlen hO hS) fun H e s' => hX w H s1 e s'
end DL

namespace DL
open PySem PySem.Spec L2
open PyProof.Rows hiding St
/-! ### repr of data -/
def rRep0 (K : PySem.W.Frag) : List V → Hp → VK → Prop := fun xs H Q => ∃ v p, xs = [v] ∧ Dp K H v p ∧ p.canLay0 = true ∧ p.depth ≤ 9 ∧ p.showable = true ∧ p.shown.length ≤ sizeLine ∧ Q (.str p.shown) H
theorem call_rep0 {X : Cx} (hg : X.A.guards = some []) (hu : X.A.units + 64 < cLine) : CallR X (.builtin "repr") (rRep0 X.K) := by
  intro pins s σ H xs us Q I rv ⟨v, p, e, hd, hc, hdp, hs, hz, q⟩
  subst e
  obtain ⟨u, eu, ru⟩ := vals1 rv
  subst eu
  have big : ∀ {a : Addr} {as : List Addr}, Reads s.heap (.ref a) p as → wpAny (model X.prog X.w) X.A (call (.builtin "repr") [.ref a]) (EP X pins σ Q) X.xe s := fun hr =>
    repr_of_reads' hr hs (PyData.noDict_hsm (PyData.hasDict_of_canLay p hc)) hg (by omega) (fun _ _ e => e) (fun h' u tk k => ⟨.str p.shown, H, I.kept (t' := tk) k, ⟨u, rfl⟩, q⟩) hz
  obtain ⟨as, hr⟩ := Dp.reads I p v u hd ru
  cases hr with
  | none => exact PySem.P.repr_of_none ⟨.str _, H, I.tok _, ⟨_, rfl⟩, q⟩
  | bool b => exact PySem.P.repr_of_bool ⟨.str _, H, I.tok _, ⟨_, rfl⟩, q⟩
  | int i t => exact PySem.P.repr_of_int (of_decide_eq_true hs) ⟨.str _, H, I.tok _, ⟨_, rfl⟩, q⟩
  | str x t => exact PySem.P.repr_of_str ⟨.str _, H, I.tok _, ⟨_, rfl⟩, q⟩ hz
  | list h1 h2 h3 h4 => exact big (.list h1 h2 h3 h4)
  | tuple h1 h2 h3 h4 => exact big (.tuple h1 h2 h3 h4)
  | dict _ _ _ _ _ => cases hd
/-- repr of an empty dict -/
theorem call_repE {X : Cx} (hg : X.A.guards = some []) (hu : X.A.units + 64 < cLine) : CallR X (.builtin "repr") (fun xs H Q => ∃ a, xs = [.ref a] ∧ H a = some (.dK []) ∧ Q (.str (PyData.dict []).shown) H) := by
  intro pins s σ H xs us Q I rv ⟨a, e, ha, q⟩
  subst e
  obtain ⟨u, eu, ru⟩ := vals1 rv
  subst eu
  obtain rfl : u = .ref a := ru
  obtain ⟨_, hm, vs, kv, o, es, ep, ho, hx, hd, r⟩ := I.hok a _ ha
  cases kv
  have e0 : es.toList = [] := List.eq_nil_of_length_eq_zero (by have := r.2.1.length; simpa using this)
  have hc : o.cls = .type "dict" := hx.1
  have hr : Reads s.heap (.ref a) (.dict []) (a :: [] ++ []) := .dict ho hc hd (by rw [e0]; exact .nil) (by rw [e0]; exact .nil)
  refine repr_of_reads' hr (by decide) (fun _ => ?_) hg (by simp only [PyData.depth, PyData.depthKv]; omega) (fun _ _ e => e) (fun h' u tk k => ⟨.str _, H, I.kept (t' := tk) k, ⟨u, rfl⟩, q⟩) (by decide)
  intro z
  have z' : sysModules = a := by simpa using z
  subst z'
  exact absurd hm (by decide)
/-- data as repr shows it -/
def repO (G : HD) (d : D) : Option PyData := match pyD 9 G d with
  | some p => some p
  | none => match d with
    | .ref a => match G a with
      | some (.dK []) => some (.dict [])
      | _ => none
    | _ => none
def rReprO (o : Option PyData) (G : HD) (Q : Post) : Prop := match o with
  | some p => p.showable = true ∧ p.shown.length ≤ sizeLine ∧ Q (.str p.shown) G
  | none => False
def rReprD : List D → HD → Post → Prop := fun ds G Q => match ds with
  | [d] => rReprO (repO G d) G Q
  | _ => False
theorem cd_repr (K : PySem.W.Frag) : CallD K (fun xs H Q => rRep0 K xs H Q ∨ ∃ a, xs = [.ref a] ∧ H a = some (.dK []) ∧ Q (.str (PyData.dict []).shown) H) rReprD := fun G H ds vs Q Q' s k f q => by
  unfold rReprD at q
  split at q
  · rename_i d
    obtain ⟨v, rfl, kd⟩ := one_of k
    unfold repO at q
    split at q
    · rename_i p hp
      obtain ⟨q1, q2, q3⟩ := q
      obtain ⟨h1, h2, h3⟩ := pyD_dp s 9 d v p hp kd
      exact .inl ⟨v, p, rfl, h1, h2, h3, q1, q2, f _ _ (.of (d := .str _) rfl s .refl q3)⟩
    · split at q
      · rename_i a _
        cases kd
        split at q
        · rename_i e
          obtain ⟨m, e1, r1⟩ := s.dK e
          cases r1
          exact .inr ⟨a, rfl, e1, f _ _ (.of (d := .str _) rfl s .refl q.2.2)⟩
        · exact q.elim
      · exact q.elim
  · exact q.elim
/-! == and != of texts of any length -/
end DL

namespace DL
open PySem PySem.Spec L2
open PyProof.Rows hiding St
/-! ### data that is no object of the heap -/
def pureD : Nat → D → Bool
  | 0, _ => false
  | n + 1, d => match d with
    | .non => true
    | .bl _ => true
    | .int _ => true
    | .str x => PyData.strOk x
    | .tup ds => ds.all (pureD n)
    | .kl ds => ds.all (pureD n)
    | .kc ds => ds.all (pureD n)
    | _ => false
def toPy : Nat → D → PyData
  | 0, _ => .none
  | n + 1, d => match d with
    | .bl b => .bool b
    | .int i => .int i
    | .str x => .str x
    | .tup ds => .tuple (ds.map (toPy n))
    | .kl ds => .list (ds.map (toPy n))
    | .kc ds => .list (ds.map (toPy n))
    | .emp => .dict []
    | _ => .none
theorem mapM_map {G : HD} {n : Nat} (ih : ∀ d, pureD n d = true → pyD n G d = some (toPy n d)) : ∀ {ds : List D}, ds.all (pureD n) = true → ds.mapM (pyD n G) = some (ds.map (toPy n))
  | [], _ => rfl
  | d :: ds, h => by
    rw [List.all_cons, Bool.and_eq_true] at h
    rw [List.mapM_cons, ih d h.1, mapM_map ih h.2]
    rfl
theorem pyD_pure {G : HD} : ∀ (n : Nat) (d : D), pureD n d = true → pyD n G d = some (toPy n d)
  | 0, _, h => by cases h
  | n + 1, d, h => by
    unfold pureD at h
    unfold pyD toPy
    cases d with
    | non => rfl
    | bl _ => rfl
    | int _ => rfl
    | str x => simp only at h ⊢; rw [if_pos h]
    | tup ds => simp only at h ⊢; rw [mapM_map (pyD_pure n) h]; rfl
    | kl ds => simp only at h ⊢; rw [mapM_map (pyD_pure n) h]; rfl
    | kc ds => simp only at h ⊢; rw [mapM_map (pyD_pure n) h]; rfl
    | ty _ => cases h
    | ref _ => cases h
    | exc _ _ _ => cases h
    | emp => cases h
/-- == of two data -/
def eqvD (d e : D) : Bool := PyData.eqv (toPy 9 d) (toPy 9 e)
theorem eqO_pure {G : HD} {d e : D} (h1 : pureD 9 d = true) (h2 : pureD 9 e = true) : eqO G d e = some (eqvD d e) := by
  unfold eqO
  rw [pyD_pure 9 d h1, pyD_pure 9 e h2]
  rfl
/-- == with texts of any length -/
def dEqX (neg : Bool) : D → D → HD → Post → Prop := fun d e G Q => match d, e with
  | .str x, .str y => Q (.bl (if neg then !decide (x = y) else decide (x = y))) G
  | d, e => dEq neg d e G Q
theorem od_eqX (K : PySem.W.Frag) : OpD K (fun x y H Q => rEqD K x y H Q ∨ rEq x y H Q) (dEqX false) := fun G H d e x y Q Q' s k1 k2 f q => by
  unfold dEqX at q
  split at q
  · cases k1; cases k2
    refine .inr ⟨rfl, f _ _ ?_⟩
    have := liftQ.of (K := K) (G := G) (G' := G) (H := H) (H' := H) (Q := Q) (d := .bl _) (v := .bl _) rfl s .refl q
    simpa using this
  · exact .inl (od_eq K G H d e x y Q Q' s k1 k2 f q)
theorem od_neX (K : PySem.W.Frag) : OpD K (fun x y H Q => rNeD K x y H Q ∨ rNe x y H Q) (dEqX true) := fun G H d e x y Q Q' s k1 k2 f q => by
  unfold dEqX at q
  split at q
  · cases k1; cases k2
    refine .inr ⟨rfl, f _ _ ?_⟩
    have := liftQ.of (K := K) (G := G) (G' := G) (H := H) (H' := H) (Q := Q) (d := .bl _) (v := .bl _) rfl s .refl q
    simpa using this
  · exact .inl (od_ne K G H d e x y Q Q' s k1 k2 f q)
theorem c_eqX {X : Cx} (hu : X.A.units + 64 < cLine) : CmpR X .Eq (dEqX false) := ⟨_, (op_eqD hu).or op_eq, od_eqX X.K⟩
theorem c_neX {X : Cx} (hu : X.A.units + 64 < cLine) : CmpR X .NotEq (dEqX true) := ⟨_, (op_neD hu).or op_ne, od_neX X.K⟩
section
variable {G : HD} {Q : Post} {i j : Int} {x y : Str} {n : Bool} {d e : D} {xs ys : List D} {a b : Addr}
theorem r_eqXS : dEqX n (.str x) (.str y) G Q = Q (.bl (if n then !decide (x = y) else decide (x = y))) G := propext ⟨fun h => h, fun h => h⟩
theorem r_eqXI : dEqX n (.int i) (.int j) G Q = Q (.bl (if n then !decide (i = j) else decide (i = j))) G := (r_eqI (n := n) (i := i) (j := j) (G := G) (Q := Q) ▸ rfl : dEqX n (.int i) (.int j) G Q = _)
theorem i_eqX (h1 : pureD 9 d = true) (h2 : pureD 9 e = true) (q : Q (.bl (if n then !eqvD d e else eqvD d e)) G) : dEqX n d e G Q := by
  unfold dEqX
  split
  · rename_i x y
    have e1 : eqvD (.str x) (.str y) = decide (x = y) := by
      unfold eqvD toPy
      simp only [PyData.eqv]
      by_cases h : x = y
      · simp [h]
      · simp [h]
    rw [e1] at q
    exact q
  · unfold dEq
    rw [eqO_pure h1 h2]
    exact q
theorem r_eqXT2 {p q r s : Int} : dEqX n (.tup [.int p, .int q]) (.tup [.int r, .int s]) G Q = Q (.bl (if n then !(decide (p = r) && decide (q = s)) else (decide (p = r) && decide (q = s)))) G := r_eqT2
/-- repr of such data -/
theorem i_repr (h : pureD 9 d = true) (h1 : (toPy 9 d).showable = true) (h2 : (toPy 9 d).shown.length ≤ sizeLine) (q : Q (.str (toPy 9 d).shown) G) : rReprD [d] G Q := by
  have e : repO G d = some (toPy 9 d) := by
    unfold repO
    rw [pyD_pure 9 d h]
  show rReprO (repO G d) G Q
  rw [e]
  exact ⟨h1, h2, q⟩
end
end DL

namespace DL
open PySem PySem.Spec L2
open PyProof.Rows hiding St
section
variable {X : Cx} {p pos : Pos} {e : Expr} {ts : TDA}
/-! str(int), str(text) -/
def rStrD : List D → HD → Post → Prop := fun ds G Q => match ds with
  | [.int i] => i.natAbs.log2 < 1920 ∧ Q (.str (toString i)) G
  | [.str x] => Q (.str x) G
  | _ => False
theorem cd_str (K : PySem.W.Frag) : CallD K (fun xs H Q => (∃ i, xs = [.int i] ∧ i.natAbs.log2 < 1920 ∧ Q (.str (toString i)) H) ∨ ∃ a, xs = [.str a] ∧ Q (.str a) H) rStrD := fun G H ds vs Q Q' s k f q => by
  unfold rStrD at q
  split at q
  · obtain ⟨v, rfl, kd⟩ := one_of k
    cases kd
    exact .inl ⟨_, rfl, q.1, f _ _ (.of (d := .str _) rfl s .refl q.2)⟩
  · obtain ⟨v, rfl, kd⟩ := one_of k
    cases kd
    exact .inr ⟨_, rfl, f _ _ (.of (d := .str _) rfl s .refl q)⟩
  · exact q.elim
theorem bc_str (hm : X.mg "str" = none) (ha : DA X [e] ts) (hg : Gl X "str" := by rfl) (he : starEach [e] X.env = (false, eval e X.env) :: starEach [] X.env := by rfl) : DE X (.Call (.Name "str" p) [e] [] pos) (dCB rStrD ts) :=
  de_ct (CallR.or call_str_int SkE.call_str_str) (cd_str X.K) hm (by decide +kernel) ha hg (by decide) (by decide) he (by rfl)
theorem r_strI {G : HD} {Q : Post} {i : Int} : rStrD [.int i] G Q = (i.natAbs.log2 < 1920 ∧ Q (.str (toString i)) G) := propext ⟨fun h => h, fun h => h⟩
end
/-- a block behind an if: its reading is not opened by itself -/
def sSeqJ (t u : TDS) : TDS := sSeq t u
theorem dss_consJ {X : Cx} {st : Stmt} {sts : List Stmt} {t u : TDS} (h : DS X st t) (k : DSs X sts u) : DSs X (st :: sts) (sSeqJ t u) := dss_cons h k
theorem q_seqJ {t u : TDS} {W : DW} {E : DEnds} {σ : DSt} {G : HD} : sSeqJ t u W E σ G = t W { E with nx := fun σ' G' => u W E σ' G' } σ G := q_seq
/-! ### for the plain laws: places that change, picks, powers of ten -/
def Fr (A : List Addr) (G G' : HD) : Prop := ∀ b o, b ∉ A → G b = some o → G' b = some o
theorem Fr.refl {A : List Addr} {G : HD} : Fr A G G := fun _ _ _ h => h
theorem Fr.trans {A : List Addr} {X Y Z : HD} (x : Fr A X Y) (y : Fr A Y Z) : Fr A X Z := fun b o n h => y b o n (x b o n h)
theorem Fr.mono {A B : List Addr} {X Y : HD} (x : Fr A X Y) (h : ∀ a, a ∈ A → a ∈ B) : Fr B X Y := fun b o n h' => x b o (fun z => n (h b z)) h'
theorem Fr.le {A : List Addr} {X Y : HD} (x : Le X Y) : Fr A X Y := fun b o _ h => x b o h
theorem Fr.put {A : List Addr} {a : Addr} {G : HD} {o : MO} (h : a ∈ A) : Fr A G (put G a o) := fun b u n e => (put_ne (by rintro rfl; exact n h)).trans e
theorem Fr.del {A : List Addr} {a : Addr} {G : HD} (h : a ∈ A) : Fr A G (delG G a) := fun b u n e => (if_neg (by rintro rfl; exact n h)).trans e
theorem pickP {ds : List D} {r : Int} {G : HD} {Q : Post} (h0 : 0 ≤ r) (h1 : r < ds.length) (h : ∀ x, x ∈ ds → Q x G) : optP (atI ds r) G Q := by
  obtain ⟨x, hx, e⟩ := pick h0 h1
  rw [e]; exact h x hx
theorem cp2 : CPow 10 2 = True := propext ⟨fun _ => trivial, fun _ => ⟨by omega, by omega, by omega⟩⟩
theorem pw2 : (10 : Int) ^ (2 : Int).toNat = 100 := by decide
theorem cp3 : CPow 10 3 = True := propext ⟨fun _ => trivial, fun _ => ⟨by omega, by omega, by omega⟩⟩
theorem pw3 : (10 : Int) ^ (3 : Int).toNat = 1000 := by decide
theorem cp4 : CPow 10 4 = True := propext ⟨fun _ => trivial, fun _ => ⟨by omega, by omega, by omega⟩⟩
theorem pw4 : (10 : Int) ^ (4 : Int).toNat = 10000 := by decide
theorem cp5 : CPow 10 5 = True := propext ⟨fun _ => trivial, fun _ => ⟨by omega, by omega, by omega⟩⟩
theorem pw5 : (10 : Int) ^ (5 : Int).toNat = 100000 := by decide
theorem cp6 : CPow 10 6 = True := propext ⟨fun _ => trivial, fun _ => ⟨by omega, by omega, by omega⟩⟩
theorem pw6 : (10 : Int) ^ (6 : Int).toNat = 1000000 := by decide
theorem cp7 : CPow 10 7 = True := propext ⟨fun _ => trivial, fun _ => ⟨by omega, by omega, by omega⟩⟩
theorem pw7 : (10 : Int) ^ (7 : Int).toNat = 10000000 := by decide
theorem cp8 : CPow 10 8 = True := propext ⟨fun _ => trivial, fun _ => ⟨by omega, by omega, by omega⟩⟩
theorem pw8 : (10 : Int) ^ (8 : Int).toNat = 100000000 := by decide
theorem cp9 : CPow 10 9 = True := propext ⟨fun _ => trivial, fun _ => ⟨by omega, by omega, by omega⟩⟩
theorem pw9 : (10 : Int) ^ (9 : Int).toNat = 1000000000 := by decide
theorem cp10 : CPow 10 10 = True := propext ⟨fun _ => trivial, fun _ => ⟨by omega, by omega, by omega⟩⟩
theorem pw10 : (10 : Int) ^ (10 : Int).toNat = 10000000000 := by decide
theorem cp12 : CPow 10 12 = True := propext ⟨fun _ => trivial, fun _ => ⟨by omega, by omega, by omega⟩⟩
theorem pw12 : (10 : Int) ^ (12 : Int).toNat = 1000000000000 := by decide
theorem cp15 : CPow 10 15 = True := propext ⟨fun _ => trivial, fun _ => ⟨by omega, by omega, by omega⟩⟩
theorem pw15 : (10 : Int) ^ (15 : Int).toNat = 1000000000000000 := by decide
theorem cp18 : CPow 10 18 = True := propext ⟨fun _ => trivial, fun _ => ⟨by omega, by omega, by omega⟩⟩
theorem pw18 : (10 : Int) ^ (18 : Int).toNat = 1000000000000000000 := by decide
theorem cp20 : CPow 10 20 = True := propext ⟨fun _ => trivial, fun _ => ⟨by omega, by omega, by omega⟩⟩
theorem pw20 : (10 : Int) ^ (20 : Int).toNat = 100000000000000000000 := by decide
theorem cp24 : CPow 10 24 = True := propext ⟨fun _ => trivial, fun _ => ⟨by omega, by omega, by omega⟩⟩
theorem pw24 : (10 : Int) ^ (24 : Int).toNat = 1000000000000000000000000 := by decide
theorem cp28 : CPow 10 28 = True := propext ⟨fun _ => trivial, fun _ => ⟨by omega, by omega, by omega⟩⟩
theorem pw28 : (10 : Int) ^ (28 : Int).toNat = 10000000000000000000000000000 := by decide
theorem cp29 : CPow 10 29 = True := propext ⟨fun _ => trivial, fun _ => ⟨by omega, by omega, by omega⟩⟩
theorem pw29 : (10 : Int) ^ (29 : Int).toNat = 100000000000000000000000000000 := by decide
theorem cp30 : CPow 10 30 = True := propext ⟨fun _ => trivial, fun _ => ⟨by omega, by omega, by omega⟩⟩
theorem pw30 : (10 : Int) ^ (30 : Int).toNat = 1000000000000000000000000000000 := by decide
end DL

namespace DX
open PySem PySem.Spec PySem.W PySem.Calls PySem.HandSPX
/-! ### what a built-in class gives to own ones over it whose __init__ is their own -/
/-- making of one, up to its own __init__; and the class's __init__ on it -/
structure XBase (newId initId : String) (tl : List Value) : Prop where
  call : ∀ {prog : Program} {w : World} {A : Around} {R : Result → Shared → Prop} {s : Shared} {nm q : PySem.Str} {C N : Addr} {bs bm : List Value} {hdct : Bool} {sn : List PySem.Str} {sub : List Value} {ab : Bool} {col : Option Bool} {dd : Option Addr}
      {k0 k1 k2 k3 k5 : Option Value} {us : List Value} {fI : Addr}, (∀ T : String, bm.contains (.type T) = tl.contains (.type T)) → s.heap.get? C = some (excClassObj nm q C N bs bm hdct sn sub ab col dd k0 k1 k2 k3 k5 newId) →
    W.Looks (model prog w) s.heap (typeLookup (.ref C) "__init__") (some (.ref fI)) → (∀ o, W.Looks (model prog w) s.heap (bindSpecial (.ref fI) o) (.ref fI, [o])) → us.length ≤ sizeLine →
    codeAny (model prog w) (A.under (.builtin "type.__call__" ⟨.ref C :: us, []⟩)) (.call (.ref fI) ⟨.ref (s.heap.objs.size + 1) :: us, []⟩) (W.InitBack (s.heap.objs.size + 1) R) { s with heap := (s.heap.push (W.kdv_tup us)).push (excO C s.heap.objs.size) } →
    codeAny (model prog w) A (.call (.ref C) ⟨us, []⟩) R s
  init : ∀ {prog : Program} {w : World} {A : Around} {R : Result → Shared → Prop} {s : Shared} {nm q : PySem.Str} {C N : Addr} {bs bm : List Value} {hdct : Bool} {sn : List PySem.Str} {sub : List Value} {ab : Bool} {col : Option Bool} {dd : Option Addr}
      {k0 k1 k2 k3 k5 : Option Value} {us : List Value} {e t0 : Addr}, (∀ T : String, bm.contains (.type T) = tl.contains (.type T)) → s.heap.get? C = some (excClassObj nm q C N bs bm hdct sn sub ab col dd k0 k1 k2 k3 k5 newId) →
    s.heap.get? e = some (excO C t0) → us.length ≤ sizeLine →
    (∀ h' t1, (∀ b o, b ≠ e → s.heap.get? b = some o → h'.get? b = some o) → h'.get? e = some (excO C t1) → R (.ok (.ret .none)) { s with heap := h' }) →
    codeAny (model prog w) A (.call (.builtin initId) ⟨.ref e :: us, []⟩) R s
theorem XBase.of {B newId initId : String} {tl : List Value} (F : ExcBaseFacts B newId initId tl) : XBase newId initId tl :=
  ⟨fun {_ _ _ _ s _ _ _ _ _ _ _ _ _ _ _ _ _ _ _ _ _ _ _} hT hC hi hb hl hq => by obtain ⟨hp, g, d, t, os⟩ := s; exact call_own F hT hC hi hb hl hq,
   fun {_ _ _ _ s _ _ _ _ _ _ _ _ _ _ _ _ _ _ _ _ _ _ _ _} hT hC he hl hq => by obtain ⟨hp, g, d, t, os⟩ := s; exact init_base F hT hC he hl hq⟩
/-! ### .. where __new__ is another class's (KeyError has LookupError's) -/
section
variable {prog : Program} {w : World} {A : Around} {E : Value → Shared → Prop} {R : Result → Shared → Prop} {hp : Heap} {g : Array GenState} {d : Drawn} {t : Nat} {os : OsState}
variable {nm q : PySem.Str} {C N : Addr} {bs bm tL : List Value} {hdct : Bool} {sn : List PySem.Str} {sub : List Value} {ab : Bool} {col : Option Bool} {dd : Option Addr} {k0 k1 k2 k3 k5 : Option Value} {L B newId iL initId : String}
end
end DX
/-! ### exceptions with an own __init__ that calls its base's -/
namespace DX
open PySem PySem.Spec PySem.W PySem.Calls PyProof.Rows PySem.HandSPX
section
open Builtin Builtin.ObjectAttr
variable {prog : Program} {w : World} {A : Around} {R : Result → Shared → Prop} {hp : Heap} {g : Array GenState} {d : Drawn} {t : Nat} {os : OsState}
variable {K : Frag} {name : PySem.Str} {tk : Tok} {v : Value} {x C dx : Addr} {fv : Array Value} {cd : ClassData} {B : String} {bmB : List Value}
theorem taker0 (ha : findIn K (.ref C) name = some none) : takerIn K C name = some none := by unfold takerIn; rw [ha]; rfl
/-- the first field -/
theorem osa1 (SF : StoreFacts B bmB "object.__setattr__" "object") (X : K.In hp) (hx : hp.get? x = some { cls := .ref C, data := .fields fv }) (hcd : clsIn K C = some cd) (hh : cd.hasDict = true) (ho : excOver K C bmB = true) (ha : findIn K (.ref C) name = some none)
    (hq : ∀ h' tk' dx, (∀ b o, b ≠ x → hp.get? b = some o → h'.get? b = some o) → hp.objs.size ≤ dx → dx ≠ x → h'.get? x = some { cls := .ref C, dict := some dx, data := .fields fv } → h'.Ns1 dx (fun y => if y = name then some v else none) →
      R (.ok (.ret .none)) ⟨h', g, d, tk', os⟩) : codeAny (model prog w) A (.call (.builtin "object.__setattr__") ⟨[.ref x, .str name tk, v], []⟩) R ⟨hp, g, d, t, os⟩ := by
  refine osa_openX (s := ⟨hp, g, d, t, os⟩) SF X (show InstAt hp x _ C none from ⟨hx, rfl, rfl, trivial⟩) ho (taker0 ha) fun b => ?_
  have far : hp.objs.size ≠ x := (Nat.ne_of_lt (Heap.lt_size hx)).symm
  have lc : Looks (model prog w) hp (classData C) cd := looks_clsIn X hcd
  cases cd with
  | mk nm bs mro ns qn hd sn sb ab col del =>
  have hh' : hd = true := hh
  subst hh'
  unfold storeInOwnDict ownDictForStores
  repeat (first | with_reducible refine store_in_new ?_ ?_ | with_reducible refine wpAny_loadPart_at hx ?_ | with_reducible refine lc.at ?_ | wp_step)
  · exact ⟨_, #[], _, (Heap.get?_update_ne _ _ _ _ far).trans (Heap.get?_push_at rfl rfl), rfl, fun e he => absurd he (by simp), fun _ => rfl⟩
  · intro h2 t2 hn2 sb2
    refine hq h2 t2 hp.objs.size (fun c o hc e => ?_) (Nat.le_refl _) far ?_ hn2
    · exact (sb2.2 c (Nat.ne_of_lt (Heap.lt_size e))).trans ((Heap.get?_update_ne _ _ _ _ hc).trans (Heap.get?_push_of_some _ e))
    · exact (sb2.2 x far.symm).trans (Heap.get?_update_self _ (Heap.get?_push_of_some _ hx) rfl)
/-- a further one -/
theorem osa2 {m0 : PySem.Str → Option Value} {nl : List PySem.Str} (SF : StoreFacts B bmB "object.__setattr__" "object") (X : K.In hp) (hx : hp.get? x = some { cls := .ref C, dict := some dx, data := .fields fv }) (hns : hp.Ns1 dx m0) (hw : Within m0 nl) (hz : nl.length ≤ 1000)
    (hcd : clsIn K C = some cd) (hh : cd.hasDict = true) (ho : excOver K C bmB = true) (ha : findIn K (.ref C) name = some none)
    (hq : ∀ h' tk', (∀ b o, b ≠ dx → hp.get? b = some o → h'.get? b = some o) → h'.Ns1 dx (fun y => if y = name then some v else m0 y) → R (.ok (.ret .none)) ⟨h', g, d, tk', os⟩) :
    codeAny (model prog w) A (.call (.builtin "object.__setattr__") ⟨[.ref x, .str name tk, v], []⟩) R ⟨hp, g, d, t, os⟩ := by
  obtain ⟨oD, _, _, hD, _⟩ := hns.count hw
  refine osa_openX (s := ⟨hp, g, d, t, os⟩) SF X (show InstAt hp x _ C (some oD) from ⟨hx, rfl, rfl, hD⟩) ho (taker0 ha) fun b => ?_
  have lc : Looks (model prog w) hp (classData C) cd := looks_clsIn X hcd
  cases cd with
  | mk nm bs mro ns qn hd sn sb ab col del =>
  have hh' : hd = true := hh
  subst hh'
  unfold storeInOwnDict ownDictForStores
  repeat (first | with_reducible refine OEX.store_in_old hns hw hz ?_ | with_reducible refine wpAny_loadPart_at hx ?_ | with_reducible refine lc.at ?_ | wp_step)
  intro h2 t2 hn2 sb2
  exact hq h2 t2 (fun c o hc e => (sb2.2 c hc).trans e) hn2
end
/-- what the written part says of such a class -/
structure OexB (K : Frag) (B newId : String) (bmB : List Value) (C : Addr) : Prop where
  ini : excInitIn K C bmB newId = true
  over : excOver K C bmB = true
  hd : hasDictIn K C = true
  sa : findIn K (.ref C) "__setattr__" = some (some (.builtin "object.__setattr__"))
  sf : StoreFacts B bmB "object.__setattr__" "object"
theorem OexB.cd {K : Frag} {B newId : String} {bmB : List Value} {C : Addr} (T : OexB K B newId bmB C) : ∃ cd, clsIn K C = some cd ∧ cd.hasDict = true := by
  obtain ⟨cd, h1, h2⟩ := any_some T.hd
  exact ⟨cd, h1, h2⟩
end DX
namespace DL
open PySem PySem.Spec L2 DX
open PyProof.Rows hiding St
section
variable {X : Cx} {pins : List (Addr × Obj)} {σ : L2.St} {H : Hp} {s : Shared} {a C dx : Addr} {f : Str} {y : V} {u : Value} {fs : List (Str × V)} {Q : Unit → Shared → Prop} {E : Value → Shared → Prop} {A : Around} {B newId : String} {bmB : List Value}
theorem at_ext {H : Hp} {a b : Addr} {φ : Heap → Prop} {u : HO} (ha : H a = some (.ext φ)) (hb : H b = some u) (d : ∀ φ, u ≠ .ext φ) : b ≠ a := fun z => by
  rw [z, ha] at hb; cases hb; exact d _ rfl
theorem ostB1 (T : OexB X.K B newId bmB C) (I : Inv X pins σ H s) (e : H a = some (exo a C none)) (hno : PySem.W.findIn X.K (.ref C) f = some none) (ry : RelV y u)
    (h : ∀ dx s', H dx = none → dx ≠ a → Inv X pins σ (upd (upd H dx (exd dx [(f, y)])) a (exo a C (some dx))) s' → Q () s') : wpAny (model X.prog X.w) A (setAttr (.ref a) f u) Q E s := by
  obtain ⟨cd, c1, c2⟩ := T.cd
  obtain ⟨t1, ho⟩ := exo_at I.hok e
  obtain ⟨hp, g, d, t, os⟩ := s
  refine PySem.W.set_plain I.kIn (show PySem.W.InstAt hp a _ C none from ⟨ho, rfl, rfl, trivial⟩) T.sa (osa1 T.sf I.kIn ho c1 c2 T.over hno fun h' tk' dx k dn dne hx hn => ?_)
  have hnd : H dx = none := I.hok.fresh dn
  have old : ∀ {b : Addr} {o : Obj}, hp.get? b = some o → b ≠ dx := fun q => Nat.ne_of_lt (Nat.lt_of_lt_of_le (Heap.lt_size q) dn)
  have una : ∀ {b : Addr}, H b = none → b ≠ a := by rintro b n rfl; rw [e] at n; cases n
  have same : ∀ {b : Addr} {o : HO}, b ≠ a → H b = some o → upd (upd H dx (exd dx [(f, y)])) a (exo a C (some dx)) b = some o := fun hb q => by rw [upd_ne hb, upd_ne (ne_of_none q hnd)]; exact q
  refine h dx _ hnd dne (I.un (t' := tk') ⟨fun b o q n _ _ => k b o (una n) q, fun b o q n _ _ => ⟨o.slots, k b o (una n) q⟩, fun b o q n _ => ?_, fun b o q _ => ?_, fun b xs q => same (at_ext e q fun _ z => nomatch z) q, fun b o v q => same (at_ext e q fun _ z => nomatch z) q,
    fun b ps q => ⟨#[], by rw [same (at_ext e q fun _ z => nomatch z) q]; simp⟩⟩ fun b o q => ?_)
  · rw [upd_ne (una n), upd_ne (old q)]; exact n
  · by_cases hb : b = a
    · exact ⟨_, hb ▸ hx⟩
    · exact ⟨o, k b o hb q⟩
  · by_cases hb : b = a
    · subst hb
      rw [upd_same] at q
      cases q
      exact exo_ok hx
    · rw [upd_ne hb] at q
      by_cases hd : b = dx
      · subst hd
        rw [upd_same] at q
        cases q
        exact exd_ok hn (relO_put (fs := []) ry fun g => True.intro)
      · rw [upd_ne hd] at q
        refine (I.hok b o q).stay (fun c v hc z => k c v (hc.elim (fun e => e ▸ hb) fun hc => at_ext e hc fun _ z => nomatch z) z) (fun c hc => same (at_ext e hc fun _ z => nomatch z) hc) fun c xs hc => same (at_ext e hc fun _ z => nomatch z) hc
theorem ostB2 (T : OexB X.K B newId bmB C) (I : Inv X pins σ H s) (e : H a = some (exo a C (some dx))) (ed : H dx = some (exd dx fs)) (hl : fs.length ≤ 900) (hno : PySem.W.findIn X.K (.ref C) f = some none) (ry : RelV y u)
    (h : ∀ s', Inv X pins σ (upd H dx (exd dx ((f, y) :: fs))) s' → Q () s') : wpAny (model X.prog X.w) A (setAttr (.ref a) f u) Q E s := by
  obtain ⟨cd, c1, c2⟩ := T.cd
  obtain ⟨t1, ho⟩ := exo_at I.hok e
  obtain ⟨mA, hns, rel⟩ := exd_at I.hok ed
  obtain ⟨hp, g, d, t, os⟩ := s
  obtain ⟨oD, _, _, hD, _⟩ := hns.count (within_of rel)
  refine PySem.W.set_plain I.kIn (show PySem.W.InstAt hp a _ C (some oD) from ⟨ho, rfl, rfl, hD⟩) T.sa (osa2 T.sf I.kIn ho hns (within_of rel) (by rw [List.length_map]; omega) c1 c2 T.over hno fun h' tk' k hn => ?_)
  obtain ⟨o, _, _, e', _⟩ := id hn
  exact h _ (I.write (t' := tk') (x := dx) (e := dx) (o := exd dx ((f, y) :: fs)) (by rw [ed]; exact True.intro) (.inl rfl) k ⟨o, e'⟩ (exd_ok hn (relO_put ry rel)))
/-- the base's __init__ on it: nothing of it is told -/
theorem oinitB {initId : String} {us : List Value} {Q : Value → Shared → Prop} (T : OexB X.K B newId bmB C) (FB : DX.XBase newId initId bmB) (I : Inv X pins σ H s) (e : H a = some (exo a C none)) (hl : us.length ≤ sizeLine) (h : ∀ s', Inv X pins σ H s' → Q .none s') :
    wpAny (model X.prog X.w) A (call (.builtin initId) (.ref a :: us)) Q E s := by
  obtain ⟨nm, N, q, bs, bm, hdct, sn, sub, ab, col, dd, k0, k1, k2, k3, k5, hC, hT⟩ := PySem.W.excInit_of I.kIn T.ini
  obtain ⟨t1, ho⟩ := exo_at I.hok e
  obtain ⟨hp, g, d, t, os⟩ := s
  refine wpAny_call (FB.init (s := ⟨hp, g, d, t, os⟩) hT hC ho hl fun h' t2 k hx => ?_)
  have J := I.write (t' := t) (x := a) (e := a) (o := exo a C none) (by rw [e]; exact True.intro) (.inl rfl) k ⟨_, hx⟩ (exo_ok hx)
  have eu : upd H a (exo a C none) = H := by
    funext b
    by_cases hb : b = a
    · rw [hb, upd_same, e]
    · rw [upd_ne hb]
  exact h _ (eu ▸ J)
end
end DL

namespace DL
open PySem PySem.Spec L2 DX
open PyProof.Rows hiding St
/-! ### __init__ of such a class -/
/-- how the base's __init__ is reached: by a built-in class's name, or an own class's -/
structure BaseI (K : PySem.W.Frag) (mg : Str → Option Value) (b : Str) (initId : String) : Prop where
  ex : (∃ T : String, mg b = none ∧ bootBuiltins b = some (.type T) ∧ b ≠ "__name__" ∧ typeOf (.type T) = pure (.type "type") ∧ Manifest.isStub T = false ∧ PySem.W.findCls K (.type T) (.type "type") "__init__" = some (.val (.builtin initId))) ∨
    ∃ W, mg b = some (.ref W) ∧ PySem.W.specialIn K (.ref W) "__getattribute__" = some (some (.builtin "type.__getattribute__")) ∧ PySem.W.readsIn K W (.type "type") = true ∧ PySem.W.findCls K (.ref W) (.type "type") "__init__" = some (.val (.builtin initId))
/-- an exception being made, or of what it holds so far -/
def tBin (K : PySem.W.Frag) (C : Addr) (ta : TA) : TE := fun σ H Q => ta σ H fun vs H1 => ∃ (a : Addr) (ws : List V), vs = .ref a :: ws ∧ ws.length ≤ 1000 ∧ H1 a = some (exo a C none) ∧ Q .non H1
def tSt (f : Str) (C : Addr) (to te : TE) : TS := fun D σ H => te σ H fun y H1 => to σ H1 fun x H2 => ∃ a : Addr, x = .ref a ∧
  ((H2 a = some (exo a C none) ∧ ∀ dx, H2 dx = none → dx ≠ a → D.nx σ (upd (upd H2 dx (exd dx [(f, y)])) a (exo a C (some dx)))) ∨
    ∃ (dx : Addr) (fs : List (Str × V)), H2 a = some (exo a C (some dx)) ∧ H2 dx = some (exd dx fs) ∧ fs.length ≤ 900 ∧ D.nx σ (upd H2 dx (exd dx ((f, y) :: fs))))
section
variable {X : Cx} {o e : Expr} {es : List Expr} {to te : TE} {ta : TA} {f b : Str} {p p' p1 p2 pos : Pos} {B newId initId : String} {bmB : List Value} {C : Addr}
theorem pe_bin {pl : Sem Bool} (T : OexB X.K B newId bmB C) (FB : DX.XBase newId initId bmB) (BI : BaseI X.K X.mg b initId) (hg : Gl X b) (ha : PA X (e :: es) ta) (hh : PySem.W.handedIn (.builtin initId) = true)
    (hc : eval (.Call (.Attribute (.Name b p1) "__init__" p2) (e :: es) [] pos) X.env = (do
      let ov ← eval (.Name b p1) X.env
      standAt p2.atName
      let (f, first) ← holding [ov] (getMethod ov "__init__" pl)
      callWith pos f first (backTo pos (starEach (e :: es) X.env)) (backToKw pos (keywordEach [] X.env))) := by rfl)
    (hdb : (b == ("__debug__" : Str)) = false := by decide) (he : starEach (e :: es) X.env = (false, eval e X.env) :: starEach es X.env := by rfl) (hpl : (backTo pos (starEach es X.env)).any (·.1) = false := by rfl) :
    PE X (.Call (.Attribute (.Name b p1) "__init__" p2) (e :: es) [] pos) (tBin X.K C ta) := by
  refine ⟨fun pins s σ H Q I h => ?_⟩
  have fin : ∀ s0, Inv X pins σ H s0 → wpAny (model X.prog X.w) X.A (callWith pos (Value.builtin initId) [] (backTo pos (starEach (e :: es) X.env)) []) (EP X pins σ Q) X.xe s0 := fun s0 I0 =>
    PyProof.Rows.callWith_method1 (thn (ha.run pos pins _ σ H _ I0 h) fun us s1 ⟨vs, H1, I1, r1, a, ws, ev, hl, ea, q⟩ => by
      subst ev
      cases r1 with
      | @cons _ u0 _ ur ra rw' =>
        obtain rfl : u0 = Value.ref a := ra
        exact oinitB T FB I1 ea (by rw [← Paired.length rw', sizeLine_eq]; omega) fun s' J => ⟨.non, H1, J, rfl, q⟩) he hpl
  obtain ⟨m, fr⟩ := I.fr
  rcases BI.ex with ⟨Ty, b1, b2, b3, b4, b5, b6⟩ | ⟨W, b1, b2, b3, b4⟩
  · exact PySem.W.methodCall_KW (ld_blt I hg b1 b2 (PySem.W.method_type fr I.ok.mod.kin b4 b5 b6 hh (fin _ (I.tok _))) b3 hdb) hc
  · exact PySem.W.methodCall_KW (ld_glob I hg b1 (PySem.W.method_cls I.kIn b2 (PySem.W.cls_value I.kIn b3 b4 hh (fin _ (I.tok _)))) hdb) hc
theorem ps_stB (T : OexB X.K B newId bmB C) (hno : PySem.W.findIn X.K (.ref C) f = some none) (ho : PE X o to) (he : PE X e te) (hs : swapsWith e (some (.Attribute o f p')) pos.line X.env = pure false := by rfl) : PS X (.Assign [.Attribute o f p'] e pos) (tSt f C to te) := by
  refine ⟨fun pins s σ H D I h => ?_⟩
  refine plainObj_wpAny_Assign_Attribute (thn (he.run pins s σ H _ I h) fun v s1 ⟨y, H1, I1, r1, q1⟩ => thn (ho.run pins s1 σ H1 _ I1 q1) fun u s2 ⟨x, H2, I2, r2, a, ex, q⟩ => ?_) hs
  subst ex
  obtain rfl : u = Value.ref a := r2
  rcases q with ⟨ea, q⟩ | ⟨dx, fs, ea, ed, hl, q⟩
  · exact ostB1 T I2 ea hno r1 fun dx s' n ne J => ⟨σ, _, J, q dx n ne⟩
  · exact ostB2 T I2 ea ed hl hno r1 fun s' J => ⟨σ, _, J, q⟩
end
/-- what __init__ keeps: the fields, the last one first -/
def spI (C : Addr) (fs : List Str) : Sp := fun vs H Q _ => ∃ (a : Addr) (ws : List V), vs = .ref a :: ws ∧ ws.length = fs.length ∧ H a = some (exo a C none) ∧
  ∀ dx, H dx = none → dx ≠ a → Q .non (upd (upd H dx (exd dx (fs.zip ws).reverse)) a (exo a C (some dx)))
section
variable {P : Program} {w : World} {K : PySem.W.Frag} {mg : Str → Option Value} {base : Heap} {fI : Addr} {fd : FuncData} {qual f g m : Str} {pa : Arguments} {bd : List Stmt} {sc : Scope} {C : Addr}
abbrev tIni (K : PySem.W.Frag) (C : Addr) (m : Str) : TS := tDrop (tBin K C (tCons (tVar 0) (tCons (tC (.str m)) tNil)))
/-- .. with one field, with two: the body is read by its rules -/
theorem init1 (S : FnScope ["self", f] ["self", f] sc) (F : L2.FunD K "__init__" qual pa bd sc [] [] fI fd)
    (hb : ∀ cdv A outer s H E, PSs (cxOf (L2.CX P w) P w K mg base ["self", f] qual sc fI cdv A outer s H E) bd (tSeq (tIni K C m) (tSt f C (tVar 0) (tVar 1)))) : FnG P w K mg base 1 fI fd ["self", f] (spI C [f]) := by
  refine fnG_of F S (fun vs H Q E ⟨a, ws, e, hl, _⟩ => by rw [e, List.length_cons, hl]; rfl) fun cdv A outer s H vs Q E hr ⟨a, ws, e, hl, ha, q⟩ => ?_
  obtain ⟨v, rfl⟩ : ∃ v, ws = [v] := by
    match ws, hl with
    | [v], _ => exact ⟨v, rfl⟩
  subst e
  exact ⟨_, hb cdv A outer s H E, _, rfl, a, _, rfl, by simp, ha, _, rfl, _, rfl, a, rfl, .inl ⟨ha, fun dx hx hne => q dx hx hne⟩⟩
end
/-! ### raise X(e, ..) -/
/-- such a class, as it is raised -/
structure RaiseI (P : Program) (w : World) (K : PySem.W.Frag) (mg : Str → Option Value) (base : Heap) (k : Nat) (x : Str) (C : Addr) (fs : List Str) : Prop where
  ex : ∃ (B newId initId : String) (bmB : List Value) (fI : Addr) (fd : FuncData), OexB K B newId bmB C ∧ DX.XBase newId initId bmB ∧ PySem.W.findIn K (.ref C) "__init__" = some (some (.ref fI)) ∧ PySem.W.isFn K (.ref fI) = true ∧
    FnG P w K mg base k fI fd ("self" :: fs) (spI C fs) ∧ Binds K fd ("self" :: fs) []
  mgC : mg x = some (.ref C)
  kp : PySem.W.keepIn K (.ref C) = true
  sub : PySem.W.subIn K (.ref C) (.type "BaseException") = some true
  ty : PySem.W.typeIn K (.ref C) = some (.type "type")
theorem passK0 {X : Cx} {pins : List (Addr × Obj)} {σ : L2.St} {H : Hp} {s s' : Shared} {e : Value} (I : Inv X pins σ H s) (c : L2.CX X.prog X.w X.stack H s (fun _ _ _ => False) e s') : X.xe e s' := passF pins H s e s' I c
def tMkB (C : Addr) (fs : List Str) (ta : TA) : L2.St → Hp → XK → Prop := fun σ H Q => ta σ H fun vs H1 => vs.length = fs.length ∧ ∀ d, H1 d = none → Q (.ref C) (some d) (upd H1 d (.xd (fs.zip vs).reverse))
theorem pmkB {X : Cx} {k j : Nat} {x : Str} {C : Addr} {fs : List Str} {e : Expr} {es : List Expr} {ta : TA} {p pos : Pos} (R : RaiseI X.prog X.w X.K X.mg X.base k x C fs) (hr : RoomG j X.A) (hj : k + 1 ≤ j) (hg : Gl X x) (ha : PA X (e :: es) ta) (hz : fs.length ≤ 1000)
    (hdb : (x == ("__debug__" : Str)) = false := by decide) (he : starEach (e :: es) X.env = (false, eval e X.env) :: starEach es X.env := by rfl) (hpl : (backTo pos (starEach es X.env)).any (·.1) = false := by rfl) :
    PMk X (.Call (.Name x p) (e :: es) [] pos) (tMkB C fs ta) := by
  intro pins s σ H Q I h
  obtain ⟨B, newId, initId, bmB, fI, fd, T, FB, iC, tI, F1, hb⟩ := R.ex
  refine wpAny_Call_Name_kw (ld_glob I hg R.mgC ?_ hdb)
  refine PySem.W.callWith_K (h₀ := X.base) I.ok.mod.kin R.kp (thn (ha.run pos pins s σ H _ I h) fun us s1 ⟨vs, H1, I1, rv, hl, q⟩ => ⟨I1.kIn, ?_⟩) he hpl
  obtain ⟨nm, N, qn, bs, bm, hdct, sn, sub, ab, col, dd, k0, k1, k2, k3, k5, hC, hT⟩ := PySem.W.excInit_of I1.kIn T.ini
  obtain ⟨hp, gg, dr, tk, os⟩ := s1
  let h2 := (hp.push (PySem.W.kdv_tup us)).push (PySem.HandSPX.excO C hp.objs.size)
  have kk : ∀ b o, hp.get? b = some o → h2.get? b = some o := fun b o z => Heap.get?_push_of_some _ (Heap.get?_push_of_some _ z)
  have at2 : h2.get? (hp.objs.size + 1) = some (PySem.HandSPX.excO C hp.objs.size) := by show Heap.get? ((hp.push (PySem.W.kdv_tup us)).push (PySem.HandSPX.excO C hp.objs.size)) (hp.objs.size + 1) = _; heap_get
  have big : hp.objs.size ≤ hp.objs.size + 1 := Nat.le_succ _
  have I2 : Inv X pins σ (upd H1 (hp.objs.size + 1) (exo (hp.objs.size + 1) C none)) ⟨h2, gg, dr, tk, os⟩ := I1.laid (t' := tk) kk big (exo_ok at2)
  have r2 : Vals (V.ref (hp.objs.size + 1) :: vs) (Value.ref (hp.objs.size + 1) :: us) := .cons rfl rv
  have lu : us.length = vs.length := (Paired.length rv).symm
  have hus : us.length ≤ sizeLine := by rw [lu, hl, sizeLine_eq]; omega
  have roomC : RoomG k (X.A.under (.builtin "type.__call__" ⟨.ref C :: us, []⟩)) := (hr.mono hj).make C us []
  have bnd := hb ⟨h2, gg, dr, tk, os⟩ (Value.ref (hp.objs.size + 1) :: us) I2.kIn (by simp [lu, hl])
  rw [List.append_nil] at bnd
  refine wpAny_call (FB.call (s := ⟨hp, gg, dr, tk, os⟩) hT hC (PySem.W.looks_findIn I1.kIn iC) (fun self => PySem.W.bind_fn I1.kIn self (beq_iff_eq.mp tI)) hus
    (codeAny_mono (F1.run _ X.stack _ _ ⟨Value.ref (hp.objs.size + 1) :: us, []⟩ _ _ (fun v H3 => v = .non ∧ ∃ d, H1 d = none ∧ H3 = upd (upd (upd H1 (hp.objs.size + 1) (exo (hp.objs.size + 1) C none)) d (exd d (fs.zip vs).reverse)) (hp.objs.size + 1) (exo (hp.objs.size + 1) C (some d)) ∧ d ≠ hp.objs.size + 1) (fun _ _ _ => False) roomC (I2.env0.make C us []) bnd r2
      ⟨_, vs, rfl, hl, upd_same, fun dx hx hne => ⟨rfl, dx, by rw [upd_ne hne] at hx; exact hx, rfl, hne⟩⟩) fun r s' hq => ?_))
  match r, hq with
  | .error er, hq => exact passK0 I2 hq
  | .ok (.ret u), ⟨v, H3, os2, bare2, un2, hok2, rvv, ev, d, hd1, eH, hne⟩ =>
    subst ev
    have ea : H3 (hp.objs.size + 1) = some (exo (hp.objs.size + 1) C (some d)) := by rw [eH, upd_same]
    have ed : H3 d = some (exd d (fs.zip vs).reverse) := by rw [eH, upd_ne hne, upd_same]
    have eq : upd (del H3 (hp.objs.size + 1)) d (.xd (fs.zip vs).reverse) = upd H1 d (.xd (fs.zip vs).reverse) := by
      funext c
      by_cases h1 : c = d
      · subst h1; rw [upd_same, upd_same]
      · rw [upd_ne h1, upd_ne h1]
        by_cases h3 : c = hp.objs.size + 1
        · subst h3; rw [del_same]; exact (I1.hok.fresh big).symm
        · rw [del_ne h3, eH, upd_ne h3, upd_ne h1, upd_ne h3]
    obtain ⟨h4, g4, d4, t4, os4⟩ := s'
    exact ⟨rvv, mk_end (raises_own R.sub R.ty) I1 big kk un2 hok2 os2 bare2 ea ed hd1 (eq ▸ q d hd1)⟩
  | .ok .next, hq => exact hq.elim
  | .ok .brk, hq => exact hq.elim
  | .ok .cont, hq => exact hq.elim
end DL

namespace DL
open PySem PySem.Spec L2 DX
open PyProof.Rows hiding St
/-! ### try: .. except X as n: .., the exception tracked -/
section
variable {X : Cx} {pins : List (Addr × Obj)} {σ : L2.St} {H : Hp} {s sI : Shared} {a C : Addr} {oe : Obj} {d : Option Addr} {vs : Array Value}
theorem track (J : Inv X pins σ H sI) (new : sI.heap.get? a = none) (I : Inv X pins σ H s) (he : s.heap.get? a = some oe) (hz : Zc (.ref C) d oe) (hd : oe.data = .fields vs) (na : H a = none) : Inv X pins σ (upd H a (ExV C d a)) s := by
  have off : ∀ {b : Addr} {o : Obj}, sI.heap.get? b = some o → b ≠ a := by rintro b o e rfl; rw [new] at e; cases e
  have keep : ∀ {b : Addr} {o : HO}, H b = some o → upd H a (ExV C d a) b = some o := fun q => by rw [upd_ne (ne_of_none q na)]; exact q
  obtain ⟨b1, b2, b3, b4, b5, b6, b7⟩ := I.base
  refine ⟨I.ok, I.os, I.bare, ⟨b1, b2, fun b o e n hx => ?_, b4, fun b xs e => keep (b5 b xs e), fun b o u e => keep (b6 b o u e), fun b ps e => ?_⟩, I.loc, I.cell, ?_, fun x c e => ?_, fun p hp => ?_, fun b u e => ?_, I.len⟩
  · obtain ⟨o', e'⟩ := J.base.there b o e hx
    rw [upd_ne (off e')]
    exact b3 b o e n hx
  · obtain ⟨m, q⟩ := b7 b ps e
    exact ⟨m, keep q⟩
  · obtain ⟨m, hn, _⟩ := J.loc
    obtain ⟨o, _, _, eo, _⟩ := id hn
    rw [upd_ne (off eo)]; exact I.free
  · obtain ⟨v, o, eo, _⟩ := J.cell x c e
    rw [upd_ne (off eo)]; exact I.freeC x c e
  · obtain ⟨p1, p2, p3⟩ := I.pin p hp
    exact ⟨p1, by rw [upd_ne (off (J.pin p hp).1)]; exact p2, p3⟩
  · by_cases hb : b = a
    · subst hb
      rw [upd_same] at e
      cases e
      exact ⟨⟨oe, vs, he, hz, hd⟩, ⟨_, he⟩, fun h1 h2 ⟨o, v, q, r⟩ k => ⟨o, v, k _ q, r⟩⟩
    · rw [upd_ne hb] at e
      exact (I.hok b u e).stay (fun c v _ q => q) (fun c q => keep q) fun c xs q => keep q
end
def endsAs : Option Nat → Ends → Ends
  | none, D => D
  | some i, D => { nx := fun σ H => D.nx (σ.set i none) H, rt := D.rt, bk := fun σ H => D.bk (σ.set i none) H, ct := fun σ H => D.ct (σ.set i none) H }
def setAs : Option Nat → Addr → L2.St → L2.St
  | none, _, σ => σ
  | some i, a, σ => σ.set i (some (.ref a))
/-- names of classes, as a tuple has them -/
inductive NamesL (X : Cx) : List Value → List Expr → Prop
  | nil : NamesL X [] []
  | cons {x : Str} {c : Value} {np : Pos} {cs : List Value} {es : List Expr} (hc : Names X x c) (hb : ∃ u v, PySem.W.exmOne X.K u c = some v) (r : NamesL X cs es) : NamesL X (c :: cs) (.Name x np :: es)
/-- the clauses' wishes, one behind the other -/
def wHs (K : PySem.W.Frag) (Wout : WX) (D : Ends) : List (Value × Option Nat × TS) → WX
  | [] => Wout
  | (c, oi, ts) :: r => fun cls d σ H => ∃ b, PySem.W.exmOne K cls c = some b ∧ (b = true → ∃ C, cls = .ref C ∧ ∀ a, H a = none → ts (endsAs oi D) (setAs oi a σ) (upd H a (ExV C d a))) ∧ (b = false → wHs K Wout D r cls d σ H)
inductive Hds (X : Cx) : List ExceptHandler → List (Value × Option Nat × TS) → Prop
  | nil : Hds X [] []
  | one {x : Str} {c : Value} {ts : TS} {b0 : Stmt} {suite : List Stmt} {np hp : Pos} {hs : List ExceptHandler} {l : List (Value × Option Nat × TS)} (hc : Names X x c) (hsu : ∀ (a : Addr) (pn : List (Addr × Obj)), PSs (X.suite a pn) (b0 :: suite) ts) (r : Hds X hs l) :
      Hds X (.ExceptHandler (some (.Name x np)) none (b0 :: suite) hp :: hs) ((c, none, ts) :: l)
  | as_ {x n : Str} {i : Nat} {c : Value} {ts : TS} {b0 : Stmt} {suite : List Stmt} {np hp : Pos} {hs : List ExceptHandler} {l : List (Value × Option Nat × TS)} (hc : Names X x c) (hi : X.N[i]? = some n) (hl : X.env.kindOf n = some .local) (hsu : ∀ (a : Addr) (pn : List (Addr × Obj)), PSs (X.suite a pn) (b0 :: suite) ts)
      (r : Hds X hs l) : Hds X (.ExceptHandler (some (.Name x np)) (some n) (b0 :: suite) hp :: hs) ((c, some i, ts) :: l)
  | tas_ {n : Str} {i : Nat} {cs : List Value} {es : List Expr} {ts : TS} {b0 : Stmt} {suite : List Stmt} {kk : Nat} {tp hp : Pos} {hs : List ExceptHandler} {l : List (Value × Option Nat × TS)} (hx : NamesL X cs es) (hz : cs.length ≤ 100) (hi : X.N[i]? = some n) (hl : X.env.kindOf n = some .local) (hsu : ∀ (a : Addr) (pn : List (Addr × Obj)), PSs (X.suite a pn) (b0 :: suite) ts)
      (r : Hds X hs l) : Hds X (.ExceptHandler (some (.Tuple es kk tp)) (some n) (b0 :: suite) hp :: hs) (cs.map (fun c => (c, some i, ts)) ++ l)
section
variable {X : Cx} {pins : List (Addr × Obj)} {σ : L2.St} {H : Hp} {a : Addr} {B : Heap} {sI s1 : Shared} {cls : Value} {d : Option Addr} {D : Ends} {Wout : WX}
/-- an exception that is looked at by the clauses -/
structure Caught (X : Cx) (pins : List (Addr × Obj)) (σ : L2.St) (H : Hp) (a : Addr) (B : Heap) (sI s1 : Shared) (cls : Value) (d : Option Addr) : Prop where
  J : Inv X pins σ H sI
  nb : ∀ b o, sI.heap.get? b = some o → b ∉ frs X.stack → B.get? b = some o
  up : sI.heap.UpToSlots s1.heap
  fl : HandSPX.FlyingZ B (X.env :: X.outer) a (Zc cls d) s1.heap
  na : H a = none
  os : s1.os = sI.os
  ag : AllBare s1.gens
theorem Caught.off (c : Caught X pins σ H a B sI s1 cls d) : a ∉ frs (X.env :: X.outer) := fun hm => by
  obtain ⟨oe, vs, he, hz, hd⟩ := c.fl.there
  obtain ⟨_, o', e', hnf⟩ := c.fl.2.2.1.mem hm
  rw [he] at e'; cases e'
  exact hnf _ hd
theorem Caught.new (c : Caught X pins σ H a B sI s1 cls d) (hs : X.stack = X.env :: X.outer) : sI.heap.get? a = none := by
  cases e : sI.heap.get? a with
  | none => rfl
  | some o =>
    have z := c.nb a o e (hs ▸ c.off)
    rw [c.fl.2.1] at z; cases z
theorem Caught.inv (c : Caught X pins σ H a B sI s1 cls d) : Inv X pins σ H s1 := c.J.landed c.nb c.fl.1 c.up c.os c.ag
theorem Caught.on {h4 : Heap} (c : Caught X pins σ H a B sI s1 cls d) (f : HandSPX.FlyingZ B (X.env :: X.outer) a (Zc cls d) h4) (u : s1.heap.UpToSlots h4) : Caught X pins σ H a B sI { s1 with heap := h4 } cls d := ⟨c.J, c.nb, c.up.trans u, f, c.na, c.os, c.ag⟩
theorem suite0 {s : Shared} (I : Inv X pins σ H s) (a : Addr) : Inv (X.suite a (X.pn ++ pins)) [] σ H s :=
  ⟨I.ok.suite _ _, I.os, I.bare, I.base, I.loc, I.cell, I.free, I.freeC, fun p hp => I.pin p (by have := hp; rw [List.append_nil] at this; exact this), I.hok, I.len⟩
theorem unsuite0 {s : Shared} (ok : X.Ok) (I : Inv (X.suite a (X.pn ++ pins)) [] σ H s) : Inv X pins σ H s :=
  ⟨ok, I.os, I.bare, I.base, I.loc, I.cell, I.free, I.freeC, fun p hp => I.pin p (List.mem_append_left _ hp), I.hok, I.len⟩
/-- a class by its name, asked where the exception is handled -/
theorem caught_test (c : Caught X pins σ H a B sI s1 cls d) {x : Str} {np : Pos} {cv : Value} {b : Bool} (hc : Names X x cv) (hb : PySem.W.exmOne X.K cls cv = some b) {R : Result → Shared → Prop} {pos : Pos} (q : R (.ok (if b then .brk else .next)) s1) :
    codeAny (model X.prog X.w) (X.A.mark (some (.ref a))) (.handlers (.ref a) [.ExceptHandler (some (.Name x np)) none [] pos] X.env) R s1 := by
  obtain ⟨oe, vs, he, hz, hd⟩ := c.fl.there
  have look : PySem.W.Looks (model X.prog X.w) s1.heap (typeOf (.ref a)) cls := fun _ _ _ _ k q => wpAny_typeOf_ref (k _ _ he) (by rw [hz.1]; exact q)
  have fin := (PySem.W.exm_one (M := model X.prog X.w) c.inv.kIn look hb).here (A := X.A.mark (some (.ref a))) (Q := fun b' s2 => R (.ok (if b' then .brk else .next)) s2) (E := notedBy (model X.prog X.w) (X.A.mark (some (.ref a))) X.env fun x s2 => R (.error x) s2) q
  refine codeAny_handlers_test ?_
  obtain ⟨hg, hdb, hm | ⟨hm, hv, hnn⟩⟩ := hc
  · exact ld_glob (X := X.suite a (X.pn ++ pins)) (suite0 c.inv a) hg hm fin hdb
  · exact ld_blt (X := X.suite a (X.pn ++ pins)) (suite0 c.inv a) hg hm hv fin hnn hdb
/-- a class of a tuple, if any, is hit -/
def hitB (K : PySem.W.Frag) (cls : Value) (cs : List Value) : Bool → Prop
  | true => ∃ pre c post, cs = pre ++ c :: post ∧ (∀ p ∈ pre, PySem.W.exmOne K cls p = some false) ∧ PySem.W.exmOne K cls c = some true
  | false => ∀ p ∈ cs, PySem.W.exmOne K cls p = some false
theorem wHs_tup {K : PySem.W.Frag} {i : Nat} {ts : TS} {l : List (Value × Option Nat × TS)} : ∀ {cs : List Value}, wHs K Wout D (cs.map (fun c => (c, some i, ts)) ++ l) cls d σ H →
    (hitB K cls cs true ∧ ∃ C, cls = .ref C ∧ ∀ a, H a = none → ts (endsAs (some i) D) (setAs (some i) a σ) (upd H a (ExV C d a))) ∨ (hitB K cls cs false ∧ wHs K Wout D l cls d σ H)
  | [], w => .inr ⟨fun p hp => absurd hp (by simp), w⟩
  | c :: cs, ⟨b, hb, hy, hn⟩ => by
    cases b with
    | true => exact .inl ⟨⟨[], c, cs, rfl, fun p hp => absurd hp (by simp), hb⟩, hy rfl⟩
    | false =>
      rcases wHs_tup (cs := cs) (hn rfl) with ⟨⟨pre, c', post, e, h1, h2⟩, q⟩ | ⟨h1, q⟩
      · exact .inl ⟨⟨c :: pre, c', post, by rw [e]; rfl, fun p hp => (List.mem_cons.mp hp).elim (fun z => z ▸ hb) (h1 p), h2⟩, q⟩
      · exact .inr ⟨fun p hp => (List.mem_cons.mp hp).elim (fun z => z ▸ hb) (h1 p), q⟩
theorem fl_keeps {Z : Obj → Prop} {l : List Env} {h h' : Heap} (R : HandSPX.FlyingZ B l a Z h) (k : ∀ b o, h.get? b = some o → h'.get? b = some o) : HandSPX.FlyingZ B l a Z h' := by
  obtain ⟨f1, f2, f3, oe, vs, T, oT, ts, he, hz, hd, h1, h2, h3, hT, hdT, h4⟩ := R
  exact ⟨fun b o q => k b o (f1 b o q), f2, f3.of_keeps fun b o q _ => ⟨o, k b o q, rfl⟩, oe, vs, T, oT, ts, k _ _ he, hz, hd, h1, h2, h3, k _ _ hT, hdT, h4⟩
section
variable {M : Model} {A : Around} {E : Value → Shared → Prop}
theorem fin_go {β : Type} {f : Value → β → Sem (ForInStep β)} {b : β} {s : Shared} {Q : β → Shared → Prop} : ∀ {cs : List Value}, (∀ c ∈ cs, ∀ Q : ForInStep β → Shared → Prop, Q (.yield b) s → wpAny M A (f c b) Q E s) → Q b s → wpAny M A (forIn cs b f) Q E s
  | [], _, q => by rw [List.forIn_nil]; exact wpAny_pure q
  | c :: cs, h, q => by
    rw [List.forIn_cons]
    exact wpAny_bind (h c List.mem_cons_self _ (fin_go (fun c' h' => h c' (List.mem_cons_of_mem _ h')) q))
theorem fin_hit {β : Type} {f : Value → β → Sem (ForInStep β)} {b b2 : β} {s : Shared} {Q : β → Shared → Prop} {c : Value} {post : List Value} : ∀ {pre : List Value}, (∀ c ∈ pre, ∀ Q : ForInStep β → Shared → Prop, Q (.yield b) s → wpAny M A (f c b) Q E s) → (∀ Q : ForInStep β → Shared → Prop, Q (.done b2) s → wpAny M A (f c b) Q E s) → Q b2 s → wpAny M A (forIn (pre ++ c :: post) b f) Q E s
  | [], _, h2, q => by
    rw [List.nil_append, List.forIn_cons]
    exact wpAny_bind (h2 _ (wpAny_pure q))
  | c' :: pre, h, h2, q => by
    rw [List.cons_append, List.forIn_cons]
    exact wpAny_bind (h c' List.mem_cons_self _ (fin_hit (fun c2 h' => h c2 (List.mem_cons_of_mem _ h')) h2 q))
end
theorem exm_tupN {M : Model} {K : PySem.W.Frag} {cs : List Value} {tp e : Addr} {b : Bool} {h : Heap} (X : K.In h) (LT : PySem.W.Looks M h (typeOf (.ref e)) cls) (hp : h.get? tp = some { cls := .type "tuple", data := .seq cs.toArray }) (hsub : ∀ c ∈ cs, ∃ u v, PySem.W.exmOne K u c = some v) (hx : hitB K cls cs b) :
    PySem.W.Looks M h (excMatches (.ref e) (.ref tp)) b := by
  intro A Q E s k0 q
  obtain ⟨hh, g, dr, tk, os⟩ := s
  have k : ∀ b o, h.get? b = some o → hh.get? b = some o := k0
  have LT0 : PySem.W.Looks M h (isInstance (.ref tp) (.type "tuple")) true := ((PySem.W.Looks.ld hp).andThen .now).andThen (PySem.W.Looks.of_pure isSubtype_tuple_tuple)
  have LT2 := LT.keeps k
  have LT1 := LT0.keeps k
  have hp' := k _ _ hp
  have one : ∀ c ∈ cs, PySem.W.Looks M hh (isExcClass c) true := fun c hc => by
    obtain ⟨u, v, hv⟩ := hsub c hc
    exact (PySem.W.exm_cls (M := M) X hv).1.keeps k
  have two : ∀ c v, PySem.W.exmOne K cls c = some v → PySem.W.Looks M hh (isSubtype cls c) v := fun c v hv => (PySem.W.exm_cls (M := M) X hv).2.keeps k
  unfold excMatches
  refine wpAny_bind (LT1.at ?_)
  dsimp only
  rw [if_pos rfl]
  refine wpAny_bind (wpAny_seqItems hp' rfl (wpAny_bind (wpAny_pure ?_)))
  simp only [Option.getD_some]
  refine wpAny_bind (fin_go (fun c hc Q q => ?_) ?_)
  · refine wpAny_bind ((one c hc).at ?_)
    simp only [Bool.not_true, Bool.false_eq_true, if_false]
    exact wpAny_pure q
  · refine wpAny_bind (LT2.at ?_)
    cases b with
    | true =>
      obtain ⟨pre, c, post, rfl, h1, h2⟩ := hx
      refine wpAny_bind (fin_hit (b2 := (some true, ())) (fun p hp Q q => ?_) (fun Q q => ?_) ?_)
      · refine wpAny_bind ((two p false (h1 p hp)).at ?_)
        simp only [Bool.false_eq_true, if_false]
        exact wpAny_pure q
      · refine wpAny_bind ((two c true h2).at ?_)
        simp only [if_true]
        exact wpAny_pure q
      · exact wpAny_pure q
    | false =>
      refine wpAny_bind (fin_go (fun p hp Q q => ?_) ?_)
      · refine wpAny_bind ((two p false (hx p hp)).at ?_)
        simp only [Bool.false_eq_true, if_false]
        exact wpAny_pure q
      · exact wpAny_pure q
theorem names_ok {cs : List Value} {es : List Expr} (hx : NamesL X cs es) : ∀ c ∈ cs, ∃ u v, PySem.W.exmOne X.K u c = some v := by
  induction hx with
  | nil => exact fun c hc => absurd hc (by simp)
  | cons hc hb r ih => exact fun c hc => (List.mem_cons.mp hc).elim (fun z => z ▸ hb) (ih c)
theorem names_go (c : Caught X pins σ H a B sI s1 cls d) {cs : List Value} {es : List Expr} (hx : NamesL X cs es) {E : Value → Shared → Prop} {pos : Pos} : ∀ {Q : List Value → Shared → Prop}, Q cs s1 → wpAny (model X.prog X.w) (X.A.mark (some (.ref a))) (spliced (backTo pos (starEach es X.env))) Q E s1 := by
  induction hx with
  | nil => exact fun q => wpAny_items_nil q
  | @cons x cv np cs es hc hb r ih =>
    intro Q q
    have fin := ih (Q := fun vs s2 => Q (cv :: vs) s2) q
    refine wpAny_items_cons ?_
    obtain ⟨hg, hdb, hm | ⟨hm, hv, hnn⟩⟩ := hc
    · exact ld_glob (X := X.suite a (X.pn ++ pins)) (suite0 c.inv a) hg hm fin hdb
    · exact ld_blt (X := X.suite a (X.pn ++ pins)) (suite0 c.inv a) hg hm hv fin hnn hdb
theorem caught_testT (c : Caught X pins σ H a B sI s1 cls d) {cs : List Value} {es : List Expr} {kk : Nat} {tp : Pos} {b : Bool} (hx : NamesL X cs es) (hz : cs.length ≤ 100) (hb : hitB X.K cls cs b) {R : Result → Shared → Prop} {pos : Pos}
    (q : ∀ h4, (∀ b o, s1.heap.get? b = some o → h4.get? b = some o) → R (.ok (if b then .brk else .next)) { s1 with heap := h4 }) :
    codeAny (model X.prog X.w) (X.A.mark (some (.ref a))) (.handlers (.ref a) [.ExceptHandler (some (.Tuple es kk tp)) none [] pos] X.env) R s1 := by
  obtain ⟨oe, vs, he, hz2, hd⟩ := c.fl.there
  have kp : ∀ b o, s1.heap.get? b = some o → (s1.heap.push { cls := .type "tuple", data := .seq cs.toArray }).get? b = some o := fun _ _ z => Heap.get?_push_of_some _ z
  have look : PySem.W.Looks (model X.prog X.w) (s1.heap.push { cls := .type "tuple", data := .seq cs.toArray }) (typeOf (.ref a)) cls := fun _ _ _ _ k q => wpAny_typeOf_ref (k _ _ (kp _ _ he)) (by rw [hz2.1]; exact q)
  refine codeAny_handlers_test (wpAny_Tuple (names_go c hx ⟨by rw [sizeLine_eq]; omega, ?_⟩))
  exact (exm_tupN (M := model X.prog X.w) (c.inv.kIn.keeps kp) look (Heap.get?_push_size s1.heap rfl) (names_ok hx) hb).here (q _ kp)
theorem ends_back (ok : X.Ok) {C : Addr} {f : Flow} {s6 : Shared} {D' : Ends} (h : SP (X.suite a (X.pn ++ pins)) [] D' f s6) : SP X pins D' f s6 := by
  cases f with
  | next => obtain ⟨σ6, H6, S6, q⟩ := h; exact ⟨_, _, unsuite0 ok S6, q⟩
  | brk => obtain ⟨σ6, H6, S6, q⟩ := h; exact ⟨_, _, unsuite0 ok S6, q⟩
  | cont => obtain ⟨σ6, H6, S6, q⟩ := h; exact ⟨_, _, unsuite0 ok S6, q⟩
  | ret u => obtain ⟨v, σ6, H6, S6, r, q⟩ := h; exact ⟨_, _, _, unsuite0 ok S6, r, q⟩
theorem caught_go (hs : X.stack = X.env :: X.outer) (hf : X.env.frame = some X.env.locals) (hN : X.N.Nodup) (ok : X.Ok) (tk : Takes X Wout) (c : Caught X pins σ H a B sI s1 cls d) {hds : List ExceptHandler} {l : List (Value × Option Nat × TS)} (hk : Hds X hds l) :
    wHs X.K Wout D l cls d σ H → wpAny (model X.prog X.w) X.A (handleBy (.ref a) X.env hds) (SP X pins D) X.xe s1 := by
  induction hk generalizing s1 with
  | nil =>
    intro w
    refine wpAny_handleBy_nil ?_
    obtain ⟨_, _, _, oe, vs, T, oT, ts', he, hz, hd, h1, hr⟩ := id c.fl
    have up : wpAny (model X.prog X.w) X.A (setFlight (.ref a) X.env.frame) (fun _ s4 => wpAny (model X.prog X.w) X.A (throw (.ref a) : Sem Flow) (SP X pins D) X.xe s4) X.xe s1 := by
      rw [hf]
      exact HandSPX.setFlight_upZ c.fl fun h4 held up4 => wpAny_throw (tk _ _ ⟨a, B, sI, pins, σ, H, cls, d, rfl, c.J, c.nb, c.up.trans up4, .inr (.inr (by rw [hs]; exact held)), c.na, c.os, c.ag, w⟩)
    unfold PySem.passOn
    refine wpAny_bind (wpAny_field he hd h1 ?_)
    rw [if_neg (show ¬ ((Value.ref T == Value.none) = true) by simp)]
    first
      | exact wpAny_bind (wpAny_pure (wpAny_bind up))
      | exact wpAny_bind up
  | @one x cv ts b0 suite np hp hs2 l2 hc hsu r ih =>
    intro ⟨b, hb1, hyes, hno⟩
    refine wpAny_handleBy_cons (caught_test c hc hb1 ?_) (by intro q; cases q)
    cases b with
    | false => exact ih c (hno rfl)
    | true =>
      refine codeAny_handlers_suite (HandSPX.lands_againZ c.fl fun h4 fl4 up4 => ?_)
      have c4 := c.on fl4 up4
      obtain ⟨C, rfl, q⟩ := hyes rfl
      obtain ⟨oe, vs, he, hz, hd⟩ := fl4.there
      have S := suite0 (track c.J (c.new hs) c4.inv he hz hd c.na) a
      exact wpAny_mono ((hsu a (X.pn ++ pins)).run [] _ _ _ _ S (q a c.na)) (fun f s6 h => ends_back (C := C) ok h) fun _ _ z => z.elim
  | @as_ x n i cv ts b0 suite np hp hs2 l2 hc hi hl hsu r ih =>
    intro ⟨b, hb1, hyes, hno⟩
    refine wpAny_handleBy_cons (caught_test c hc hb1 ?_) (by intro q; cases q)
    cases b with
    | false => exact ih c (hno rfl)
    | true =>
      refine codeAny_handlers_suite_as (HandSPX.lands_againZ c.fl fun h4 fl4 up4 => ?_)
      have c4 := c.on fl4 up4
      obtain ⟨C, rfl, q⟩ := hyes rfl
      obtain ⟨oe, vs, he, hz, hd⟩ := fl4.there
      have S := suite0 (track c.J (c.new hs) c4.inv he hz hd c.na) a
      refine store_ok (X := X.suite a (X.pn ++ pins)) (v := .ref a) S hN hi (.inl hl) rfl (fun s5 S5 => ?_) (.inr hl)
      refine wpAny_mono ((hsu a (X.pn ++ pins)).run [] s5 _ _ _ S5 (q a c.na)) (fun f s6 h => ?_) fun _ _ z => z.elim
      have h' := ends_back (C := C) ok h
      cases f with
      | next => obtain ⟨σ6, H6, S6, q⟩ := h'; exact gone_ok S6 hN hi hl fun s7 J7 => ⟨_, _, J7, q⟩
      | brk => obtain ⟨σ6, H6, S6, q⟩ := h'; exact gone_ok S6 hN hi hl fun s7 J7 => ⟨_, _, J7, q⟩
      | cont => obtain ⟨σ6, H6, S6, q⟩ := h'; exact gone_ok S6 hN hi hl fun s7 J7 => ⟨_, _, J7, q⟩
      | ret u => obtain ⟨v, σ6, H6, S6, r, q⟩ := h'; exact gone_ok S6 hN hi hl fun s7 J7 => ⟨_, _, _, J7, r, q⟩
  | @tas_ n i cs es ts b0 suite kk tp hp hs2 l2 hx hz hi hl hsu r ih =>
    intro w
    rcases wHs_tup w with ⟨hh, C, rfl, q⟩ | ⟨hh, w2⟩
    · refine wpAny_handleBy_cons (caught_testT c hx hz hh fun h4 k4 => ?_) (by intro q; cases q)
      have c4 := c.on (fl_keeps c.fl k4) (Heap.UpToSlots.of_keeps k4)
      refine codeAny_handlers_suite_as (HandSPX.lands_againZ c4.fl fun h5 fl5 up5 => ?_)
      have c5 := c4.on fl5 up5
      obtain ⟨oe, vs, he, hz, hd⟩ := fl5.there
      have S := suite0 (track c.J (c.new hs) c5.inv he hz hd c.na) a
      refine store_ok (X := X.suite a (X.pn ++ pins)) (v := .ref a) S hN hi (.inl hl) rfl (fun s6 S6 => ?_) (.inr hl)
      refine wpAny_mono ((hsu a (X.pn ++ pins)).run [] s6 _ _ _ S6 (q a c.na)) (fun f s7 h => ?_) fun _ _ z => z.elim
      have h' := ends_back (C := C) ok h
      cases f with
      | next => obtain ⟨σ6, H6, S6, q⟩ := h'; exact gone_ok S6 hN hi hl fun s7 J7 => ⟨_, _, J7, q⟩
      | brk => obtain ⟨σ6, H6, S6, q⟩ := h'; exact gone_ok S6 hN hi hl fun s7 J7 => ⟨_, _, J7, q⟩
      | cont => obtain ⟨σ6, H6, S6, q⟩ := h'; exact gone_ok S6 hN hi hl fun s7 J7 => ⟨_, _, J7, q⟩
      | ret u => obtain ⟨v, σ6, H6, S6, r, q⟩ := h'; exact gone_ok S6 hN hi hl fun s7 J7 => ⟨_, _, _, J7, r, q⟩
    · refine wpAny_handleBy_cons (caught_testT c hx hz hh fun h4 k4 => ?_) (by intro q; cases q)
      exact ih (c.on (fl_keeps c.fl k4) (Heap.UpToSlots.of_keeps k4)) w2
end
/-- try: body / except X as n: .. / except Y: .. -/
theorem ps_tryH {X : Cx} {body : List Stmt} {h0 : ExceptHandler} {hds : List ExceptHandler} {l : List (Value × Option Nat × TS)} {pos : Pos} {tb : WX → TS} {Wout : WX} (hs : X.stack = X.env :: X.outer) (hf : X.env.frame = some X.env.locals) (hN : X.N.Nodup) (tk : Takes X Wout)
    (hb : ∀ (W : WX) (pn : List (Addr × Obj)) (xe : Value → Shared → Prop), Takes (X.tr pn xe) W → PSs (X.tr pn xe) body (tb W)) (hh : Hds X (h0 :: hds) l) : PS X (.Try body (h0 :: hds) [] [] pos) (fun D σ H => tb (wHs X.K Wout D l) D σ H) := by
  refine ⟨fun pins s σ H D I h => wpAny_Try_except ?_⟩
  refine wpAny_mono ((hb (wHs X.K Wout D l) (X.pn ++ pins) (fun e s2 => wpAny (model X.prog X.w) X.A (noteFrame e X.env) (fun _ s3 => wpAny (model X.prog X.w) X.A (setFlight e none) (fun _ s4 =>
    wpAny (model X.prog X.w) X.A (handleBy e X.env (h0 :: hds)) (SP X pins D) X.xe s4) X.xe s3) X.xe s2) fun u s' xx => ?_).run [] s σ H D (I.toTry _) h) (fun f s1 hsp => ?_) fun e s1 he => he
  · obtain ⟨a, B, sI, pins', σ', H', cls, d, rfl, J, nb, up, sky, na, os, ag, w⟩ := xx
    refine Sky.land Zc.steady (by rw [I.ok.frames, hs]) hf (by rw [← hs]; exact sky) fun h3 fl3 up3 => ?_
    exact caught_go hs hf hN I.ok tk (s1 := { s' with heap := h3 }) ⟨J.ofTry I.ok, nb, up.trans up3, fl3, na, os, ag⟩ hh w
  · cases f with
    | next => obtain ⟨σ', H', J, q⟩ := hsp; exact wpAny_execs_nil ⟨σ', H', J.ofTry I.ok, q⟩
    | brk => obtain ⟨σ', H', J, q⟩ := hsp; exact ⟨σ', H', J.ofTry I.ok, q⟩
    | cont => obtain ⟨σ', H', J, q⟩ := hsp; exact ⟨σ', H', J.ofTry I.ok, q⟩
    | ret u => obtain ⟨v, σ', H', J, r, q⟩ := hsp; exact ⟨v, σ', H', J.ofTry I.ok, r, q⟩
end DL

namespace DL
open PySem PySem.Spec L2 DX
open PyProof.Rows hiding St
/-! ### exceptions with fields, over data -/
theorem RKV.split {K : PySem.W.Frag} {H : Hp} : ∀ {fs : List (Str × D)} {l : List (Str × V)}, RKV K H fs l → ∃ vs, l = (fs.map (·.1)).zip vs ∧ Rps K H (fs.map (·.2)) vs
  | [], _, h => by cases h; exact ⟨[], rfl, rfl⟩
  | p :: fs, _, h => by
    obtain ⟨v, r, rfl, h1, h2⟩ := h
    obtain ⟨vs, rfl, h3⟩ := RKV.split h2
    exact ⟨v :: vs, rfl, v, vs, rfl, h1, h3⟩
theorem RKV.zip {K : PySem.W.Frag} {H : Hp} : ∀ {ns : List Str} {ds : List D} {vs : List V}, Rps K H ds vs → RKV K H (ns.zip ds) (ns.zip vs)
  | [], ds, vs, _ => by simp; exact rfl
  | n :: ns, [], vs, h => by cases h; simp; exact rfl
  | n :: ns, d :: ds, vs, h => by obtain ⟨v, r, rfl, h1, h2⟩ := h; exact ⟨v, _, rfl, h1, RKV.zip h2⟩
theorem RKV.rev {κ : Type} {K : PySem.W.Frag} {H : Hp} {l : List (κ × D)} {m : List (κ × V)} (h : RKV K H l m) : RKV K H l.reverse m.reverse := by
  have app : ∀ {l1 l2 : List (κ × D)} {m1 m2 : List (κ × V)}, RKV K H l1 m1 → RKV K H l2 m2 → RKV K H (l1 ++ l2) (m1 ++ m2) := by
    intro l1
    induction l1 with
    | nil => intro l2 m1 m2 h1 h2; cases h1; exact h2
    | cons p r ih => intro l2 m1 m2 h1 h2; obtain ⟨v, t, rfl, a, b⟩ := h1; exact ⟨v, _, rfl, a, ih b h2⟩
  induction l generalizing m with
  | nil => cases h; exact rfl
  | cons p r ih =>
    obtain ⟨v, t, rfl, a, b⟩ := h
    rw [List.reverse_cons, List.reverse_cons]
    exact app (ih b) ⟨v, [], rfl, a, rfl⟩
/-- raise X(e, ..), X with an own __init__ -/
def sRaiseX (C : Addr) (fs : List Str) (ts : TDA) : TDS := fun W _ σ G => ts W σ G fun ds G1 => ds.length = fs.length ∧ W (.ref C) (fs.zip ds).reverse σ G1
theorem ds_raiseX {X : Cx} {k j : Nat} {x : Str} {C : Addr} {fs : List Str} {e : Expr} {es : List Expr} {ts : TDA} {p pos pos2 : Pos} (R : RaiseI X.prog X.w X.K X.mg X.base k x C fs) (hr : RoomG j X.A) (ha : DA X (e :: es) ts) (hc : X.calm = true) (hj : k + 1 ≤ j := by decide) (hz : fs.length ≤ 1000 := by decide) (hg : Gl X x := by rfl)
    (hdb : (x == ("__debug__" : Str)) = false := by decide) (he : starEach (e :: es) X.env = (false, eval e X.env) :: starEach es X.env := by rfl) (hpl : (backTo pos (starEach es X.env)).any (·.1) = false := by rfl) :
    DS X (.Raise (some (.Call (.Name x p) (e :: es) [] pos)) none pos2) (sRaiseX C fs ts) :=
  ⟨fun G H σ τ W D r q => semS.of (ps_raise hc r.takes (pmkB R hr hj hg paSem hz hdb he hpl)) (ha.then r q fun ds vs G1 H1 r1 x1 k1 q1 => by
    refine ⟨k1.length.trans q1.1, fun d hd => ?_⟩
    have xx : Ext G1 H1 G1 (upd H1 d (.xd (fs.zip vs).reverse)) := .new hd (r1.sim.no hd)
    exact ⟨σ, _, G1, r1.slots.ext r1.sim xx _ _, ⟨_, upd_same, ((RKV.zip k1).rev).ext r1.sim xx _ _⟩, r1.sim.newO hd, x1.trans xx, q1.2⟩)⟩
/-! try -/
def dEndsAs : Option Nat → DEnds → DEnds
  | none, D => D
  | some i, D => { nx := fun σ G => D.nx (σ.set i none) G, rt := D.rt, bk := fun σ G => D.bk (σ.set i none) G, ct := fun σ G => D.ct (σ.set i none) G }
def dSetAs : Option Nat → D → DSt → DSt
  | none, _, σ => σ
  | some i, d, σ => σ.set i (some d)
def dwH (xm : Value → Value → Bool → Prop) (W : DW) (D : DEnds) : List (Value × Option Nat × TDS) → DW
  | [] => W
  | (c, oi, ts) :: r => fun cls fs σ G => ∃ b, xm c cls b ∧ (b = true → ∃ C, cls = .ref C ∧ ts W0 (dEndsAs oi D) (dSetAs oi (.exc C (fs.map (·.1)) (fs.map (·.2))) σ) G) ∧ (b = false → dwH xm W D r cls fs σ G)
def sTryH (xm : Value → Value → Bool → Prop) (tb : TDS) (hs : List (Value × Option Nat × TDS)) : TDS := fun W D σ G => tb (dwH xm W D hs) D σ G
/-- the clauses -/
inductive DHds (X : Cx) : List ExceptHandler → List (Value × Option Nat × TDS) → Prop
  | nil : DHds X [] []
  | one {x : Str} {c : Value} {ts : TDS} {b0 : Stmt} {suite : List Stmt} {np hp : Pos} {hs : List ExceptHandler} {l : List (Value × Option Nat × TDS)} (hc : Names X x c) (hsu : ∀ (a : Addr) (pn : List (Addr × Obj)), DSs (X.suite a pn) (b0 :: suite) ts) (r : DHds X hs l) :
      DHds X (.ExceptHandler (some (.Name x np)) none (b0 :: suite) hp :: hs) ((c, none, ts) :: l)
  | as_ {x n : Str} (i : Nat) {c : Value} {ts : TDS} {b0 : Stmt} {suite : List Stmt} {np hp : Pos} {hs : List ExceptHandler} {l : List (Value × Option Nat × TDS)} (hc : Names X x c) (hi : X.N[i]? = some n) (hl : X.env.kindOf n = some .local) (hsu : ∀ (a : Addr) (pn : List (Addr × Obj)), DSs (X.suite a pn) (b0 :: suite) ts)
      (r : DHds X hs l) : DHds X (.ExceptHandler (some (.Name x np)) (some n) (b0 :: suite) hp :: hs) ((c, some i, ts) :: l)
  | tas_ {n : Str} (i : Nat) {cs : List Value} {es : List Expr} {ts : TDS} {b0 : Stmt} {suite : List Stmt} {kk : Nat} {tp hp : Pos} {hs : List ExceptHandler} {l : List (Value × Option Nat × TDS)} (hx : NamesL X cs es) (hz : cs.length ≤ 100) (hi : X.N[i]? = some n) (hl : X.env.kindOf n = some .local) (hsu : ∀ (a : Addr) (pn : List (Addr × Obj)), DSs (X.suite a pn) (b0 :: suite) ts)
      (r : DHds X hs l) : DHds X (.ExceptHandler (some (.Tuple es kk tp)) (some n) (b0 :: suite) hp :: hs) (cs.map (fun c => (c, some i, ts)) ++ l)
/-- the suites by values -/
def tsOf (X : Cx) (body : List Stmt) : TS := fun D τ H => ∀ a pn, semSs (X.suite a pn) body D τ H
theorem hds_of {X : Cx} {hs : List ExceptHandler} {l : List (Value × Option Nat × TDS)} (h : DHds X hs l) : ∃ l2, Hds X hs l2 ∧ ∀ (xm : Value → Value → Bool → Prop) (hxm : ∀ c u b, xm c u b → PySem.W.exmOne X.K u c = some b) (G : HD) (H : Hp) (W : DW) (D : DEnds) (Wo : WX),
    (∀ cls d τ H', liftW X.K G H W cls d τ H' → Wo cls d τ H') → ∀ cls d τ H', liftW X.K G H (dwH xm W D l) cls d τ H' → wHs X.K Wo (liftD X.K G H D) l2 cls d τ H' := by
  have common : ∀ {b0 : Stmt} {suite : List Stmt} {ts : TDS} (oi : Option Nat) (hsu : ∀ (a : Addr) (pn : List (Addr × Obj)), DSs (X.suite a pn) (b0 :: suite) ts) {G : HD} {H : Hp} {Z : DEnds} {C : Addr} {d : Option Addr} {τ : L2.St} {H' : Hp} {σ : DSt} {fs : List (Str × D)} {G' : HD},
      RpS X.K H' σ τ → XF X.K H' fs d → Sim X.K G' H' → Ext G H G' H' → ts W0 (dEndsAs oi Z) (dSetAs oi (.exc C (fs.map (·.1)) (fs.map (·.2))) σ) G' → ∀ a, H' a = none → tsOf X (b0 :: suite) (endsAs oi (liftD X.K G H Z)) (setAs oi a τ) (upd H' a (ExV C d a)) := by
    intro b0 suite ts oi hsu G H Z C d τ H' σ fs G' rp xf sm x q a ha b pn
    have xx : Ext G' H' G' (upd H' a (ExV C d a)) := .new ha (sm.no ha)
    have sm2 : Sim X.K G' (upd H' a (ExV C d a)) := sm.newO ha
    have re : Rp X.K (upd H' a (ExV C d a)) (.exc C (fs.map (·.1)) (fs.map (·.2))) (.ref a) := by
      cases d with
      | none =>
        cases (show fs = [] from xf)
        exact ⟨a, none, [], rfl, upd_same, rfl, .inl ⟨rfl, rfl⟩, rfl⟩
      | some dd =>
        obtain ⟨l, e, rk⟩ := xf
        obtain ⟨vs, rfl, r2⟩ := rk.split
        exact ⟨a, some dd, vs, rfl, upd_same, by simp, .inr ⟨dd, rfl, by rw [upd_ne (ne_of_none e ha)]; exact e⟩, r2.ext sm xx _ _⟩
    have slots : RpS X.K (upd H' a (ExV C d a)) (dSetAs oi (.exc C (fs.map (·.1)) (fs.map (·.2))) σ) (setAs oi a τ) := by
      cases oi with
      | none => exact rp.ext sm xx _ _
      | some i => exact (rp.ext sm xx _ _).set re
    refine ((hsu b pn).run G' _ _ _ W0 (dEndsAs oi Z) ⟨sm2, slots, takes_w0⟩ q).imp ?_
    have xy := x.trans xx
    cases oi with
    | none => exact liftD_up xy
    | some i => exact ⟨fun t H2 ⟨σ2, G2, a1, a2, a3, a4⟩ => ⟨_, G2, a1.drop1, a2, xy.trans a3, a4⟩, fun v H2 z => z.up xy, fun t H2 ⟨σ2, G2, a1, a2, a3, a4⟩ => ⟨_, G2, a1.drop1, a2, xy.trans a3, a4⟩, fun t H2 ⟨σ2, G2, a1, a2, a3, a4⟩ => ⟨_, G2, a1.drop1, a2, xy.trans a3, a4⟩⟩
  induction h with
  | nil => exact ⟨[], .nil, fun xm hxm G H W D Wo hw cls d τ H' z => hw _ _ _ _ z⟩
  | @one x c ts b0 suite np hp hs l hc hsu r ih =>
    obtain ⟨l2, h1, h2⟩ := ih
    refine ⟨(c, none, tsOf X (b0 :: suite)) :: l2, .one hc (fun a pn => ⟨fun pins s σ H D I h => h a pn pins s I⟩) h1, fun xm hxm G H W D Wo hw cls d τ H' ⟨σ, fs, G', rp, xf, sm, xx, b, hb, hy, hn⟩ => ⟨b, hxm _ _ _ hb, fun e => ?_, fun e => h2 xm hxm G H W D Wo hw cls d τ H' ⟨σ, fs, G', rp, xf, sm, xx, hn e⟩⟩⟩
    obtain ⟨C, rfl, q⟩ := hy e
    exact ⟨C, rfl, common none hsu rp xf sm xx q⟩
  | @as_ x n i c ts b0 suite np hp hs l hc hi hl hsu r ih =>
    obtain ⟨l2, h1, h2⟩ := ih
    refine ⟨(c, some i, tsOf X (b0 :: suite)) :: l2, .as_ hc hi hl (fun a pn => ⟨fun pins s σ H D I h => h a pn pins s I⟩) h1, fun xm hxm G H W D Wo hw cls d τ H' ⟨σ, fs, G', rp, xf, sm, xx, b, hb, hy, hn⟩ => ⟨b, hxm _ _ _ hb, fun e => ?_, fun e => h2 xm hxm G H W D Wo hw cls d τ H' ⟨σ, fs, G', rp, xf, sm, xx, hn e⟩⟩⟩
    obtain ⟨C, rfl, q⟩ := hy e
    exact ⟨C, rfl, common (some i) hsu rp xf sm xx q⟩
  | @tas_ n i cs es ts b0 suite kk tp hp hs l hx hz hi hl hsu r ih =>
    obtain ⟨l2, h1, h2⟩ := ih
    refine ⟨cs.map (fun c => (c, some i, tsOf X (b0 :: suite))) ++ l2, .tas_ hx hz hi hl (fun a pn => ⟨fun pins s σ H D I h => h a pn pins s I⟩) h1, fun xm hxm G H W D Wo hw => ?_⟩
    have go : ∀ cs : List Value, ∀ cls d τ H', liftW X.K G H (dwH xm W D (cs.map (fun c => (c, some i, ts)) ++ l)) cls d τ H' → wHs X.K Wo (liftD X.K G H D) (cs.map (fun c => (c, some i, tsOf X (b0 :: suite))) ++ l2) cls d τ H' := by
      intro cs
      induction cs with
      | nil => exact fun cls d τ H' z => h2 xm hxm G H W D Wo hw cls d τ H' z
      | cons c cs ih2 =>
        intro cls d τ H' ⟨σ, fs, G', rp, xf, sm, xx, b, hb, hy, hn⟩
        refine ⟨b, hxm _ _ _ hb, fun e => ?_, fun e => ih2 cls d τ H' ⟨σ, fs, G', rp, xf, sm, xx, hn e⟩⟩
        obtain ⟨C, rfl, q⟩ := hy e
        exact ⟨C, rfl, common (some i) hsu rp xf sm xx q⟩
    exact go cs
theorem ds_tryH {X : Cx} {xm : Value → Value → Bool → Prop} {body : List Stmt} {h0 : ExceptHandler} {hds : List ExceptHandler} {l : List (Value × Option Nat × TDS)} {pos : Pos} {tb : TDS} (hs : X.stack = X.env :: X.outer) (hf : X.env.frame = some X.env.locals) (hN : X.N.Nodup) (hxm : ∀ c u b, xm c u b → PySem.W.exmOne X.K u c = some b)
    (hb : ∀ (pn : List (Addr × Obj)) (xe : Value → Shared → Prop), DSs (X.tr pn xe) body tb) (hh : DHds X (h0 :: hds) l) : DS X (.Try body (h0 :: hds) [] [] pos) (sTryH xm tb l) := ⟨fun G H σ τ W D r q => by
  obtain ⟨l2, h1, h2⟩ := hds_of hh
  refine semS.of (ps_tryH (tb := fun W' D' τ' H' => ∀ (pn : List (Addr × Obj)) (xe : Value → Shared → Prop), Takes (X.tr pn xe) W' → semSs (X.tr pn xe) body D' τ' H') hs hf hN r.takes (fun W' pn xe tk => ⟨fun pins s σ' H' D' I h => h pn xe tk pins s I⟩) h1) ?_
  intro pn xe tk
  exact (hb pn xe).run G H σ τ _ D ⟨r.sim, r.slots, tk.imp fun cls dd τ' H' hw => h2 xm hxm G H W D _ (fun _ _ _ _ z => z) cls dd τ' H' hw⟩ q⟩
/-! e.f, isinstance(e, X) -/
/-- such an exception stands in the heap -/
theorem exc_at {X : Cx} {pins : List (Addr × Obj)} {τ : L2.St} {H : Hp} {s : Shared} {a C : Addr} {dd : Option Addr} {l : List (Str × V)} (I : Inv X pins τ H s) (ha : H a = some (ExV C dd a)) (hd : dd = none ∨ ∃ b, dd = some b ∧ H b = some (.xd l)) :
    ∃ (oe : Obj) (od : Option Obj), PySem.W.InstAt s.heap a oe C od ∧ ∀ b, dd = some b → ∃ o mA, od = some o ∧ s.heap.Ns1 b mA ∧ s.heap.get? b = some o ∧ ∀ f, RelO (l.lookup f) (mA f) := by
  obtain ⟨⟨oe, vs, he, hz, hf⟩, _, _⟩ := I.hok a _ ha
  have nc : PySem.W.notCls oe := by unfold PySem.W.notCls; rw [hf] <;> rfl
  rcases hd with rfl | ⟨b, rfl, hb⟩
  · exact ⟨oe, none, ⟨he, hz.1, nc, by rw [hz.2]; trivial⟩, fun b e => nomatch e⟩
  · obtain ⟨mA, hns, hr⟩ := I.hok b _ hb
    obtain ⟨o, es, ep, eo, rest⟩ := id hns
    exact ⟨oe, some o, ⟨he, hz.1, nc, by rw [hz.2]; exact eo⟩, fun b' e => by cases e; exact ⟨o, mA, rfl, hns, eo, hr⟩⟩
def XfOk (K : PySem.W.Frag) (C : Addr) (f : Str) : Prop := XfC K C ∧ PySem.W.findIn K (.ref C) f = some none
def xfldP (xf : Addr → Str → Prop) (f : Str) (d : D) (G : HD) (Q : Post) : Prop := match d with
  | .exc C ns ds => xf C f ∧ optP ((ns.zip ds).lookup f) G Q
  | _ => False
def dXFld (xf : Addr → Str → Prop) (f : Str) (ta : TD) : TD := fun W σ G Q => ta W σ G fun d G1 => xfldP xf f d G1 Q
theorem look_rp {K : PySem.W.Frag} {H : Hp} {f : Str} : ∀ {ns : List Str} {ds : List D} {vs : List V} {d : D}, Rps K H ds vs → (ns.zip ds).lookup f = some d → ∃ v, (ns.zip vs).lookup f = some v ∧ Rp K H d v
  | [], _, _, _, _, h => by simp at h
  | _ :: _, [], _, _, _, h => by simp at h
  | n :: ns, d0 :: ds, _, d, r, h => by
    obtain ⟨v, t, rfl, h1, h2⟩ := r
    rw [List.zip_cons_cons, List.lookup_cons] at h
    rw [List.zip_cons_cons, List.lookup_cons]
    cases q : f == n with
    | true => rw [q] at h; cases h; exact ⟨v, rfl, h1⟩
    | false => rw [q] at h; exact look_rp h2 h
theorem de_xfld {X : Cx} {xf : Addr → Str → Prop} {e : Expr} {f : Str} {ta : TD} {pos : Pos} (hxf : ∀ C f, xf C f → XfOk X.K C f) (ha : DE X e ta) (hb : attributeBase e f X.env (eval e X.env) = eval e X.env := by rfl) : DE X (.Attribute e f pos) (dXFld xf f ta) := ⟨fun G H σ τ W Q r q pins s I => by
  refine attr_of hb (thn ((ha.run G H σ τ W _ r q) pins s I) fun u s1 ⟨v, H1, I1, rv, d, G1, k1, sm1, x1, q1⟩ => ?_)
  change xfldP xf f d G1 Q at q1
  cases d with
  | exc C ns ds =>
    obtain ⟨hok, q1⟩ := q1
    obtain ⟨T, hno⟩ := hxf _ _ hok
    obtain ⟨a, dd, vs, rfl, hA, hl, hd, rps⟩ := k1
    obtain rfl : u = Value.ref a := rv
    cases hlk : (ns.zip ds).lookup f with
    | none => rw [hlk] at q1; exact q1.elim
    | some z =>
      rw [hlk] at q1
      obtain ⟨v2, e2, r2⟩ := look_rp rps hlk
      have hd' : dd = none ∨ ∃ b, dd = some b ∧ H1 b = some (.xd (ns.zip vs)) := hd.imp (·.1) id
      obtain ⟨oe, od, J, hJ⟩ := exc_at I1 hA hd'
      rcases hd with ⟨_, rfl⟩ | ⟨b, rfl, hb⟩
      · simp at hlk
      · obtain ⟨o, mA, rfl, hns, eo, hr⟩ := hJ b rfl
        obtain ⟨o2, eo2, hl2⟩ := lookIn_ns hns
        rw [eo] at eo2; cases eo2
        obtain ⟨u2, hu, ru⟩ := RelO.some_of (v := v2) (o := mA f) (by rw [← e2]; exact hr f)
        exact HandSPX.exc_get I1.kIn J T.ga T.gg T.exC (PySem.W.findObj_own T.hdC hno rfl (by rw [hl2, hu])) (handed_of ru) ⟨v2, H1, I1.tok _, ru, z, G1, r2, sm1, x1, q1⟩
  | _ => exact q1.elim⟩
/-- what isinstance asks of the class -/
def EcOk (K : PySem.W.Frag) (C : Addr) (c : Value) (b : Bool) : Prop := (XfC K C ∧ PySem.W.findIn K (.ref C) "__class__" = some (some (.builtin "object.__class__")) ∧ PySem.W.specialIn K (.builtin "object.__class__") "__get__" = some (some (.builtin "getset_descriptor.__get__")) ∧
  PySem.W.takesIn K (.builtin "object.__class__") = some true ∧ PySem.W.mroIn K C (.type "object") = some true) ∧ PySem.W.kitOne K (.ref C) c = some b
def rIsiX (ic : String ⊕ Addr → String ⊕ Addr → Bool → Prop) (ec : Addr → Value → Bool → Prop) : List D → HD → Post → Prop := fun ds G Q => match ds with
  | [.exc C _ _, .ty n] => ∃ b, ec C (.type n) b ∧ Q (.bl b) G
  | [.exc C _ _, .ref c] => ∃ b, ec C (.ref c) b ∧ Q (.bl b) G
  | ds => rIsiD ic ds G Q
def rIsV (K : PySem.W.Frag) : List V → Hp → VK → Prop := fun xs H Q => ∃ (a C : Addr) (dd : Option Addr) (l : List (Str × V)) (c : V) (cv : Value) (b : Bool), xs = [.ref a, c] ∧ H a = some (ExV C dd a) ∧ (dd = none ∨ ∃ b, dd = some b ∧ H b = some (.xd l)) ∧ (∀ u, RelV c u → u = cv) ∧ EcOk K C cv b ∧ Q (.bl b) H
theorem call_isV {X : Cx} : CallR X (.builtin "isinstance") (rIsV X.K) := by
  intro pins s σ H xs us Q I r ⟨a, C, dd, l, c, cv, b, ex, ha, hd, hcv, ⟨⟨T, h1, h2, h3, h4⟩, hk⟩, q⟩
  subst ex
  obtain ⟨u1, u2, rfl, ra, rc⟩ := vals2 r
  obtain rfl : u1 = Value.ref a := ra
  obtain rfl := hcv _ rc
  obtain ⟨oe, od, J, _⟩ := exc_at I ha hd
  have hcl : (PySem.W.clsIn X.K C).isSome = true := by
    obtain ⟨cd, hc, _⟩ := PySem.W.any_some T.hdC
    rw [hc]; rfl
  exact PySem.W.kia_one (PySem.W.kitx_exc hcl T.ga T.gg T.exC h1 h2 h3 h4) I.kIn J hk (fun z => nomatch z) fun tk => ⟨.bl b, H, I.kept (t' := tk) fun _ _ z => z, rfl, q⟩
theorem exc_rp {K : PySem.W.Frag} {H : Hp} {C : Addr} {ns : List Str} {ds : List D} {v : V} (r : Rp K H (.exc C ns ds) v) : ∃ a dd l, v = .ref a ∧ H a = some (ExV C dd a) ∧ (dd = none ∨ ∃ b, dd = some b ∧ H b = some (.xd l)) := by
  obtain ⟨a, dd, vs, e, h, _, q, _⟩ := r
  exact ⟨a, dd, _, e, h, q.imp (·.1) id⟩
theorem cd_isiX {K : PySem.W.Frag} {ic : String ⊕ Addr → String ⊕ Addr → Bool → Prop} {ec : Addr → Value → Bool → Prop} (hic : ∀ a c b, ic a c b → IsiOk K a c b) (hec : ∀ C c b, ec C c b → EcOk K C c b) : CallD K (fun xs H Q => rIsi K xs H Q ∨ rIsV K xs H Q) (rIsiX ic ec) := fun G H ds vs Q Q' s k f q => by
  unfold rIsiX at q
  split at q
  · obtain ⟨b, hb, q⟩ := q
    obtain ⟨v, w, rfl, k1, k2⟩ := two_of k
    cases k2
    obtain ⟨a, dd, l, rfl, h1, h2⟩ := exc_rp k1
    exact .inr ⟨a, _, dd, l, _, _, b, rfl, h1, h2, fun u e => e, hec _ _ _ hb, f _ _ (.of (d := .bl b) rfl s .refl q)⟩
  · obtain ⟨b, hb, q⟩ := q
    obtain ⟨v, w, rfl, k1, k2⟩ := two_of k
    cases k2
    obtain ⟨a, dd, l, rfl, h1, h2⟩ := exc_rp k1
    exact .inr ⟨a, _, dd, l, _, _, b, rfl, h1, h2, fun u e => e, hec _ _ _ hb, f _ _ (.of (d := .bl b) rfl s .refl q)⟩
  · exact .inl (cd_isi hic G H ds vs Q Q' s k f q)
end DL

namespace DL
open PySem PySem.Spec L2
open PyProof.Rows hiding St
/-! ### exceptions, for the plain laws -/
section
variable {xm : Value → Value → Bool → Prop} {tb ts : TDS} {hs r : List (Value × Option Nat × TDS)} {W : DW} {E : DEnds} {σ : DSt} {G : HD} {C : Addr} {fs ns : List Str} {ta : TDA} {te : TD} {xf : Addr → Str → Prop} {f : Str} {Q : Post} {ds : List D} {c cls : Value} {oi : Option Nat} {i : Nat} {d : D} {k : HD → Prop}
theorem q_tryH : sTryH xm tb hs W E σ G = tb (dwH xm W E hs) E σ G := propext ⟨fun h => h, fun h => h⟩
theorem q_raise0 {c : Value} : sRaise c W E σ G = W c [] σ G := propext ⟨fun h => h, fun h => h⟩
theorem q_raiseX : sRaiseX C fs ta W E σ G = ta W σ G fun ds G1 => ds.length = fs.length ∧ W (.ref C) (fs.zip ds).reverse σ G1 := propext ⟨fun h => h, fun h => h⟩
theorem q_xfld : dXFld xf f te W σ G Q = te W σ G fun d G1 => xfldP xf f d G1 Q := propext ⟨fun h => h, fun h => h⟩
theorem r_xfld : xfldP xf f (.exc C ns ds) G Q = (xf C f ∧ optP ((ns.zip ds).lookup f) G Q) := propext ⟨fun h => h, fun h => h⟩
theorem q_setAs : dSetAs (some i) d σ = σ.set i (some d) := rfl
theorem q_setAs0 : dSetAs none d σ = σ := rfl
theorem q_endsAs0 : dEndsAs none E = E := rfl
theorem q_endsNx {σ' : DSt} {G' : HD} : (dEndsAs (some i) E).nx σ' G' = E.nx (σ'.set i none) G' := rfl
theorem q_endsRt : (dEndsAs (some i) E).rt = E.rt := rfl
theorem q_endsBk {σ' : DSt} {G' : HD} : (dEndsAs (some i) E).bk σ' G' = E.bk (σ'.set i none) G' := rfl
theorem q_endsCt {σ' : DSt} {G' : HD} : (dEndsAs (some i) E).ct σ' G' = E.ct (σ'.set i none) G' := rfl
theorem catch1 {fs : List (Str × D)} (h : xm c (.ref C) true) (q : ts W0 (dEndsAs oi E) (dSetAs oi (.exc C (fs.map (·.1)) (fs.map (·.2))) σ) G) : dwH xm W E ((c, oi, ts) :: r) (.ref C) fs σ G := ⟨true, h, fun _ => ⟨C, rfl, q⟩, fun z => by cases z⟩
theorem r_isNx {ds : List D} : isNon (.exc C ns ds) = false := rfl
end
end DL

namespace DL
open PySem PySem.Spec L2
open PyProof.Rows hiding St
/-! ### an empty dict that never changes -/
def dEmp : TD := fun _ _ G Q => Q .emp G
theorem de_emp {X : Cx} {pos : Pos} : DE X (.Dict [] [] pos) dEmp := ⟨fun G H σ τ W Q r q pins s I => by
  have hn := I.hok.fresh (Nat.le_refl s.heap.objs.size)
  have hb := I.big
  have g0 : (s.heap.push { cls := .type "dict", data := .dict #[] }).get? s.heap.objs.size = some { cls := .type "dict", data := .dict #[] } := by heap_get
  refine wpAny_Dict_empty ⟨.ref s.heap.objs.size, _, I.laid (a := s.heap.objs.size) (o := EmV { cls := .type "dict", data := .dict #[] } s.heap.objs.size) (t' := s.toks) (fun _ _ q => Heap.get?_push_of_some _ q) (Nat.le_refl _) ⟨g0, ⟨_, g0⟩, fun h1 h2 e k => k _ e⟩, rfl, ?_⟩
  refine liftQ.of (d := .emp) ⟨_, _, rfl, ?_, upd_same, ⟨rfl, rfl, rfl⟩, _, rfl⟩ (r.sim.newO hn) (.new hn (r.sim.no hn)) q
  have : s.heap.objs.size ≠ sysModules := Nat.ne_of_gt hb
  simpa using this⟩
/-- isinstance of it -/
def rIsiE (ic : String ⊕ Addr → String ⊕ Addr → Bool → Prop) (ec : Addr → Value → Bool → Prop) : List D → HD → Post → Prop := fun ds G Q => match ds with
  | [.emp, .ty n] => match isiB "dict" n with
    | some b => Q (.bl b) G
    | none => False
  | [.emp, .ref c] => ∃ b, ic (.inl "dict") (.inr c) b ∧ Q (.bl b) G
  | ds => rIsiX ic ec ds G Q
def rIsE (K : PySem.W.Frag) : List V → Hp → VK → Prop := fun xs H Q => ∃ (a : Addr) (ob : Obj) (c : V) (cv : Value) (b : Bool), xs = [.ref a, c] ∧ H a = some (EmV ob a) ∧ EmOb ob ∧ (∀ u, RelV c u → u = cv) ∧ PySem.W.kitOne K (.type "dict") cv = some b ∧ Q (.bl b) H
theorem call_isE {X : Cx} : CallR X (.builtin "isinstance") (rIsE X.K) := by
  intro pins s σ H xs us Q I r ⟨a, ob, c, cv, b, ex, ha, ho, hcv, hk, q⟩
  subst ex
  obtain ⟨u1, u2, rfl, ra, rc⟩ := vals2 r
  obtain rfl : u1 = Value.ref a := ra
  obtain rfl := hcv _ rc
  obtain ⟨h1, _, _⟩ := I.hok a _ ha
  exact PySem.W.kia_one (PySem.W.kitx_dict) I.kIn ⟨ob, h1, ho.1.1⟩ hk (fun z => nomatch z) fun tk => ⟨.bl b, H, I.kept (t' := tk) fun _ _ z => z, rfl, q⟩
theorem cd_isiE {K : PySem.W.Frag} {ic : String ⊕ Addr → String ⊕ Addr → Bool → Prop} {ec : Addr → Value → Bool → Prop} (hic : ∀ a c b, ic a c b → IsiOk K a c b) (hec : ∀ C c b, ec C c b → EcOk K C c b) : CallD K (fun xs H Q => (rIsi K xs H Q ∨ rIsV K xs H Q) ∨ rIsE K xs H Q) (rIsiE ic ec) := fun G H ds vs Q Q' s k f q => by
  unfold rIsiE at q
  split at q
  · rename_i n
    split at q
    · rename_i b hb
      obtain ⟨v, w, rfl, k1, k2⟩ := two_of k
      cases k2
      obtain ⟨a, ob, rfl, _, h1, h2⟩ := k1
      exact .inr ⟨a, ob, _, _, b, rfl, h1, h2, fun u e => e, isiB_ok hb, f _ _ (.of (d := .bl b) rfl s .refl q)⟩
    · exact q.elim
  · obtain ⟨b, hb, q⟩ := q
    obtain ⟨v, w, rfl, k1, k2⟩ := two_of k
    cases k2
    obtain ⟨a, ob, rfl, _, h1, h2⟩ := k1
    exact .inr ⟨a, ob, _, _, b, rfl, h1, h2, fun u e => e, (hic _ _ _ hb).2, f _ _ (.of (d := .bl b) rfl s .refl q)⟩
  · exact .inl (cd_isiX hic hec G H ds vs Q Q' s k f q)
theorem bc_isiE {X : Cx} {ic : String ⊕ Addr → String ⊕ Addr → Bool → Prop} {ec : Addr → Value → Bool → Prop} {p pos : Pos} {e e2 : Expr} {ts : TDA} (hic : ∀ a c b, ic a c b → IsiOk X.K a c b) (hec : ∀ C c b, ec C c b → EcOk X.K C c b) (hm : X.mg "isinstance" = none) (ha : DA X [e, e2] ts) (hg : Gl X "isinstance" := by rfl)
    (he : starEach [e, e2] X.env = (false, eval e X.env) :: starEach [e2] X.env := by rfl) (hpl : (backTo pos (starEach [e2] X.env)).any (·.1) = false := by rfl) : DE X (.Call (.Name "isinstance" p) [e, e2] [] pos) (dCB (rIsiE ic ec) ts) :=
  de_cb (CallR.or (CallR.or call_isi call_isV) call_isE) (cd_isiE hic hec) hm (by decide +kernel) ha hg (by decide) (by decide) he hpl
theorem RoomG.units1 {k : Nat} {A : Around} (r : RoomG k A) : A.units + 65 < cLine := by have := r.un; omega
/-! ### xs.count(e), xs.index(e) -/
def dMt1 (p : Option PyData → Option PyData → HD → Post → Prop) (to : TD) (ts : TDA) : TD := fun W σ G Q => to W σ G fun o G1 => (∃ l, asL G1 o = some l) ∧ (ts W σ G1 fun ds G2 => match ds with
  | [d] => p (pyD 9 G2 o) (pyD 9 G2 d) G2 Q
  | _ => False)

section
variable {X : Cx} {o e : Expr} {to : TD} {ts : TDA} {apos cpos : Pos}
end
end DL

namespace DL
open PySem PySem.Spec L2
open PyProof.Rows hiding St
/-! ### repr of tuples with an empty dict within -/
def pureE : Nat → D → Bool
  | 0, _ => false
  | n + 1, d => match d with
    | .non => true
    | .bl _ => true
    | .int _ => true
    | .str _ => true
    | .tup ds => ds.all (pureE n)
    | .emp => true
    | _ => false
theorem toPy_depthAll {n : Nat} (ih : ∀ d, (toPy n d).depth ≤ n) : ∀ ds : List D, PyData.depthAll (ds.map (toPy n)) ≤ n
  | [] => by simp only [List.map_nil, PyData.depthAll]; omega
  | d :: ds => by
    have h1 := ih d
    have h2 := toPy_depthAll ih ds
    simp only [List.map_cons, PyData.depthAll]; omega
theorem toPy_depth : ∀ (n : Nat) (d : D), (toPy n d).depth ≤ n
  | 0, d => by unfold toPy; simp only [PyData.depth]; omega
  | n + 1, d => by
    unfold toPy
    cases d with
    | tup ds => have := toPy_depthAll (toPy_depth n) ds; simp only [PyData.depth]; omega
    | kl ds => have := toPy_depthAll (toPy_depth n) ds; simp only [PyData.depth]; omega
    | kc ds => have := toPy_depthAll (toPy_depth n) ds; simp only [PyData.depth]; omega
    | emp => simp only [PyData.depth, PyData.depthKv]; omega
    | _ => simp only [PyData.depth]; omega
section
variable {X : Cx} {pins : List (Addr × Obj)} {σ : L2.St} {H : Hp} {s : Shared}
mutual
theorem Rp.readsE (I : Inv X pins σ H s) : ∀ (n : Nat) (d : D) (v : V) (u : Value), pureE n d = true → Rp X.K H d v → RelV v u → ∃ as, Reads s.heap u (toPy n d) as ∧ sysModules ∉ as
  | 0, _, _, _, h, _, _ => by cases h
  | n + 1, .non, _, _, _, r, e => by cases r; cases e; exact ⟨_, .none, by simp⟩
  | n + 1, .bl b, _, _, _, r, e => by cases r; cases e; exact ⟨_, .bool b, by simp⟩
  | n + 1, .int b, _, _, _, r, e => by cases r; obtain ⟨t, rfl⟩ := e; exact ⟨_, .int b t, by simp⟩
  | n + 1, .str b, _, _, _, r, e => by cases r; obtain ⟨t, rfl⟩ := e; exact ⟨_, .str b t, by simp⟩
  | n + 1, .tup ds, v, u, h, r, e => by
    obtain ⟨a, vs, rfl, t, rr⟩ := r
    obtain rfl : u = .ref a := e
    obtain ⟨its, rv, ⟨o, ho, hc, m, hd⟩, _⟩ := I.tuple t
    obtain ⟨as, h1, h2⟩ := Rps.readsE I n ds vs its (by unfold pureE at h; exact h) rr rv
    exact ⟨as, .tuple ho hc hd h1, h2⟩
  | n + 1, .emp, v, u, h, r, e => by
    obtain ⟨a, ob, rfl, m, t, ⟨c, _, _⟩, ep, hd⟩ := r
    obtain rfl : u = .ref a := e
    obtain ⟨h1, _, _⟩ := I.hok a _ t
    refine ⟨a :: [] ++ [], .dict h1 c hd .nil .nil, fun z => ?_⟩
    have z' : sysModules = a := by simpa using z
    subst z'
    exact absurd m (by decide)
  | n + 1, .ty _, _, _, h, _, _ => by cases h
  | n + 1, .ref _, _, _, h, _, _ => by cases h
  | n + 1, .kl _, _, _, h, _, _ => by cases h
  | n + 1, .kc _, _, _, h, _, _ => by cases h
  | n + 1, .exc _ _ _, _, _, h, _, _ => by cases h
theorem Rps.readsE (I : Inv X pins σ H s) : ∀ (n : Nat) (ds : List D) (vs : List V) (us : List Value), ds.all (pureE n) = true → Rps X.K H ds vs → Vals vs us → ∃ as, ReadsAll s.heap us (ds.map (toPy n)) as ∧ sysModules ∉ as
  | n, [], _, _, _, r, e => by cases r; cases e; exact ⟨_, .nil, by simp⟩
  | n, d :: ds, _, _, h, r, e => by
    obtain ⟨v, vs, rfl, r1, r2⟩ := r
    rw [List.all_cons, Bool.and_eq_true] at h
    cases e with
    | cons e1 e2 =>
      obtain ⟨as, h1, h2⟩ := Rp.readsE I n d _ _ h.1 r1 e1
      obtain ⟨bs, h3, h4⟩ := Rps.readsE I n ds _ _ h.2 r2 e2
      exact ⟨as ++ bs, .cons h1 h3, fun z => (List.mem_append.mp z).elim h2 h4⟩
end
end
def rRepE (K : PySem.W.Frag) : List V → Hp → VK → Prop := fun xs H Q => ∃ v d a, xs = [v] ∧ v = .ref a ∧ pureE 9 d = true ∧ Rp K H d v ∧ (toPy 9 d).showable = true ∧ (toPy 9 d).shown.length ≤ sizeLine ∧ Q (.str (toPy 9 d).shown) H
theorem call_repT {X : Cx} (hg : X.A.guards = some []) (hu : X.A.units + 64 < cLine) : CallR X (.builtin "repr") (rRepE X.K) := by
  intro pins s σ H xs us Q I rv ⟨v, d, a, e, ev, hp, rp, hs, hz, q⟩
  subst e
  obtain ⟨u, eu, ru⟩ := vals1 rv
  subst eu
  subst ev
  obtain ⟨as, hr, hm⟩ := Rp.readsE I 9 d _ u hp rp ru
  obtain rfl : u = .ref a := ru
  have hd := toPy_depth 9 d
  exact repr_of_reads' hr hs (fun _ => hm) hg (by omega) (fun _ _ e => e) (fun h' u tk k => ⟨.str _, H, I.kept (t' := tk) k, ⟨u, rfl⟩, q⟩) hz
def isBox : D → Bool
  | .tup _ => true
  | .emp => true
  | _ => false
def rReprX : List D → HD → Post → Prop := fun ds G Q => match ds with
  | [d] => (pureE 9 d = true ∧ isBox d = true ∧ (toPy 9 d).showable = true ∧ (toPy 9 d).shown.length ≤ sizeLine ∧ Q (.str (toPy 9 d).shown) G) ∨ rReprD [d] G Q
  | _ => False
theorem cd_reprX (K : PySem.W.Frag) : CallD K (fun xs H Q => (rRep0 K xs H Q ∨ ∃ a, xs = [.ref a] ∧ H a = some (.dK []) ∧ Q (.str (PyData.dict []).shown) H) ∨ rRepE K xs H Q) rReprX := fun G H ds vs Q Q' s k f q => by
  unfold rReprX at q
  split at q
  · rename_i d
    rcases q with ⟨h1, h2, h3, h4, q⟩ | q
    · obtain ⟨v, rfl, kd⟩ := one_of k
      have : ∃ a, v = .ref a := by
        cases d with
        | tup _ => obtain ⟨a, _, e, _⟩ := kd; exact ⟨a, e⟩
        | emp => obtain ⟨a, _, e, _⟩ := kd; exact ⟨a, e⟩
        | _ => cases h2
      obtain ⟨a, e⟩ := this
      exact .inr ⟨v, d, a, rfl, e, h1, kd, h3, h4, f _ _ (.of (d := .str _) rfl s .refl q)⟩
    · exact .inl (cd_repr K G H [d] vs Q Q' s k f q)
  · exact q.elim
theorem i_reprX {d : D} {G : HD} {Q : Post} (h : pureD 9 d = true ∨ (pureE 9 d = true ∧ isBox d = true)) (h1 : (toPy 9 d).showable = true) (h2 : (toPy 9 d).shown.length ≤ sizeLine) (q : Q (.str (toPy 9 d).shown) G) : rReprX [d] G Q := by
  rcases h with h | h
  · exact .inr (i_repr h h1 h2 q)
  · exact .inl ⟨h.1, h.2, h1, h2, q⟩
/-! for the plain laws -/
section
variable {G : HD} {Q : Post} {n : String} {c : Addr} {ic : String ⊕ Addr → String ⊕ Addr → Bool → Prop} {ec : Addr → Value → Bool → Prop} {C : Addr} {ns : List Str} {ds : List D} {i : Int} {x : Str} {b : Bool} {xs : List D} {te : TD} {ts : TDA} {W : DW} {σ : DSt}
theorem q_emp : dEmp W σ G Q = Q .emp G := propext ⟨fun h => h, fun h => h⟩
theorem q_mt1 {p : Option PyData → Option PyData → HD → Post → Prop} : dMt1 p te ts W σ G Q = te W σ G fun o G1 => (∃ l, asL G1 o = some l) ∧ (ts W σ G1 fun ds G2 => match ds with
  | [d] => p (pyD 9 G2 o) (pyD 9 G2 d) G2 Q
  | _ => False) := propext ⟨fun h => h, fun h => h⟩
theorem r_isiEB : rIsiE ic ec [.emp, .ty "int"] G Q = Q (.bl false) G := propext ⟨fun h => h, fun h => h⟩
theorem r_isiEb : rIsiE ic ec [.emp, .ty "bool"] G Q = Q (.bl false) G := propext ⟨fun h => h, fun h => h⟩
theorem r_isiEt : rIsiE ic ec [.emp, .ty "tuple"] G Q = Q (.bl false) G := propext ⟨fun h => h, fun h => h⟩
theorem r_isiEs : rIsiE ic ec [.emp, .ty "str"] G Q = Q (.bl false) G := propext ⟨fun h => h, fun h => h⟩
theorem r_isiEl : rIsiE ic ec [.emp, .ty "list"] G Q = Q (.bl false) G := propext ⟨fun h => h, fun h => h⟩
theorem r_isiEd : rIsiE ic ec [.emp, .ty "dict"] G Q = Q (.bl true) G := propext ⟨fun h => h, fun h => h⟩
theorem r_isiER : rIsiE ic ec [.emp, .ref c] G Q = ∃ b, ic (.inl "dict") (.inr c) b ∧ Q (.bl b) G := propext ⟨fun h => h, fun h => h⟩
variable {t : D}
theorem r_isE_non : rIsiE ic ec [.non, t] G Q = rIsiD ic [.non, t] G Q := propext ⟨fun h => h, fun h => h⟩
theorem r_isX_non : rIsiX ic ec [.non, t] G Q = rIsiD ic [.non, t] G Q := propext ⟨fun h => h, fun h => h⟩
theorem r_isE_bl : rIsiE ic ec [.bl b, t] G Q = rIsiD ic [.bl b, t] G Q := propext ⟨fun h => h, fun h => h⟩
theorem r_isX_bl : rIsiX ic ec [.bl b, t] G Q = rIsiD ic [.bl b, t] G Q := propext ⟨fun h => h, fun h => h⟩
theorem r_isE_int : rIsiE ic ec [.int i, t] G Q = rIsiD ic [.int i, t] G Q := propext ⟨fun h => h, fun h => h⟩
theorem r_isX_int : rIsiX ic ec [.int i, t] G Q = rIsiD ic [.int i, t] G Q := propext ⟨fun h => h, fun h => h⟩
theorem r_isE_str : rIsiE ic ec [.str x, t] G Q = rIsiD ic [.str x, t] G Q := propext ⟨fun h => h, fun h => h⟩
theorem r_isX_str : rIsiX ic ec [.str x, t] G Q = rIsiD ic [.str x, t] G Q := propext ⟨fun h => h, fun h => h⟩
theorem r_isE_tup : rIsiE ic ec [.tup xs, t] G Q = rIsiD ic [.tup xs, t] G Q := propext ⟨fun h => h, fun h => h⟩
theorem r_isX_tup : rIsiX ic ec [.tup xs, t] G Q = rIsiD ic [.tup xs, t] G Q := propext ⟨fun h => h, fun h => h⟩
theorem r_isE_kl : rIsiE ic ec [.kl xs, t] G Q = rIsiD ic [.kl xs, t] G Q := propext ⟨fun h => h, fun h => h⟩
theorem r_isX_kl : rIsiX ic ec [.kl xs, t] G Q = rIsiD ic [.kl xs, t] G Q := propext ⟨fun h => h, fun h => h⟩
theorem r_isE_kc : rIsiE ic ec [.kc xs, t] G Q = rIsiD ic [.kc xs, t] G Q := propext ⟨fun h => h, fun h => h⟩
theorem r_isX_kc : rIsiX ic ec [.kc xs, t] G Q = rIsiD ic [.kc xs, t] G Q := propext ⟨fun h => h, fun h => h⟩
theorem r_isE_ref : rIsiE ic ec [.ref c, t] G Q = rIsiD ic [.ref c, t] G Q := propext ⟨fun h => h, fun h => h⟩
theorem r_isX_ref : rIsiX ic ec [.ref c, t] G Q = rIsiD ic [.ref c, t] G Q := propext ⟨fun h => h, fun h => h⟩
theorem r_rIsiET : rIsiE ic ec [.exc C ns ds, .ty n] G Q = ∃ b, ec C (.type n) b ∧ Q (.bl b) G := propext ⟨fun h => h, fun h => h⟩
theorem r_rIsiER : rIsiE ic ec [.exc C ns ds, .ref c] G Q = ∃ b, ec C (.ref c) b ∧ Q (.bl b) G := propext ⟨fun h => h, fun h => h⟩
theorem r_rIsiXT : rIsiX ic ec [.exc C ns ds, .ty n] G Q = ∃ b, ec C (.type n) b ∧ Q (.bl b) G := propext ⟨fun h => h, fun h => h⟩
theorem r_rIsiXR : rIsiX ic ec [.exc C ns ds, .ref c] G Q = ∃ b, ec C (.ref c) b ∧ Q (.bl b) G := propext ⟨fun h => h, fun h => h⟩
end
end DL

namespace DL
open PySem PySem.Spec L2
open PyProof.Rows hiding St
section
variable {G : HD} {Q : Post} {ic : String ⊕ Addr → String ⊕ Addr → Bool → Prop} {i : Int} {x : Str} {b : Bool} {xs : List D}
theorem r_isD_non_int : rIsiD ic [.non, .ty "int"] G Q = Q (.bl false) G := propext ⟨fun h => h, fun h => h⟩
theorem r_isD_non_bool : rIsiD ic [.non, .ty "bool"] G Q = Q (.bl false) G := propext ⟨fun h => h, fun h => h⟩
theorem r_isD_non_tuple : rIsiD ic [.non, .ty "tuple"] G Q = Q (.bl false) G := propext ⟨fun h => h, fun h => h⟩
theorem r_isD_non_str : rIsiD ic [.non, .ty "str"] G Q = Q (.bl false) G := propext ⟨fun h => h, fun h => h⟩
theorem r_isD_non_list : rIsiD ic [.non, .ty "list"] G Q = Q (.bl false) G := propext ⟨fun h => h, fun h => h⟩
theorem r_isD_non_dict : rIsiD ic [.non, .ty "dict"] G Q = Q (.bl false) G := propext ⟨fun h => h, fun h => h⟩
theorem r_isD_bl_int : rIsiD ic [.bl b, .ty "int"] G Q = Q (.bl true) G := propext ⟨fun h => h, fun h => h⟩
theorem r_isD_bl_bool : rIsiD ic [.bl b, .ty "bool"] G Q = Q (.bl true) G := propext ⟨fun h => h, fun h => h⟩
theorem r_isD_bl_tuple : rIsiD ic [.bl b, .ty "tuple"] G Q = Q (.bl false) G := propext ⟨fun h => h, fun h => h⟩
theorem r_isD_bl_str : rIsiD ic [.bl b, .ty "str"] G Q = Q (.bl false) G := propext ⟨fun h => h, fun h => h⟩
theorem r_isD_bl_list : rIsiD ic [.bl b, .ty "list"] G Q = Q (.bl false) G := propext ⟨fun h => h, fun h => h⟩
theorem r_isD_bl_dict : rIsiD ic [.bl b, .ty "dict"] G Q = Q (.bl false) G := propext ⟨fun h => h, fun h => h⟩
theorem r_isD_int_int : rIsiD ic [.int i, .ty "int"] G Q = Q (.bl true) G := propext ⟨fun h => h, fun h => h⟩
theorem r_isD_int_bool : rIsiD ic [.int i, .ty "bool"] G Q = Q (.bl false) G := propext ⟨fun h => h, fun h => h⟩
theorem r_isD_int_tuple : rIsiD ic [.int i, .ty "tuple"] G Q = Q (.bl false) G := propext ⟨fun h => h, fun h => h⟩
theorem r_isD_int_str : rIsiD ic [.int i, .ty "str"] G Q = Q (.bl false) G := propext ⟨fun h => h, fun h => h⟩
theorem r_isD_int_list : rIsiD ic [.int i, .ty "list"] G Q = Q (.bl false) G := propext ⟨fun h => h, fun h => h⟩
theorem r_isD_int_dict : rIsiD ic [.int i, .ty "dict"] G Q = Q (.bl false) G := propext ⟨fun h => h, fun h => h⟩
theorem r_isD_str_int : rIsiD ic [.str x, .ty "int"] G Q = Q (.bl false) G := propext ⟨fun h => h, fun h => h⟩
theorem r_isD_str_bool : rIsiD ic [.str x, .ty "bool"] G Q = Q (.bl false) G := propext ⟨fun h => h, fun h => h⟩
theorem r_isD_str_tuple : rIsiD ic [.str x, .ty "tuple"] G Q = Q (.bl false) G := propext ⟨fun h => h, fun h => h⟩
theorem r_isD_str_str : rIsiD ic [.str x, .ty "str"] G Q = Q (.bl true) G := propext ⟨fun h => h, fun h => h⟩
theorem r_isD_str_list : rIsiD ic [.str x, .ty "list"] G Q = Q (.bl false) G := propext ⟨fun h => h, fun h => h⟩
theorem r_isD_str_dict : rIsiD ic [.str x, .ty "dict"] G Q = Q (.bl false) G := propext ⟨fun h => h, fun h => h⟩
theorem r_isD_tup_int : rIsiD ic [.tup xs, .ty "int"] G Q = Q (.bl false) G := propext ⟨fun h => h, fun h => h⟩
theorem r_isD_tup_bool : rIsiD ic [.tup xs, .ty "bool"] G Q = Q (.bl false) G := propext ⟨fun h => h, fun h => h⟩
theorem r_isD_tup_tuple : rIsiD ic [.tup xs, .ty "tuple"] G Q = Q (.bl true) G := propext ⟨fun h => h, fun h => h⟩
theorem r_isD_tup_str : rIsiD ic [.tup xs, .ty "str"] G Q = Q (.bl false) G := propext ⟨fun h => h, fun h => h⟩
theorem r_isD_tup_list : rIsiD ic [.tup xs, .ty "list"] G Q = Q (.bl false) G := propext ⟨fun h => h, fun h => h⟩
theorem r_isD_tup_dict : rIsiD ic [.tup xs, .ty "dict"] G Q = Q (.bl false) G := propext ⟨fun h => h, fun h => h⟩
theorem r_isD_kl_int : rIsiD ic [.kl xs, .ty "int"] G Q = Q (.bl false) G := propext ⟨fun h => h, fun h => h⟩
theorem r_isD_kl_bool : rIsiD ic [.kl xs, .ty "bool"] G Q = Q (.bl false) G := propext ⟨fun h => h, fun h => h⟩
theorem r_isD_kl_tuple : rIsiD ic [.kl xs, .ty "tuple"] G Q = Q (.bl false) G := propext ⟨fun h => h, fun h => h⟩
theorem r_isD_kl_str : rIsiD ic [.kl xs, .ty "str"] G Q = Q (.bl false) G := propext ⟨fun h => h, fun h => h⟩
theorem r_isD_kl_list : rIsiD ic [.kl xs, .ty "list"] G Q = Q (.bl true) G := propext ⟨fun h => h, fun h => h⟩
theorem r_isD_kl_dict : rIsiD ic [.kl xs, .ty "dict"] G Q = Q (.bl false) G := propext ⟨fun h => h, fun h => h⟩
theorem r_isD_kc_int : rIsiD ic [.kc xs, .ty "int"] G Q = Q (.bl false) G := propext ⟨fun h => h, fun h => h⟩
theorem r_isD_kc_bool : rIsiD ic [.kc xs, .ty "bool"] G Q = Q (.bl false) G := propext ⟨fun h => h, fun h => h⟩
theorem r_isD_kc_tuple : rIsiD ic [.kc xs, .ty "tuple"] G Q = Q (.bl false) G := propext ⟨fun h => h, fun h => h⟩
theorem r_isD_kc_str : rIsiD ic [.kc xs, .ty "str"] G Q = Q (.bl false) G := propext ⟨fun h => h, fun h => h⟩
theorem r_isD_kc_list : rIsiD ic [.kc xs, .ty "list"] G Q = Q (.bl true) G := propext ⟨fun h => h, fun h => h⟩
theorem r_isD_kc_dict : rIsiD ic [.kc xs, .ty "dict"] G Q = Q (.bl false) G := propext ⟨fun h => h, fun h => h⟩
theorem r_isD_non_own {c : Addr} : rIsiD ic [.non, .ref c] G Q = ∃ b, ic (.inl "NoneType") (.inr c) b ∧ Q (.bl b) G := propext ⟨fun h => h, fun h => h⟩
theorem r_isD_bl_own {c : Addr} : rIsiD ic [.bl b, .ref c] G Q = ∃ b, ic (.inl "bool") (.inr c) b ∧ Q (.bl b) G := propext ⟨fun h => h, fun h => h⟩
theorem r_isD_int_own {c : Addr} : rIsiD ic [.int i, .ref c] G Q = ∃ b, ic (.inl "int") (.inr c) b ∧ Q (.bl b) G := propext ⟨fun h => h, fun h => h⟩
theorem r_isD_str_own {c : Addr} : rIsiD ic [.str x, .ref c] G Q = ∃ b, ic (.inl "str") (.inr c) b ∧ Q (.bl b) G := propext ⟨fun h => h, fun h => h⟩
theorem r_isD_tup_own {c : Addr} : rIsiD ic [.tup xs, .ref c] G Q = ∃ b, ic (.inl "tuple") (.inr c) b ∧ Q (.bl b) G := propext ⟨fun h => h, fun h => h⟩
theorem r_isD_kl_own {c : Addr} : rIsiD ic [.kl xs, .ref c] G Q = ∃ b, ic (.inl "list") (.inr c) b ∧ Q (.bl b) G := propext ⟨fun h => h, fun h => h⟩
theorem r_isD_kc_own {c : Addr} : rIsiD ic [.kc xs, .ref c] G Q = ∃ b, ic (.inl "list") (.inr c) b ∧ Q (.bl b) G := propext ⟨fun h => h, fun h => h⟩
end
end DL

namespace DL
open PySem PySem.Spec L2
open PyProof.Rows hiding St
/-! ### how long a repr is -/
/-- small data: ints to 60 figures, texts to 60 signs -/
def smallD : Nat → D → Bool
  | 0, _ => true
  | n + 1, d => match d with
    | .int i => decide (i.natAbs < 10 ^ 60)
    | .str x => PyData.strOk x && decide (x.length ≤ 60)
    | .tup ds => ds.all (smallD n)
    | .kl ds => ds.all (smallD n)
    | .kc ds => ds.all (smallD n)
    | _ => true
mutual
def capD : D → Nat
  | .tup ds => 5 + capDs ds
  | .kl ds => 5 + capDs ds
  | .kc ds => 5 + capDs ds
  | _ => 602
def capDs : List D → Nat
  | [] => 0
  | d :: ds => capD d + 2 + capDs ds
end
theorem joinL (ts : List Str) : (Str.join ", " ts).length ≤ piled ts := by
  by_cases h : ts = []
  · subst h; exact Nat.zero_le _
  · have := join_length_add ts h; omega
theorem listL (ts : List Str) : (listText ts).length ≤ piled ts + 5 := by
  rw [listText_eq_join, strLen_append, strLen_append]
  have := joinL ts
  have e1 : (("[" : String) : Str).length = 1 := rfl
  have e2 : (("]" : String) : Str).length = 1 := rfl
  omega
theorem tupL (ts : List Str) : (tupleText ts).length ≤ piled ts + 5 := by
  unfold tupleText
  rw [strLen_append, strLen_append]
  have := joinL ts
  have e1 : (("(" : String) : Str).length = 1 := rfl
  have e2 : ((if ts.length == 1 then ",)" else ")" : String) : Str).length ≤ 2 := by split <;> decide
  omega
theorem log2_60 {i : Int} (h : i.natAbs < 10 ^ 60) : i.natAbs.log2 < 1920 := by
  by_cases z : i.natAbs = 0
  · rw [z]; decide
  · have := (Nat.log2_lt z).mpr (Nat.lt_trans h (show (10 : Nat) ^ 60 < 2 ^ 1920 by decide +kernel))
    exact this
mutual
theorem small_shown : ∀ (n : Nat) (d : D), smallD n d = true → (toPy n d).showable = true ∧ (toPy n d).shown.length ≤ capD d
  | 0, d, _ => by
    unfold toPy
    refine ⟨rfl, ?_⟩
    have : (PyData.none.shown).length = 4 := rfl
    rw [this]
    cases d <;> simp only [capD] <;> omega
  | n + 1, .int i, h => by
    have h' : i.natAbs < 10 ^ 60 := of_decide_eq_true h
    refine ⟨decide_eq_true (log2_60 h'), ?_⟩
    show (Str.ofString (toString i)).length ≤ 602
    have := PySem.int_text_length_le10 (show 0 < 60 by decide) h'
    have e0 : (Str.ofString (toString i)).length = (toString i).length := PySem.ofString_length _
    omega
  | n + 1, .str x, h => by
    unfold smallD at h
    rw [Bool.and_eq_true] at h
    refine ⟨rfl, ?_⟩
    show (reprText x).length ≤ 602
    have h2 : x.length ≤ 60 := of_decide_eq_true h.2
    have h1 : ∀ c ∈ x.cps.toList, c < 16 ^ 8 := fun c hc => by
      have := h.1
      unfold PyData.strOk at this
      rw [Array.all_eq_true'] at this
      have := of_decide_eq_true (this c (by simpa using hc))
      omega
    have := PySem.StrLaws.reprText_len x h1
    omega
  | n + 1, .tup ds, h => by
    obtain ⟨h1, h2⟩ := smalls_shown n ds (by unfold smallD at h; exact h)
    refine ⟨h1, ?_⟩
    show (tupleText (PyData.shownAll (ds.map (toPy n)))).length ≤ 5 + capDs ds
    have := tupL (PyData.shownAll (ds.map (toPy n)))
    omega
  | n + 1, .kl ds, h => by
    obtain ⟨h1, h2⟩ := smalls_shown n ds (by unfold smallD at h; exact h)
    refine ⟨h1, ?_⟩
    show (listText (PyData.shownAll (ds.map (toPy n)))).length ≤ 5 + capDs ds
    have := listL (PyData.shownAll (ds.map (toPy n)))
    omega
  | n + 1, .kc ds, h => by
    obtain ⟨h1, h2⟩ := smalls_shown n ds (by unfold smallD at h; exact h)
    refine ⟨h1, ?_⟩
    show (listText (PyData.shownAll (ds.map (toPy n)))).length ≤ 5 + capDs ds
    have := listL (PyData.shownAll (ds.map (toPy n)))
    omega
  | n + 1, .bl b, _ => ⟨rfl, by cases b <;> (show _ ≤ 602; exact Nat.le_trans (show _ ≤ 5 from by decide +kernel : (PyData.bool _).shown.length ≤ 5) (by decide))⟩
  | n + 1, .non, _ => ⟨rfl, by show _ ≤ 602; exact Nat.le_trans (show _ ≤ 4 from Nat.le_refl _) (by decide)⟩
  | n + 1, .emp, _ => ⟨rfl, by show _ ≤ 602; exact Nat.le_trans (show _ ≤ 2 from Nat.le_refl _) (by decide)⟩
  | n + 1, .ty _, _ => ⟨rfl, by show _ ≤ 602; exact Nat.le_trans (show _ ≤ 4 from Nat.le_refl _) (by decide)⟩
  | n + 1, .ref _, _ => ⟨rfl, by show _ ≤ 602; exact Nat.le_trans (show _ ≤ 4 from Nat.le_refl _) (by decide)⟩
  | n + 1, .exc _ _ _, _ => ⟨rfl, by show _ ≤ 602; exact Nat.le_trans (show _ ≤ 4 from Nat.le_refl _) (by decide)⟩
theorem smalls_shown : ∀ (n : Nat) (ds : List D), ds.all (smallD n) = true → PyData.showableAll (ds.map (toPy n)) = true ∧ piled (PyData.shownAll (ds.map (toPy n))) ≤ capDs ds
  | n, [], _ => ⟨rfl, Nat.zero_le _⟩
  | n, d :: ds, h => by
    rw [List.all_cons, Bool.and_eq_true] at h
    obtain ⟨h1, h2⟩ := small_shown n d h.1
    obtain ⟨h3, h4⟩ := smalls_shown n ds h.2
    refine ⟨by simp only [List.map_cons, PyData.showableAll, h1, h3, Bool.and_self], ?_⟩
    simp only [List.map_cons, PyData.shownAll, piled_cons, capDs]
    omega
end
theorem i_reprS {d : D} {G : HD} {Q : Post} (h : pureD 9 d = true ∨ (pureE 9 d = true ∧ isBox d = true)) (hs : smallD 9 d = true) (hc : capD d ≤ 1000000) (q : Q (.str (toPy 9 d).shown) G) : rReprX [d] G Q :=
  i_reprX h (small_shown 9 d hs).1 (Nat.le_trans (small_shown 9 d hs).2 (million hc)) q
end DL

namespace DL
open PySem PySem.Spec L2
open PyProof.Rows hiding St
/-! ### a def called by the name of its one parameter -/
structure Kw1K (P : Program) (w : World) (K : PySem.W.Frag) (mg : Str → Option Value) (base : Heap) (k : Nat) (x : Str) (sp : SpD) (a : Str) : Prop where
  ex : ∃ (f : Addr) (fd : FuncData), FnK P w K mg base k f fd [a] sp ∧ mg x = some (.ref f) ∧ PySem.W.keepIn K (.ref f) = true ∧
    ∀ (s : Shared) (u : Value), BindsTo s fd ⟨[], [(a, u)]⟩ [(a, u)]
def dKw1 (sp : SpD) (ts : TDA) : TD := fun W σ G Q => ts W σ G fun ds G1 => ds.length = 1 ∧ sp ds G1 Q fun c fs G' => W c fs σ G'
/-! ### min of a tuple of ints -/
def minTO (o : Option (List Int)) (G : HD) (Q : Post) : Prop := match o with
  | some (n :: ns) => Q (.int (ns.foldl min n)) G
  | _ => False
def rMinT : List D → HD → Post → Prop := fun ds G Q => match ds with
  | [.tup es] => minTO (asInts es) G Q
  | ds => rMin2 ds G Q
section
variable {G : HD} {Q : Post} {i j : Int} {W : DW} {σ : DSt} {sp : SpD} {ts : TDA}
theorem q_kw1 : dKw1 sp ts W σ G Q = ts W σ G fun ds G1 => ds.length = 1 ∧ sp ds G1 Q fun c fs G' => W c fs σ G' := propext ⟨fun h => h, fun h => h⟩
theorem r_minT2 : rMinT [.tup [.int i, .int j]] G Q = Q (.int (min i j)) G := propext ⟨fun h => h, fun h => h⟩
end
end DL

namespace DL
open PySem PySem.Spec L2
open PyProof.Rows hiding St
/-! ### texts: gone through, compared, joined -/
def signs (x : Str) : List D := x.cps.toList.map fun c => D.str ⟨#[c]⟩
theorem signs_len {x : Str} : (signs x).length = x.cps.size := by unfold signs; rw [List.length_map]; simp
theorem signs_at {x : Str} {i : Nat} {c : Nat} (h : x.cps[i]? = some c) : (signs x)[i]? = some (.str ⟨#[c]⟩) := by
  unfold signs
  rw [List.getElem?_map, Array.getElem?_toList, h]; rfl
theorem its_rel {K : PySem.W.Frag} {G1 : HD} {H1 : Hp} (x : Str) : ItRel K G1 H1 ⟨signs x, fun _ => True⟩ (Its x) :=
  ⟨fun i G H s _ _ hi => by rw [signs_len] at hi; exact hi, fun i G H v H' s _ _ hi hy => by
    obtain ⟨rfl, c, hc, rfl⟩ := hy
    exact ⟨_, signs_at hc, rfl, s, .refl⟩, fun i G H s _ _ hi => by rw [signs_len] at hi; exact hi⟩
def strP (d : D) (G : HD) (R : ItD → HD → Prop) : Prop := match d with
  | .str x => R ⟨signs x, fun _ => True⟩ G
  | _ => False
def jStr (tl : TD) : TDI := fun W σ G R => tl W σ G fun d G1 => strP d G1 R
theorem di_str {X : Cx} {tg l : Expr} {tl : TD} (hl : DE X l tl) : DI X tg l (iStr (semE X l)) (jStr tl) :=
  ⟨pi_str peSem, fun G H σ τ W R R' r q fin => hl.then r q fun d v G1 H1 r1 x1 k1 q1 => by
    unfold strP at q1
    split at q1
    · rename_i x
      cases k1
      exact ⟨x, rfl, fin _ _ G1 H1 r1.sim x1 (its_rel x) q1⟩
    · exact q1.elim⟩
/-- <= of ints, of texts -/
def dLeX : D → D → HD → Post → Prop := fun d e G Q => match d, e with
  | .int i, .int j => Q (.bl (decide (i ≤ j))) G
  | .str i, .str j => Q (.bl (!decide (j.cps.toList < i.cps.toList))) G
  | _, _ => False
theorem od_leX (K : PySem.W.Frag) : OpD K (fun x y H Q => rI0 (fun i j => .bl (decide (i ≤ j))) x y H Q ∨ ∃ i j, x = .str i ∧ y = .str j ∧ Q (.bl (!decide (j.cps.toList < i.cps.toList))) H) dLeX := fun G H d e x y Q Q' s k1 k2 f q => by
  unfold dLeX at q
  split at q
  · rename_i i j
    refine .inl (od_cmpI K (fun i j => decide (i ≤ j)) G H (.int i) (.int j) x y Q Q' s k1 k2 f q)
  · cases k1; cases k2
    exact .inr ⟨_, _, rfl, rfl, f _ _ (.of (d := .bl _) rfl s .refl q)⟩
  · exact q.elim
theorem c_leX {X : Cx} (hu : X.A.units + 64 < cLine) : CmpR X .LtE dLeX := ⟨_, op_le.or op_le_str, od_leX X.K⟩
/-- a sign in a text -/
def dInS (neg : Bool) : D → D → HD → Post → Prop := fun d e G Q => match d, e with
  | .str i, .str z => ∃ c : Nat, i = ⟨#[c]⟩ ∧ Q (.bl (if neg then !decide (c ∈ z.cps.toList) else decide (c ∈ z.cps.toList))) G
  | _, _ => False
theorem od_inS (K : PySem.W.Frag) : OpD K (fun x y H Q => ∃ (c : Nat) (z : Str), x = .str ⟨#[c]⟩ ∧ y = .str z ∧ Q (.bl (decide (c ∈ z.cps.toList))) H) (dInS false) := fun G H d e x y Q Q' s k1 k2 f q => by
  unfold dInS at q
  split at q
  · obtain ⟨c, rfl, q⟩ := q
    cases k1; cases k2
    exact ⟨c, _, rfl, rfl, f _ _ (.of (d := .bl _) rfl s .refl q)⟩
  · exact q.elim
theorem od_ninS (K : PySem.W.Frag) : OpD K (fun x y H Q => ∃ (c : Nat) (z : Str), x = .str ⟨#[c]⟩ ∧ y = .str z ∧ Q (.bl (!decide (c ∈ z.cps.toList))) H) (dInS true) := fun G H d e x y Q Q' s k1 k2 f q => by
  unfold dInS at q
  split at q
  · obtain ⟨c, rfl, q⟩ := q
    cases k1; cases k2
    exact ⟨c, _, rfl, rfl, f _ _ (.of (d := .bl _) rfl s .refl q)⟩
  · exact q.elim
theorem c_inS {X : Cx} : CmpR X .In (dInS false) := ⟨_, op_in_sign, od_inS X.K⟩
theorem c_ninS {X : Cx} : CmpR X .NotIn (dInS true) := ⟨_, op_notIn_sign, od_ninS X.K⟩
/-- "..".join(l), t.upper() -/
def asStrs : List D → Option (List Str)
  | [] => some []
  | .str x :: r => (asStrs r).map (x :: ·)
  | _ => none
theorem asStrs_rps {K : PySem.W.Frag} {H : Hp} : ∀ {ds : List D} {vs : List V} {ys : List Str}, asStrs ds = some ys → Rps K H ds vs → vs = ys.map V.str
  | [], vs, ys, e, r => by cases e; cases r; rfl
  | d :: ds, vs, ys, e, r => by
    obtain ⟨v, t, rfl, h1, h2⟩ := r
    cases d with
    | str x =>
      simp only [asStrs, Option.map_eq_some_iff] at e
      obtain ⟨zs, e1, rfl⟩ := e
      cases h1
      rw [asStrs_rps e1 h2]; rfl
    | _ => cases e
def joinO (a : Str) (o : Option (List D)) (G : HD) (Q : Post) : Prop := match o with
  | some ds => match asStrs ds with
    | some ys => (ys.map (·.length)).sum + ys.length * a.length ≤ 16777216 ∧ Q (.str (Txt.join a ys)) G
    | none => False
  | none => False
def joinP (o : D) (ds : List D) (G : HD) (Q : Post) : Prop := match o, ds with
  | .str a, [d] => joinO a (asL G d) G Q
  | _, _ => False
def upP (o : D) (G : HD) (Q : Post) : Prop := match o with
  | .str a => a.length ≤ 5592405 ∧ Q (.str (Txt.upper a)) G
  | _ => False
def dJoin (to te : TD) : TD := fun W σ G Q => to W σ G fun o G1 => (∃ a, o = .str a) ∧ te W σ G1 fun d G2 => joinP o [d] G2 Q
def dUpper (to : TD) : TD := fun W σ G Q => to W σ G fun o G1 => upP o G1 Q
section
variable {X : Cx} {o e : Expr} {to te : TD} {apos pos : Pos}
theorem de_join (ho : DE X o to) (he : DE X e te) (hs : starEach [e] X.env = [(false, eval e X.env)] := by rfl) (hbase : attributeBase o "join" X.env (eval o X.env) = eval o X.env := by rfl) (hline : (apos.endLine == pos.line) = true := by rfl) :
    DE X (.Call (.Attribute o "join" apos) [e] [] pos) (dJoin to te) := ⟨fun G H σ τ W Q r q => by
  refine semE.of (pe_join peSem peSem hs hbase hline) (ho.then r q fun d x G1 H1 r1 x1 k1 ⟨⟨a, ea⟩, q1⟩ => ?_)
  subst ea
  cases k1
  refine ⟨⟨a, rfl⟩, he.then r1 q1 fun d2 y G2 H2 r2 x2 k2 q2 => ?_⟩
  unfold joinP joinO at q2
  try dsimp only at q2
  split at q2
  · rename_i ds e1
    split at q2
    · rename_i ys e2
      obtain ⟨b, vs, rfl, t, rr⟩ := Rp.lst r2.sim k2 e1
      obtain rfl := asStrs_rps e2 rr
      exact ⟨a, b, ys, rfl, rfl, .inl t, q2.1, .of (d := .str _) rfl r2.sim (x1.trans x2) q2.2⟩
    · exact q2.elim
  · exact q2.elim⟩
end
section
variable {G : HD} {Q : Post} {i j : Int} {x y : Str} {W : DW} {σ : DSt} {to te : TD} {R : ItD → HD → Prop} {d : D} {ds : List D} {c : Nat} {n : Bool}
theorem q_jstr : jStr te W σ G R = te W σ G fun d G1 => strP d G1 R := propext ⟨fun h => h, fun h => h⟩
theorem r_strS : strP (.str x) G R = R ⟨signs x, fun _ => True⟩ G := propext ⟨fun h => h, fun h => h⟩
theorem r_leXI : dLeX (.int i) (.int j) G Q = Q (.bl (decide (i ≤ j))) G := propext ⟨fun h => h, fun h => h⟩
theorem r_leXS : dLeX (.str x) (.str y) G Q = Q (.bl (!decide (y.cps.toList < x.cps.toList))) G := propext ⟨fun h => h, fun h => h⟩
theorem i_inS (q : Q (.bl (if n then !decide (c ∈ y.cps.toList) else decide (c ∈ y.cps.toList))) G) : dInS n (.str ⟨#[c]⟩) (.str y) G Q := ⟨c, rfl, q⟩
theorem q_join : dJoin to te W σ G Q = to W σ G fun o G1 => (∃ a, o = .str a) ∧ te W σ G1 fun d G2 => joinP o [d] G2 Q := propext ⟨fun h => h, fun h => h⟩
theorem q_upper : dUpper to W σ G Q = to W σ G fun o G1 => upP o G1 Q := propext ⟨fun h => h, fun h => h⟩
theorem r_joinP : joinP (.str x) [d] G Q = joinO x (asL G d) G Q := propext ⟨fun h => h, fun h => h⟩
theorem r_upP : upP (.str x) G Q = (x.length ≤ 5592405 ∧ Q (.str (Txt.upper x)) G) := propext ⟨fun h => h, fun h => h⟩
end
end DL

namespace DL
open PySem PySem.Spec L2
open PyProof.Rows hiding St
/-! ### keys and values of a dict that stands still -/
def fzO (o : Option MO) (a : Addr) (f : List (Key × D) → List D) (G : HD) (R : ItD → HD → Prop) : Prop := match o with
  | some (.fz ob (.dK m) (.dK l)) => R ⟨f l, fun G => G a = some (.fz ob (.dK m) (.dK l))⟩ G
  | _ => False
def fzP (f : List (Key × D) → List D) (d : D) (G : HD) (R : ItD → HD → Prop) : Prop := match d with
  | .ref a => fzO (G a) a f G R
  | _ => False
def keysD (l : List (Key × D)) : List D := l.map fun p => kDi p.1
def valsD (l : List (Key × D)) : List D := l.map (·.2)
def jKeys (td : TD) : TDI := fun W σ G R => td W σ G fun o G1 => fzP keysD o G1 R
def jVals (td : TD) : TDI := fun W σ G R => td W σ G fun o G1 => fzP valsD o G1 R
/-! ### sorted(d), list(d), dict(d) -/
def strKeys : List (Key × D) → Option (List Str)
  | [] => some []
  | (.inr x, _) :: r => (strKeys r).map (x :: ·)
  | (.inl _, _) :: _ => none
def intKeys : List (Key × D) → Option (List Int)
  | [] => some []
  | (.inl x, _) :: r => (intKeys r).map (x :: ·)
  | (.inr _, _) :: _ => none
theorem strKeys_of {K : PySem.W.Frag} {H : Hp} : ∀ {l : List (Key × D)} {m : List (Key × V)} {ks : List Str}, strKeys l = some ks → RKV K H l m → m.map (·.1) = ks.map Sum.inr
  | [], _, _, e, h => by cases e; cases h; rfl
  | (.inl _, _) :: _, _, _, e, _ => by cases e
  | (.inr x, d) :: r, _, ks, e, h => by
    obtain ⟨v, t, rfl, h1, h2⟩ := h
    simp only [strKeys, Option.map_eq_some_iff] at e
    obtain ⟨zs, e1, rfl⟩ := e
    simp only [List.map_cons, strKeys_of e1 h2]
theorem intKeys_of {K : PySem.W.Frag} {H : Hp} : ∀ {l : List (Key × D)} {m : List (Key × V)} {ks : List Int}, intKeys l = some ks → RKV K H l m → m.map (·.1) = ks.map Sum.inl
  | [], _, _, e, h => by cases e; cases h; rfl
  | (.inr _, _) :: _, _, _, e, _ => by cases e
  | (.inl x, d) :: r, _, ks, e, h => by
    obtain ⟨v, t, rfl, h1, h2⟩ := h
    simp only [intKeys, Option.map_eq_some_iff] at e
    obtain ⟨zs, e1, rfl⟩ := e
    simp only [List.map_cons, intKeys_of e1 h2]
theorem Rps.ofStrs {K : PySem.W.Frag} {H : Hp} : ∀ ys : List Str, Rps K H (ys.map D.str) (ys.map V.str)
  | [] => rfl
  | y :: ys => ⟨_, _, rfl, rfl, Rps.ofStrs ys⟩
/-- sorted of a dict with keys that are texts, or ints -/
def srtO (l : List (Key × D)) (G : HD) (Q : Post) : Prop := match strKeys l, intKeys l with
  | some ks, _ => ks.length < 64 ∧ ∀ ys : List Str, ys.Perm ks → sortedS ys = true → newL G (ys.map D.str) Q
  | none, some ks => ks.length < 64 ∧ ∀ ys : List Int, ys.Perm ks → ys.Pairwise (· ≤ ·) → newL G (ys.map D.int) Q
  | none, none => False
def dicO (o : Option MO) (f : List (Key × D) → Prop) : Prop := match o with
  | some (.dK l) => f l
  | _ => False
def dicP (d : D) (G : HD) (f : List (Key × D) → Prop) : Prop := match d with
  | .ref a => dicO (G a) f
  | _ => False
def rSortDic : List D → HD → Post → Prop := fun ds G Q => match ds with
  | [d] => dicP d G fun l => srtO l G Q
  | _ => False
def rListDic : List D → HD → Post → Prop := fun ds G Q => match ds with
  | [d] => dicP d G fun l => newL G (keysD l) Q
  | _ => False
def newD (G : HD) (l : List (Key × D)) (Q : Post) : Prop := ∀ p, G p = none → Q (.ref p) (put G p (.dK l))
def rDictDic : List D → HD → Post → Prop := fun ds G Q => match ds with
  | [d] => dicP d G fun l => newD G l Q
  | _ => False
theorem dic_at {K : PySem.W.Frag} {G : HD} {H : Hp} {d : D} {v : V} {f : List (Key × D) → Prop} (s : Sim K G H) (r : Rp K H d v) (q : dicP d G f) : ∃ a l m, v = .ref a ∧ G a = some (.dK l) ∧ H a = some (.dK m) ∧ RKV K H l m ∧ f l := by
  unfold dicP at q
  split at q
  · rename_i a
    cases r
    unfold dicO at q
    split at q
    · rename_i l e
      obtain ⟨m, e1, rk⟩ := s.dK e
      exact ⟨a, l, m, rfl, e, e1, rk, q⟩
    · exact q.elim
  · exact q.elim
theorem cd_sortDic (K : PySem.W.Frag) : CallD K (fun xs H Q => (∃ (a : Addr) (kvs : List (Key × V)) (ks : List Str), xs = [.ref a] ∧ Rd H a (.dK kvs) ∧ kvs.map (·.1) = ks.map Sum.inr ∧ ks.length < 64 ∧
    ∀ ys p, ys.Perm ks → sortedS ys = true → H p = none → Q (.ref p) (upd H p (.lst (ys.map V.str)))) ∨ (∃ (a : Addr) (kvs : List (Key × V)) (ks : List Int), xs = [.ref a] ∧ Rd H a (.dK kvs) ∧ kvs.map (·.1) = ks.map Sum.inl ∧ ks.length < 64 ∧
    ∀ (ys : List Int) (p : Addr), ys.Perm ks → ys.Pairwise (· ≤ ·) → H p = none → Q (.ref p) (upd H p (.lst (ys.map V.int))))) rSortDic := fun G H ds vs Q Q' s k f q => by
  unfold rSortDic at q
  split at q
  · obtain ⟨v, rfl, kd⟩ := one_of k
    obtain ⟨a, l, m, rfl, _, e1, rk, q⟩ := dic_at s kd q
    unfold srtO at q
    split at q
    · rename_i ks e2
      exact .inl ⟨a, m, ks, rfl, .of e1, strKeys_of e2 rk, q.1, fun ys p h1 h2 h3 => newL.fin s (Rps.ofStrs ys) f (q.2 ys h1 h2) p h3⟩
    · rename_i ks _ e2
      exact .inr ⟨a, m, ks, rfl, .of e1, intKeys_of e2 rk, q.1, fun ys p h1 h2 h3 => newL.fin s (Rps.ofInts ys) f (q.2 ys h1 h2) p h3⟩
    · exact q.elim
  · exact q.elim
theorem bc_sortDic {X : Cx} {p pos : Pos} {e : Expr} {ts : TDA} (hc : X.calm = true) (hm : X.mg "sorted" = none) (ha : DA X [e] ts) (hg : Gl X "sorted" := by rfl) (he : starEach [e] X.env = (false, eval e X.env) :: starEach [] X.env := by rfl) : DE X (.Call (.Name "sorted" p) [e] [] pos) (dCB rSortDic ts) :=
  de_cb (CallR.or (call_sortedD hc) (call_sortedDI hc)) (cd_sortDic X.K) hm (by decide +kernel) ha hg (by decide) (by decide) he (by rfl)
end DL

namespace DL
open PySem PySem.Spec L2
open PyProof.Rows hiding St
/-! ### [e for x in a for y in b] -/
section
variable {X : Cx} {tg iter : Expr} {own : List (Str × Nat)} {vs1 : List Nat} {wi wi1 : TI} {ti ti1 : TDI} {t t1 : Tgt} {g g1 : TG} {dt dt1 : TDT} {te : TD}
variable {elt tg1 iter1 : Expr} {ifs ifs1 : List Expr} {scope : Scope} {pos : Pos} {wi2 : Shared → Hp → Addr → List (Str × Addr) → List Addr → TI}
end
section
variable {ti ti1 : TDI} {t t1 : Tgt} {dt dt1 : TDT} {te : TD} {vs vs1 : List Nat} {W : DW} {σ : DSt} {G : HD} {Q : Post}
theorem q_jkeys {td : TD} {R : ItD → HD → Prop} : jKeys td W σ G R = td W σ G fun o G1 => fzP keysD o G1 R := propext ⟨fun h => h, fun h => h⟩
theorem q_jvals {td : TD} {R : ItD → HD → Prop} : jVals td W σ G R = td W σ G fun o G1 => fzP valsD o G1 R := propext ⟨fun h => h, fun h => h⟩
theorem r_fzP {f : List (Key × D) → List D} {a : Addr} {R : ItD → HD → Prop} : fzP f (.ref a) G R = fzO (G a) a f G R := propext ⟨fun h => h, fun h => h⟩
theorem r_fzO {f : List (Key × D) → List D} {a : Addr} {R : ItD → HD → Prop} {ob : Obj} {m : List (Key × V)} {l : List (Key × D)} : fzO (some (.fz ob (.dK m) (.dK l))) a f G R = R ⟨f l, fun G => G a = some (.fz ob (.dK m) (.dK l))⟩ G := propext ⟨fun h => h, fun h => h⟩
end
end DL

namespace DL
open PySem PySem.Spec L2
open PyProof.Rows hiding St
/-! ### > and >= of ints, of tuples of ints -/
section
variable {X : Cx} {pins : List (Addr × Obj)} {σ : L2.St} {H : Hp} {s : Shared}
end
def tupO (f : List Int → List Int → Bool) (o p : Option (List Int)) (G : HD) (Q : Post) : Prop := match o, p with
  | some ns, some ms => Q (.bl (f ns ms)) G
  | _, _ => False
def dCmpT (p : Int → Int → Bool) (f : List Int → List Int → Bool) : D → D → HD → Post → Prop := fun d e G Q => match d, e with
  | .int i, .int j => Q (.bl (p i j)) G
  | .tup xs, .tup ys => tupO f (asInts xs) (asInts ys) G Q
  | _, _ => False
/-! ### len of an own thing -/
section
variable {X : Cx} {k j : Nat} {C : Addr} {sp : SpD}
def ownLen (Q : Post) : Post := fun d G => match d with
  | .int n => 0 ≤ n ∧ n < 2 ^ 63 ∧ Q (.int n) G
  | _ => False
def rLenOD (C : Addr) (sp : SpD) : List D → HD → Post → Prop := fun ds G Q => match ds with
  | [.ref a] => (∃ fs, G a = some (.ins C fs)) ∧ sp [.ref a] G (ownLen Q) fun _ _ _ => False
  | _ => False
end
section
variable {G : HD} {Q : Post} {i j : Int} {p : Int → Int → Bool} {f : List Int → List Int → Bool} {a b c x y z : Int} {r : Addr} {C : Addr} {sp : SpD}
theorem r_cmpTI : dCmpT p f (.int i) (.int j) G Q = Q (.bl (p i j)) G := propext ⟨fun h => h, fun h => h⟩
theorem r_cmpT3 : dCmpT p f (.tup [.int a, .int b, .int c]) (.tup [.int x, .int y, .int z]) G Q = Q (.bl (f [a, b, c] [x, y, z])) G := propext ⟨fun h => h, fun h => h⟩
theorem r_lenOD : rLenOD C sp [.ref r] G Q = ((∃ fs, G r = some (.ins C fs)) ∧ sp [.ref r] G (ownLen Q) fun _ _ _ => False) := propext ⟨fun h => h, fun h => h⟩
theorem r_ownLen : ownLen Q (.int i) G = (0 ≤ i ∧ i < 2 ^ 63 ∧ Q (.int i) G) := propext ⟨fun h => h, fun h => h⟩
end
end DL

namespace DL
open PySem PySem.Spec L2
open PyProof.Rows hiding St
/-! ### xs.clear() -/
def clrO (o : Option MO) (a : Addr) (G : HD) (Q : Post) : Prop := match o with
  | some (.lst _) => Q .non (put G a (.lst []))
  | _ => False
def clrP (o : D) (G : HD) (Q : Post) : Prop := match o with
  | .ref a => clrO (G a) a G Q
  | _ => False
def dClear (to : TD) : TD := fun W σ G Q => to W σ G fun o G1 => clrP o G1 Q
/-! ### truth of an own thing with a length -/
section
variable {prog : Program} {w : World} {A : Around} {E : Value → Shared → Prop} {s : Shared} {K : PySem.W.Frag} {x C f : Addr} {ox : Obj} {od : Option Obj}
end
section
variable {X : Cx} {k j : Nat} {C : Addr} {sp : SpD}
def ownTru (Q : Bool → HD → Prop) : Post := fun d G => match d with
  | .int n => 0 ≤ n ∧ n < 2 ^ 63 ∧ Q (n != 0) G
  | _ => False
def truOP (C : Addr) (sp : SpD) (d : D) (G : HD) (Q : Bool → HD → Prop) : Prop := match d with
  | .ref a => (∃ fs, G a = some (.ins C fs)) ∧ sp [.ref a] G (ownTru Q) fun _ _ _ => False
  | _ => False
def dTruO (C : Addr) (sp : SpD) (t : TD) : TDT := fun W σ G Q => t W σ G fun d G1 => truOP C sp d G1 Q
end
section
variable {G : HD} {Q : Post} {a : Addr} {W : DW} {σ : DSt} {to : TD} {xs : List D} {C : Addr} {sp : SpD} {i : Int} {R : Bool → HD → Prop}
theorem q_clear : dClear to W σ G Q = to W σ G fun o G1 => clrP o G1 Q := propext ⟨fun h => h, fun h => h⟩
theorem r_clrP : clrP (.ref a) G Q = clrO (G a) a G Q := propext ⟨fun h => h, fun h => h⟩
theorem r_clrO : clrO (some (.lst xs)) a G Q = Q .non (put G a (.lst [])) := propext ⟨fun h => h, fun h => h⟩
theorem q_truO : dTruO C sp to W σ G R = to W σ G fun d G1 => truOP C sp d G1 R := propext ⟨fun h => h, fun h => h⟩
theorem r_truOP : truOP C sp (.ref a) G R = ((∃ fs, G a = some (.ins C fs)) ∧ sp [.ref a] G (ownTru R) fun _ _ _ => False) := propext ⟨fun h => h, fun h => h⟩
theorem r_ownTru : ownTru R (.int i) G = (0 ≤ i ∧ i < 2 ^ 63 ∧ R (i != 0) G) := propext ⟨fun h => h, fun h => h⟩
end
end DL

namespace DL
open PySem PySem.Spec L2
open PyProof.Rows hiding St
/-! ### bool(x) of an own thing with a length -/
section
variable {prog : Program} {w : World} {A : Around} {E : Value → Shared → Prop} {s : Shared}
end
section
variable {X : Cx} {k j : Nat} {C : Addr} {sp : SpD}
def ownBool (Q : Post) : Post := fun d G => match d with
  | .int n => 0 ≤ n ∧ n < 2 ^ 63 ∧ Q (.bl (n != 0)) G
  | _ => False
def rBoolOD (C : Addr) (sp : SpD) : List D → HD → Post → Prop := fun ds G Q => match ds with
  | [.ref a] => (∃ fs, G a = some (.ins C fs)) ∧ sp [.ref a] G (ownBool Q) fun _ _ _ => False
  | _ => False
end
section
variable {G : HD} {Q : Post} {i : Int} {r : Addr} {C : Addr} {sp : SpD}
theorem r_boolOD : rBoolOD C sp [.ref r] G Q = ((∃ fs, G r = some (.ins C fs)) ∧ sp [.ref r] G (ownBool Q) fun _ _ _ => False) := propext ⟨fun h => h, fun h => h⟩
theorem r_ownBool : ownBool Q (.int i) G = (0 ≤ i ∧ i < 2 ^ 63 ∧ Q (.bl (i != 0)) G) := propext ⟨fun h => h, fun h => h⟩
end
end DL

namespace DL
open PySem PySem.Spec L2
open PyProof.Rows hiding St
/-! ### not x, as a value, of an own thing with a length -/
section
variable {X : Cx} {k j : Nat} {C : Addr} {sp : SpD} {a : Expr} {pos : Pos}
def dNotO (C : Addr) (sp : SpD) (t : TD) : TD := fun W σ G Q => t W σ G fun d G1 => truOP C sp d G1 fun b G2 => Q (.bl (!b)) G2
theorem q_notO {W : DW} {σ : DSt} {G : HD} {Q : Post} {t : TD} : dNotO C sp t W σ G Q = t W σ G fun d G1 => truOP C sp d G1 fun b G2 => Q (.bl (!b)) G2 := propext ⟨fun h => h, fun h => h⟩
end
end DL

namespace DL
open PySem PySem.Spec L2
open PyProof.Rows hiding St
/-! ### dicts, for the plain laws -/
section
variable {W : DW} {E : DEnds} {σ : DSt} {G : HD} {Q : Post} {td tk tz te : TD} {a : Addr} {l : List (Key × D)} {k : Key} {z d v : D} {x : Str} {i : Int} {K : Prop} {R : HD → Prop} {n : Bool} {f : List (Key × D) → Prop} {ts : TDS}
theorem q_get1 : dGet1 td tk W σ G Q = td W σ G fun o G1 => dictP o G1 (tk W σ G1 fun k G2 => getP o k .non G2 Q) := propext ⟨fun h => h, fun h => h⟩
theorem q_get2 : dGet2 td tk tz W σ G Q = td W σ G fun o G1 => dictP o G1 (tk W σ G1 fun k G2 => tz W σ G2 fun z G3 => getP o k z G3 Q) := propext ⟨fun h => h, fun h => h⟩
theorem q_dget : dDGet td tk W σ G Q = td W σ G fun o G1 => tk W σ G1 fun k G2 => dkP o k G2 Q := propext ⟨fun h => h, fun h => h⟩
theorem q_sdict : sDict td tk te W E σ G = te W σ G fun v G1 => td W σ G1 fun o G2 => tk W σ G2 fun k G3 => dpP o k v G3 fun G4 => E.nx σ G4 := propext ⟨fun h => h, fun h => h⟩
theorem q_pop2 : dPop2 td tk tz W σ G Q = td W σ G fun o G1 => dictP o G1 (tk W σ G1 fun k G2 => tz W σ G2 fun z G3 => popP o k z G3 Q) := propext ⟨fun h => h, fun h => h⟩
theorem q_setd : dSetd td tk tz W σ G Q = td W σ G fun o G1 => dictP o G1 (tk W σ G1 fun k G2 => tz W σ G2 fun z G3 => sdfP o k z G3 Q) := propext ⟨fun h => h, fun h => h⟩
theorem q_dic : dDic W σ G Q = ∀ p, G p = none → Q (.ref p) (put G p (.dK [])) := propext ⟨fun h => h, fun h => h⟩
theorem r_dictP : dictP (.ref a) G K = ((∃ l, G a = some (.dK l)) ∧ K) := propext ⟨fun h => h, fun h => h⟩
theorem r_getS : getP (.ref a) (.str x) z G Q = getO (G a) (some (.inr x)) z G Q := propext ⟨fun h => h, fun h => h⟩
theorem r_getI : getP (.ref a) (.int i) z G Q = getO (G a) (some (.inl i)) z G Q := propext ⟨fun h => h, fun h => h⟩
theorem r_getO : getO (some (.dK l)) (some k) z G Q = Q ((valD l k).getD z) G := propext ⟨fun h => h, fun h => h⟩
theorem r_dkS : dkP (.ref a) (.str x) G Q = dkO (G a) (some (.inr x)) G Q := propext ⟨fun h => h, fun h => h⟩
theorem r_dkI : dkP (.ref a) (.int i) G Q = dkO (G a) (some (.inl i)) G Q := propext ⟨fun h => h, fun h => h⟩
theorem r_dkO : dkO (some (.dK l)) (some k) G Q = optP (valD l k) G Q := propext ⟨fun h => h, fun h => h⟩
theorem r_dkF {ob : Obj} {m : List (Key × V)} : dkO (some (.fz ob (.dK m) (.dK l))) (some k) G Q = optP (valD l k) G Q := propext ⟨fun h => h, fun h => h⟩
theorem r_inF {ob : Obj} {m : List (Key × V)} : inO n (some (.fz ob (.dK m) (.dK l))) (some k) G Q = Q (.bl (if n then !(valD l k).isSome else (valD l k).isSome)) G := propext ⟨fun h => h, fun h => h⟩
theorem r_inS : inP n (.str x) (.ref a) G Q = inO n (G a) (some (.inr x)) G Q := propext ⟨fun h => h, fun h => h⟩
theorem r_inI : inP n (.int i) (.ref a) G Q = inO n (G a) (some (.inl i)) G Q := propext ⟨fun h => h, fun h => h⟩
theorem r_inO : inO n (some (.dK l)) (some k) G Q = Q (.bl (if n then !(valD l k).isSome else (valD l k).isSome)) G := propext ⟨fun h => h, fun h => h⟩
theorem r_dpS : dpP (.ref a) (.str x) v G R = dpO (G a) a (some (.inr x)) v G R := propext ⟨fun h => h, fun h => h⟩
theorem r_dpI : dpP (.ref a) (.int i) v G R = dpO (G a) a (some (.inl i)) v G R := propext ⟨fun h => h, fun h => h⟩
theorem r_dpO : dpO (some (.dK l)) a (some k) v G R = (l.length < 1000000 ∧ R (put G a (.dK (putKD l k v)))) := propext ⟨fun h => h, fun h => h⟩
theorem r_dicP : dicP (.ref a) G f = dicO (G a) f := propext ⟨fun h => h, fun h => h⟩
theorem r_dicO : dicO (some (.dK l)) f = f l := propext ⟨fun h => h, fun h => h⟩
theorem r_sortDic : rSortDic [d] G Q = dicP d G fun l => srtO l G Q := propext ⟨fun h => h, fun h => h⟩
theorem r_listDic : rListDic [d] G Q = dicP d G fun l => newL G (keysD l) Q := propext ⟨fun h => h, fun h => h⟩
theorem r_dictDic : rDictDic [d] G Q = dicP d G fun l => newD G l Q := propext ⟨fun h => h, fun h => h⟩
theorem q_dapp {to : TD} {ta : TDA} : dApp to ta W σ G Q = to W σ G fun o G1 => lstP o G1 (ta W σ G1 fun ds G2 => match ds with
  | [d] => appP o d G2 Q
  | _ => False) := propext ⟨fun h => h, fun h => h⟩
theorem r_lstP {kk : Prop} : lstP (.ref a) G kk = ((∃ xs, G a = some (.lst xs)) ∧ kk) := propext ⟨fun h => h, fun h => h⟩
theorem r_appP : appP (.ref a) d G Q = appO (G a) a d G Q := propext ⟨fun h => h, fun h => h⟩
theorem r_appO {xs : List D} : appO (some (.lst xs)) a d G Q = (xs.length < 1000000 ∧ Q .non (put G a (.lst (xs ++ [d])))) := propext ⟨fun h => h, fun h => h⟩
/-! keys and values -/
end
end DL

namespace DL
open PySem PySem.Spec L2
open PyProof.Rows hiding St
/-! ### what repr shows is a text of good signs -/
theorem ok_iff {x : Str} : PyData.strOk x = true ↔ ∀ c ∈ x.cps.toList, c < 0x110000 := by
  unfold PyData.strOk
  rw [Array.all_eq_true']
  constructor
  · intro h c hc; exact of_decide_eq_true (h c (by simpa using hc))
  · intro h c hc; exact decide_eq_true (h c (by simpa using hc))
theorem ok_app {x y : Str} (h : PyData.strOk x = true) (k : PyData.strOk y = true) : PyData.strOk (x ++ y) = true := by
  rw [ok_iff] at h k ⊢
  intro c hc
  have e : (x ++ y).cps = x.cps ++ y.cps := rfl
  rw [e, Array.toList_append] at hc
  rcases List.mem_append.mp hc with hc | hc
  · exact h c hc
  · exact k c hc
theorem int_ok (i : Int) : PyData.strOk (Str.ofString (toString i)) = true := by
  rw [ok_iff]
  intro c hc
  by_cases h : c < 0x110000
  · exact h
  · exact absurd hc (PyProof.Rows.int_text_free' c ⟨by omega, by omega⟩ i)
theorem join_ok : ∀ ts : List Str, (∀ t ∈ ts, PyData.strOk t = true) → PyData.strOk (Str.join ", " ts) = true
  | [], _ => by decide +kernel
  | [t], h => h t List.mem_cons_self
  | t :: u :: r, h => by
    show PyData.strOk (t ++ ", " ++ Str.join ", " (u :: r)) = true
    exact ok_app (ok_app (h t List.mem_cons_self) (by decide +kernel)) (join_ok (u :: r) fun v hv => h v (List.mem_cons_of_mem _ hv))
end DL

namespace DL
open PySem PySem.Spec L2
open PyProof.Rows hiding St
/-! ### [..] * n -/
/-- the written list is new, and so is what comes -/
def dRepL : D → D → HD → Post → Prop := fun d e G Q => match asL G d, e with
  | some xs, .int k => 0 ≤ k ∧ k ≤ 1000 ∧ xs.length ≤ 1000 ∧ newL G (List.replicate k.toNat xs).flatten Q
  | _, _ => False
/-! ### x in a list, a tuple, of ints -/
def inIo (neg : Bool) (o : Option (List Int)) (i : Int) (G : HD) (Q : Post) : Prop := match o with
  | some ns => Q (.bl (if neg then !decide (i ∈ ns) else decide (i ∈ ns))) G
  | none => False
def dInI (neg : Bool) : D → D → HD → Post → Prop := fun d e G Q => match d with
  | .int i => match asQ G e with
    | some es => inIo neg (asInts es) i G Q
    | none => False
  | _ => False
/-! ### for i, x in enumerate(xs) -/
def enumD : Nat → List D → List D
  | _, [] => []
  | n, d :: ds => .tup [.int n, d] :: enumD (n + 1) ds
def enumO (o : Option MO) (a : Addr) (G : HD) (R : ItD → HD → Prop) : Prop := match o with
  | some (.lst ds) => R ⟨enumD 0 ds, fun G => G a = some (.lst ds)⟩ G
  | _ => False
def enumP (d : D) (G : HD) (R : ItD → HD → Prop) : Prop := match d with
  | .ref a => enumO (G a) a G R
  | _ => False
def jEnum (ts : TDA) : TDI := fun W σ G R => ts W σ G fun ds G1 => match ds with
  | [d] => enumP d G1 R
  | _ => False
end DL

namespace DL
open PySem PySem.Spec L2
open PyProof.Rows hiding St
/-! ### C(e, .., k = v, ..) -/
def pickL {α : Type} (is : List Nat) (l : List α) : List α := is.filterMap (l[·]?)
/-- what such a call binds: n values by their places, m by their names; is: where each parameter's value stands among these, the defaults dds between them -/
structure KwB (K : PySem.W.Frag) (fd : FuncData) (ps : List Str) (n : Nat) (ks : List Str) (is : List Nat) (dds : List D) : Prop where
  ex : ∃ (its : List Value) (dvs : List V), Vals dvs its ∧ Dfl K dds dvs ∧ ∀ (s : Shared) (us ws : List Value), K.In s.heap → us.length = n → ws.length = ks.length → BindsTo s fd ⟨us, ks.zip ws⟩ (ps.zip (pickL is (us ++ (its ++ ws))))
structure MakKw (P : Program) (w : World) (K : PySem.W.Frag) (mg : Str → Option Value) (base : Heap) (k : Nat) (x : Str) (C : Addr) (sp : SpD) (n : Nat) (ks : List Str) (is : List Nat) (dds : List D) : Prop where
  ex : ∃ (f : Addr) (fd : FuncData) (ps : List Str), Mk K C f ∧ FnK P w K mg base k f fd ps sp ∧ mg x = some (.ref C) ∧ KwB K fd ps (n + 1) ks is dds ∧ ∀ ds G E Q, sp ds G E Q → ds.length = ps.length
def dMakeK (C : Addr) (sp : SpD) (n m : Nat) (is : List Nat) (dds : List D) (ts tk : TDA) : TD := fun W σ G Q => ts W σ G fun ds G1 => tk W σ G1 fun zs G2 => ds.length = n ∧ zs.length = m ∧ ∀ p, G2 p = none →
  sp (pickL is ((.ref p :: ds) ++ (dds ++ zs))) (put G2 p (.ins C [])) (nonP fun G3 => Q (.ref p) G3) fun c fs G' => W c fs σ G'
def makP2 (C : Addr) (sp : SpD) (is : List Nat) (dds ds zs : List D) (G : HD) (Q : Post) (E : DX) : Prop := ∀ p, G p = none → sp (pickL is ((.ref p :: ds) ++ (dds ++ zs))) (put G p (.ins C [])) (nonP fun G3 => Q (.ref p) G3) E
section
variable {X : Cx} {k j n : Nat} {C : Addr} {sp : SpD} {x : Str} {p pos : Pos} {e : Expr} {es : List Expr} {ts tk : TDA} {dds : List D} {ks : List Str} {is : List Nat} {kws : List Keyword}
end
/-! ### o[i] += e, a list, i not below 0 -/
def getO2 (o : Option MO) (k : Int) (G : HD) (Q : Post) : Prop := match o with
  | some (.lst xs) => 0 ≤ k ∧ optP xs[k.toNat]? G Q
  | _ => False
def getP2 (o i : D) (G : HD) (Q : Post) : Prop := match o, i with
  | .ref a, .int k => getO2 (G a) k G Q
  | _, _ => False
def sAugI (g : Int → Int → Int) (to ti te : TD) : TDS := fun W D σ G => to W σ G fun o G1 => ti W σ G1 fun i G2 => getP2 o i G2 fun x G3 => te W σ G3 fun y G4 => dCmpA g x y G4 fun z G5 => rSetD o i z G5 fun G6 => D.nx σ G6
section
variable {X : Cx} {o i e : Expr} {to ti te : TD} {pos tpos : Pos} {op : Operator} {g : Int → Int → Int}
end
/-! ### xs + ys, a new list that may be changed -/
def dAddN : D → D → HD → Post → Prop := fun d e G Q => match asW G d, asW G e with
  | some xs, some ys => xs.length + ys.length ≤ sizeLine ∧ newL G (xs ++ ys) Q
  | _, _ => False
/-! ### named equations -/
section
variable {G : HD} {Q : Post} {R : HD → Prop} {W : DW} {σ : DSt} {a : Addr} {k : Int} {xs ds : List D} {g : Int → Int → Int} {to ti te : TD} {ts tk : TDA} {D' : DEnds} {C : Addr} {sp : SpD} {n m : Nat} {is : List Nat} {dds : List D}
theorem q_augI : sAugI g to ti te W D' σ G = to W σ G fun o G1 => ti W σ G1 fun i G2 => getP2 o i G2 fun x G3 => te W σ G3 fun y G4 => dCmpA g x y G4 fun z G5 => rSetD o i z G5 fun G6 => D'.nx σ G6 := propext ⟨fun h => h, fun h => h⟩
theorem r_getP2 : getP2 (.ref a) (.int k) G Q = getO2 (G a) k G Q := propext ⟨fun h => h, fun h => h⟩
theorem r_getO2 : getO2 (some (.lst xs)) k G Q = (0 ≤ k ∧ optP xs[k.toNat]? G Q) := propext ⟨fun h => h, fun h => h⟩
theorem r_cmpA {i j : Int} : dCmpA g (.int i) (.int j) G Q = Q (.int (g i j)) G := propext ⟨fun h => h, fun h => h⟩
theorem q_makeK : dMakeK C sp n m is dds ts tk W σ G Q = ts W σ G fun ds G1 => tk W σ G1 fun zs G2 => ds.length = n ∧ zs.length = m ∧ makP2 C sp is dds ds zs G2 Q fun c fs G' => W c fs σ G' := propext ⟨fun h => h, fun h => h⟩
theorem q_enum {R : ItD → HD → Prop} : jEnum ts W σ G R = ts W σ G fun ds G1 => match ds with
  | [d] => enumP d G1 R
  | _ => False := propext ⟨fun h => h, fun h => h⟩
theorem r_enumP {R : ItD → HD → Prop} : enumP (.ref a) G R = enumO (G a) a G R := propext ⟨fun h => h, fun h => h⟩
theorem r_enumO {R : ItD → HD → Prop} : enumO (some (.lst ds)) a G R = R ⟨enumD 0 ds, fun G => G a = some (.lst ds)⟩ G := propext ⟨fun h => h, fun h => h⟩
theorem r_repK : dRepL (.kl xs) (.int k) G Q = (0 ≤ k ∧ k ≤ 1000 ∧ xs.length ≤ 1000 ∧ newL G (List.replicate k.toNat xs).flatten Q) := propext ⟨fun h => h, fun h => h⟩
theorem r_addNK {ys : List D} : dAddN (.kl xs) (.kl ys) G Q = (xs.length + ys.length ≤ sizeLine ∧ newL G (xs ++ ys) Q) := propext ⟨fun h => h, fun h => h⟩
theorem r_inIK {i : Int} {b : Bool} : dInI b (.int i) (.kl xs) G Q = inIo b (asInts xs) i G Q := propext ⟨fun h => h, fun h => h⟩
theorem r_inIT {i : Int} {b : Bool} : dInI b (.int i) (.tup xs) G Q = inIo b (asInts xs) i G Q := propext ⟨fun h => h, fun h => h⟩
end
end DL

namespace DL
open PySem PySem.Spec L2
open PyProof.Rows hiding St
/-! ### {'k': v, ..} -/
def dDisp (ks : List Str) (ts : TDA) : TD := fun W σ G Q => ∀ p, G p = none → ts W σ (put G p (.dK [])) fun ds G2 => G2 p = some (.dK []) ∧ Q (.ref p) (put G2 p (.dK ((ks.zip ds).map fun q => (Sum.inr q.1, q.2))))
structure DPs (X : Cx) (pos : Pos) (keys : List (Option Expr)) (values : List Expr) (ks : List Str) (ts : TDA) : Prop where
  ex : ∃ trs, PPs X pos keys values trs ∧ ∀ (G : HD) (H : Hp) (σ : DSt) (τ : L2.St) (W : DW) (Q : List D → HD → Prop) (R : List (V × V) → Hp → Prop), SR X G H σ τ W → ts W σ G Q →
    (∀ vs H' ds G', vs.length = ks.length → Rps X.K H' ds vs → Sim X.K G' H' → Ext G H G' H' → Q ds G' → R ((ks.zip vs).map fun q => (V.str q.1, q.2)) H') → tPairs trs τ H R
section
variable {X : Cx} {pos : Pos} {keys : List (Option Expr)} {values : List Expr} {ks : List Str} {ts : TDA} {ke v : Expr} {k : Str} {te : TD}
theorem dps_nil : DPs X pos [] [] [] dNil := ⟨[], pps_nil, fun G H σ τ W Q R r q f => f [] H [] G rfl rfl r.sim .refl q⟩
theorem dps_cons (hk : DE X ke (dC (.str k))) (hv : DE X v te) (hr : DPs X pos keys values ks ts) : DPs X pos (some ke :: keys) (v :: values) (k :: ks) (dCons te ts) := by
  obtain ⟨trs, hp, hrun⟩ := hr.ex
  refine ⟨(semE X ke, semE X v) :: trs, pps_cons peSem peSem hp, fun G H σ τ W Q R r q f => ?_⟩
  refine hk.then r (R := fun d G1 => d = .str k ∧ te W σ G1 fun d G1 => ts W σ G1 fun ds G2 => Q (d :: ds) G2) ⟨rfl, q⟩ fun d x G1 H1 r1 x1 k1 q1 => ?_
  obtain ⟨rfl, q1⟩ := q1
  cases k1
  refine hv.then r1 q1 fun d y G2 H2 r2 x2 k2 q2 => ?_
  exact hrun G2 H2 σ τ W _ _ r2 q2 fun vs H' ds G' e2 k3 s3 x3 q3 => f (y :: vs) H' (d :: ds) G' (congrArg Nat.succ e2) ⟨y, vs, rfl, k2.ext r2.sim x3 _ _, k3⟩ s3 ((x1.trans x2).trans x3) q3
theorem mergeK_app {κ : Type} [DecidableEq κ] : ∀ {l kvs : List (κ × V)}, (kvs.map (·.1) ++ l.map (·.1)).Nodup → l.foldl (fun acc kv => putK acc kv.1 kv.2) kvs = kvs ++ l
  | [], kvs, _ => by simp
  | p :: l, kvs, h => by
    have hp : ¬ (kvs.any fun kv => decide (kv.1 = p.1)) = true := fun z => by
      obtain ⟨q, hq, e⟩ := List.any_eq_true.mp z
      have e := of_decide_eq_true e
      exact (List.nodup_append.mp h).2.2 q.1 (List.mem_map.mpr ⟨q, hq, rfl⟩) p.1 List.mem_cons_self e
    show l.foldl _ (putK kvs p.1 p.2) = _
    have e1 : putK kvs p.1 p.2 = kvs ++ [p] := by unfold putK; rw [if_neg hp]
    rw [e1, mergeK_app (by simpa using h)]
    simp
theorem rkv_zip {K : PySem.W.Frag} {H : Hp} : ∀ {ks : List Str} {ds : List D} {vs : List V}, Rps K H ds vs → RKV K H ((ks.zip ds).map fun q => ((Sum.inr q.1 : Key), q.2)) ((ks.zip vs).map fun q => ((Sum.inr q.1 : Key), q.2))
  | [], _, _, _ => rfl
  | k :: ks, [], _, h => by cases h; exact rfl
  | k :: ks, d :: ds, _, ⟨v, r, e, h1, h2⟩ => by
    subst e
    exact ⟨v, _, rfl, h1, rkv_zip h2⟩
theorem de_disp (h : DPs X pos keys values ks ts) (hn : ks.Nodup) (hall : keys.all (·.isSome) = true := by rfl) (hl : keys.length = values.length := by rfl) (h0 : keys ≠ [] := by simp) (h15 : ks.length ≤ 15 := by decide) (hk15 : keys.length ≤ 15 := by decide) : DE X (.Dict keys values pos) (dDisp ks ts) := by
  obtain ⟨trs, hp, hrun⟩ := h.ex
  refine ⟨fun G H σ τ W Q r q => semE.of (pe_disp hp hall hl h0 hk15) fun p hpn => ?_⟩
  have s1 := r.sim.newM (m := .dK []) (o := .dK []) hpn ⟨[], rfl, rfl⟩
  have x1 : Ext G H (put G p (.dK [])) (upd H p (.dK [])) := .newM (m := .dK []) hpn
  refine hrun _ _ σ τ W _ _ (r.ext s1 x1) (q p (r.sim.no hpn)) fun vs H' ds G' e2 k3 s3 x3 q3 => ?_
  obtain ⟨hG, q3⟩ := q3
  obtain ⟨m, e1, rk⟩ := s3.dK hG
  cases rk
  have hm : mergeK [] ((ks.zip vs).map fun q => ((Sum.inr q.1 : Key), q.2)) = (ks.zip vs).map fun q => ((Sum.inr q.1 : Key), q.2) := by
    unfold mergeK
    rw [mergeK_app, List.nil_append]
    rw [List.map_nil, List.nil_append, List.map_map]
    have : (ks.zip vs).map ((fun x : Key × V => x.1) ∘ fun q : Str × V => ((Sum.inr q.1 : Key), q.2)) = ks.map Sum.inr := by
      have : ks = (ks.zip vs).map Prod.fst := (List.map_fst_zip (by omega)).symm
      rw [show (ks.map Sum.inr : List Key) = ((ks.zip vs).map Prod.fst).map Sum.inr from by rw [← this], List.map_map]
      rfl
    rw [this]
    exact List.Pairwise.map _ (fun a b hab z => hab (Sum.inr.inj z)) hn
  refine ⟨e1, (ks.zip vs).map fun q => ((Sum.inr q.1 : Key), q.2), by rw [List.map_map]; rfl, by rw [List.length_map, List.length_zip]; omega, ?_⟩
  rw [hm]
  exact .of (d := .ref p) rfl (s3.wr (m := .dK ((ks.zip ds).map fun q => (Sum.inr q.1, q.2))) (o := .dK ((ks.zip vs).map fun q => ((Sum.inr q.1 : Key), q.2))) hG ⟨_, rfl, rkv_zip k3⟩) ((x1.trans x3).trans (.wr hG)) q3
end
theorem q_disp {ks : List Str} {ts : TDA} {W : DW} {σ : DSt} {G : HD} {Q : Post} : dDisp ks ts W σ G Q = ∀ p, G p = none → ts W σ (put G p (.dK [])) fun ds G2 => G2 p = some (.dK []) ∧ Q (.ref p) (put G2 p (.dK ((ks.zip ds).map fun q => (Sum.inr q.1, q.2)))) := propext ⟨fun h => h, fun h => h⟩
end DL

namespace DL
open PySem PySem.Spec L2
open PyProof.Rows hiding St
/-! ### keyword-only parameters and their defaults -/
inductive KwF (K : PySem.W.Frag) (KD : Addr) : List Str → List D → Prop where
  | nil : KwF K KD [] []
  | cons {x : Str} {u : Value} {d : D} {kn : List Str} {kds : List D} (h : PySem.W.nsIn K KD x = some (some u)) (v : ValF K u d) (t : KwF K KD kn kds) : KwF K KD (x :: kn) (d :: kds)
theorem KwF.to {K : PySem.W.Frag} {KD : Addr} {kn : List Str} {kds : List D} (h : KwF K KD kn kds) : ∃ kvs : List V, kvs.length = kn.length ∧ (∀ H, Rps K H kds kvs) ∧ ∀ q ∈ kn.zip kvs, ∃ u, PySem.W.nsIn K KD q.1 = some (some u) ∧ RelV q.2 u := by
  induction h with
  | nil => exact ⟨[], rfl, fun _ => rfl, fun q hq => by cases hq⟩
  | cons h v _ ih =>
    obtain ⟨w, r, p⟩ := v.to
    obtain ⟨kvs, l, ps, q⟩ := ih
    refine ⟨w :: kvs, congrArg Nat.succ l, fun H => ⟨w, kvs, rfl, p H, ps H⟩, fun q' hq => ?_⟩
    rcases List.mem_cons.mp hq with e | hq
    · rw [e]; exact ⟨_, h, r⟩
    · exact q q' hq
section
variable {K : PySem.W.Frag} {x qual : Str} {pa : Arguments} {bd : List Stmt} {sc : Scope} {f T KD : Addr} {oc kV dc pm cd ct : Value} {od an : Option Addr} {sl : Array (Option Value)} {o : Obj} {ds : List D} {dvs : List V} {kws : List (Str × V)} {fd : FuncData} {ps : List Str} {kn : List Str} {kds : List D}
theorem Dfl.app {a b : List D} {x y : List V} (h : Dfl K a x) (k : Dfl K b y) : Dfl K (a ++ b) (x ++ y) := ⟨fun H => (h.rel H).app (k.rel H)⟩
end
end DL

namespace DL
open PySem PySem.Spec L2
open PyProof.Rows hiding St
/-! ### repr, inside a handler too -/
theorem bc_reprXU {X : Cx} {p pos : Pos} {e : Expr} {ts : TDA} (hgd : X.A.guards = some []) (hun : X.A.units + 64 < cLine) (hm : X.mg "repr" = none) (ha : DA X [e] ts) (hg : Gl X "repr" := by rfl) (he : starEach [e] X.env = (false, eval e X.env) :: starEach [] X.env := by rfl) : DE X (.Call (.Name "repr" p) [e] [] pos) (dCB rReprX ts) :=
  de_cb (CallR.or (CallR.or (call_rep0 hgd hun) (call_repE hgd hun)) (call_repT hgd hun)) (cd_reprX X.K) hm (by decide +kernel) ha hg (by decide) (by decide) he (by rfl)
end DL

namespace SIt
open PySem PySem.Spec PyProof.Rows
/-! ### sorted(d.items()): pairs of a text and a thing, the texts unlike -/
/-- a new tuple of a text and a thing -/
def IsIt (h : Heap) (v : Value) (x : PySem.Str) : Prop := ∃ (a : Addr) (o : Obj) (t : Tok) (u : Value) (n : Nat), v = .ref a ∧ h.get? a = some o ∧ o.cls = .type "tuple" ∧ o.data = .seq #[.str x t, u] n
theorem IsIt.keeps {h h' : Heap} {v : Value} {x : PySem.Str} (i : IsIt h v x) (k : ∀ b o, h.get? b = some o → o.cls = .type "tuple" → h'.get? b = some o) : IsIt h' v x := by
  obtain ⟨a, o, t, u, n, e, ho, hc, hd⟩ := i
  exact ⟨a, o, t, u, n, e, k a o ho hc, hc, hd⟩
section
variable {prog : Program} {w : World} {A : Around} {E : Value → Shared → Prop} {s : Shared}
end

open L2 hiding St
/-! ### .. by values -/
/-- a function that tells the entry of each address -/
theorem tells {α : Type} [Inhabited α] : ∀ {as : List Addr} {xs : List α}, as.length = xs.length → as.Nodup → ∃ f : Addr → α, as.map f = xs
  | [], [], _, _ => ⟨fun _ => default, rfl⟩
  | [], _ :: _, h, _ => by cases h
  | _ :: _, [], h, _ => by cases h
  | a :: as, x :: xs, h, hn => by
    obtain ⟨h1, h2⟩ := List.nodup_cons.mp hn
    obtain ⟨f, hf⟩ := tells (xs := xs) (Nat.succ.inj h) h2
    refine ⟨fun t => if t = a then x else f t, ?_⟩
    rw [List.map_cons, if_pos rfl]
    congr 1
    rw [← hf]
    apply List.map_congr_left
    intro t ht
    rw [if_neg (fun z : t = a => h1 (z ▸ ht))]
section
variable {X : Cx} {e : Expr} {te : TE} {p apos cpos pos : Pos}
end
end SIt

namespace DL
open PySem PySem.Spec L2
open PyProof.Rows hiding St
section
variable {K : PySem.W.Frag} {G : HD} {H : Hp}
end
/-! ### {k: e for .. in .. if ..} -/
def dcD (ok : HD → Prop) (step : D → (Key → D → HD → Prop) → (HD → Prop) → HD → Prop) (fin : List (Key × D) → HD → Prop) : List D → List (Key × D) → HD → Prop
  | [], acc => fun G => ∃ G0, Le G0 G ∧ ok G0 ∧ fin acc G0
  | x :: xs, acc => fun G => ∃ G0, Le G0 G ∧ ok G0 ∧ step x (fun k y G' => dcD ok step fin xs (putKD acc k y) G') (fun G' => dcD ok step fin xs acc G') G0
def keyP (d : D) (f : Key → Prop) : Prop := match kD d with
  | some k => f k
  | none => False
def dDc (ti : TDI) (t : Tgt) (dt : TDT) (tk te : TD) (vs : List Nat) : TD := fun W σ G Q => ti W σ G fun I G1 => I.xs.length ≤ 1000000 ∧
  dcD I.ok (fun d ky kn G' => t.put d (dwipe σ vs) fun σ2 => dt W0 σ2 G' fun b G2 => if b = true then tk W0 σ2 G2 fun kd G3 => te W0 σ2 G3 fun y G4 => keyP kd fun k => ky k y G4 else kn G2) (fun acc G2 => newD G2 acc Q) I.xs [] G1
section
variable {X : Cx} {kx vx tg iter : Expr} {ifs : List Expr} {scope : Scope} {own : List (Str × Nat)} {pos : Pos} {wi : TI} {ti : TDI} {t : Tgt} {g : TG} {dt : TDT} {tk te : TD}
end
end DL

namespace DL
open PySem PySem.Spec L2
open PyProof.Rows hiding St
/-! ### sorted(d.items()), by value -/
def itD (p : Str × D) : D := .tup [.str p.1, p.2]
def strItems : List (Key × D) → Option (List (Str × D))
  | [] => some []
  | (.inr x, d) :: r => (strItems r).map ((x, d) :: ·)
  | (.inl _, _) :: _ => none
def sitO (o : Option (List (Str × D))) (G : HD) (Q : Post) : Prop := match o with
  | some xs => (xs.map (·.1)).Nodup ∧ ∀ qs : List (Str × D), qs.Perm xs → (qs.map (·.1)).Pairwise (fun a b => ¬ b.cps.toList < a.cps.toList) → Q (.kl (qs.map itD)) G
  | none => False
def dSrtItems (te : TD) : TD := fun W σ G Q => te W σ G fun d G1 => dicP d G1 fun l => sitO (strItems l) G1 Q
section
variable {K : PySem.W.Frag} {G : HD} {H : Hp}
end
section
variable {X : Cx} {e : Expr} {te : TD} {p apos cpos pos : Pos}
end
end DL

namespace DL
open PySem PySem.Spec L2
open PyProof.Rows hiding St
/-! ### d.pop(k), k is in it -/
def popO1 (o : Option MO) (a : Addr) (k : Option Key) (G : HD) (Q : Post) : Prop := match o, k with
  | some (.dK l), some k => optP (valD l k) G fun v G1 => Q v (put G1 a (.dK (dropKD l k)))
  | _, _ => False
def popP1 (o k : D) (G : HD) (Q : Post) : Prop := match o with
  | .ref a => popO1 (G a) a (kD k) G Q
  | _ => False
def dPop1 (td tk : TD) : TD := fun W σ G Q => td W σ G fun o G1 => dictP o G1 (tk W σ G1 fun k G2 => popP1 o k G2 Q)
section
variable {X : Cx} {o e : Expr} {td tk : TD} {apos cpos : Pos}
end
/-! ### d == {}, d != {} -/
section
variable {X : Cx}
end
def dEqE (neg : Bool) (td : TD) : TD := fun W σ G Q => td W σ G fun d G1 => dicP d G1 fun l => Q (.bl (if neg then !l.isEmpty else l.isEmpty)) G1
section
variable {X : Cx} {a : Expr} {td : TD} {pos p2 : Pos}
end
/-! ### x in (a, b), texts -/
def inSo (neg : Bool) (o : Option (List Str)) (d : D) (G : HD) (Q : Post) : Prop := match o, d with
  | some ns, .str x => Q (.bl (if neg then !decide (x ∈ ns) else decide (x ∈ ns))) G
  | some _, .non => Q (.bl neg) G
  | _, _ => False
def dInT (neg : Bool) : D → D → HD → Post → Prop := fun d e G Q => match asQ G e with
  | some es => inSo neg (asStrs es) d G Q
  | none => False
theorem inV_strs {x : Str} : ∀ {ns : List Str}, inV (.str x) (ns.map V.str) = decide (x ∈ ns)
  | [] => rfl
  | n :: ns => by
    have h := inV_strs (x := x) (ns := ns)
    unfold inV at h ⊢
    rw [List.map_cons, List.any_cons, h]
    have e : eqV (V.str n) (V.str x) = decide (n = x) := by
      by_cases z : n = x
      · subst z; simp [eqV]
      · simp [eqV, z]
    rw [e]
    by_cases z : x = n
    · subst z; simp
    · have z' : ¬ n = x := fun q => z q.symm
      simp [z, z']
theorem inV_non : ∀ {ns : List Str}, inV .non (ns.map V.str) = false
  | [] => rfl
  | n :: ns => by
    have h := inV_non (ns := ns)
    unfold inV at h ⊢
    rw [List.map_cons, List.any_cons, h]
    rfl
theorem od_inT (K : PySem.W.Frag) (neg : Bool) : OpD K (rIn K neg) (dInT neg) := fun G H d e x y Q Q' s k1 k2 f q => by
  unfold dInT at q
  split at q
  · rename_i es e1
    unfold inSo at q
    split at q
    · rename_i ns x0 e2
      cases k1
      obtain ⟨a, vs, rfl, t, r⟩ := k2.seq s e1
      obtain rfl := asStrs_rps e2 r
      refine ⟨a, _, rfl, t, rfl, List.all_eq_true.mpr fun v hv => by obtain ⟨n, _, rfl⟩ := List.mem_map.mp hv; rfl, ?_⟩
      rw [inV_strs]
      exact f _ _ (.of (d := .bl _) rfl s .refl q)
    · rename_i ns e2
      cases k1
      obtain ⟨a, vs, rfl, t, r⟩ := k2.seq s e1
      obtain rfl := asStrs_rps e2 r
      refine ⟨a, _, rfl, t, rfl, List.all_eq_true.mpr fun v hv => by obtain ⟨n, _, rfl⟩ := List.mem_map.mp hv; rfl, ?_⟩
      rw [inV_non]
      have : (if neg = true then !false else false) = neg := by cases neg <;> rfl
      rw [this]
      exact f _ _ (.of (d := .bl _) rfl s .refl q)
    · exact q.elim
  · exact q.elim
theorem c_inT {X : Cx} : CmpR X .In (dInT false) := ⟨_, op_in_seq, od_inT X.K false⟩
/-! ### o.m(e, .., k = v, ..) -/
structure MetKw (P : Program) (w : World) (K : PySem.W.Frag) (mg : Str → Option Value) (base : Heap) (k : Nat) (m : Str) (C : Addr) (sp : SpD) (n : Nat) (ks : List Str) (is : List Nat) (dds : List D) : Prop where
  ex : ∃ (f : Addr) (fd : FuncData) (ps : List Str), Cls K C ∧ Meth K C m f ∧ FnK P w K mg base k f fd ps sp ∧ KwB K fd ps (n + 1) ks is dds ∧ ∀ ds G E Q, sp ds G E Q → ds.length = ps.length
def dMethK (C : Addr) (sp : SpD) (m : Str) (n mm : Nat) (is : List Nat) (dds : List D) (ta : TD) (ts tk : TDA) : TD := fun W σ G Q => ta W σ G fun d G1 => match d with
  | .ref a => match G1 a with
    | some (.ins C' fs) => fs.lookup m = none ∧ C' = C ∧ ts W σ G1 fun ds G2 => tk W σ G2 fun zs G3 => ds.length = n ∧ zs.length = mm ∧ sp (pickL is ((.ref a :: ds) ++ (dds ++ zs))) G3 Q fun c fs G' => W c fs σ G'
    | _ => False
  | _ => False
section
variable {X : Cx} {k j n : Nat} {C : Addr} {sp : SpD} {m : Str} {apos pos : Pos} {o e : Expr} {es : List Expr} {ta : TD} {ts tk : TDA} {dds : List D} {ks : List Str} {is : List Nat} {kws : List Keyword}
end
/-! ### named equations -/
section
variable {G : HD} {Q : Post} {W : DW} {σ : DSt} {a : Addr} {td tk te : TD} {ts tka : TDA} {C : Addr} {sp : SpD} {m : Str} {n mm : Nat} {is : List Nat} {dds ds : List D} {l : List (Key × D)} {x y : Str} {neg : Bool} {d : D} {ti : TDI} {t : Tgt} {dt : TDT} {vs : List Nat} {f : Key → Prop} {i : Int}
theorem q_pop1 : dPop1 td tk W σ G Q = td W σ G fun o G1 => dictP o G1 (tk W σ G1 fun k G2 => popP1 o k G2 Q) := propext ⟨fun h => h, fun h => h⟩
theorem r_pop1S : popP1 (.ref a) (.str x) G Q = popO1 (G a) a (some (.inr x)) G Q := propext ⟨fun h => h, fun h => h⟩
theorem r_pop1I : popP1 (.ref a) (.int i) G Q = popO1 (G a) a (some (.inl i)) G Q := propext ⟨fun h => h, fun h => h⟩
theorem r_popO1 {k : Key} : popO1 (some (.dK l)) a (some k) G Q = optP (valD l k) G fun v G1 => Q v (put G1 a (.dK (dropKD l k))) := propext ⟨fun h => h, fun h => h⟩
theorem q_eqE : dEqE neg td W σ G Q = td W σ G fun d G1 => dicP d G1 fun l => Q (.bl (if neg then !l.isEmpty else l.isEmpty)) G1 := propext ⟨fun h => h, fun h => h⟩
theorem r_inTT : dInT neg (.str x) (.tup ds) G Q = inSo neg (asStrs ds) (.str x) G Q := propext ⟨fun h => h, fun h => h⟩
theorem r_inTN : dInT neg .non (.tup ds) G Q = inSo neg (asStrs ds) .non G Q := propext ⟨fun h => h, fun h => h⟩
theorem r_inTK : dInT neg (.str x) (.kl ds) G Q = inSo neg (asStrs ds) (.str x) G Q := propext ⟨fun h => h, fun h => h⟩
theorem r_inSo {ns : List Str} : inSo neg (some ns) (.str x) G Q = Q (.bl (if neg then !decide (x ∈ ns) else decide (x ∈ ns))) G := propext ⟨fun h => h, fun h => h⟩
theorem r_inSn {ns : List Str} : inSo neg (some ns) .non G Q = Q (.bl neg) G := propext ⟨fun h => h, fun h => h⟩
theorem q_srtI : dSrtItems te W σ G Q = te W σ G fun d G1 => dicP d G1 fun l => sitO (strItems l) G1 Q := propext ⟨fun h => h, fun h => h⟩
theorem q_dc {tv : TD} : dDc ti t dt tk tv vs W σ G Q = ti W σ G fun I G1 => I.xs.length ≤ 1000000 ∧
  dcD I.ok (fun d ky kn G' => t.put d (dwipe σ vs) fun σ2 => dt W0 σ2 G' fun b G2 => if b = true then tk W0 σ2 G2 fun kd G3 => tv W0 σ2 G3 fun y G4 => keyP kd fun k => ky k y G4 else kn G2) (fun acc G2 => newD G2 acc Q) I.xs [] G1 := propext ⟨fun h => h, fun h => h⟩
theorem r_keyS : keyP (.str x) f = f (.inr x) := propext ⟨fun h => h, fun h => h⟩
theorem r_keyI : keyP (.int i) f = f (.inl i) := propext ⟨fun h => h, fun h => h⟩
def metK (o : Option MO) (C : Addr) (m : Str) (k : Prop) : Prop := match o with
  | some (.ins C' fs) => fs.lookup m = none ∧ C' = C ∧ k
  | _ => False
def metKd (d : D) (G : HD) (C : Addr) (m : Str) (k : Addr → Prop) : Prop := match d with
  | .ref a => metK (G a) C m (k a)
  | _ => False
theorem q_methK : dMethK C sp m n mm is dds td ts tka W σ G Q = td W σ G fun d G1 => metKd d G1 C m fun a => ts W σ G1 fun ds G2 => tka W σ G2 fun zs G3 => ds.length = n ∧ zs.length = mm ∧ sp (pickL is ((.ref a :: ds) ++ (dds ++ zs))) G3 Q fun c fs G' => W c fs σ G' := by
  unfold dMethK
  congr 1
theorem r_metKd {k : Addr → Prop} : metKd (.ref a) G C m k = metK (G a) C m (k a) := propext ⟨fun h => h, fun h => h⟩
theorem r_metK {fs : List (Str × D)} {k : Prop} {C' : Addr} : metK (some (.ins C' fs)) C m k = (fs.lookup m = none ∧ C' = C ∧ k) := propext ⟨fun h => h, fun h => h⟩
end
end DL

namespace DL
open PySem PySem.Spec L2
open PyProof.Rows hiding St
/-! ### named equations of dicts -/
def itO (o : Option MO) (a : Addr) (G : HD) (R : ItD → HD → Prop) : Prop := match o with
  | some (.fz ob (.dK m) (.dK l)) => R ⟨l.map pairD, fun G => G a = some (.fz ob (.dK m) (.dK l))⟩ G
  | _ => False
def itP (d : D) (G : HD) (R : ItD → HD → Prop) : Prop := match d with
  | .ref a => itO (G a) a G R
  | _ => False
def inIq (neg : Bool) (o : Option (List D)) (i : Int) (G : HD) (Q : Post) : Prop := match o with
  | some es => inIo neg (asInts es) i G Q
  | none => False
section
variable {G : HD} {Q : Post} {W : DW} {σ : DSt} {a : Addr} {td : TD} {l : List (Key × D)} {x : Str} {neg : Bool} {z d : D} {i : Int} {R : ItD → HD → Prop} {es : List D} {ns : List Int} {k : Key}
theorem r_popS : popP (.ref a) (.str x) z G Q = popO (G a) a (some (.inr x)) z G Q := propext ⟨fun h => h, fun h => h⟩
theorem r_popI : popP (.ref a) (.int i) z G Q = popO (G a) a (some (.inl i)) z G Q := propext ⟨fun h => h, fun h => h⟩
theorem r_popO : popO (some (.dK l)) a (some k) z G Q = ((∀ v, valD l k = some v → Q v (put G a (.dK (dropKD l k)))) ∧ (valD l k = none → Q z G)) := propext ⟨fun h => h, fun h => h⟩
theorem r_sdfS : sdfP (.ref a) (.str x) z G Q = sdfO (G a) a (some (.inr x)) z G Q := propext ⟨fun h => h, fun h => h⟩
theorem r_sdfI : sdfP (.ref a) (.int i) z G Q = sdfO (G a) a (some (.inl i)) z G Q := propext ⟨fun h => h, fun h => h⟩
theorem q_items : jItems td W σ G R = td W σ G fun o G1 => itP o G1 R := propext ⟨fun h => h, fun h => h⟩
theorem r_itP : itP (.ref a) G R = itO (G a) a G R := propext ⟨fun h => h, fun h => h⟩
theorem r_itO {ob : Obj} {m : List (Key × V)} : itO (some (.fz ob (.dK m) (.dK l))) a G R = R ⟨l.map pairD, fun G => G a = some (.fz ob (.dK m) (.dK l))⟩ G := propext ⟨fun h => h, fun h => h⟩
theorem r_inIR : dInI neg (.int i) (.ref a) G Q = inIq neg (lstOf (G a)) i G Q := by
  show (match (match G a with | some (.lst ds) => some ds | _ => none) with | some es => inIo neg (asInts es) i G Q | none => False) = _
  cases G a with
  | none => rfl
  | some o => cases o <;> rfl
theorem r_lenD : lenP (lenO (some (.dK l))) G Q = Q (.int l.length) G := propext ⟨fun h => h, fun h => h⟩
theorem r_frzD : frzO (some (.dK l)) a G Q = Q (.ref a) G := propext ⟨fun h => h, fun h => h⟩
theorem r_inIq : inIq neg (some es) i G Q = inIo neg (asInts es) i G Q := propext ⟨fun h => h, fun h => h⟩
theorem r_inIo : inIo neg (some ns) i G Q = Q (.bl (if neg then !decide (i ∈ ns) else decide (i ∈ ns))) G := propext ⟨fun h => h, fun h => h⟩
end
end DL

namespace DL
open PySem PySem.Spec L2 DX
open PyProof.Rows hiding St
/-! ### == of nested things that are equal -/
section
variable {X : Cx} {pins : List (Addr × Obj)} {σ : L2.St} {H : Hp} {s : Shared}
end
/-! .. of data -/
def dkAt (G : HD) (a : Addr) (l : List (Key × D)) : Prop := G a = some (.dK l) ∨ ∃ ob m, G a = some (.fz ob (.dK m) (.dK l))
section
variable {K : PySem.W.Frag} {G : HD} {H : Hp}
theorem dkAt.rd (s : Sim K G H) {a : Addr} {l : List (Key × D)} (h : dkAt G a l) : ∃ m, Rd H a (.dK m) ∧ RKV K H l m := by
  rcases h with h | ⟨ob, m, h⟩
  · obtain ⟨m, e, r⟩ := s.dK h
    exact ⟨m, .of e, r⟩
  · obtain ⟨h1, h2⟩ := fz_at0 s h
    exact ⟨m, h1, h2⟩
theorem RKV.mem {κ : Type} : ∀ {l : List (κ × D)} {m : List (κ × V)} {p : κ × V}, RKV K H l m → p ∈ m → ∃ d, (p.1, d) ∈ l ∧ Rp K H d p.2
  | [], _, _, h, hm => by cases h; cases hm
  | q :: l, _, p, h, hm => by
    obtain ⟨v, r, rfl, h1, h2⟩ := h
    rcases List.mem_cons.mp hm with rfl | hm
    · exact ⟨q.2, List.mem_cons_self, h1⟩
    · obtain ⟨d, h3, h4⟩ := RKV.mem h2 hm
      exact ⟨d, List.mem_cons_of_mem _ h3, h4⟩
end
/-! ### list(d.items()), by value -/
def dLstItems (te : TD) : TD := fun W σ G Q => te W σ G fun d G1 => dicP d G1 fun l => Q (.kl (l.map pairD)) G1
section
variable {X : Cx} {e : Expr} {te : TD} {p apos cpos pos : Pos}
end
/-! ### X(e, ..), an exception as a value -/
section
variable {X : Cx}
def dMkX (C : Addr) (fs : List Str) (ts : TDA) : TD := fun W σ G Q => ts W σ G fun ds G1 => ds.length = fs.length ∧ Q (.exc C ((fs.zip ds).reverse.map (·.1)) ((fs.zip ds).reverse.map (·.2))) G1
theorem q_mkX {W : DW} {σ : DSt} {G : HD} {Q : Post} {C : Addr} {fs : List Str} {ts : TDA} : dMkX C fs ts W σ G Q = ts W σ G fun ds G1 => ds.length = fs.length ∧ Q (.exc C ((fs.zip ds).reverse.map (·.1)) ((fs.zip ds).reverse.map (·.2))) G1 := propext ⟨fun h => h, fun h => h⟩
theorem q_lstI {W : DW} {σ : DSt} {G : HD} {Q : Post} {te : TD} : dLstItems te W σ G Q = te W σ G fun d G1 => dicP d G1 fun l => Q (.kl (l.map pairD)) G1 := propext ⟨fun h => h, fun h => h⟩
end
/-! ### list(range(n)), by value -/
def lrgP (d : D) (G : HD) (Q : Post) : Prop := match d with
  | .int n => -1000000 ≤ n ∧ n ≤ 1000000 ∧ Q (.kl (intsD 0 n.toNat)) G
  | _ => False
def dLstRg (te : TD) : TD := fun W σ G Q => te W σ G fun d G1 => lrgP d G1 Q
section
variable {G : HD} {Q : Post} {W : DW} {σ : DSt} {te : TD} {n : Int}
theorem q_lstRg : dLstRg te W σ G Q = te W σ G fun d G1 => lrgP d G1 Q := propext ⟨fun h => h, fun h => h⟩
theorem r_lrg : lrgP (.int n) G Q = (-1000000 ≤ n ∧ n ≤ 1000000 ∧ Q (.kl (intsD 0 n.toNat)) G) := propext ⟨fun h => h, fun h => h⟩
end
/-! ### two that read alike are equal -/
section
variable {G : HD} {Q : Post} {d e : D} {neg : Bool}
end
end DL

namespace DL
open PySem PySem.Spec L2
open PyProof.Rows hiding St
/-! ### d.update(e), both dicts -/
def tDUpd (td te : TE) : TE := fun σ H Q => td σ H fun x H1 => ∃ a, x = .ref a ∧ IsD H1 a ∧ te σ H1 fun y H2 => ∃ b ks ls, y = .ref b ∧ H2 a = some (.dK ks) ∧ H2 b = some (.dK ls) ∧ a ≠ b ∧ ks.length + ls.length ≤ sizeLine ∧ Q .non (upd H2 a (.dK (mergeK ks ls)))
def mergeKD (l m : List (Key × D)) : List (Key × D) := m.foldl (fun acc p => putKD acc p.1 p.2) l
def updO (o1 o2 : Option MO) (a : Addr) (G : HD) (Q : Post) : Prop := match o1, o2 with
  | some (.dK l), some (.dK m) => l.length + m.length ≤ 1000000 ∧ Q .non (put G a (.dK (mergeKD l m)))
  | _, _ => False
def updP (o z : D) (G : HD) (Q : Post) : Prop := match o, z with
  | .ref a, .ref b => a ≠ b ∧ updO (G a) (G b) a G Q
  | _, _ => False
def dUpd (td te : TD) : TD := fun W σ G Q => td W σ G fun o G1 => dictP o G1 (te W σ G1 fun z G2 => updP o z G2 Q)
section
variable {X : Cx} {o e : Expr} {apos cpos : Pos}
theorem pe_dupd {td te : TE} (ho : PE X o td) (he : PE X e te) (m : M1 X o "update" apos e cpos) : PE X (.Call (.Attribute o "update" apos) [e] [] cpos) (tDUpd td te) := by
  refine ⟨fun pins s σ H Q I h => ?_⟩
  refine wpAny_Call_method m.base m.few m.line PySem.F.plainAttrs_dict PySem.F.slot_dict_update PySem.F.type_dict_update (thn (ho.run pins s σ H _ I h) fun u s1 ⟨x, H1, I1, rx, a, ex, d, q1⟩ => ?_)
  subst ex
  obtain rfl : u = Value.ref a := rx
  obtain ⟨t1, t2, _⟩ := isD_at I1 d
  refine ⟨t1, t2, ?_⟩
  rw [m.trees]
  refine Calls.callWith_builtin rfl (Calls.evalArgs_plain (Calls.spliced_cons (thn (he.run pins s1 σ H1 _ I1 q1) fun iv s2 ⟨y, H2, I2, ry, b, ks, ls, ey, ea, eb, hne, hz, q2⟩ => Calls.spliced_nil ?_)))
  subst ey
  obtain rfl : iv = Value.ref b := ry
  obtain ⟨za, ha, va, ra, da⟩ := dk_of I2.hok ea
  obtain ⟨zb, hb, vb, rb, db⟩ := dk_of I2.hok eb
  refine call_meetsIn PySem.F.slot_dict_update da.typeIs PySem.F.entry_dict_update (PySem.F.args_dict_update_2 _ _) (meets_dict_update (mixKind X.prog X.w) a b hne hb) ⟨va, vb, da, db, by rw [← ra.length, ← rb.length]; exact hz, fun h' da' db' hs => ⟨.non, _, ?_, rfl, q2⟩⟩
  have he : ∃ q, h'.get? a = some q := let ⟨q, _, _, hq, _⟩ := da'; ⟨q, hq⟩
  exact d_write (t' := s2.toks) I2 (by rw [ea]; exact True.intro) hs he (dk_new (Nat.le_trans (length_mergeK ls ks) hz) ha (rb.merge ra) da')
theorem RKV.merge {K : PySem.W.Frag} {H : Hp} {m : List (Key × D)} : ∀ {mv : List (Key × V)} {l : List (Key × D)} {lv : List (Key × V)}, RKV K H m mv → RKV K H l lv → RKV K H (mergeKD l m) (mergeK lv mv) := by
  induction m with
  | nil => intro mv l lv h h0; cases h; exact h0
  | cons p m ih =>
    intro mv l lv h h0
    obtain ⟨v, r, rfl, h1, h2⟩ := h
    show RKV K H (mergeKD (putKD l p.1 p.2) m) (mergeK (putK lv p.1 v) r)
    exact ih (mv := r) h2 (h0.putK2 h1)
theorem de_upd {td te : TD} (ho : DE X o td) (he : DE X e te) (m : M1 X o "update" apos e cpos) : DE X (.Call (.Attribute o "update" apos) [e] [] cpos) (dUpd td te) := ⟨fun G H σ τ W Q r q =>
  semE.of (pe_dupd peSem peSem m) (ho.then r q fun d x G1 H1 r1 x1 k1 q1 => by
    unfold dictP at q1
    split at q1
    · rename_i a
      obtain ⟨⟨l, hl⟩, q2⟩ := q1
      cases k1
      obtain ⟨m1, e1, _⟩ := r1.sim.dK hl
      refine ⟨a, rfl, .inl ⟨_, .inl e1⟩, he.then r1 q2 fun z y G2 H2 r2 x2 k2 q3 => ?_⟩
      unfold updP at q3
      split at q3
      · rename_i a' b ea
        cases ea
        cases k2
        obtain ⟨hne, q4⟩ := q3
        unfold updO at q4
        split at q4
        · rename_i l2 m2 e2 e3
          obtain ⟨lv, h1, h2⟩ := r2.sim.dK e2
          obtain ⟨mv, h3, h4⟩ := r2.sim.dK e3
          refine ⟨b, lv, mv, rfl, h1, h3, hne, by rw [h2.len, h4.len, sizeLine_eq]; omega, ?_⟩
          exact .of (d := .non) rfl (r2.sim.wr (m := .dK (mergeKD l2 m2)) (o := .dK (mergeK lv mv)) e2 ⟨_, rfl, h4.merge h2⟩) ((x1.trans x2).trans (.wr e2)) q4.2
        · exact q4.elim
      · exact q3.elim
    · exact q1.elim)⟩
end
section
variable {G : HD} {Q : Post} {W : DW} {σ : DSt} {td te : TD} {a b : Addr} {l m : List (Key × D)}
theorem q_upd : dUpd td te W σ G Q = td W σ G fun o G1 => dictP o G1 (te W σ G1 fun z G2 => updP o z G2 Q) := propext ⟨fun h => h, fun h => h⟩
theorem r_updP : updP (.ref a) (.ref b) G Q = (a ≠ b ∧ updO (G a) (G b) a G Q) := propext ⟨fun h => h, fun h => h⟩
theorem r_updO : updO (some (.dK l)) (some (.dK m)) a G Q = (l.length + m.length ≤ 1000000 ∧ Q .non (put G a (.dK (mergeKD l m)))) := propext ⟨fun h => h, fun h => h⟩
end
/-! ### xs[::-1], by value -/
def revO (o : Option (List D)) (G : HD) (Q : Post) : Prop := match o with
  | some xs => Q (.kl xs.reverse) G
  | none => False
def dRevV (te : TD) : TD := fun W σ G Q => te W σ G fun d G1 => revO (asL G1 d) G1 Q
section
variable {G : HD} {Q : Post} {W : DW} {σ : DSt} {te : TD} {a : Addr} {xs : List D}
theorem q_revV : dRevV te W σ G Q = te W σ G fun d G1 => revO (asL G1 d) G1 Q := propext ⟨fun h => h, fun h => h⟩
theorem r_asLK : asL G (.kl xs) = some xs := rfl
theorem r_revO : revO (some xs) G Q = Q (.kl xs.reverse) G := propext ⟨fun h => h, fun h => h⟩
end
end DL

namespace DL
open PySem PySem.Spec L2
open PyProof.Rows hiding St
/-! ### repr of a row of data and of flat dicts -/
section
variable {X : Cx} {pins : List (Addr × Obj)} {σ : L2.St} {H : Hp} {s : Shared}
end
/-! .. of data -/
section
variable {K : PySem.W.Frag} {G : HD} {H : Hp}
end
end DL

namespace DL
open PySem PySem.Spec L2
open PyProof.Rows hiding St
/-! ### d.clear() -/
def clrDO (o : Option MO) (a : Addr) (G : HD) (Q : Post) : Prop := match o with
  | some (.dK _) => Q .non (put G a (.dK []))
  | _ => False
def clrDP (o : D) (G : HD) (Q : Post) : Prop := match o with
  | .ref a => clrDO (G a) a G Q
  | _ => False
def dDClr (to : TD) : TD := fun W σ G Q => to W σ G fun o G1 => clrDP o G1 Q
section
variable {G : HD} {Q : Post} {W : DW} {σ : DSt} {to : TD} {a : Addr} {l : List (Key × D)}
theorem q_dclr : dDClr to W σ G Q = to W σ G fun o G1 => clrDP o G1 Q := propext ⟨fun h => h, fun h => h⟩
theorem r_clrDP : clrDP (.ref a) G Q = clrDO (G a) a G Q := propext ⟨fun h => h, fun h => h⟩
theorem r_clrDO : clrDO (some (.dK l)) a G Q = Q .non (put G a (.dK [])) := propext ⟨fun h => h, fun h => h⟩
end
end DL

namespace DN
open PySem PySem.Spec PyProof.Rows
section
variable {prog : Program} {w : World} {A : Around} {E : Value → Shared → Prop} {s : Shared} {I : Addr} {fp wr : List Addr} {G : Array GenState → Array GenState → Prop} {n : Nat} {P : Nat → Value → Prop} {St : Nat → Shared → Prop}
/-- a walk from behind its first j -/
theorem walks_from (W : WalksS prog w A I fp wr G n P St) (j : Nat) (hj : j ≤ n) : WalksS prog w A I fp wr G (n - j) (fun i v => P (i + j) v) (fun i s => St (i + j) s) where
  sub := W.sub
  grefl := W.grefl
  gtrans := W.gtrans
  frame := fun i s h' tk st ht hk => W.frame (i + j) s h' tk st ht hk
  item := fun i s Q E hi st hQ => W.item (i + j) s Q E (by omega) st fun v s' hp hst hm => hQ v s' hp (by rw [show i + 1 + j = i + j + 1 by omega]; exact hst) hm
  done := fun s Q E st hQ => W.done s Q E (by rw [show n - j + j = n by omega] at st; exact st) hQ
  self := fun i s Q E st q => W.self (i + j) s Q E st q
end
end DN
namespace DL
open PySem PySem.Spec L2
open PyProof.Rows hiding St
/-! ### x, *r = a tuple; the row by value -/
def sStar (i j : Nat) (te : TD) : TDS := fun W D σ G => te W σ G fun d G1 => match d with
  | .tup (x :: xs) => D.nx ((σ.set i (some x)).set j (some (.kl xs))) G1
  | _ => False
section
variable {G : HD} {i j : Nat} {te : TD} {W : DW} {D' : DEnds} {σ : DSt}
theorem q_star : sStar i j te W D' σ G = te W σ G fun d G1 => match d with | .tup (x :: xs) => D'.nx ((σ.set i (some x)).set j (some (.kl xs))) G1 | _ => False := rfl
end
end DL

namespace DN
open PySem PySem.Spec PyProof.Rows L2
section
variable {P : Program} {w : World} {A : Around} {E : Value → Shared → Prop} {s : Shared}
/-- a set that is new -/
abbrev new0 (w : World) : Obj := { cls := .type "set", dict := none, data := .set #[] 0 (.fresh 0 0 (!w.params.followText "set-order")) }
set_option maxHeartbeats 3200000 in
/-- set(l), l a list of ints; its table is known -/
theorem set_list {l : Addr} {items : Array Value} (ns : List Int) {Q : Value → Shared → Prop} (hh : A.handled = none) (hl : s.heap.IsList l items) (hit : IntsAre items.toList ns) (hb : ns.length + 1 < scanBound)
    (h : ∀ (h' : Heap) (tk c : Nat), SetR w h' s.heap.objs.size (fun j => decide (j ∈ ns)) c → c ≤ ns.length → (∀ b o, s.heap.get? b = some o → h'.get? b = some o) → Q (.ref s.heap.objs.size) { s with heap := h', toks := tk }) :
    wpAny (model P w) A (call (.type "set") [.ref l]) Q E s := by
  have hn : items.size = ns.length := by simpa using hit.length
  have hlS : l < s.heap.objs.size := by obtain ⟨o, ho, _⟩ := hl; exact Heap.lt_size ho
  have z1 : (s.heap.push (new0 w)).objs.size = s.heap.objs.size + 1 := Heap.size_push ..
  have hS : (s.heap.push (new0 w)).get? s.heap.objs.size = some (new0 w) := Heap.get?_push_size _ rfl
  obtain ⟨_, _, hmro⟩ := F.called_set.mro
  have hmade := F.called_set.made
  have hsub := F.called_set.sub
  refine wpAny_call (codeAny_of_tree ?_)
  show wpAny _ _ (callAny (.type "set") _) _ _ _
  refine wpAny_pure ⟨Code.quiet_builtin _ (by decide +kernel), codeAny_builtin F.entry_type_call ?_⟩
  rw [Around.under_plain (weight_type_call_type "set" [.ref l] []) rfl]
  have h1 := F.called_set.notType
  have h2 := F.called_set.canCreate
  have h3 := F.typeCall_set_1 (.ref l)
  repeat (any_goals (first | assumption | wp_step))
  refine codeAny_mono (code_set_led1 (.ref l) (E := E) (Q₁ := fun v s1 => v = .ref s.heap.objs.size ∧ s1 = { s with heap := s.heap.push (new0 w) }) ⟨rfl, rfl⟩) fun r s1 hr => ?_
  rcases r with e | (_ | _ | _ | v)
  · exact hr
  · exact hr.elim
  · exact hr.elim
  · exact hr.elim
  · obtain ⟨rfl, rfl⟩ := hr
    have hT : Shared.TypeIs { s with heap := s.heap.push (new0 w) } (.ref s.heap.objs.size) "set" := ⟨_, hS, rfl⟩
    have hli := F.called_set.init.lookup
    have hbi := F.called_set.init.bind (.ref s.heap.objs.size)
    repeat (any_goals (first | assumption | wp_step))
    refine codeAny_mono (codeAny_call_builtin (R := wants (fun r s2 => r = .none ∧ ∃ h' tk c, s2 = { s with heap := h', toks := tk } ∧ SetR w h' s.heap.objs.size (fun j => decide (j ∈ ns)) c ∧ c ≤ ns.length ∧ (∀ b o, s.heap.get? b = some o → h'.get? b = some o)) E) F.called_set.init.plain F.entry_set_init (check_set_init_1 hT ?_)) fun r2 s2 hr2 => ?_
    · obtain ⟨⟨cls, dd, dat, sl⟩, ho, hc, k0, hd⟩ := hl
      simp only at hc hd
      subst hc; subst hd
      have ho' : (s.heap.push (new0 w)).get? l = some { cls := .type "list", dict := dd, data := .seq items k0, slots := sl } := Heap.get?_push_of_some _ ho
      have e1 := F.sub_list_set
      have e2 := F.sub_list_frozenset
      have e3 : (Value.type "list" == Value.type "dict") = false := by decide
      have hl1 : (s.heap.push (new0 w)).IsList l items := ⟨_, ho', rfl, k0, rfl⟩
      unfold Builtin.«set.__init__» noKeywords Builtin.Frozenset.updateFrom
      generalize hPI : pyIter = PI
      wp_walk
      subst hPI
      refine wpAny_pyIter_list hl1 ?_
      refine wpAny_bind (wpAny_runValue ?_)
      have hne : l ≠ (s.heap.push (new0 w)).objs.size := by rw [z1]; exact Nat.ne_of_lt (Nat.lt_succ_of_lt hlS)
      have hh3 : A.in1.in1.in1.handled = none := by simp [hh]
      have hval : ∀ (i : Nat) (v : Value), items[i]? = some v → ∃ k t, ns[i]? = some k ∧ v = .int k t := fun i v hv => by
        have hi : i < ns.length := by rw [← hn]; exact (Array.getElem?_eq_some_iff.mp hv).1
        obtain ⟨t, e⟩ := PyProof.Rows.IntsAre.int_at hit i v (by rw [Array.getElem?_toList]; exact hv)
        refine ⟨ns[i], t, List.getElem?_eq_getElem hi, ?_⟩
        rw [e, List.getD_eq_getElem?_getD, List.getElem?_eq_getElem hi] <;> rfl
      refine set_update_ints (Walks.list hh3 _ l hne items).toS s.heap.objs.size (by simp only [List.mem_cons, List.not_mem_nil, or_false, not_or]; exact ⟨by rw [z1]; exact Nat.ne_of_lt (Nat.lt_succ_self _), Nat.ne_of_gt hlS⟩) ns hn hb hval (items.size - 0) 0 _ (by omega) (Nat.zero_le _)
        ⟨⟨_, Heap.get?_push_size _ rfl, rfl, rfl⟩, hl1.push _⟩ ⟨0, Nat.le_refl 0, setR_new_at (Heap.get?_push_of_some _ hS)⟩ fun s' c hm hc hR => ?_
      obtain ⟨h', g2, d', tk', os'⟩ := s'
      have eg : g2 = s.gens := hm.gens
      have ed : d' = s.drawn := hm.drawn
      have eo : os' = s.os := hm.os
      subst eg; subst ed; subst eo
      show wpAny _ _ _ _ _ _
      refine wpAny_pure ?_
      show wpAny _ _ (ret Value.none) _ _ _
      refine wpAny_pure ⟨rfl, h', tk', c, rfl, hR, by omega, fun b o e => ?_⟩
      have hb0 : b < s.heap.objs.size := Heap.lt_size e
      exact hm.heap b o (by simp only [List.mem_cons, List.not_mem_nil, or_false, not_or]; exact ⟨Nat.ne_of_lt hb0, by rw [z1]; exact Nat.ne_of_lt (Nat.lt_succ_of_lt hb0)⟩) (Heap.get?_push_of_some _ (Heap.get?_push_of_some _ e))
    · rcases r2 with e | (_ | _ | _ | v)
      · exact hr2
      · exact hr2.elim
      · exact hr2.elim
      · exact hr2.elim
      · obtain ⟨rfl, h', tk', c, rfl, hR, hc, hk⟩ := hr2
        refine wpAny_pure ?_
        have e0 : ((Value.none != Value.none) = true) = False := by decide
        repeat (any_goals (first | exact h h' tk' c hR hc hk | assumption | wp_step))
end
end DN

namespace DL
open PySem PySem.Spec L2
open PyProof.Rows hiding St
/-! ### sorted(set(e)), e a list of ints; by value -/
theorem vals_ints : ∀ {us : List Value} {ms : List Int}, IntsAre us ms → Vals (ms.map V.int) us
  | _, [], h => by cases h; exact .nil
  | _, m :: ms, h => by
    cases h
    rename_i h
    exact .cons ⟨_, rfl⟩ (vals_ints h)
def srtSetI (o : Option (List Int)) (G : HD) (Q : Post) : Prop := match o with
  | some ns => ns.length ≤ 60 ∧ ∀ ms : List Int, ms.Pairwise (· < ·) → (∀ k, k ∈ ms ↔ k ∈ ns) → Q (.kl (ms.map D.int)) G
  | none => False
def srtSetO (o : Option (List D)) (G : HD) (Q : Post) : Prop := match o with
  | some ds => srtSetI (asInts ds) G Q
  | none => False
def dSortSet (te : TD) : TD := fun W σ G Q => te W σ G fun d G1 => srtSetO (asL G1 d) G1 Q
section
variable {G : HD} {Q : Post} {W : DW} {σ : DSt} {te : TD} {xs : List D} {ns : List Int}
theorem q_sortSet : dSortSet te W σ G Q = te W σ G fun d G1 => srtSetO (asL G1 d) G1 Q := propext ⟨fun h => h, fun h => h⟩
theorem r_srtSetO : srtSetO (some xs) G Q = srtSetI (asInts xs) G Q := propext ⟨fun h => h, fun h => h⟩
end
end DL

namespace DL
open PySem PySem.Spec L2
open PyProof.Rows hiding St
/-! ### x.index(y) of texts -/
def sidxP (o d : D) (G : HD) (Q : Post) : Prop := match o, d with
  | .str a, .str b => ∃ k, Txt.index0 a b = some k ∧ Q (.int (k : Nat)) G
  | _, _ => False
def dSIdx (to te : TD) : TD := fun W σ G Q => to W σ G fun o G1 => (∃ a, o = .str a) ∧ te W σ G1 fun d G2 => sidxP o d G2 Q
section
variable {G : HD} {Q : Post} {x y : Str} {W : DW} {σ : DSt} {to te : TD}
theorem q_sidx : dSIdx to te W σ G Q = to W σ G fun o G1 => (∃ a, o = .str a) ∧ te W σ G1 fun d G2 => sidxP o d G2 Q := propext ⟨fun h => h, fun h => h⟩
theorem r_sidx : sidxP (.str x) (.str y) G Q = ∃ k, Txt.index0 x y = some k ∧ Q (.int (k : Nat)) G := propext ⟨fun h => h, fun h => h⟩
end
end DL

namespace DL
open PySem PySem.Spec L2
open PyProof.Rows hiding St
/-! ### max of two tuples of ints, of three ints, of a list of tuples of ints -/
section
variable {prog : Program} {w : World} {A : Around} {E : Value → Shared → Prop} {s : Shared}
end
/-- the greatest of some tuples -/
def maxI (n : List Int) (nss : List (List Int)) : List Int := nss.foldl (fun a y => if PySem.W.listLt a y then y else a) n
def asTups : List D → Option (List (List Int))
  | [] => some []
  | .tup ds :: es => match asInts ds, asTups es with
    | some ns, some nss => some (ns :: nss)
    | _, _ => none
  | _ :: _ => none
def mx2O (o p : Option (List Int)) (G : HD) (Q : Post) : Prop := match o, p with
  | some ns, some ms => Q (.tup ((if PySem.W.listLt ns ms then ms else ns).map D.int)) G
  | _, _ => False
def mxTO (o : Option (List (List Int))) (G : HD) (Q : Post) : Prop := match o with
  | some (n :: nss) => Q (.tup ((maxI n nss).map D.int)) G
  | _ => False
def mxLO (o : Option (List D)) (G : HD) (Q : Post) : Prop := match o with
  | some es => mxTO (asTups es) G Q
  | none => False
/-- max over tuples of ints -/
def rMaxT : List D → HD → Post → Prop := fun ds G Q => match ds with
  | [.int i, .int j, .int k] => Q (.int (if j > i then (if k > j then k else j) else (if k > i then k else i))) G
  | [.tup xs, .tup ys] => mx2O (asInts xs) (asInts ys) G Q
  | [d] => mxLO (asL G d) G Q
  | _ => False
section
variable {G : HD} {Q : Post} {i j k : Int} {xs ys es : List D} {a : Addr} {ns ms : List Int}
theorem r_max3 : rMaxT [.int i, .int j, .int k] G Q = Q (.int (if j > i then (if k > j then k else j) else (if k > i then k else i))) G := propext ⟨fun h => h, fun h => h⟩
theorem r_max2T : rMaxT [.tup xs, .tup ys] G Q = mx2O (asInts xs) (asInts ys) G Q := propext ⟨fun h => h, fun h => h⟩
theorem r_maxTL : rMaxT [.kl es] G Q = mxLO (asL G (.kl es)) G Q := propext ⟨fun h => h, fun h => h⟩
end
end DL

namespace DL
open PySem PySem.Spec L2
open PyProof.Rows hiding St
/-! ### i, (j, k) as a target; zip of two lists; range with a step -/
def zipD (ds es : List D) : List D := (ds.zip es).map fun p => .tup [p.1, p.2]
theorem zip_get {ds es : List D} {i : Nat} {d e : D} (h1 : ds[i]? = some d) (h2 : es[i]? = some e) : (zipD ds es)[i]? = some (.tup [d, e]) := by
  unfold zipD
  have : (ds.zip es)[i]? = some (d, e) := List.getElem?_zip_eq_some.mpr ⟨h1, h2⟩
  rw [List.getElem?_map, this]
  rfl
theorem zip_len {ds es : List D} : (zipD ds es).length = min ds.length es.length := by unfold zipD; rw [List.length_map, List.length_zip]
def zipP (d e : D) (G : HD) (R : ItD → HD → Prop) : Prop := match d, e with
  | .kl ds, .kl es => R ⟨zipD ds es, fun _ => True⟩ G
  | _, _ => False
section
variable {W : DW} {σ : DSt} {G : HD} {ts : TDA} {R : ItD → HD → Prop} {ds es : List D} {i : Nat} {js : List Nat} {d : D} {k : DSt → Prop}
theorem q_putNest : (Tgt.nest i js).put (.tup [d, .tup ds]) σ k = (ds.length = js.length ∧ k (setAll js ds (σ.set i (some d)))) := propext ⟨fun h => h, fun h => h⟩
theorem r_zipP : zipP (.kl ds) (.kl es) G R = R ⟨zipD ds es, fun _ => True⟩ G := propext ⟨fun h => h, fun h => h⟩
end
end DL

namespace DL
open PySem PySem.Spec L2
open PyProof.Rows hiding St
/-! ### (x,) * n, n of any sign -/
def dRepT : D → D → HD → Post → Prop := fun d e G Q => match d, e with
  | .tup ds, .int k => -1000 ≤ k ∧ k ≤ 1000 ∧ ds ≠ [] ∧ ds.length ≤ 1000 ∧ Q (.tup (List.replicate k.toNat ds).flatten) G
  | _, _ => False
section
variable {G : HD} {Q : Post} {ds : List D} {k : Int}
theorem r_repT : dRepT (.tup ds) (.int k) G Q = (-1000 ≤ k ∧ k ≤ 1000 ∧ ds ≠ [] ∧ ds.length ≤ 1000 ∧ Q (.tup (List.replicate k.toNat ds).flatten) G) := propext ⟨fun h => h, fun h => h⟩
end
end DL

namespace DL
open PySem PySem.Spec L2
open PyProof.Rows hiding St
/-! ### a method called with keywords, a keyword-only default left out, no other defaults -/
end DL

namespace DL
open PySem PySem.Spec L2
open PyProof.Rows hiding St
/-! ### name = {k: v for ..} on one line, the name a local -/
section
variable {X : Cx}
variable {kx vx tg iter : Expr} {ifs : List Expr} {scope : Scope} {own : List (Str × Nat)} {pos : Pos} {wi : TI} {ti : TDI} {t : Tgt} {g : TG} {dt : TDT} {tk te : TD}
end
end DL

namespace DL
open PySem PySem.Spec L2
open PyProof.Rows hiding St
/-! ### the looks of DL0 are facts; a law's end over such a head -/
end DL

namespace DN
open PySem PySem.Spec PyProof.Rows
section
variable {prog : Program} {w : World} {A : Around} {E : Value → Shared → Prop} {s : Shared} {I : Addr} {fp wr : List Addr} {G : Array GenState → Array GenState → Prop} {n : Nat} {P : Nat → Value → Prop} {St : Nat → Shared → Prop}
/-- x, *r = a list -/
theorem unpackItems_starL {t : Addr} {x : Value} {r : List Value} {Q : List Value → Shared → Prop} (hh : A.handled = none) (ht : s.heap.IsList t (x :: r).toArray) (hz : r.length ≤ sizeLine)
    (hQ : ∀ (h' : Heap) (tk : Tok), (∀ b o, s.heap.get? b = some o → h'.get? b = some o) → Q [x, .ref h'.objs.size] { s with heap := h'.push { cls := .type "list", data := .seq r.toArray }, toks := tk }) : wpAny (model prog w) A (unpackItems (.ref t) 2 (some 1)) Q E s := by
  have hlt : t ≠ s.heap.objs.size := by obtain ⟨o, ho, _⟩ := ht; exact Nat.ne_of_lt (Heap.lt_size ho)
  have hsz : (x :: r).toArray.size = r.length + 1 := by simp
  unfold unpackItems
  refine wpAny_bind ?_
  unfold notIterableAtAll
  refine wpAny_bind (wpAny_specialOf ht.typeIs F.slot_list_iter.lookup ?_)
  refine wpAny_pure ?_
  simp only [Bool.false_eq_true, if_false]
  refine wpAny_bind (wpAny_holding (wpAny_pyIter_list ht ?_))
  refine wpAny_bind (wpAny_holding (PySem.W.kun_draw hlt 1 0 _ _ ⟨_, Heap.get?_push_size _ rfl, rfl, rfl⟩ (ht.push _) (by rw [hsz]; omega) fun h₁ hit₁ hs₁ => ?_))
  have e1 : List.take 1 (List.drop 0 (x :: r).toArray.toList) = [x] := by simp
  rw [e1]
  rw [if_neg (by simp)]
  have ht₁ : h₁.IsList t (x :: r).toArray := (ht.push _).extBut hs₁.extBut hlt
  have W := walks_from (Walks.list (prog := prog) (w := w) (A := A.in1) hh s.heap.objs.size t hlt (x :: r).toArray).toS 1 (by rw [hsz]; omega)
  refine wpAny_bind (wpAny_holding (wpAny_collect_iter (.inr (.inr (.inl rfl))) W (fun i s st => st.1.typeIs) ⟨hit₁, ht₁⟩ ?_ (by simp) (fun s' acc hm hacc => ?_) (by rw [hsz]; omega)))
  · intro b hb
    rcases List.mem_cons.mp hb with rfl | hb
    · obtain ⟨o, ho, _⟩ := hit₁
      exact Heap.lt_size ho
    · rw [List.mem_singleton.mp hb]
      obtain ⟨o, ho, _⟩ := ht₁
      exact Heap.lt_size ho
  · have ea : acc.toList = r := by
      obtain ⟨h1, h2⟩ := hacc
      rw [hsz] at h1
      refine List.ext_getElem? fun j => ?_
      rw [Array.getElem?_toList]
      by_cases hj : j < acc.size
      · have := h2 j _ (Array.getElem?_eq_getElem hj)
        rw [Array.getElem?_eq_getElem hj]
        simpa using this.symm
      · rw [Array.getElem?_eq_none (by omega), List.getElem?_eq_none (by omega)]
    rw [ea, if_neg (by omega)]
    have e2 : List.take (r.length - (2 - 1 - 1)) r = r := by simp
    have e3 : List.drop (r.length - (2 - 1 - 1)) r = [] := by simp
    rw [e2, e3]
    refine wpAny_bind (wpAny_newObj_type ?_)
    refine wpAny_pure ?_
    obtain ⟨m1, m2, m3, m4, m5⟩ := hm
    obtain ⟨sh, sg, sd, st, so⟩ := s'
    have m2' : sg = s.gens := m2
    have m3' : sd = s.drawn := m3
    have m4' : so = s.os := m4
    subst m2' m3' m4'
    refine hQ sh _ fun b o ho => ?_
    have hb1 : b ≠ s.heap.objs.size := Nat.ne_of_lt (Heap.lt_size ho)
    exact m1 b o (by simpa using hb1) (hs₁.extBut b o hb1 (Heap.get?_push_of_some _ ho))
end
end DN
namespace DL
open PySem PySem.Spec L2
open PyProof.Rows hiding St
/-! ### x, *r = a list; the rest by value -/
def gStarL (K : PySem.W.Frag) (i j : Nat) : TG := fun v σ H Q => ∃ a x xs, v = .ref a ∧ SqL K H a (x :: xs) ∧ ∀ l, H l = none → ∀ ob, Q ((σ.set i (some x)).set j (some (.ref l))) (upd H l (.frz ob (.lst xs)))
theorem pg_starL {X : Cx} {i j : Nat} {x y : Str} {px py pz pos : Pos} {k : Nat} (hc : X.calm = true) (hN : X.N.Nodup) (hi : X.N[i]? = some x) (hj : X.N[j]? = some y)
    (hx : Loc X.env.scope x := by first | exact Or.inl rfl | exact Or.inr rfl) (hy : Loc X.env.scope y := by first | exact Or.inl rfl | exact Or.inr rfl)
    (fx : X.fn x = true ∨ X.env.scope.names.lookup x = some .local := by first | exact .inl rfl | exact .inr rfl | assumption) (fy : X.fn y = true ∨ X.env.scope.names.lookup y = some .local := by first | exact .inl rfl | exact .inr rfl | assumption)
    : PG X (.Tuple [.Name x px, .Starred (.Name y py) pz] k pos) (gStarL X.K i j) := by
  refine ⟨fun pins s σ H v u Q I r hw => ?_⟩
  obtain ⟨a, w, ws, rfl, hq, hw⟩ := hw
  cases r
  obtain ⟨its, rv, pl, hz⟩ := I.list hq
  have ht := pl.isList
  cases rv with
  | @cons _ u1 _ us r1 r2 =>
    rw [arm_assign_Tuple]
    refine wpAny_bind (wpAny_standAt ?_)
    unfold unpack
    refine wpAny_bind (wpAny_holding ?_)
    have hl : us.length ≤ sizeLine := by rw [← r2.length]; simp only [List.length_cons] at hz; omega
    refine DN.unpackItems_starL (I.ok.hd hc) ht hl fun h' tk hk => ?_
    have I1 : Inv X pins σ H { s with heap := h', toks := tk } := I.kept (t' := tk) hk
    have hf : H h'.objs.size = none := I1.hok.fresh (Nat.le_refl _)
    have I2 : Inv X pins σ (upd H h'.objs.size (.lst ws)) { s with heap := h'.push { cls := .type "list", data := .seq us.toArray }, toks := tk } :=
      I1.laid (t' := tk) (fun b u e => Heap.get?_push_of_some _ e) (Nat.le_refl _) ⟨by rw [r2.length]; exact hl, us, 0, r2, Heap.get?_push_size _ rfl⟩
    obtain ⟨ob, I3⟩ := I2.lock upd_same trivial
    rw [upd_upd] at I3
    have g : PGs X [.Name x px, .Name y py] (gCons (gName i) (gCons (gName j) gNil)) := pgs_cons (pg_name hN hi hx fx) (pgs_cons (pg_name hN hj hy fy) pgs_nil)
    exact g.run pins _ σ _ [w, .ref h'.objs.size] [u1, .ref h'.objs.size] Q I3 (.cons r1 (.cons rfl .nil)) ⟨_, _, rfl, _, _, rfl, rfl, hw _ hf ob⟩
def sStarK (i j : Nat) (te : TD) : TDS := fun W D σ G => te W σ G fun d G1 => match d with
  | .kl (x :: xs) => D.nx ((σ.set i (some x)).set j (some (.kl xs))) G1
  | _ => False
theorem ds_starK {X : Cx} {e : Expr} {te : TD} {i j : Nat} {x y : Str} {px py pz pos pos' : Pos} {k : Nat} (he : DE X e te) (hc : X.calm = true) (hN : X.N.Nodup) (hi : X.N[i]? = some x := by rfl) (hj : X.N[j]? = some y := by rfl)
    (hx : Loc X.env.scope x := by first | exact Or.inl rfl | exact Or.inr rfl) (hy : Loc X.env.scope y := by first | exact Or.inl rfl | exact Or.inr rfl)
    (fx : X.fn x = true ∨ X.env.scope.names.lookup x = some .local := by first | exact .inl rfl | exact .inr rfl | assumption) (fy : X.fn y = true ∨ X.env.scope.names.lookup y = some .local := by first | exact .inl rfl | exact .inr rfl | assumption)
    (hs : swapsWithSole [.Tuple [.Name x px, .Starred (.Name y py) pz] k pos'] e pos.line X.env = pure false := by rfl) (hw : swappedStores [.Tuple [.Name x px, .Starred (.Name y py) pz] k pos'] e X.env = pure none := by rfl) (h1 : (assignEach [.Tuple [.Name x px, .Starred (.Name y py) pz] k pos'] X.env).map (·.2) = [assign (.Tuple [.Name x px, .Starred (.Name y py) pz] k pos') X.env] := by rfl) :
    DS X (.Assign [.Tuple [.Name x px, .Starred (.Name y py) pz] k pos'] e pos) (sStarK i j te) :=
  ⟨fun G H σ τ W D r q => semS.of (ps_asg peSem (pg_starL hc hN hi hj hx hy fx fy) hs hw h1) (he.then r q fun d v G1 H1 r1 x1 k1 q1 => by
    try dsimp only at q1
    split at q1
    · rename_i d1 ds
      obtain ⟨a, vs, rfl, ⟨o, t⟩, rr⟩ := k1
      obtain ⟨v1, vr, rfl, a1, a2⟩ := rr
      refine ⟨a, v1, vr, rfl, .inl (.inr ⟨o, t⟩), fun l hl ob => ?_⟩
      have xx : Ext G1 H1 G1 (upd H1 l (.frz ob (.lst vr))) := .new hl (r1.sim.no hl)
      have rk : Rp X.K (upd H1 l (.frz ob (.lst vr))) (.kl ds) (.ref l) := ⟨l, vr, rfl, ⟨ob, upd_same⟩, Rps.ext r1.sim xx _ _ a2⟩
      exact ⟨_, G1, ((r1.slots.set a1).ext r1.sim xx _ _).set rk, r1.sim.newO hl, x1.trans xx, q1⟩
    · exact q1.elim)⟩
section
variable {G : HD} {i j : Nat} {te : TD} {W : DW} {D' : DEnds} {σ : DSt}
theorem q_starK : sStarK i j te W D' σ G = te W σ G fun d G1 => match d with | .kl (x :: xs) => D'.nx ((σ.set i (some x)).set j (some (.kl xs))) G1 | _ => False := rfl
end
end DL

namespace DN
open PySem PySem.Spec PyProof.Rows Srt SrtO
section
variable {prog : Program} {w : World} {A : Around} {E : Value → Shared → Prop} {s : Shared}
/-! ### sorted of texts, and of pairs by a text -/
def IsSP (h : Heap) (v : Value) (x : Str) : Prop := ∃ a o t y n, v = .ref a ∧ h.get? a = some o ∧ o.cls = .type "tuple" ∧ o.data = .seq #[.str x t, y] n
theorem IsSP.keeps {h h' : Heap} {v : Value} {x : Str} (p : IsSP h v x) (k : ∀ b o, h.get? b = some o → o.cls = .type "tuple" → h'.get? b = some o) : IsSP h' v x := by
  obtain ⟨a, o, t, y, n, e, ho, hc, hd⟩ := p
  exact ⟨a, o, t, y, n, e, k _ _ ho hc, hc, hd⟩
end
end DN

namespace DL
open PySem PySem.Spec L2
open PyProof.Rows hiding St
/-! ### sorted of texts, and of pairs by their texts -/
/-! by contents -/
section
variable {G : HD} {Q : Post} {es : List D} {xs : List Str} {ps : List (Str × D)}
theorem asStrs_map : ∀ xs : List Str, asStrs (xs.map D.str) = some xs
  | [] => rfl
  | x :: xs => by simp only [List.map_cons, asStrs, asStrs_map xs]; rfl
end
end DL

namespace DL
open PySem PySem.Spec L2
open PyProof.Rows hiding St
/-! ### x in (a, b), things without parts -/
end DL

namespace DL
open PySem PySem.Spec L2
open PyProof.Rows hiding St
/-! ### t[:0:-1], a tuple -/
section
variable {prog : Program} {w : World} {A : Around} {E : Value → Shared → Prop} {s : Shared} {t sl : Addr} {items : Array Value} {vl vu vs : Value} {n : Nat}
end
/-- t[:0:-1] by value -/
def rev0T : D → HD → Post → Prop := fun d G Q => match d with
  | .tup xs => 1 ≤ xs.length ∧ Q (.tup (xs.drop 1).reverse) G
  | _ => False
def dRev0 (te : TD) : TD := fun W σ G Q => te W σ G fun d G1 => rev0T d G1 Q
/-! ### xs.pop(i), a list on the heap -/
def popLO (o : Option MO) (a : Addr) (i : Int) (G : HD) (Q : Post) : Prop := match o with
  | some (.lst xs) => 0 ≤ i ∧ i < xs.length ∧ i < 2 ^ 62 ∧ ∃ d, xs[i.toNat]? = some d ∧ Q d (put G a (.lst (xs.eraseIdx i.toNat)))
  | _ => False
def popLP (o d : D) (G : HD) (Q : Post) : Prop := match o, d with
  | .ref a, .int i => popLO (G a) a i G Q
  | _, _ => False
def dPopL (to : TD) (ts : TDA) : TD := fun W σ G Q => to W σ G fun o G1 => lstP o G1 (ts W σ G1 fun ds G2 => match ds with
  | [d] => popLP o d G2 Q
  | _ => False)
/-! ### {k: v}, a key that is a number -/
def dispI (p : Addr) (k d : D) (G : HD) (Q : Post) : Prop := match k with
  | .int i => G p = some (.dK []) ∧ Q (.ref p) (put G p (.dK [(.inl i, d)]))
  | _ => False
def dDispI (tk tv : TD) : TD := fun W σ G Q => ∀ p, G p = none → tk W σ (put G p (.dK [])) fun k G1 => tv W σ G1 fun d G2 => dispI p k d G2 Q
section
variable {G : HD} {Q : Post} {W : DW} {σ : DSt} {te tk tv to : TD} {ts : TDA} {xs : List D} {a : Addr} {i : Int} {d : D} {p : Addr}
theorem q_rev0 : dRev0 te W σ G Q = te W σ G fun d G1 => rev0T d G1 Q := propext ⟨fun h => h, fun h => h⟩
theorem r_rev0T : rev0T (.tup xs) G Q = (1 ≤ xs.length ∧ Q (.tup (xs.drop 1).reverse) G) := propext ⟨fun h => h, fun h => h⟩
theorem q_popL : dPopL to ts W σ G Q = to W σ G fun o G1 => lstP o G1 (ts W σ G1 fun ds G2 => match ds with
  | [d] => popLP o d G2 Q
  | _ => False) := propext ⟨fun h => h, fun h => h⟩
theorem r_popLP : popLP (.ref a) (.int i) G Q = popLO (G a) a i G Q := propext ⟨fun h => h, fun h => h⟩
theorem r_popLO : popLO (some (.lst xs)) a i G Q = (0 ≤ i ∧ i < xs.length ∧ i < 2 ^ 62 ∧ ∃ d, xs[i.toNat]? = some d ∧ Q d (put G a (.lst (xs.eraseIdx i.toNat)))) := propext ⟨fun h => h, fun h => h⟩
theorem q_dispI : dDispI tk tv W σ G Q = ∀ p, G p = none → tk W σ (put G p (.dK [])) fun k G1 => tv W σ G1 fun d G2 => dispI p k d G2 Q := propext ⟨fun h => h, fun h => h⟩
theorem r_dispI : dispI p (.int i) d G Q = (G p = some (.dK []) ∧ Q (.ref p) (put G p (.dK [(.inl i, d)]))) := propext ⟨fun h => h, fun h => h⟩
end
end DL

namespace DL
open PySem PySem.Spec L2
open PyProof.Rows hiding St
/-! ### dicts by tuples of keys -/
section
variable {K : PySem.W.Frag} {H : Hp} {k : List Key}
end
section
variable {X : Cx} {o : Expr} {es : List Expr} {td : TD} {ta : TDA} {pos p1 : Pos}
end
/-! ### a dict by tuples that stands still; its keys gone through -/
section
variable {K : PySem.W.Frag} {G G' : HD} {H H' : Hp} {d : Addr} {ob : Obj} {m : List (List Key × V)} {l : List (List Key × D)}
end
theorem RKV.lenT {K : PySem.W.Frag} {H : Hp} : ∀ {l : List (List Key × D)} {m : List (List Key × V)}, RKV K H l m → m.length = l.length
  | [], _, h => by cases h; rfl
  | _ :: r, _, h => by
    obtain ⟨v, t, rfl, _, h2⟩ := h
    rw [List.length_cons, List.length_cons, RKV.lenT h2]
end DL

namespace DL
open PySem PySem.Spec L2
open PyProof.Rows hiding St
/-! ### d.items() of a dict by tuples that stands still -/
end DL

namespace DL
open PySem PySem.Spec L2
open PyProof.Rows hiding St
/-! ### a comprehension's d[k] = v, k a tuple -/
end DL

namespace DL
open PySem PySem.Spec L2
open PyProof.Rows hiding St
/-! ### {k: v for x in a for y in b}: the two loops -/
section
variable {prog : Program} {w : World} {A : Around} {R : Result → Shared → Prop} {s : Shared} {kx vx t0 i0 t1 i1 : Expr} {ifs0 ifs1 : List Expr} {scope : Scope} {pos : Pos} {it : Value} {D : Addr} {env : Env}
end
end DL


namespace DL
open PySem PySem.Spec L2
open PyProof.Rows hiding St
/-! ### dicts of the module, keys texts: d[k], k in d -/
/-- a value of such a dict: a scalar, a tuple of them, a def -/
inductive VaF (K : PySem.W.Frag) : Value → D → Prop where
  | val {u : Value} {d : D} (h : ValF K u d) : VaF K u d
  | fn {f : Addr} : VaF K (.ref f) (.ref f)
theorem VaF.to {K : PySem.W.Frag} {u : Value} {d : D} (h : VaF K u d) : ∃ v, RelV v u ∧ ∀ H, Rp K H d v := by
  cases h with
  | val h => exact h.to
  | fn => exact ⟨.ref _, rfl, fun _ => rfl⟩
inductive EnsF (K : PySem.W.Frag) (P : Params) : List DictEntry → List (Str × D) → Prop where
  | nil : EnsF K P [] []
  | cons {x : Str} {t : Tok} {h : Int} {u : Value} {d : D} {es : List DictEntry} {kvs : List (Str × D)} (hh : h = PyData.keyHash P x) (hv : VaF K u d) (r : EnsF K P es kvs) : EnsF K P (⟨h, .str x t, u⟩ :: es) ((x, d) :: kvs)
structure DicF (K : PySem.W.Frag) (P : Params) (o : Obj) (kvs : List (Str × D)) : Prop where
  ex : ∃ es n, o = ⟨.type "dict", none, .dict es n, #[]⟩ ∧ EnsF K P es.toList kvs
/-- the dict that the name x of the module holds -/
structure KDic (K : PySem.W.Frag) (mg : Str → Option Value) (w : World) (x : Str) (kvs : List (Str × D)) : Prop where
  ex : ∃ a es n, mg x = some (.ref a) ∧ KDict K w a es n ∧ EnsF K w.params es.toList kvs
theorem EnsF.lit {K : PySem.W.Frag} {P : Params} {es : List DictEntry} {kvs : List (Str × D)} (h : EnsF K P es kvs) : PySem.W.KeysLit P es := by
  induction h with
  | nil => exact trivial
  | cons hh _ _ ih => exact ⟨⟨_, _, rfl, hh⟩, ih⟩
theorem DicF.kd {K : PySem.W.Frag} {mg : Str → Option Value} {w : World} {x : Str} {a : Addr} {o : Obj} {kvs : List (Str × D)} (h : DicF K w.params o kvs) (m : mg x = some (.ref a)) (l : K.lookup a = some o) (lo : (a == sysModules) = false) : KDic K mg w x kvs := by
  obtain ⟨es, n, rfl, q⟩ := h.ex
  exact ⟨a, es, n, m, ⟨l, q.lit, lo⟩, q⟩
theorem EnsF.find {K : PySem.W.Frag} {P : Params} {es : List DictEntry} {kvs : List (Str × D)} (h : EnsF K P es kvs) (z : Str) : (∃ e d, es.find? (·.key.isStr z) = some e ∧ kvs.lookup z = some d ∧ VaF K e.val d) ∨ (es.find? (·.key.isStr z) = none ∧ kvs.lookup z = none ∧ es.any (·.refKey) = false) := by
  induction h with
  | nil => exact .inr ⟨rfl, rfl, rfl⟩
  | @cons x t h u d es kvs hh hv r ih =>
    by_cases e : x = z
    · subst e
      refine .inl ⟨⟨h, .str x t, u⟩, d, ?_, ?_, hv⟩
      · rw [List.find?_cons_of_pos (by show (x == x) = true; simp)]
      · rw [List.lookup_cons, beq_self_eq_true]
    · have e1 : (x == z) = false := beq_eq_false_iff_ne.mpr e
      have e2 : (z == x) = false := beq_eq_false_iff_ne.mpr (Ne.symm e)
      have f1 : (⟨h, .str x t, u⟩ :: es : List DictEntry).find? (·.key.isStr z) = es.find? (·.key.isStr z) := List.find?_cons_of_neg (by show ¬ (x == z) = true; rw [e1]; simp)
      have f2 : List.lookup z ((x, d) :: kvs) = kvs.lookup z := by rw [List.lookup_cons, e2]
      rw [f1, f2]
      rcases ih with ⟨e, d, a, b, c⟩ | ⟨a, b, c⟩
      · exact .inl ⟨e, d, a, b, c⟩
      · exact .inr ⟨a, b, by rw [List.any_cons, c]; rfl⟩
theorem EnsF.ns {K : PySem.W.Frag} {w : World} {a : Addr} {es : Array DictEntry} {n : Nat} {kvs : List (Str × D)} (h : EnsF K w.params es.toList kvs) (k : KDict K w a es n) (z : Str) :
    (∃ u d, PySem.W.nsIn K a z = some (some u) ∧ kvs.lookup z = some d ∧ VaF K u d) ∨ (PySem.W.nsIn K a z = some none ∧ kvs.lookup z = none) := by
  unfold PySem.W.nsIn
  rw [k.at_]
  rcases h.find z with ⟨e, d, q1, q2, q3⟩ | ⟨q1, q2, q3⟩
  · refine .inl ⟨e.val, d, ?_, q2, q3⟩
    simp only [q1]
  · refine .inr ⟨?_, q2⟩
    simp only [q1, q3]
    rfl
def kgP (kvs : List (Str × D)) (d : D) (G : HD) (Q : Post) : Prop := match d with
  | .str z => optP (kvs.lookup z) G Q
  | _ => False
def dKGet (kvs : List (Str × D)) (t : TD) : TD := fun W σ G Q => t W σ G fun d G1 => kgP kvs d G1 Q
def kiP (neg : Bool) (kvs : List (Str × D)) (d : D) (G : HD) (Q : Post) : Prop := match d with
  | .str z => Q (.bl (if neg then !(kvs.lookup z).isSome else (kvs.lookup z).isSome)) G
  | _ => False
def dKIn (neg : Bool) (kvs : List (Str × D)) (t : TD) : TD := fun W σ G Q => t W σ G fun d G1 => kiP neg kvs d G1 Q
section
variable {X : Cx} {x : Str} {kvs : List (Str × D)} {b : Expr} {tb : TD} {p pos : Pos}
theorem de_kget (D : KDic X.K X.mg X.w x kvs) (hb : DE X b tb) (hg : Gl X x := by rfl) (hd : (x == ("__debug__" : Str)) = false := by decide) (hs : PlainIx b := by intro _ _; rfl) : DE X (.Subscript (.Name x p) b pos) (dKGet kvs tb) := by
  obtain ⟨a, es, n, hm, kd, en⟩ := D.ex
  refine ⟨fun G H σ τ W Q r q => ?_⟩
  have g : DE X (.Name x p) (dC (.ref a)) := de_glob (d := .ref a) (v := .ref a) hg hm rfl (fun _ => rfl) hd
  refine semE.of (pe_ix ix_kdict peSem peSem hs) (g.then r (R := fun d G1 => d = .ref a ∧ tb W σ G1 fun d G2 => kgP kvs d G2 Q) ⟨rfl, q⟩ fun d v G1 H1 r1 x1 k1 ⟨ed, q1⟩ => hb.then r1 q1 fun d2 y G2 H2 r2 x2 k2 q2 => ?_)
  subst ed
  cases k1
  unfold kgP at q2
  split at q2
  · rename_i z
    cases k2
    rcases en.ns kd z with ⟨u, d, e1, e2, e3⟩ | ⟨e1, e2⟩
    · rw [e2] at q2
      obtain ⟨v, rv, rp⟩ := e3.to
      exact ⟨a, z, v, rfl, rfl, ⟨es, n, u, kd.at_, kd.lit, e1, rv⟩, .of (rp _) r2.sim (x1.trans x2) q2⟩
    · rw [e2] at q2
      exact (show False from q2).elim
  · exact q2.elim
theorem dt_knin (D : KDic X.K X.mg X.w x kvs) (hb : DE X b tb) (hg : Gl X x := by rfl) (hd : (x == ("__debug__" : Str)) = false := by decide) (hm : behindInMarks .NotIn (.Name x p) = false := by rfl) : DT X (.Compare b [.NotIn] [.Name x p] pos) (dTest (dKIn true kvs tb)) := by
  obtain ⟨a, es, n, hmg, kd, en⟩ := D.ex
  refine ⟨fun G H σ τ W Q r q => ?_⟩
  have g : DE X (.Name x p) (dC (.ref a)) := de_glob (d := .ref a) (v := .ref a) hg hmg rfl (fun _ => rfl) hd
  refine semT.of (pt_cmpR (op_notIn_kd kd) peSem peSem hm) (hb.then r q fun d2 y G2 H2 r2 x2 k2 q2 => g.then r2 (R := fun d G1 => d = .ref a ∧ kiP true kvs d2 G1 fun z G' => match z with | .bl k => Q k G' | _ => False) ⟨rfl, q2⟩ fun d v G1 H1 r1 x1 k1 ⟨ed, q1⟩ => ?_)
  subst ed
  cases k1
  unfold kiP at q1
  split at q1
  · rename_i z _
    cases k2
    rcases en.ns kd z with ⟨u, d, e1, e2, e3⟩ | ⟨e1, e2⟩
    · rw [e2] at q1
      exact ⟨z, _, rfl, rfl, e1, _, rfl, G1, r1.sim, x2.trans x1, q1⟩
    · rw [e2] at q1
      exact ⟨z, _, rfl, rfl, e1, _, rfl, G1, r1.sim, x2.trans x1, q1⟩
  · exact q1.elim
end
/-! ### a call of a local name that holds one of several defs -/
structure FnA (X : Cx) (k : Nat) (f : Addr) (sp : SpD) : Prop where
  ex : ∃ (j : Nat) (fd : FuncData) (ps : List Str), j ≤ k ∧ FnK X.prog X.w X.K X.mg X.base j f fd ps sp ∧ PySem.W.keepIn X.K (.ref f) = true ∧ Binds X.K fd ps [] ∧ ∀ ds G E Q, sp ds G E Q → ds.length = ps.length
theorem FnA.of {X : Cx} {j k : Nat} {f : Addr} {sp : SpD} {x : Str} (h : DefK X.prog X.w X.K X.mg X.base j x sp []) (hm : X.mg x = some (.ref f)) (hj : j ≤ k) : FnA X k f sp := by
  obtain ⟨f', fd, ps, dvs, ds, h1, h2, h3, h4, h5, h6, h7⟩ := h.ex
  rw [hm] at h2
  cases h2
  obtain rfl : dvs = [] := h6.rel (fun _ => none)
  cases h5
  exact ⟨j, fd, ps, hj, h1, h3, h4, h7⟩
def clP (tab : List (Addr × SpD)) (W : DW) (σ : DSt) (f : D) (ts : TDA) (G : HD) (Q : Post) : Prop := ∃ q ∈ tab, f = .ref q.1 ∧ ts W σ G fun ds G2 => q.2 ds G2 Q fun c fs G' => W c fs σ G'
def dCallL (tab : List (Addr × SpD)) (i : Nat) (ts : TDA) : TD := fun W σ G Q => dVar i W σ G fun f G1 => clP tab W σ f ts G1 Q
theorem de_callL {X : Cx} {tab : List (Addr × SpD)} {k i : Nat} {x : Str} {p pos : Pos} {e : Expr} {es : List Expr} {ts : TDA} (ht : ∀ q ∈ tab, FnA X k q.1 q.2) (hr : RoomG k X.A) (ha : DA X (e :: es) ts) (hN : X.N[i]? = some x := by rfl) (hv : Vis X.env.scope x := by first | exact Or.inl rfl | exact Or.inr (Or.inl rfl) | exact Or.inr (Or.inr rfl))
    (hdb : (x == ("__debug__" : Str)) = false := by decide) (hcd : (x == ("__classdict__" : Str)) = false := by decide)
    (he : starEach (e :: es) X.env = (false, eval e X.env) :: starEach es X.env := by rfl) (hpl : (backTo pos (starEach es X.env)).any (·.1) = false := by rfl) :
    DE X (.Call (.Name x p) (e :: es) [] pos) (dCallL tab i ts) := ⟨fun G H σ τ W Q r q pins s I => by
  have d0 : DE X (.Name x p) (dVar i) := de_var (pe_var hN hv hdb hcd)
  refine wpAny_Call_Name_kw (thn ((d0.run G H σ τ W _ r q) pins s I) fun u s1 ⟨y, H1, I1, rx, d, G1, k1, sm1, x1, q1⟩ => ?_)
  obtain ⟨⟨f, sp⟩, hmem, ed, q1⟩ := q1
  subst ed
  cases k1
  cases rx
  obtain ⟨j, fd, ps, hj, F, hk, hb, hl⟩ := (ht _ hmem).ex
  have r1 := r.ext sm1 x1
  refine PySem.W.callWith_K (h₀ := X.base) I.ok.mod.kin hk (thn ((ha.run G1 H1 σ τ W _ r1 q1) pos pins s1 I1) fun us s2 ⟨vs, H2, I2, rv, es', G2, k2, sm2, x2, q2⟩ => ⟨I2.kIn, ?_⟩) he hpl
  exact thn (runC F (hr.mono hj) hb .nil Dfl.nil (r1.ext sm2 x2) I2 rv k2 (by have := hl _ _ _ _ q2; simpa using this) (by rw [List.append_nil]; exact q2)) fun _ _ ⟨v, H3, I3, l3, q3⟩ => ⟨v, H3, I3, l3, q3.up (x1.trans x2)⟩⟩
section
variable {W : DW} {σ : DSt} {G : HD} {Q : Post} {kvs : List (Str × D)} {t : TD} {neg : Bool} {z : Str}
theorem q_kget : dKGet kvs t W σ G Q = t W σ G fun d G1 => kgP kvs d G1 Q := propext ⟨fun h => h, fun h => h⟩
theorem q_kin : dKIn neg kvs t W σ G Q = t W σ G fun d G1 => kiP neg kvs d G1 Q := propext ⟨fun h => h, fun h => h⟩
theorem q_callL {tab : List (Addr × SpD)} {i : Nat} {ts : TDA} : dCallL tab i ts W σ G Q = dVar i W σ G fun f G1 => clP tab W σ f ts G1 Q := propext ⟨fun h => h, fun h => h⟩
theorem r_kgS : kgP kvs (.str z) G Q = optP (kvs.lookup z) G Q := propext ⟨fun h => h, fun h => h⟩
theorem r_kiS : kiP neg kvs (.str z) G Q = Q (.bl (if neg then !(kvs.lookup z).isSome else (kvs.lookup z).isSome)) G := propext ⟨fun h => h, fun h => h⟩
end
end DL

namespace DL
open PySem PySem.Spec L2
open PyProof.Rows hiding St
/-! ### f-strings of texts and ints -/
def fmtP (d : D) (G : HD) (Q : Post) : Prop := match d with
  | .str y => y.length ≤ sizeLine ∧ Q (.str y) G
  | .int i => i.natAbs.log2 < 1920 ∧ Q (.str (toString i)) G
  | _ => False
def dFmt (t : TD) : TD := fun W σ G Q => t W σ G fun d G1 => fmtP d G1 Q
inductive DJs (X : Cx) : List Expr → List TD → Prop where
  | nil : DJs X [] []
  | cons {e : Expr} {t : TD} {es : List Expr} {ts : List TD} (h : DE X e t) (r : DJs X es ts) : DJs X (e :: es) (t :: ts)
def jsP (d : D) (acc : Str) (G : HD) (k : Str → HD → Prop) : Prop := match d with
  | .str y => (acc ++ y).length ≤ sizeLine ∧ k (acc ++ y) G
  | _ => False
def dJs : List TD → Str → DW → DSt → HD → (Str → HD → Prop) → Prop
  | [], acc, _, _, G, Q => Q acc G
  | t :: ts, acc, W, σ, G, Q => t W σ G fun d G1 => jsP d acc G1 fun a G2 => dJs ts a W σ G2 Q
theorem DJs.run {X : Cx} {es : List Expr} {ts : List TD} (h : DJs X es ts) {σ : DSt} {τ : L2.St} {W : DW} {Q : Str → HD → Prop} {Q' : Str → Hp → Prop} : ∀ (acc : Str) (G : HD) (H : Hp), SR X G H σ τ W → dJs ts acc W σ G Q → (∀ out G' H', Sim X.K G' H' → Ext G H G' H' → Q out G' → Q' out H') → tJs (es.map (semE X)) acc τ H Q' := by
  induction h with
  | nil => exact fun acc G H r q f => f acc G H r.sim .refl q
  | @cons e t es ts h _ ih =>
    intro acc G H r q f
    show semE X e τ H _
    refine h.then r q fun d v G1 H1 r1 x1 k1 q1 => ?_
    unfold jsP at q1
    split at q1
    · cases k1
      exact ⟨_, rfl, q1.1, ih _ G1 H1 r1 q1.2 fun out G' H' s' x' z => f out G' H' s' (x1.trans x') z⟩
    · exact q1.elim
def dFStr (ts : List TD) : TD := fun W σ G Q => dJs ts Str.empty W σ G fun out G1 => Q (.str out) G1
/-! ### x.split(sep), by value -/
def splP (o d : D) (G : HD) (Q : Post) : Prop := match o, d with
  | .str a, .str b => (b.length == 0) = false ∧ a.length + 2 ≤ sizeLine ∧ Q (.kl ((Txt.split a b).map .str)) G
  | _, _ => False
def dSplit (to te : TD) : TD := fun W σ G Q => to W σ G fun o G1 => (∃ a, o = .str a) ∧ te W σ G1 fun d G2 => splP o d G2 Q
theorem rps_strs {K : PySem.W.Frag} {H : Hp} : ∀ ys : List Str, Rps K H (ys.map D.str) (ys.map V.str)
  | [] => rfl
  | y :: ys => ⟨_, _, rfl, rfl, rps_strs ys⟩
theorem de_split {X : Cx} {o e : Expr} {to te : TD} {apos pos : Pos} (ho : DE X o to) (he : DE X e te) (hs : starEach [e] X.env = [(false, eval e X.env)] := by rfl) (hbase : attributeBase o "split" X.env (eval o X.env) = eval o X.env := by rfl) (hline : (apos.endLine == pos.line) = true := by rfl) :
    DE X (.Call (.Attribute o "split" apos) [e] [] pos) (dSplit to te) := ⟨fun G H σ τ W Q r q => by
  refine semE.frz (semE.of (pe_split peSem peSem hs hbase hline) (ho.then r q fun d x G1 H1 r1 x1 k1 ⟨⟨a, ea⟩, q1⟩ => ?_))
  subst ea
  cases k1
  refine ⟨⟨a, rfl⟩, he.then r1 q1 fun d2 y G2 H2 r2 x2 k2 q2 => ?_⟩
  unfold splP at q2
  try dsimp only at q2
  split at q2
  · rename_i a' b e1
    cases e1
    cases k2
    exact ⟨_, b, rfl, rfl, q2.1, q2.2.1, newV.fin r2.sim (rps_strs _) (fun _ _ z => z.up (x1.trans x2)) q2.2.2⟩
  · exact q2.elim⟩
/-! ### int(x) of a text -/
def rIntS : List D → HD → Post → Prop := fun ds G Q => match ds with
  | [.str a] => ∃ n, PySem.intText? a = some n ∧ a.length ≤ 640 ∧ Q (.int n) G
  | _ => False
theorem cd_intS (K : PySem.W.Frag) : CallD K (fun xs H Q => ∃ a n, xs = [.str a] ∧ PySem.intText? a = some n ∧ a.length ≤ 640 ∧ Q (.int n) H) rIntS := fun G H ds vs Q Q' s k f q => by
  unfold rIntS at q
  split at q
  · obtain ⟨v, rfl, kd⟩ := one_of k
    cases kd
    obtain ⟨n, h1, h2, h3⟩ := q
    exact ⟨_, n, rfl, h1, h2, f _ _ (.of (d := .int _) rfl s .refl h3)⟩
  · exact q.elim
theorem bc_intS {X : Cx} {p pos : Pos} {e : Expr} {ts : TDA} (hm : X.mg "int" = none) (ha : DA X [e] ts) (hg : Gl X "int" := by rfl) (he : starEach [e] X.env = (false, eval e X.env) :: starEach [] X.env := by rfl) : DE X (.Call (.Name "int" p) [e] [] pos) (dCB rIntS ts) :=
  de_ct call_int_str (cd_intS X.K) hm (by decide +kernel) ha hg (by decide) (by decide) he (by rfl)
/-! ### None in a list -/
def dInN (neg : Bool) : D → D → HD → Post → Prop := fun d e G Q => d = .non ∧ match asL G e with
  | some es => (∃ ps, es.mapM (pyD 8 G) = some ps) ∧ Q (.bl (if neg then !es.any isNon else es.any isNon)) G
  | none => False
theorem pyD_asL {G : HD} {e : D} {es : List D} {ps : List PyData} (h : asL G e = some es) (hp : es.mapM (pyD 8 G) = some ps) : pyD 9 G e = some (.list ps) := by
  cases e with
  | kl xs => cases h; show (es.mapM (pyD 8 G)).map PyData.list = _; rw [hp]; rfl
  | kc xs => cases h; show (es.mapM (pyD 8 G)).map PyData.list = _; rw [hp]; rfl
  | ref a =>
    simp only [asL] at h
    split at h
    · rename_i xs hg
      cases h
      show (match G a with | some (.lst ds) => (ds.mapM (pyD 8 G)).map PyData.list | _ => none) = _
      rw [hg]
      show (es.mapM (pyD 8 G)).map PyData.list = _
      rw [hp]; rfl
    · cases h
  | _ => cases h
theorem eqv_non {n : Nat} {G : HD} {d : D} {p : PyData} (h : pyD (n + 1) G d = some p) : PyData.eqv p .none = isNon d := by
  unfold pyD at h
  cases d with
  | non => cases h; rfl
  | bl b => cases h; rfl
  | int i => cases h; rfl
  | str x => simp only at h; split at h <;> cases h; rfl
  | tup ds => simp only [Option.map_eq_some_iff] at h; obtain ⟨_, _, rfl⟩ := h; rfl
  | kl ds => simp only [Option.map_eq_some_iff] at h; obtain ⟨_, _, rfl⟩ := h; rfl
  | kc ds => simp only [Option.map_eq_some_iff] at h; obtain ⟨_, _, rfl⟩ := h; rfl
  | exc _ _ _ => cases h
  | emp => cases h
  | ty _ => cases h
  | ref a =>
    simp only at h
    split at h
    · simp only [Option.map_eq_some_iff] at h; obtain ⟨_, _, rfl⟩ := h; rfl
    · cases h
theorem any_non {n : Nat} {G : HD} : ∀ {es : List D} {ps : List PyData}, es.mapM (pyD (n + 1) G) = some ps → (ps.any fun z => PyData.eqv z .none) = es.any isNon
  | [], ps, h => by
    simp only [List.mapM_nil, Option.pure_def, Option.some.injEq] at h
    subst h; rfl
  | d :: es, ps, h => by
    obtain ⟨y, zs, e1, e2, rfl⟩ := mapM_cons_some h
    rw [List.any_cons, List.any_cons, any_non e2, eqv_non e1]
theorem od_inN (K : PySem.W.Frag) : OpD K (rInD K) (dInN false) := fun G H d e x y Q Q' s k1 k2 f q => by
  obtain ⟨rfl, q⟩ := q
  split at q
  · rename_i es h1
    obtain ⟨⟨ps, hp⟩, q⟩ := q
    have h9 := pyD_asL h1 hp
    obtain ⟨a1, a2⟩ := pyD_shaped s h9 (by decide) k2
    cases k1
    exact ⟨.none, ps, .non, a1, by decide, a2, f _ _ (.of (d := .bl _) rfl s .refl (by rw [any_non hp]; exact q))⟩
  · exact q.elim
theorem od_ninN (K : PySem.W.Frag) : OpD K (rNotInD K) (dInN true) := fun G H d e x y Q Q' s k1 k2 f q => by
  obtain ⟨rfl, q⟩ := q
  split at q
  · rename_i es h1
    obtain ⟨⟨ps, hp⟩, q⟩ := q
    have h9 := pyD_asL h1 hp
    obtain ⟨a1, a2⟩ := pyD_shaped s h9 (by decide) k2
    cases k1
    exact ⟨.none, ps, .non, a1, by decide, a2, f _ _ (.of (d := .bl _) rfl s .refl (by rw [any_non hp]; exact q))⟩
  · exact q.elim
theorem c_inN {X : Cx} (hu : X.A.units + 65 < cLine) : CmpR X .In (dInN false) := ⟨_, op_inD hu, od_inN X.K⟩
theorem c_ninN {X : Cx} (hu : X.A.units + 65 < cLine) : CmpR X .NotIn (dInN true) := ⟨_, op_notInD hu, od_ninN X.K⟩
section
variable {W : DW} {σ : DSt} {G : HD} {Q : Post} {t te : TD} {ts : List TD} {x y : Str} {i : Int} {d : D} {k : Str → HD → Prop} {lo hi : Option Int} {Qs : Str → HD → Prop}
theorem q_fmt : dFmt t W σ G Q = t W σ G fun d G1 => fmtP d G1 Q := propext ⟨fun h => h, fun h => h⟩
theorem r_fmtI : fmtP (.int i) G Q = (i.natAbs.log2 < 1920 ∧ Q (.str (toString i)) G) := propext ⟨fun h => h, fun h => h⟩
theorem r_fmtS : fmtP (.str x) G Q = (x.length ≤ sizeLine ∧ Q (.str x) G) := propext ⟨fun h => h, fun h => h⟩
theorem r_jsP : jsP (.str y) x G k = ((x ++ y).length ≤ sizeLine ∧ k (x ++ y) G) := propext ⟨fun h => h, fun h => h⟩
theorem q_jsN : dJs [] x W σ G Qs = Qs x G := rfl
theorem q_jsC : dJs (t :: ts) x W σ G Qs = t W σ G fun d G1 => jsP d x G1 fun a G2 => dJs ts a W σ G2 Qs := rfl
theorem q_fstr : dFStr ts W σ G Q = dJs ts Str.empty W σ G fun out G1 => Q (.str out) G1 := propext ⟨fun h => h, fun h => h⟩
theorem q_split : dSplit t te W σ G Q = t W σ G fun o G1 => (∃ a, o = .str a) ∧ te W σ G1 fun d G2 => splP o d G2 Q := propext ⟨fun h => h, fun h => h⟩
theorem r_splP : splP (.str x) (.str y) G Q = ((y.length == 0) = false ∧ x.length + 2 ≤ sizeLine ∧ Q (.kl ((Txt.split x y).map .str)) G) := propext ⟨fun h => h, fun h => h⟩
theorem r_sliVS : rSliceV (.str x) lo hi G Q = (x.length ≤ sizeLine ∧ Q (.str (cutS x lo hi)) G) := propext ⟨fun h => h, fun h => h⟩
theorem r_strX : rStrD [.str x] G Q = Q (.str x) G := propext ⟨fun h => h, fun h => h⟩
theorem i_inN {neg b : Bool} {e : D} {es : List D} {ps : List PyData} (h : asL G e = some es) (hp : es.mapM (pyD 8 G) = some ps) (hb : es.any isNon = b) (q : Q (.bl (if neg then !b else b)) G) : dInN neg .non e G Q := by
  refine ⟨rfl, ?_⟩
  rw [h]
  exact ⟨⟨ps, hp⟩, by rw [hb]; exact q⟩
end
end DL

/-! ### zip(.., strict=True), at the level of the model -/
namespace DN
open PySem PySem.Spec PyProof.Rows
open Sem (wp)
abbrev IsZipS (h : Heap) (z TI TO : Addr) (f0 : Value) : Prop :=
  h.get? z = some { cls := .type "zip", dict := none, data := .fields #[f0, .bool false, .bool true, .ref TI, .ref TO], slots := #[] }
section
variable {prog : Program} {w : World} {A : Around} {E : Value → Shared → Prop} {s : Shared} {z TI TO i1 i2 : Addr} {fp1 fp2 : List Addr} {n1 n2 i : Nat} {P1 P2 : Nat → Value → Prop} {St1 St2 : Nat → Heap → Prop} {a1 a2 : Value}
theorem nextOrEnd_item {it : Addr} {fp : List Addr} {n i : Nat} {P : Nat → Value → Prop} {St : Nat → Heap → Prop} {Q : Option Value → Shared → Prop} (D : Draws prog w A it fp n P St) (hi : i < n) (st : St i s.heap)
    (hQ : ∀ x h' tk, P i x → St (i + 1) h' → Heap.SameBut it s.heap h' → Q (some x) { s with heap := h', toks := tk }) : wpAny (model prog w) A (Builtin.SmallTypes.nextOrEnd (.ref it)) Q E s := by
  unfold Builtin.SmallTypes.nextOrEnd
  exact wpAny_bind (wpAny_attempt (D.item i _ _ _ hi st fun x h' tk a b c => wpAny_pure (hQ x h' tk a b c)))
theorem nextOrEnd_end {it : Addr} {fp : List Addr} {n : Nat} {P : Nat → Value → Prop} {St : Nat → Heap → Prop} {Q : Option Value → Shared → Prop} (D : Draws prog w A it fp n P St) (st : St n s.heap)
    (hQ : ∀ h', Heap.ExtBut it s.heap h' → Q none { s with heap := h' }) : wpAny (model prog w) A (Builtin.SmallTypes.nextOrEnd (.ref it)) Q E s := by
  unfold Builtin.SmallTypes.nextOrEnd
  refine wpAny_bind (wpAny_attempt (D.done s _ _ st fun h' e a he => ?_))
  obtain ⟨o, ho, hc⟩ := he
  refine wpAny_bind (wpAny_isInstance (T := "StopIteration") (b := true) ⟨o, ho, hc⟩ isSubtype_stop ?_)
  exact wpAny_pure (hQ _ a)
theorem zipS_next_item {Q : Value → Shared → Prop} (S : ZipSep2 z TI TO i1 i2 fp1 fp2) (D1 : Draws prog w A i1 fp1 n1 P1 St1) (D2 : Draws prog w A i2 fp2 n2 P2 St2)
    (hz : IsZipS s.heap z TI TO .none) (hTI : IsTupOf2 s.heap TI (.ref i1) (.ref i2)) (hTO : IsTupOf2 s.heap TO a1 a2) (st1 : St1 i s.heap) (st2 : St2 i s.heap) (hlt1 : i < n1) (hlt2 : i < n2)
    (hQ : ∀ x1 x2 h' tk, P1 i x1 → P2 i x2 → IsZipS h' z TI TO (rawInt s.heap.objs.size) → IsTupOf2 h' TO x1 x2 → St1 (i + 1) h' → St2 (i + 1) h' → IsTupOf2 h' s.heap.objs.size x1 x2 → h'.objs.size = s.heap.objs.size + 1 →
      (∀ c o, c ≠ z → c ≠ TO → c ≠ i1 → c ≠ i2 → s.heap.get? c = some o → h'.get? c = some o) → Q (.ref s.heap.objs.size) { s with heap := h', toks := tk }) :
    wpAny (model prog w) A (Builtin.«zip.__next__» ⟨[.ref z], []⟩) (fun fin s' => ∃ v, fin = .done (.ret v) ∧ Q v s') E s := by
  obtain ⟨hp, g, d, tk0, os⟩ := s
  show wpAny _ _ (field (.ref z) 2 >>= _) _ _ _
  refine wpAny_bind (wpAny_field hz rfl (x := .bool true) rfl ?_)
  show wpAny _ _ (field (.ref z) 3 >>= _) _ _ _
  refine wpAny_bind (wpAny_field hz rfl (x := .ref TI) rfl ?_)
  refine wpAny_bind (wpAny_seqItems hTI rfl ?_)
  show wpAny _ _ (Builtin.SmallTypes.ownedTupleIsFree (.ref z) >>= _) _ _ _
  refine wpAny_bind ?_
  unfold Builtin.SmallTypes.ownedTupleIsFree
  refine wpAny_bind (wpAny_field hz rfl (x := .none) rfl (wpAny_pure ?_))
  simp only [if_true]
  refine wpAny_bind (wpAny_rule ?_)
  refine wpAny_bind (wpAny_field hz rfl (x := .ref TO) rfl ?_)
  refine wpAny_bind (wpAny_setField_rec hz (by simp) fun g0 hz0 hs0 => ?_)
  replace hz0 : IsZipS g0 z TI TO .ellipsis := hz0
  replace hs0 : Heap.SameBut z hp g0 := hs0
  refine wpAny_bind ?_
  simp only [List.zipIdx_cons, List.zipIdx_nil, List.forIn_cons, List.forIn_nil]
  refine wpAny_bind (wpAny_bind (wpAny_onRaise ?_))
  show wpAny _ _ (Builtin.SmallTypes.nextOrEnd (.ref i1)) _ _ ⟨g0, g, d, tk0, os⟩
  refine nextOrEnd_item D1 hlt1 (D1.over st1 hs0 S.zf1) fun x1 p1 tk1 hx1 sn1 hp1 => ?_
  replace hp1 : Heap.SameBut i1 g0 p1 := hp1
  have hU1 : IsTupOf2 p1 TO a1 a2 := hp1.extBut _ _ S.Ti1 (hs0.extBut _ _ S.TOz hTO)
  refine wpAny_bind (wpAny_seqItems (s := ⟨p1, g, d, tk1, os⟩) hU1 rfl ?_)
  refine wpAny_bind (updateSeq_IsTupOf2 (s := ⟨p1, g, d, tk1, os⟩) hU1 fun g1 hT1 hs1 => ?_)
  replace hT1 : IsTupOf2 g1 TO x1 a2 := hT1
  replace hs1 : Heap.SameBut TO p1 g1 := hs1
  refine wpAny_bind (wpAny_letGo (wpAny_pure ?_))
  refine wpAny_bind (wpAny_bind (wpAny_onRaise ?_))
  show wpAny _ _ (Builtin.SmallTypes.nextOrEnd (.ref i2)) _ _ ⟨g1, g, d, tk1, os⟩
  refine nextOrEnd_item D2 hlt2 (D2.over (D2.over (D2.over st2 hs0 S.zf2) hp1 S.sep1_2) hs1 S.Tf2) fun x2 p2 tk2 hx2 sn2 hp2 => ?_
  replace hp2 : Heap.SameBut i2 g1 p2 := hp2
  have hU2 : IsTupOf2 p2 TO x1 a2 := hp2.extBut _ _ S.Ti2 hT1
  refine wpAny_bind (wpAny_seqItems (s := ⟨p2, g, d, tk2, os⟩) hU2 rfl ?_)
  refine wpAny_bind (updateSeq_IsTupOf2 (s := ⟨p2, g, d, tk2, os⟩) hU2 fun g2 hT2 hs2 => ?_)
  replace hT2 : IsTupOf2 g2 TO x1 x2 := hT2
  replace hs2 : Heap.SameBut TO p2 g2 := hs2
  refine wpAny_bind (wpAny_letGo (wpAny_pure (wpAny_pure ?_)))
  refine wpAny_bind (wpAny_seqItems (s := ⟨g2, g, d, tk2, os⟩) hT2 rfl ?_)
  refine wpAny_bind (wpAny_newTuple ?_)
  have hsz : g2.objs.size = hp.objs.size := by rw [hs2.1, hp2.1, hs1.1, hp1.1, hs0.1]
  have hzz : IsZipS g2 z TI TO .ellipsis := (hs2.extBut _ _ S.TOz.symm (hp2.extBut _ _ S.zi2 (hs1.extBut _ _ S.TOz.symm (hp1.extBut _ _ S.zi1 hz0))))
  have hkk : ∀ c o, c ≠ z → c ≠ TO → c ≠ i1 → c ≠ i2 → hp.get? c = some o → g2.get? c = some o := fun c o cz cT c1 c2 e =>
    (hs2.extBut _ _ cT (hp2.extBut _ _ c2 (hs1.extBut _ _ cT (hp1.extBut _ _ c1 (hs0.extBut _ _ cz e)))))
  have hj1 : St1 (i + 1) g2 := (D1.over (D1.over (D1.over sn1 hs1 S.Tf1) hp2 S.sep2_1) hs2 S.Tf1)
  have hj2 : St2 (i + 1) g2 := (D2.over sn2 hs2 S.Tf2)
  have hzlt : z < g2.objs.size := Heap.lt_size hzz
  show wpAny _ _ (Builtin.SmallTypes.ownedTupleHandOut (.ref z) (.ref g2.objs.size) >>= _) _ _ ⟨g2.push { cls := .type "tuple", data := .seq #[x1, x2] }, g, d, tk2, os⟩
  refine wpAny_bind ?_
  unfold Builtin.SmallTypes.ownedTupleHandOut
  have hz₆ : IsZipS (g2.push { cls := .type "tuple", data := .seq #[x1, x2] }) z TI TO .ellipsis := Heap.get?_push_of_some _ hzz
  refine wpAny_bind (wpAny_setField_rec hz₆ (by simp) fun h₇ hz₇ hs₇ => ?_)
  replace hz₇ : IsZipS h₇ z TI TO (rawInt g2.objs.size) := hz₇
  refine wpAny_setField_rec hz₇ (by simp) fun h₈ hz₈ hs₈ => ?_
  replace hz₈ : IsZipS h₈ z TI TO (rawInt g2.objs.size) := hz₈
  replace hs₇ : Heap.SameBut z (g2.push { cls := .type "tuple", data := .seq #[x1, x2] }) h₇ := hs₇
  replace hs₈ : Heap.SameBut z h₇ h₈ := hs₈
  have up : ∀ c o, c ≠ z → g2.get? c = some o → h₈.get? c = some o := fun c o c1 e => hs₈.extBut _ _ c1 (hs₇.extBut _ _ c1 (Heap.get?_push_of_some _ e))
  have hT₈ : IsTupOf2 h₈ g2.objs.size x1 x2 := hs₈.extBut _ _ (Nat.ne_of_gt hzlt) (hs₇.extBut _ _ (Nat.ne_of_gt hzlt) (Heap.get?_push_size _ rfl))
  have hz8 : h₈.objs.size = g2.objs.size + 1 := by rw [hs₈.1, hs₇.1, Heap.size_push]
  rw [hsz] at hz₈ hT₈ hz8
  refine wpAny_pure ⟨_, rfl, ?_⟩
  show Q (.ref g2.objs.size) ⟨h₈, g, d, tk2, os⟩
  rw [hsz]
  exact hQ x1 x2 h₈ tk2 hx1 hx2 hz₈ (up _ _ S.TOz hT2) (D1.frame _ _ _ hj1 fun b hb o e => up b o (fun q => S.zf1 (q ▸ hb)) e) (D2.frame _ _ _ hj2 fun b hb o e => up b o (fun q => S.zf2 (q ▸ hb)) e) hT₈ hz8 fun c o cz cT c1 c2 e => up c o cz (hkk c o cz cT c1 c2 e)

theorem zipS_next_end {Q : Fin → Shared → Prop} (hh : A.handled = none) (S : ZipSep2 z TI TO i1 i2 fp1 fp2) (D1 : Draws prog w A i1 fp1 n1 P1 St1) (D2 : Draws prog w A i2 fp2 n2 P2 St2)
    (hz : IsZipS s.heap z TI TO .none) (hTI : IsTupOf2 s.heap TI (.ref i1) (.ref i2)) (hTO : IsTupOf2 s.heap TO a1 a2) (st1 : St1 n1 s.heap) (st2 : St2 n2 s.heap)
    (hE : ∀ h' tk e, (∀ c o, c ≠ z → c ≠ TO → c ≠ i1 → c ≠ i2 → s.heap.get? c = some o → h'.get? c = some o) → (∃ o, h'.get? e = some o ∧ o.cls = .type "StopIteration") → E (.ref e) { s with heap := h', toks := tk }) :
    wpAny (model prog w) A (Builtin.«zip.__next__» ⟨[.ref z], []⟩) Q E s := by
  obtain ⟨hp, g, d, tk0, os⟩ := s
  show wpAny _ _ (field (.ref z) 2 >>= _) _ _ _
  refine wpAny_bind (wpAny_field hz rfl (x := .bool true) rfl ?_)
  show wpAny _ _ (field (.ref z) 3 >>= _) _ _ _
  refine wpAny_bind (wpAny_field hz rfl (x := .ref TI) rfl ?_)
  refine wpAny_bind (wpAny_seqItems hTI rfl ?_)
  show wpAny _ _ (Builtin.SmallTypes.ownedTupleIsFree (.ref z) >>= _) _ _ _
  refine wpAny_bind ?_
  unfold Builtin.SmallTypes.ownedTupleIsFree
  refine wpAny_bind (wpAny_field hz rfl (x := .none) rfl (wpAny_pure ?_))
  simp only [if_true]
  refine wpAny_bind (wpAny_rule ?_)
  refine wpAny_bind (wpAny_field hz rfl (x := .ref TO) rfl ?_)
  refine wpAny_bind (wpAny_setField_rec hz (by simp) fun g0 hz0 hs0 => ?_)
  replace hz0 : IsZipS g0 z TI TO .ellipsis := hz0
  replace hs0 : Heap.SameBut z hp g0 := hs0
  refine wpAny_bind ?_
  simp only [List.zipIdx_cons, List.zipIdx_nil, List.forIn_cons, List.forIn_nil]
  refine wpAny_bind (wpAny_bind (wpAny_onRaise ?_))
  show wpAny _ _ (Builtin.SmallTypes.nextOrEnd (.ref i1)) _ _ ⟨g0, g, d, tk0, os⟩
  refine nextOrEnd_end D1 (D1.over st1 hs0 S.zf1) fun q hq => ?_
  replace hq : Heap.ExtBut i1 g0 q := hq
  have hzq : IsZipS q z TI TO .ellipsis := hq _ _ S.zi1 hz0
  refine wpAny_bind (wpAny_setField_rec (s := ⟨q, g, d, tk0, os⟩) hzq (by simp) fun q' hz' hq' => ?_)
  replace hq' : Heap.SameBut z q q' := hq'
  have st2q : St2 n2 q' := D2.frame _ _ _ (D2.over st2 hs0 S.zf2) fun b hb o e => hq'.extBut b o (fun x => S.zf2 (x ▸ hb)) (hq b o (fun x => S.sep1_2 (x ▸ hb)) e)
  refine wpAny_bind ?_
  refine wpAny_bind ?_
  simp only [List.drop_succ_cons, List.drop_zero, List.zipIdx_cons, List.zipIdx_nil, List.forIn_cons, List.forIn_nil]
  refine wpAny_bind (wpAny_bind (nextOrEnd_end D2 st2q fun r hr => ?_))
  replace hr : Heap.ExtBut i2 q' r := hr
  refine wpAny_pure (wpAny_pure (wpAny_bind (wpAny_rule ?_)))
  unfold Builtin.SmallTypes.stopIteration
  show wpAny _ _ (newExc (.type "StopIteration") [] >>= _) _ _ _
  refine wpAny_bind ?_
  simp only [newExc, newTuple]
  refine wpAny_bind (wpAny_newObj_type ?_ (by size_fits))
  refine wpAny_bind (m := firstArgMember _ _) (wpAny_of_eq (a := Value.none) (by first | rfl | (simp only [firstArgMember]; rfl)) ?_)
  refine wpAny_newObj_type ?_ (by size_fits)
  simp only [raiseNew]
  refine wpAny_bind (wpAny_handled ?_)
  first | rw [show A.in1.handled = none from hh] | rw [hh]
  refine wpAny_bind (wpAny_pure (wpAny_throw ?_))
  have keep : ∀ c o, c ≠ z → c ≠ TO → c ≠ i1 → c ≠ i2 → hp.get? c = some o → r.get? c = some o := fun c o cz cT c1 c2 x => hr c o c2 (hq'.extBut c o cz (hq c o c1 (hs0.extBut c o cz x)))
  exact hE _ _ _ (fun c o cz cT c1 c2 x => Heap.get?_push_of_some _ (Heap.get?_push_of_some _ (keep c o cz cT c1 c2 x))) ⟨_, Heap.get?_push_size _ rfl, rfl⟩
end
end DN

/-! ### zip of two things that are walked: lists, tuples, texts; strict or not -/
namespace DN
open PySem PySem.Spec PyProof.Rows
open Sem (wp)
abbrev IsZipB (b : Bool) (h : Heap) (z TI TO : Addr) (f0 : Value) : Prop :=
  h.get? z = some { cls := .type "zip", dict := none, data := .fields #[f0, .bool false, .bool b, .ref TI, .ref TO], slots := #[] }
section
variable {prog : Program} {w : World} {A : Around} {E : Value → Shared → Prop} {s : Shared} {z TI TO i1 i2 : Addr} {fp1 fp2 : List Addr} {n1 n2 i : Nat} {P1 P2 : Nat → Value → Prop} {St1 St2 : Nat → Heap → Prop} {a1 a2 : Value}
theorem pyNext_item {b : Bool} {Q : Option Value → Shared → Prop} (S : ZipSep2 z TI TO i1 i2 fp1 fp2) (D1 : Draws prog w A.in1 i1 fp1 n1 P1 St1) (D2 : Draws prog w A.in1 i2 fp2 n2 P2 St2)
    (hz : IsZipB b s.heap z TI TO .none) (hTI : IsTupOf2 s.heap TI (.ref i1) (.ref i2)) (hTO : IsTupOf2 s.heap TO a1 a2) (st1 : St1 i s.heap) (st2 : St2 i s.heap) (hlt1 : i < n1) (hlt2 : i < n2)
    (hQ : ∀ x1 x2 h' tk, P1 i x1 → P2 i x2 → IsZipB b h' z TI TO (rawInt s.heap.objs.size) → IsTupOf2 h' TO x1 x2 → St1 (i + 1) h' → St2 (i + 1) h' → IsTupOf2 h' s.heap.objs.size x1 x2 → h'.objs.size = s.heap.objs.size + 1 →
      (∀ c o, c ≠ z → c ≠ TO → c ≠ i1 → c ≠ i2 → s.heap.get? c = some o → h'.get? c = some o) → Q (some (.ref s.heap.objs.size)) { s with heap := h', toks := tk }) :
    wpAny (model prog w) A (pyNext (.ref z)) Q E s := by
  cases b with
  | false => exact wpAny_pyNext_zipD2_item S D1 D2 hz hTI hTO st1 st2 hlt1 hlt2 hQ
  | true =>
    have hT : s.TypeIs (.ref z) "zip" := ⟨_, hz, rfl⟩
    unfold pyNext
    exact wpAny_bind (wpAny_attempt (wpAny_callSpecial?_slot (name := Str.ofString "__next__") hT F.slot_zip_next
      (wpAny_call_entry F.slot_zip_next hT F.entry_zip_next
        (zipS_next_item S D1 D2 hz hTI hTO st1 st2 hlt1 hlt2 fun x1 x2 h' tk y1 y2 b1 b2 d1 d2 b5 b6 b7 => wpAny_pure (hQ x1 x2 h' tk y1 y2 b1 b2 d1 d2 b5 b6 b7)) (F.args_zip_next_1 _))))
theorem pyNext_end {b : Bool} {Q : Option Value → Shared → Prop} (hh : A.handled = none) (S : ZipSep2 z TI TO i1 i2 fp1 fp2) (D1 : Draws prog w A.in1 i1 fp1 n1 P1 St1) (D2 : Draws prog w A.in1 i2 fp2 n2 P2 St2)
    (hz : IsZipB b s.heap z TI TO .none) (hTI : IsTupOf2 s.heap TI (.ref i1) (.ref i2)) (hTO : IsTupOf2 s.heap TO a1 a2) (st1 : St1 i s.heap) (st2 : St2 i s.heap) (hle1 : i ≤ n1) (hle2 : i ≤ n2) (hend : if b = true then i = n1 ∧ i = n2 else i = n1 ∨ i = n2)
    (hQ : ∀ h' tk, (∀ c o, c ≠ z → c ≠ TO → c ≠ i1 → c ≠ i2 → s.heap.get? c = some o → h'.get? c = some o) → Q none { s with heap := h', toks := tk }) : wpAny (model prog w) A (pyNext (.ref z)) Q E s := by
  cases b with
  | false => exact wpAny_pyNext_zipD2_end S D1 D2 hz hTI hTO st1 st2 hle1 hle2 (by simpa using hend) hQ
  | true =>
    have he : i = n1 ∧ i = n2 := by simpa using hend
    obtain ⟨rfl, rfl⟩ := he
    have hT : s.TypeIs (.ref z) "zip" := ⟨_, hz, rfl⟩
    unfold pyNext
    refine wpAny_bind (wpAny_attempt (wpAny_callSpecial?_slot (name := Str.ofString "__next__") hT F.slot_zip_next
      (wpAny_call_entry F.slot_zip_next hT F.entry_zip_next (zipS_next_end hh S D1 D2 hz hTI hTO st1 st2 fun h' tk e hk he => ?_) (F.args_zip_next_1 _))))
    obtain ⟨o, ho, hc⟩ := he
    refine wpAny_bind (wpAny_isInstance (T := "StopIteration") (b := true) ⟨o, ho, hc⟩ isSubtype_stop ?_)
    exact wpAny_pure (hQ _ _ hk)
theorem letGo_zipB {b : Bool} {elts : List Expr} {x1} {pos : Pos} {T : Addr} {Q : Unit → Shared → Prop} (hz : IsZipB b s.heap z TI TO (rawInt T))
    (hQ : ∀ h', IsZipB b h' z TI TO .none → Heap.SameBut z s.heap h' → Q () { s with heap := h' }) :
    wpAny (model prog w) A (letOwnedTupleGo (.Tuple elts x1 pos) (.ref z) (.ref T)) Q E s := by
  unfold letOwnedTupleGo
  refine wpAny_bind (wpAny_load hz ?_)
  show wpAny _ _ (if (["enumerate", "zip", "dict_itemiterator", "dict_reverseitemiterator", "odict_iterator", "itertools.zip_longest", "itertools.pairwise"].contains "zip" &&
      (#[rawInt T, .bool false, .bool b, .ref TI, .ref TO] : Array Value)[0]? == some (rawInt T)) = true then _ else _) Q E s
  rw [if_pos (by simp)]
  refine wpAny_bind (wpAny_rule ?_)
  show wpAny _ _ (setField (.ref z) 0 .none) Q E s
  exact wpAny_setField_rec hz (by simp) fun h' hz' hs' => hQ h' hz' hs'
theorem pyIter_zipB {b : Bool} {f0 : Value} {Q : Value → Shared → Prop} (hz : IsZipB b s.heap z TI TO f0) (h : Q (.ref z) s) : wpAny (model prog w) A (pyIter (.ref z)) Q E s := by
  have hT : s.TypeIs (.ref z) "zip" := ⟨_, hz, rfl⟩
  refine wpAny_pyIter_slot hT F.slot_zip_iter (wpAny_call_entry F.slot_zip_iter hT F.entry_zip_iter ?_ (F.args_zip_iter_1 _))
  show wpAny _ _ (ret (.ref z)) _ _ s
  exact wpAny_pure ⟨_, rfl, "zip", _, hT, F.slot_zip_next.lookup, h⟩
end
/-! zip(a, b, strict=True) is made -/
abbrev kwStrict : List (Str × Value) := [("strict", .bool true)]
theorem typeCall_zipS (a b : Value) : checkTypeCall "zip" ⟨[a, b], kwStrict⟩ = pure () := by kernel_rfl
theorem newCall_zipS (a b : Value) : checkBuiltinCall "zip.__new__" ⟨[.type "zip", a, b], kwStrict⟩ = pure () := by kernel_rfl
theorem args_initS (a b c : Value) : argsOk "object.__init__" ⟨[a, b, c], kwStrict⟩ := by unfold argsOk; kernel_rfl
abbrev gzS2 (h : Heap) (o1 o2 : Obj) : Heap := (gzO2 h o1 o2).push { cls := .type "zip", data := .fields #[.none, .bool false, .bool true, .ref ((h.push o1).push o2).objs.size, .ref (gzT2 h o1 o2).objs.size] }
theorem meets_zip_newS {v1 v2 : Value} {o1 o2 : Obj} {H1 H2 : Heap → Prop} (B1 : Begins v1 o1 H1) (B2 : Begins v2 o2 H2) :
    Meets (Builtin.«zip.__new__» ⟨[.type "zip", v1, v2], kwStrict⟩) (fun _ R s => (H1 s.heap ∧ H2 s.heap) ∧
      R (.ok (.ret (.ref (gzO2 s.heap o1 o2).objs.size))) { s with heap := gzS2 s.heap o1 o2 }) :=
  .of_wp fun prog w A R s h => by
    obtain ⟨hp, g, d, tk, os⟩ := s; obtain ⟨⟨h1, h2⟩, h⟩ := h
    have hsub := sub_zip
    have q1 : ∀ {A' : Around} {E : Value → Shared → Prop} {Q : Value → Shared → Prop}, Q (.ref hp.objs.size) ⟨(hp.push o1), g, d, tk, os⟩ → wpAny (model prog w) A' (pyIter v1) Q E ⟨hp, g, d, tk, os⟩ :=
      fun q => B1.iter prog w _ _ ⟨hp, g, d, tk, os⟩ _ (B1.keeps _ _ h1 fun b o' e => e) q
    have q2 : ∀ {A' : Around} {E : Value → Shared → Prop} {Q : Value → Shared → Prop}, Q (.ref (hp.push o1).objs.size) ⟨((hp.push o1).push o2), g, d, tk, os⟩ → wpAny (model prog w) A' (pyIter v2) Q E ⟨(hp.push o1), g, d, tk, os⟩ :=
      fun q => B2.iter prog w _ _ ⟨(hp.push o1), g, d, tk, os⟩ _ (B2.keeps _ _ h2 fun b o' e => (Heap.get?_push_of_some _ e)) q
    wp_walk using q1, q2
    exact ⟨_, rfl, h⟩
section
variable {prog : Program} {w : World} {A : Around} {E : Value → Shared → Prop} {s : Shared}
theorem zip_beginsS {v1 v2 : Value} {o1 o2 : Obj} {H1 H2 : Heap → Prop} {Q : Value → Shared → Prop} (B1 : Begins v1 o1 H1) (B2 : Begins v2 o2 H2) (h1 : H1 s.heap) (h2 : H2 s.heap)
    (h : ∀ h', IsZipB true h' (s.heap.objs.size + 4) (s.heap.objs.size + 2) (s.heap.objs.size + 3) .none → IsTupOf2 h' (s.heap.objs.size + 2) (.ref s.heap.objs.size) (.ref (s.heap.objs.size + 1)) →
      IsTupOf2 h' (s.heap.objs.size + 3) .none .none → h'.get? s.heap.objs.size = some o1 → h'.get? (s.heap.objs.size + 1) = some o2 → h'.objs.size = s.heap.objs.size + 5 →
      (∀ c o, s.heap.get? c = some o → h'.get? c = some o) → Q (.ref (s.heap.objs.size + 4)) { s with heap := h' }) :
    wpAny (model prog w) A (call (.type "zip") [v1, v2] kwStrict) Q E s := by
  refine callType_newKw F.called_zip (by decide) (typeCall_zipS _ _) (newCall_zipS _ _) (fun obj => args_initS obj _ _) F.entry_zip_new
    (meets_zip_newS B1 B2) ⟨⟨h1, h2⟩, ?_⟩
  have z1 : (s.heap.push o1).objs.size = s.heap.objs.size + 1 := by rw [Heap.size_push]
  have z2 : ((s.heap.push o1).push o2).objs.size = s.heap.objs.size + 2 := by rw [Heap.size_push, z1]
  have zT : (gzT2 s.heap o1 o2).objs.size = s.heap.objs.size + 3 := by rw [Heap.size_push, z2]
  have zO : (gzO2 s.heap o1 o2).objs.size = s.heap.objs.size + 4 := by rw [Heap.size_push, zT]
  have zZ : (gzS2 s.heap o1 o2).objs.size = s.heap.objs.size + 5 := by rw [Heap.size_push, zO]
  have gZ : (gzS2 s.heap o1 o2).get? (gzO2 s.heap o1 o2).objs.size = some { cls := .type "zip", data := .fields #[.none, .bool false, .bool true, .ref ((s.heap.push o1).push o2).objs.size, .ref (gzT2 s.heap o1 o2).objs.size] } := Heap.get?_push_size _ rfl
  have gO : (gzS2 s.heap o1 o2).get? (gzT2 s.heap o1 o2).objs.size = some { cls := .type "tuple", data := .seq #[.none, .none] } := Heap.get?_push_of_some _ (Heap.get?_push_size _ rfl)
  have gT : (gzS2 s.heap o1 o2).get? ((s.heap.push o1).push o2).objs.size = some { cls := .type "tuple", data := .seq #[.ref s.heap.objs.size, .ref (s.heap.push o1).objs.size] } := Heap.get?_push_of_some _ (Heap.get?_push_of_some _ (Heap.get?_push_size _ rfl))
  have g1 : (gzS2 s.heap o1 o2).get? s.heap.objs.size = some o1 := Heap.get?_push_of_some _ (Heap.get?_push_of_some _ (Heap.get?_push_of_some _ (Heap.get?_push_of_some _ (Heap.get?_push_size _ B1.free))))
  have g2 : (gzS2 s.heap o1 o2).get? (s.heap.push o1).objs.size = some o2 := Heap.get?_push_of_some _ (Heap.get?_push_of_some _ (Heap.get?_push_of_some _ (Heap.get?_push_size _ B2.free)))
  rw [zO, zT, z2] at gZ
  rw [zT] at gO
  rw [z2, z1] at gT
  rw [z1] at g2
  show _ ∧ _
  rw [zO]
  exact ⟨⟨_, gZ, rfl⟩, h _ gZ gT gO g1 g2 zZ fun c o e => Heap.get?_push_of_some _ (Heap.get?_push_of_some _ (Heap.get?_push_of_some _ (Heap.get?_push_of_some _ (Heap.get?_push_of_some _ e))))⟩
end
/-! a built-in class called with keywords -/
section
variable {M : Model} {A : Around} {E : Value → Shared → Prop} {s : Shared} {env : Env}
theorem callWith_type_kwB {pos : Pos} {T : String} {first : List Value} {args : List (Bool × Sem Value)} {keywords : List (Option Str × Sem Value)} {Q : Value → Shared → Prop}
    (hplain : args.any (·.1) = false) (hkw : keywords.any (·.1.isNone) = false)
    (h : wpAny M A (evalArgs (.type T) true args keywords) (fun a s₁ => wpAny M A (call (.type T) (first ++ a.pos) a.kw) Q E s₁) E s) :
    wpAny M A (callWith pos (.type T) first args keywords) Q E s := by
  unfold callWith
  refine wpAny_bind (wpAny_holding (wpAny_mono h (fun a s₁ h₁ => wpAny_bind (wpAny_standAt ?_)) fun _ _ x => x))
  simp only [hplain, hkw, Bool.or_false]
  refine wpAny_bind (wpAny_pure ?_)
  exact wpAny_bind (wpAny_mono h₁ (fun r s₂ hr => wpAny_bind (wpAny_holding (wpAny_point (wpAny_pure hr)))) fun _ _ x => x)
theorem callWith_type_kw {pos : Pos} {T : String} {e : Expr} {rest : List Expr} {kws : List Keyword} {Q : Value → Shared → Prop}
    (h : wpAny M A (spliced (backTo pos (starEach (e :: rest) env))) (fun vs s₁ => wpAny M A (evalAll ((backToKw pos (keywordEach kws env)).map (·.2)))
      (fun kvs s₂ => wpAny M A (call (.type T) vs (((backToKw pos (keywordEach kws env)).filterMap (·.1)).zip kvs)) Q E s₂) E s₁) E s)
    (he : backTo pos (starEach (e :: rest) env) = (false, eval e env) :: backTo pos (starEach rest env) := by rfl)
    (hplain : (backTo pos (starEach (e :: rest) env)).any (·.1) = false := by rfl)
    (hall : (backToKw pos (keywordEach kws env)).all (·.1.isSome) = true := by rfl)
    (hkw : (backToKw pos (keywordEach kws env)).any (·.1.isNone) = false := by rfl) :
    wpAny M A (callWith pos (.type T) [] (backTo pos (starEach (e :: rest) env)) (backToKw pos (keywordEach kws env))) Q E s := by
  refine callWith_type_kwB hplain hkw ?_
  rw [he] at h ⊢
  exact evalArgs_kwB hall h
end
end DN

namespace DN
open PySem PySem.Spec PyProof.Rows L2
/-- what zip walks: a list, a tuple, a text -/
inductive SK where
  | lst (a : Addr)
  | tup (a : Addr)
  | txt (x : Str) (t : Tok)
def SK.val : SK → Value
  | .lst a => .ref a
  | .tup a => .ref a
  | .txt x t => .str x t
def SK.ls : SK → List Addr
  | .lst a => [a]
  | .tup a => [a]
  | .txt _ _ => []
def SK.obj : SK → Obj
  | .lst a => { cls := .type "list_iterator", data := .fields #[.ref a, .int 0 0] }
  | .tup a => { cls := .type "tuple_iterator", data := .fields #[.ref a, .int 0 0] }
  | .txt x t => { cls := .type (strIterType x), data := .fields #[.str x t, .int 0 0] }
def SK.tn : SK → Addr → Nat → Heap → Prop
  | .lst a, it, i, h => h.IsListIter it a i
  | .tup a, it, i, h => h.IsTupleIter it a i
  | .txt x t, it, i, h => h.IsStrIter it (strIterType x) x t i
def SK.St : SK → List Value → Addr → Nat → Heap → Prop
  | .lst a, us, it, i, h => h.IsListIter it a i ∧ h.IsList a us.toArray
  | .tup a, us, it, i, h => h.IsTupleIter it a i ∧ h.IsTuple a us.toArray
  | .txt x t, _, it, i, h => h.IsStrIter it (strIterType x) x t i
def SK.n : SK → List Value → Nat
  | .txt x _, _ => x.cps.size
  | _, us => us.toArray.size
def SK.P : SK → List Value → Nat → Value → Prop
  | .txt x _, _, i, v => ∃ c u, x.cps[i]? = some c ∧ v = .str ⟨#[c]⟩ u
  | _, us, i, v => us.toArray[i]? = some v
def SK.H : SK → List Value → Heap → Prop
  | .lst a, us, h => h.IsList a us.toArray
  | .tup a, us, h => h.IsTuple a us.toArray
  | .txt _ _, _, _ => True
def SK.ok (K : PySem.W.Frag) (H : Hp) : SK → List V → Prop
  | .lst a, vs => SqL K H a vs
  | .tup a, vs => SqT K H a vs
  | .txt x _, vs => vs = x.cps.toList.map fun c => V.str ⟨#[c]⟩
theorem SK.begins (k : SK) (us : List Value) : Begins k.val k.obj (k.H us) := by
  cases k with
  | lst a => exact begins_list a us.toArray
  | tup a => exact begins_tuple a us.toArray
  | txt x t => exact begins_text x t
theorem SK.draws {prog : Program} {w : World} {A : Around} (hh : A.handled = none) (k : SK) (us : List Value) (it : Addr) (hne : ∀ a ∈ k.ls, a ≠ it) : Draws prog w A it (it :: k.ls) (k.n us) (k.P us) (k.St us it) := by
  cases k with
  | lst a => exact Draws.list hh it a (hne a (by simp [SK.ls])) us.toArray
  | tup a => exact Draws.tuple hh it a (hne a (by simp [SK.ls])) us.toArray
  | txt x t => exact Draws.text hh it x t
theorem SK.tn_of {k : SK} {us : List Value} {it : Addr} {i : Nat} {h : Heap} (st : k.St us it i h) : k.tn it i h := by
  cases k with
  | lst a => exact st.1
  | tup a => exact st.1
  | txt x t => exact st
theorem SK.keep {k : SK} {it : Addr} {i : Nat} {h h' : Heap} (st : k.tn it i h) (hk : ∀ o, h.get? it = some o → h'.get? it = some o) : k.tn it i h' := by
  cases k <;> (obtain ⟨o, e, r⟩ := st; exact ⟨o, hk o e, r⟩)
theorem SK.live {k : SK} {it : Addr} {i : Nat} {h : Heap} (st : k.tn it i h) : ∃ o, h.get? it = some o ∧ ∀ v, o.data ≠ .cell v := by
  cases k <;> (obtain ⟨o, e, _, d⟩ := st; exact ⟨o, e, fun v q => by rw [d] at q; cases q⟩)
theorem SK.start {k : SK} {it : Addr} {h : Heap} (e : h.get? it = some k.obj) : k.tn it 0 h := by
  cases k <;> exact ⟨_, e, rfl, rfl⟩
section
variable {X : Cx} {pins : List (Addr × Obj)} {σ : L2.St} {H : Hp} {s : Shared} {k : SK} {vs ws : List V}
theorem vals_back {xs : List V} {us : List Value} {i : Nat} {u : Value} (r : Vals xs us) (h : us[i]? = some u) : ∃ x, xs[i]? = some x ∧ RelV x u := by
  have hi : i < xs.length := by rw [r.length]; exact (List.getElem?_eq_some_iff.mp h).1
  have e : xs[i]? = some xs[i] := List.getElem?_eq_getElem hi
  obtain ⟨u', h1, h2⟩ := r.get e
  rw [h] at h1; cases h1
  exact ⟨_, e, h2⟩
theorem SK.at_ (I : Inv X pins σ H s) (hk : k.ok X.K H vs) : ∃ us : List Value, k.H us s.heap ∧ (∀ it i, k.tn it i s.heap → k.St us it i s.heap) ∧ k.n us = vs.length ∧ (∀ i v, k.P us i v → ∃ x, vs[i]? = some x ∧ RelV x v) ∧ ∀ a ∈ k.ls, a < s.heap.objs.size := by
  cases k with
  | lst a =>
    obtain ⟨its, rv, p, _⟩ := I.list hk
    refine ⟨its, p.isList, fun it i st => ⟨st, p.isList⟩, ?_, fun i v hv => ?_, fun b hb => ?_⟩
    · show its.toArray.size = _
      rw [rv.length]; simp
    · have hv : its.toArray[i]? = some v := hv
      obtain ⟨x, h1, h2⟩ := vals_back rv (by simpa using hv)
      exact ⟨x, h1, h2⟩
    · obtain rfl : b = a := by simpa [SK.ls] using hb
      exact p.lt
  | tup a =>
    obtain ⟨its, rv, p, _⟩ := I.tuple hk
    refine ⟨its, show s.heap.IsTuple a its.toArray from p, fun it i st => ⟨st, show s.heap.IsTuple a its.toArray from p⟩, ?_, fun i v hv => ?_, fun b hb => ?_⟩
    · show its.toArray.size = _
      rw [rv.length]; simp
    · have hv : its.toArray[i]? = some v := hv
      obtain ⟨x, h1, h2⟩ := vals_back rv (by simpa using hv)
      exact ⟨x, h1, h2⟩
    · obtain rfl : b = a := by simpa [SK.ls] using hb
      obtain ⟨o, e, _⟩ := p
      exact Heap.lt_size e
  | txt x t =>
    obtain rfl : vs = _ := hk
    refine ⟨[], trivial, fun it i st => st, ?_, fun i v hv => ?_, fun b hb => ?_⟩
    · show x.cps.size = _
      simp
    · obtain ⟨c, u, h1, rfl⟩ := hv
      exact ⟨.str ⟨#[c]⟩, by rw [List.getElem?_map, Array.getElem?_toList, h1]; rfl, ⟨u, rfl⟩⟩
    · simp [SK.ls] at hb
theorem SK.inj (I : Inv X pins σ H s) (h1 : k.ok X.K H vs) (h2 : k.ok X.K H ws) : vs = ws := by
  cases k with
  | lst a => exact I.list_inj h1 h2
  | tup a => exact I.tuple_inj h1 h2
  | txt x t => exact (show vs = _ from h1).trans (show ws = _ from h2).symm
end
/-- the turns of zip over two of them -/
def Itg (K : PySem.W.Frag) (b : Bool) (k1 k2 : SK) (N : Nat) : It :=
  ⟨fun i H => i < N ∧ ∃ xs ys x y, k1.ok K H xs ∧ k2.ok K H ys ∧ xs[i]? = some x ∧ ys[i]? = some y,
    fun i H v H' => ∃ T x y, v = .ref T ∧ H T = none ∧ H' = upd H T (.tup [x, y]) ∧ (∀ xs, k1.ok K H xs → xs[i]? = some x) ∧ ∀ ys, k2.ok K H ys → ys[i]? = some y,
    fun i H => N ≤ i ∧ ∃ xs ys : List V, k1.ok K H xs ∧ k2.ok K H ys ∧ N ≤ xs.length ∧ N ≤ ys.length ∧ if b = true then N = xs.length ∧ N = ys.length else N = xs.length ∨ N = ys.length⟩
theorem turn_zipG {P : Program} {w : World} {K : PySem.W.Frag} {elts : List Expr} {kk N : Nat} {tpos : Pos} {b : Bool} {k1 k2 : SK} {z TI TO i1 i2 : Addr} (D : ZipSep2 z TI TO i1 i2 (i1 :: k1.ls) (i2 :: k2.ls)) (ne1 : ∀ a ∈ k1.ls, a ≠ i1) (ne2 : ∀ a ∈ k2.ls, a ≠ i2) :
    Turn P w K (.Tuple elts kk tpos) (Itg K b k1 k2 N) [z, TI, TO, i1, i2] z (fun i h => i ≤ N ∧ IsZipB b h z TI TO .none ∧ IsPair h TI (.ref i1) (.ref i2) ∧ (∃ x y, IsPair h TO x y) ∧ k1.tn i1 i h ∧ k2.tn i2 i h) where
  mem := by simp
  obj := fun i h st c hc => by
    obtain ⟨hN, hz, hTI, ⟨x, y, hTO⟩, h1, h2⟩ := st
    have e' : c = z ∨ c = TI ∨ c = TO ∨ c = i1 ∨ c = i2 := by simpa using hc
    rcases e' with q | q | q | q | q
    · rw [q]; exact ⟨_, hz, fun v q => nomatch q⟩
    · rw [q]; exact ⟨_, hTI, fun v q => nomatch q⟩
    · rw [q]; exact ⟨_, hTO, fun v q => nomatch q⟩
    · rw [q]; exact SK.live h1
    · rw [q]; exact SK.live h2
  keep := fun i h h' st k => by
    obtain ⟨hN, hz, hTI, ⟨x, y, hTO⟩, h1, h2⟩ := st
    exact ⟨hN, k z (by simp) _ hz, k TI (by simp) _ hTI, ⟨x, y, k TO (by simp) _ hTO⟩, SK.keep h1 fun o q => k i1 (by simp) o q, SK.keep h2 fun o q => k i2 (by simp) o q⟩
  item := by
    intro X hP hw hK hc i pins s σ H E I hf st hg
    subst hP hw hK
    obtain ⟨hN, hz, hTI, ⟨x0, y0, hTO⟩, h1, h2⟩ := st
    obtain ⟨hiN, xs, ys, x, y, hqx, hqy, hx, hy⟩ := hg
    obtain ⟨us1, _, st1, l1, r1, _⟩ := SK.at_ I hqx
    obtain ⟨us2, _, st2, l2, r2, _⟩ := SK.at_ I hqy
    have hh := I.ok.hd hc
    have lx : i < xs.length := (List.getElem?_eq_some_iff.mp hx).1
    have ly : i < ys.length := (List.getElem?_eq_some_iff.mp hy).1
    have hzl : z < s.heap.objs.size := Heap.lt_size hz
    refine pyNext_item (b := b) D (k1.draws (A := X.A.in1) hh us1 i1 ne1) (k2.draws (A := X.A.in1) hh us2 i2 ne2) hz hTI hTO (st1 _ _ h1) (st2 _ _ h2) (by rw [l1]; exact lx) (by rw [l2]; exact ly) fun u u2 h' tk p1 p2 z' TO' s1' s2' hT hsz hk => ?_
    obtain ⟨x', e1, ru⟩ := r1 _ _ p1
    obtain ⟨y', e2, ru2⟩ := r2 _ _ p2
    rw [hx] at e1; cases e1
    rw [hy] at e2; cases e2
    refine ⟨_, rfl, letGo_zipB (b := b) (s := { s with heap := h', toks := tk }) z' fun h'' z'' sb => ?_⟩
    replace sb : Heap.SameBut z h' h'' := sb
    have hT2 : h''.get? s.heap.objs.size = some { cls := .type "tuple", data := .seq #[u, u2] } := (sb.2 _ (Nat.ne_of_gt hzl)).trans hT
    have new : ObjOk X.prog X.w (upd H s.heap.objs.size (.tup [x, y])) h'' s.heap.objs.size (.tup [x, y]) :=
      ⟨by show 2 ≤ sizeLine; decide, [u, u2], .cons ru (.cons ru2 .nil), ⟨_, hT2, rfl, _, rfl⟩⟩
    have I1 : Inv X pins σ (upd H s.heap.objs.size (.tup [x, y])) { s with heap := h'', toks := tk } :=
      I.turnedNew (t' := tk) (ch := [z, TI, TO, i1, i2]) (fun c o hb q => (sb.2 c (fun q' => hb (by simp [q']))).trans (hk c o (fun q' => hb (by simp [q'])) (fun q' => hb (by simp [q'])) (fun q' => hb (by simp [q'])) (fun q' => hb (by simp [q'])) q)) hf (Nat.le_refl _) new
    refine ⟨.ref s.heap.objs.size, _, I1, rfl, ⟨_, x, y, rfl, I.hok.fresh (Nat.le_refl _), rfl, fun l hl => by rw [SK.inj I hl hqx]; exact hx, fun l hl => by rw [SK.inj I hl hqy]; exact hy⟩, ⟨hiN, z'', ?_, ⟨u, u2, ?_⟩, ?_, ?_⟩, fun c hcm => ?_⟩
    · exact (sb.2 _ D.TIz).trans (hk _ _ D.TIz D.TITO D.TIi1 D.TIi2 hTI)
    · exact (sb.2 _ D.TOz).trans TO'
    · exact SK.keep (SK.tn_of s1') fun o q => (sb.2 _ D.zi1.symm).trans q
    · exact SK.keep (SK.tn_of s2') fun o q => (sb.2 _ D.zi2.symm).trans q
    · have hlt : c < s.heap.objs.size := by
        have e' : c = z ∨ c = TI ∨ c = TO ∨ c = i1 ∨ c = i2 := by simpa using hcm
        rcases e' with q | q | q | q | q
        · rw [q]; exact hzl
        · rw [q]; exact Heap.lt_size hTI
        · rw [q]; exact Heap.lt_size hTO
        · rw [q]; obtain ⟨_, e1, _⟩ := SK.live h1; exact Heap.lt_size e1
        · rw [q]; obtain ⟨_, e2, _⟩ := SK.live h2; exact Heap.lt_size e2
      rw [upd_ne (Nat.ne_of_lt hlt)]
      exact (hf c hcm).1
  done := by
    intro X hP hw hK hc i pins s σ H E I hf st hg
    subst hP hw hK
    obtain ⟨hN, hz, hTI, ⟨x0, y0, hTO⟩, h1, h2⟩ := st
    obtain ⟨hNi, xs, ys, hqx, hqy, lx, ly, hend⟩ := hg
    obtain rfl : i = N := Nat.le_antisymm hN hNi
    obtain ⟨us1, _, st1, l1, r1, _⟩ := SK.at_ I hqx
    obtain ⟨us2, _, st2, l2, r2, _⟩ := SK.at_ I hqy
    have hh := I.ok.hd hc
    exact pyNext_end (b := b) hh D (k1.draws (A := X.A.in1) hh us1 i1 ne1) (k2.draws (A := X.A.in1) hh us2 i2 ne2) hz hTI hTO (st1 _ _ h1) (st2 _ _ h2) (by rw [l1]; exact lx) (by rw [l2]; exact ly) (by rw [l1, l2]; exact hend) fun h' tk hk => ⟨rfl, I.turnedL (t' := tk) (ch := [z, TI, TO, i1, i2]) (fun c o hb q =>
      hk c o (fun q' => hb (by simp [q'])) (fun q' => hb (by simp [q'])) (fun q' => hb (by simp [q'])) (fun q' => hb (by simp [q'])) q) hf⟩
  self := fun A i s Q E st h => pyIter_zipB st.2.1 h
theorem sep_fresh {k1 k2 : SK} {n : Nat} (h1 : ∀ a ∈ k1.ls, a < n) (h2 : ∀ a ∈ k2.ls, a < n) : ZipSep2 (n + 4) (n + 2) (n + 3) n (n + 1) (n :: k1.ls) ((n + 1) :: k2.ls) := by
  have nm : ∀ {l : List Addr} {m j : Nat}, (∀ a ∈ l, a < n) → n ≤ j → m ≠ j → j ∉ m :: l := fun {l m j} h hj hm hin => by
    rcases List.mem_cons.mp hin with e | e
    · exact hm e.symm
    · exact absurd (h _ e) (Nat.not_lt.mpr hj)
  have ne : ∀ {a b : Nat}, a < b ∨ b < a → a ≠ b := fun h => by omega
  exact ⟨ne (by omega), ne (by omega), ne (by omega), ne (by omega), by simp, nm h1 (by omega) (ne (by omega)), nm h1 (by omega) (ne (by omega)), ne (by omega), by simp, nm h2 (by omega) (ne (by omega)), nm h2 (by omega) (ne (by omega)), nm h2 (by omega) (ne (by omega)), nm h1 (by omega) (ne (by omega))⟩
/-- what a value is as a source -/
def SrcV (K : PySem.W.Frag) (H : Hp) (v : V) (vs : List V) (kf : Tok → SK) : Prop :=
  (∃ a, v = .ref a ∧ kf = (fun _ => .lst a) ∧ SqL K H a vs) ∨ (∃ a, v = .ref a ∧ kf = (fun _ => .tup a) ∧ SqT K H a vs) ∨ ∃ x, v = .str x ∧ kf = (fun t => .txt x t) ∧ vs = x.cps.toList.map fun c => V.str ⟨#[c]⟩
theorem SrcV.sk {K : PySem.W.Frag} {H : Hp} {v : V} {vs : List V} {kf : Tok → SK} {u : Value} (h : SrcV K H v vs kf) (r : RelV v u) : ∃ t, u = (kf t).val ∧ (kf t).ok K H vs := by
  rcases h with ⟨a, rfl, rfl, h⟩ | ⟨a, rfl, rfl, h⟩ | ⟨x, rfl, rfl, e⟩
  · cases r; exact ⟨0, rfl, h⟩
  · cases r; exact ⟨0, rfl, h⟩
  · obtain ⟨t, rfl⟩ := r; exact ⟨t, rfl, e⟩
def iZipG (K : PySem.W.Frag) (b : Bool) (ta : TA) : TI := fun σ H R => ta σ H fun vs H1 => ∃ v1 v2 xs ys kf1 kf2, vs = [v1, v2] ∧ SrcV K H1 v1 xs kf1 ∧ SrcV K H1 v2 ys kf2 ∧ ∃ N, ∀ t1 t2, R (Itg K b (kf1 t1) (kf2 t2) N) H1
section
variable {X : Cx} {e e2 : Expr} {ta : TA} {p pos tpos kp kpos : Pos} {elts : List Expr} {kk kj : Nat}
theorem pi_fin {b : Bool} {N : Nat} {pins : List (Addr × Obj)} {σ : L2.St} {H1 : Hp} {s1 : Shared} {R : It → Hp → Prop} {k1 k2 : SK} {xs ys : List V} {h' : Heap} (I1 : Inv X pins σ H1 s1) (o1 : k1.ok X.K H1 xs) (o2 : k2.ok X.K H1 ys)
    (hz : IsZipB b h' (s1.heap.objs.size + 4) (s1.heap.objs.size + 2) (s1.heap.objs.size + 3) .none) (hTI : IsTupOf2 h' (s1.heap.objs.size + 2) (.ref s1.heap.objs.size) (.ref (s1.heap.objs.size + 1))) (hTO : IsTupOf2 h' (s1.heap.objs.size + 3) .none .none)
    (h1 : h'.get? s1.heap.objs.size = some k1.obj) (h2 : h'.get? (s1.heap.objs.size + 1) = some k2.obj) (hk : ∀ c o, s1.heap.get? c = some o → h'.get? c = some o) (q : R (Itg X.K b k1 k2 N) H1) :
    wpAny (model X.prog X.w) X.A (pyIter (.ref (s1.heap.objs.size + 4))) (PIE X pins σ (.Tuple elts kk tpos) R) X.xe { s1 with heap := h' } := by
  have I2 : Inv X pins σ H1 { s1 with heap := h' } := I1.kept (t' := s1.toks) hk
  obtain ⟨_, _, _, _, _, l1⟩ := SK.at_ I1 o1
  obtain ⟨_, _, _, _, _, l2⟩ := SK.at_ I1 o2
  refine pyIter_zipB (b := b) hz ?_
  refine ⟨s1.heap.objs.size + 4, [s1.heap.objs.size + 4, s1.heap.objs.size + 2, s1.heap.objs.size + 3, s1.heap.objs.size, s1.heap.objs.size + 1], _, _, H1, rfl, I2,
    turn_zipG (b := b) (sep_fresh l1 l2) (fun a ha => Nat.ne_of_lt (l1 a ha)) (fun a ha => Nat.ne_of_lt (Nat.lt_succ_of_lt (l2 a ha))), ⟨Nat.zero_le _, hz, hTI, ⟨_, _, hTO⟩, SK.start h1, SK.start h2⟩, fun c hcm => ?_, q⟩
  have e' : c = s1.heap.objs.size + 4 ∨ c = s1.heap.objs.size + 2 ∨ c = s1.heap.objs.size + 3 ∨ c = s1.heap.objs.size ∨ c = s1.heap.objs.size + 1 := by simpa using hcm
  have hle : s1.heap.objs.size ≤ c := by
    rcases e' with z | z | z | z | z <;> (rw [z]; omega)
  exact I1.fpOk hle (I1.hok.fresh hle)
theorem pi_zipG (hg : Gl X "zip") (hm : X.mg "zip" = none) (ha : PA X [e, e2] ta)
    (hs : starEach [e, e2] X.env = (false, eval e X.env) :: starEach [e2] X.env := by rfl) (hpl : (backTo pos (starEach [e2] X.env)).any (·.1) = false := by rfl) :
    PI X (.Tuple elts kk tpos) (.Call (.Name "zip" p) [e, e2] [] pos) (iZipG X.K false ta) := by
  refine ⟨fun pins s σ H R I h => ?_⟩
  refine Call_ (ld_blt I hg hm PyProof.Rows.boot_zip (PyProof.Rows.callWith_type1 (thn (ha.run pos pins s σ H _ I h) fun us s1 ⟨vs, H1, I1, r1, q1⟩ => ?_) hs hpl))
  obtain ⟨v1, v2, xs, ys, kf1, kf2, ex, hqx, hqy, N, q⟩ := q1
  subst ex
  cases r1 with
  | cons r rr =>
    cases rr with
    | cons r' rr =>
      cases rr
      obtain ⟨t1, rfl, o1⟩ := hqx.sk r
      obtain ⟨t2, rfl, o2⟩ := hqy.sk r'
      obtain ⟨us1, H1', _⟩ := SK.at_ I1 o1
      obtain ⟨us2, H2', _⟩ := SK.at_ I1 o2
      exact zip_begins2 ((kf1 t1).begins us1) ((kf2 t2).begins us2) H1' H2' fun h' hz hTI hTO h1 h2 hsz hk => pi_fin (b := false) I1 o1 o2 hz hTI hTO h1 h2 hk (q t1 t2)
theorem pi_zipS (hg : Gl X "zip") (hm : X.mg "zip" = none) (ha : PA X [e, e2] ta)
    (hs : starEach [e, e2] X.env = (false, eval e X.env) :: starEach [e2] X.env := by rfl) (hpl : (backTo pos (starEach [e2] X.env)).any (·.1) = false := by rfl) (hnd : ("zip" == ("__debug__" : Str)) = false := by decide) :
    PI X (.Tuple elts kk tpos) (.Call (.Name "zip" p) [e, e2] [⟨some "strict", .Constant (.bool true) kj kpos, kp⟩] pos) (iZipG X.K true ta) := by
  refine ⟨fun pins s σ H R I h => ?_⟩
  refine wpAny_Call_Name_kw (ld_blt I hg hm PyProof.Rows.boot_zip ?_)
  refine callWith_type_kw (thn (ha.run pos pins s σ H _ I h) fun us s1 ⟨vs, H1, I1, r1, q1⟩ => ?_) ?_ ?_
  · refine kws_cons ?_
    show wpAny _ _ (eval (.Constant (.bool true) kj kpos) X.env) _ _ _
    refine thn ((pe_bl (X := X) (b := true) (j := kj) (pos := kpos)).run pins s1 σ H1 (fun v H2 => v = .bl true ∧ H2 = H1) I1 ⟨rfl, rfl⟩) fun u s2 ⟨v, H2, I2, rv, ev, eH⟩ => ?_
    subst ev eH
    cases rv
    refine kws_nil ?_
    show wpAny _ _ (call (.type "zip") us kwStrict) _ _ _
    obtain ⟨v1, v2, xs, ys, kf1, kf2, ex, hqx, hqy, N, q⟩ := q1
    subst ex
    cases r1 with
    | cons r rr =>
      cases rr with
      | cons r' rr =>
        cases rr
        obtain ⟨t1, rfl, o1⟩ := hqx.sk r
        obtain ⟨t2, rfl, o2⟩ := hqy.sk r'
        obtain ⟨us1, H1', _⟩ := SK.at_ I2 o1
        obtain ⟨us2, H2', _⟩ := SK.at_ I2 o2
        exact zip_beginsS ((kf1 t1).begins us1) ((kf2 t2).begins us2) H1' H2' fun h' hz hTI hTO h1 h2 hsz hk => pi_fin (b := true) I2 o1 o2 hz hTI hTO h1 h2 hk (q t1 t2)
  · rw [hs]; rfl
  · rw [hs]; exact hpl
end
end DN

namespace DL
open PySem PySem.Spec L2 DN
open PyProof.Rows hiding St
/-! ### zip of two things by value: lists, tuples, texts; strict or not -/
def srcD : D → Option (List D)
  | .tup ds => some ds
  | .kl ds => some ds
  | .kc ds => some ds
  | .str x => some (signs x)
  | _ => none
theorem signs_rps {K : PySem.W.Frag} {H : Hp} (x : Str) : Rps K H (signs x) (x.cps.toList.map fun c => V.str ⟨#[c]⟩) := by
  unfold signs
  induction x.cps.toList with
  | nil => exact rfl
  | cons c l ih => exact ⟨_, _, rfl, rfl, ih⟩
theorem srcD_ok {K : PySem.W.Frag} {G : HD} {H : Hp} {d : D} {v : V} {ds : List D} (s : Sim K G H) (r : Rp K H d v) (h : srcD d = some ds) : ∃ vs kf, SrcV K H v vs kf ∧ Rps K H ds vs ∧ ∀ t G2 H2, ExtL G H G2 H2 → (kf t).ok K H2 vs := by
  cases d with
  | tup es =>
    cases h
    obtain ⟨a, vs, rfl, t, rr⟩ := r
    exact ⟨vs, _, .inr (.inl ⟨a, rfl, rfl, t⟩), rr, fun _ G2 H2 x => SqT.extL s x t⟩
  | kl es =>
    cases h
    obtain ⟨a, vs, rfl, ⟨o, t⟩, rr⟩ := r
    exact ⟨vs, _, .inl ⟨a, rfl, rfl, .inl (.inr ⟨o, t⟩)⟩, rr, fun _ G2 H2 x => .inl (.inr ⟨o, (x a _ nl_frz (s.frzL t) t).1⟩)⟩
  | kc es =>
    cases h
    obtain ⟨a, vs, rfl, t, rr⟩ := r
    rcases t with ⟨o, t⟩ | t
    · exact ⟨vs, _, .inl ⟨a, rfl, rfl, .inl (.inr ⟨o, t⟩)⟩, rr, fun _ G2 H2 x => .inl (.inr ⟨o, (x a _ nl_frz (s.frzL t) t).1⟩)⟩
    · exact ⟨vs, _, .inl ⟨a, rfl, rfl, .inr t⟩, rr, fun _ G2 H2 x => .inr t⟩
  | str x =>
    cases h
    cases r
    exact ⟨_, _, .inr (.inr ⟨x, rfl, rfl, rfl⟩), signs_rps x, fun _ _ _ _ => rfl⟩
  | _ => cases h
def zipGP (b : Bool) (d e : D) (G : HD) (R : ItD → HD → Prop) : Prop := match srcD d, srcD e with
  | some ds, some es => (b = true → ds.length = es.length) ∧ R ⟨zipD ds es, fun _ => True⟩ G
  | _, _ => False
def jZipG (b : Bool) (ts : TDA) : TDI := fun W σ G R => ts W σ G fun ds G1 => match ds with
  | [d, e] => zipGP b d e G1 R
  | _ => False
theorem zipG_run {X : Cx} {e e2 : Expr} {ts : TDA} {b : Bool} (ha : DA X [e, e2] ts) (G : HD) (H : Hp) (σ : DSt) (τ : L2.St) (W : DW) (R : ItD → HD → Prop) (R' : It → Hp → Prop) (r : SR X G H σ τ W) (q : jZipG b ts W σ G R)
    (fin : ∀ I J G1 H1, Sim X.K G1 H1 → Ext G H G1 H1 → ItRel X.K G1 H1 I J → R I G1 → R' J H1) : iZipG X.K b (semA X [e, e2]) τ H R' := by
  refine ha.then r q fun ds vs G1 H1 r1 x1 k1 q1 => ?_
  try dsimp only at q1
  split at q1
  · rename_i d d'
    obtain ⟨v, w, rfl, kd, ke⟩ := two_of k1
    unfold zipGP at q1
    split at q1
    · rename_i ds es h1 h2
      obtain ⟨hb, q1⟩ := q1
      obtain ⟨xs, kf1, s1, rr, o1⟩ := srcD_ok r1.sim kd h1
      obtain ⟨ys, kf2, s2, rr2, o2⟩ := srcD_ok r1.sim ke h2
      refine ⟨v, w, xs, ys, kf1, kf2, rfl, s1, s2, (zipD ds es).length, fun t1 t2 => fin _ _ G1 H1 r1.sim x1 ⟨fun i G2 H2 s2 x2 _ hi => ?_, fun i G2 H2 x H3 s2 x2 _ hi hy => ?_, fun i G2 H2 s2 x2 _ hi => ?_⟩ q1⟩
      · have hi0 := hi
        rw [zip_len] at hi
        exact ⟨hi0, xs, ys, xs[i]'(by rw [rr.length]; omega), ys[i]'(by rw [rr2.length]; omega), o1 _ _ _ x2, o2 _ _ _ x2, by simp, by simp⟩
      · rw [zip_len] at hi
        obtain ⟨T, x', y', rfl, hT, rfl, hx, hy⟩ := hy
        have hx := hx xs (o1 _ _ _ x2)
        have hy := hy ys (o2 _ _ _ x2)
        have xt : Ext G2 H2 G2 (upd H2 T (.tup [x', y'])) := Ext.new hT (s2.no hT)
        have h1 : ds[i]? = some (ds[i]'(by omega)) := List.getElem?_eq_getElem _
        have h2 : es[i]? = some (es[i]'(by omega)) := List.getElem?_eq_getElem _
        obtain ⟨v1, z1, z2⟩ := rr.get h1
        obtain ⟨v2, z3, z4⟩ := rr2.get h2
        rw [hx] at z1
        rw [hy] at z3
        cases z1; cases z3
        exact ⟨_, zip_get h1 h2, ⟨T, [x', y'], rfl, SqT.of upd_same, x', [y'], rfl, (z2.extL r1.sim x2 _ _).ext s2 xt _ _, y', [], rfl, (z4.extL r1.sim x2 _ _).ext s2 xt _ _, rfl⟩, s2.newO hT, xt⟩
      · refine ⟨hi, xs, ys, o1 _ _ _ x2, o2 _ _ _ x2, ?_⟩
        have l1 := rr.length
        have l2 := rr2.length
        rw [zip_len]
        refine ⟨by omega, by omega, ?_⟩
        cases b with
        | true =>
          have := hb rfl
          simp only [if_true]
          omega
        | false =>
          simp only [Bool.false_eq_true, if_false]
          omega
    · exact q1.elim
  · exact q1.elim
section
variable {X : Cx} {e e2 : Expr} {ts : TDA} {p pos tpos kp kpos : Pos} {elts : List Expr} {kk kj : Nat}
theorem di_zipG (hm : X.mg "zip" = none) (ha : DA X [e, e2] ts) (hg : Gl X "zip" := by rfl) (hs : starEach [e, e2] X.env = (false, eval e X.env) :: starEach [e2] X.env := by rfl) (hpl : (backTo pos (starEach [e2] X.env)).any (·.1) = false := by rfl) :
    DI X (.Tuple elts kk tpos) (.Call (.Name "zip" p) [e, e2] [] pos) (iZipG X.K false (semA X [e, e2])) (jZipG false ts) :=
  ⟨pi_zipG hg hm paSem hs hpl, fun G H σ τ W R R' r q fin => zipG_run ha G H σ τ W R R' r q fin⟩
theorem di_zipS (hm : X.mg "zip" = none) (ha : DA X [e, e2] ts) (hg : Gl X "zip" := by rfl) (hs : starEach [e, e2] X.env = (false, eval e X.env) :: starEach [e2] X.env := by rfl) (hpl : (backTo pos (starEach [e2] X.env)).any (·.1) = false := by rfl) :
    DI X (.Tuple elts kk tpos) (.Call (.Name "zip" p) [e, e2] [⟨some "strict", .Constant (.bool true) kj kpos, kp⟩] pos) (iZipG X.K true (semA X [e, e2])) (jZipG true ts) :=
  ⟨pi_zipS hg hm paSem hs hpl, fun G H σ τ W R R' r q fin => zipG_run ha G H σ τ W R R' r q fin⟩
end
section
variable {W : DW} {σ : DSt} {G : HD} {R : ItD → HD → Prop} {ts : TDA} {b : Bool} {d e : D}
theorem q_zipG : jZipG b ts W σ G R = ts W σ G fun ds G1 => match ds with | [d, e] => zipGP b d e G1 R | _ => False := rfl
theorem r_zipGP {ds es : List D} (h1 : srcD d = some ds) (h2 : srcD e = some es) (hb : b = true → ds.length = es.length) (q : R ⟨zipD ds es, fun _ => True⟩ G) : zipGP b d e G R := by
  unfold zipGP
  rw [h1, h2]
  exact ⟨hb, q⟩
end
end DL

/-! ### text * n -/
namespace DL
open PySem PySem.Spec L2
open PyProof.Rows hiding St
theorem op_mulS {X : Cx} : OpR X (binaryOp .Mult) (fun x y H Q => ∃ i n, x = .str i ∧ y = .int n ∧ (2 ≤ n ∧ n ≤ 1000 ∧ i.length ≤ 1000) ∧ Q (.str (Txt.mul i n)) H) := by
  intro pins s σ H x y v u Q I rx ry h
  obtain ⟨i, n, rfl, rfl, ⟨h2, h3, h4⟩, q⟩ := h
  obtain ⟨t, rfl⟩ := rx
  obtain ⟨t', rfl⟩ := ry
  exact PySem.SB.mul (PyProof.Rows.mulOk_of 1000 1000 h4 (by omega) (by omega) (by decide) (by decide)) (fun t' tk => ⟨.str (Txt.mul i n), H, I.tok _, ⟨_, rfl⟩, q⟩)
def dMulS : D → D → HD → Post → Prop := fun d e G Q => match d, e with
  | .str x, .int n => (2 ≤ n ∧ n ≤ 1000 ∧ x.length ≤ 1000) ∧ Q (.str (Txt.mul x n)) G
  | _, _ => False
theorem od_mulS (K : PySem.W.Frag) : OpD K (fun x y H Q => ∃ i n, x = .str i ∧ y = .int n ∧ (2 ≤ n ∧ n ≤ 1000 ∧ i.length ≤ 1000) ∧ Q (.str (Txt.mul i n)) H) dMulS := fun G H d e x y Q Q' s k1 k2 f q => by
  unfold dMulS at q
  split at q
  · cases k1; cases k2
    exact ⟨_, _, rfl, rfl, q.1, f _ _ (.of (d := .str _) rfl s .refl q.2)⟩
  · exact q.elim
theorem de_mulS {X : Cx} {a b : Expr} {ta tb : TD} {pos : Pos} (ha : DE X a ta) (hb : DE X b tb) : DE X (.BinOp a .Mult b pos) (dOp dMulS ta tb) := de_op op_mulS (od_mulS X.K) ha hb
section
variable {G : HD} {Q : Post} {x : Str} {n : Int}
theorem r_mulS : dMulS (.str x) (.int n) G Q = ((2 ≤ n ∧ n ≤ 1000 ∧ x.length ≤ 1000) ∧ Q (.str (Txt.mul x n)) G) := propext ⟨fun h => h, fun h => h⟩
end
/-! ### isinstance(e, (X, Y)) of an exception -/
def rIsW (K : PySem.W.Frag) : List V → Hp → VK → Prop := fun xs H Q => ∃ (a C tp : Addr) (dd : Option Addr) (l : List (Str × V)) (cs : List V) (us : List Value) (c : Value) (b0 b : Bool), xs = [.ref a, .ref tp] ∧ H a = some (ExV C dd a) ∧ (dd = none ∨ ∃ b, dd = some b ∧ H b = some (.xd l)) ∧ SqT K H tp cs ∧ Paired ClsV cs us ∧ EcOk K C c b0 ∧ PySem.W.kitAny K (.ref C) us = some b ∧ Q (.bl b) H
theorem call_isW {X : Cx} : CallR X (.builtin "isinstance") (rIsW X.K) := by
  intro pins s σ H xs us Q I r ⟨a, C, tp, dd, l, cs, ws, c, b0, b, ex, ha, hd, hT, k, ⟨⟨T, h1, h2, h3, h4⟩, _⟩, e, q⟩
  subst ex
  obtain ⟨u1, u2, rfl, ra, rc⟩ := vals2 r
  obtain rfl : u1 = Value.ref a := ra
  cases (show u2 = Value.ref tp from rc)
  obtain ⟨oe, od, J, _⟩ := exc_at I ha hd
  have hcl : (PySem.W.clsIn X.K C).isSome = true := by
    obtain ⟨cd, hc, _⟩ := PySem.W.any_some T.hdC
    rw [hc]; rfl
  obtain ⟨its, rv, ht, _⟩ := I.tuple hT
  have e3 := ClsV.all k rv
  subst e3
  obtain ⟨o, n, g1, g2, g3⟩ : ∃ o n, s.heap.get? tp = some o ∧ o.cls = .type "tuple" ∧ o.data = .seq its.toArray n := by
    obtain ⟨o, g1, g2, n, g3⟩ := ht
    exact ⟨o, n, g1, g2, g3⟩
  obtain ⟨oc, odd, dt, sl⟩ := o
  simp only at g2 g3
  subst g2 g3
  exact PySem.W.kia_tup (PySem.W.kitx_exc hcl T.ga T.gg T.exC h1 h2 h3 h4) I.kIn J g1 e (fun z => nomatch z) fun tk => ⟨.bl b, H, I.kept (t' := tk) fun _ _ z => z, rfl, q⟩
/-- of which of these classes -/
def anyEc (ec : Addr → Value → Bool → Prop) (C : Addr) : List D → Bool → Prop
  | [], b => b = false
  | .ref c :: r, b => ∃ b1 b2, ec C (.ref c) b1 ∧ anyEc ec C r b2 ∧ b = (b1 || b2)
  | _, _ => False
theorem anyEc_ok {K : PySem.W.Frag} {H : Hp} {ec : Addr → Value → Bool → Prop} (hec : ∀ C c b, ec C c b → EcOk K C c b) {C : Addr} : ∀ {ds : List D} {vs : List V} {b : Bool}, anyEc ec C ds b → Rps K H ds vs → ∃ us, Paired ClsV vs us ∧ PySem.W.kitAny K (.ref C) us = some b
  | [], _, _, h, r => by
    cases r
    cases h
    exact ⟨[], .nil, rfl⟩
  | d :: ds, vs, b, h, r => by
    cases d with
    | ref c =>
      obtain ⟨b1, b2, he, ht, rfl⟩ := h
      obtain ⟨v, t, rfl, h1, h2⟩ := r
      cases h1
      have hk := (hec _ _ _ he).2
      obtain ⟨us, hp, ha⟩ := anyEc_ok hec ht h2
      refine ⟨_ :: us, .cons (.own c) hp, ?_⟩
      cases b1 with
      | true => exact kitAny_cons hk (fun z => by cases z) fun _ => rfl
      | false => exact kitAny_cons hk (fun _ => ha) fun z => by cases z
    | _ => exact h.elim
def rIsiW (ic : String ⊕ Addr → String ⊕ Addr → Bool → Prop) (ec : Addr → Value → Bool → Prop) : List D → HD → Post → Prop := fun ds G Q => match ds with
  | [.exc C _ _, .tup (.ref c :: cs)] => ∃ b, anyEc ec C (.ref c :: cs) b ∧ Q (.bl b) G
  | ds => rIsiE ic ec ds G Q
theorem cd_isiW {K : PySem.W.Frag} {ic : String ⊕ Addr → String ⊕ Addr → Bool → Prop} {ec : Addr → Value → Bool → Prop} (hic : ∀ a c b, ic a c b → IsiOk K a c b) (hec : ∀ C c b, ec C c b → EcOk K C c b) : CallD K (fun xs H Q => ((rIsi K xs H Q ∨ rIsV K xs H Q) ∨ rIsE K xs H Q) ∨ rIsW K xs H Q) (rIsiW ic ec) := fun G H ds vs Q Q' s k f q => by
  unfold rIsiW at q
  split at q
  · obtain ⟨b, hb, q⟩ := q
    obtain ⟨v, w, rfl, k1, k2⟩ := two_of k
    obtain ⟨a, dd, l, rfl, h1, h2⟩ := exc_rp k1
    obtain ⟨tp, vs, rfl, hT, hr⟩ := id k2
    obtain ⟨us, hp, ha⟩ := anyEc_ok hec hb hr
    obtain ⟨b1, b2, he, _, _⟩ := hb
    exact .inr ⟨a, _, tp, dd, l, vs, us, _, b1, b, rfl, h1, h2, hT, hp, hec _ _ _ he, ha, f _ _ (.of (d := .bl b) rfl s .refl q)⟩
  · exact .inl (cd_isiE hic hec G H ds vs Q Q' s k f q)
theorem bc_isiW {X : Cx} {ic : String ⊕ Addr → String ⊕ Addr → Bool → Prop} {ec : Addr → Value → Bool → Prop} {p pos : Pos} {e e2 : Expr} {ts : TDA} (hic : ∀ a c b, ic a c b → IsiOk X.K a c b) (hec : ∀ C c b, ec C c b → EcOk X.K C c b) (hm : X.mg "isinstance" = none) (ha : DA X [e, e2] ts) (hg : Gl X "isinstance" := by rfl)
    (he : starEach [e, e2] X.env = (false, eval e X.env) :: starEach [e2] X.env := by rfl) (hpl : (backTo pos (starEach [e2] X.env)).any (·.1) = false := by rfl) : DE X (.Call (.Name "isinstance" p) [e, e2] [] pos) (dCB (rIsiW ic ec) ts) :=
  de_cb (CallR.or (CallR.or (CallR.or call_isi call_isV) call_isE) call_isW) (cd_isiW hic hec) hm (by decide +kernel) ha hg (by decide) (by decide) he hpl
theorem i_isiW2 {ic : String ⊕ Addr → String ⊕ Addr → Bool → Prop} {ec : Addr → Value → Bool → Prop} {C A B : Addr} {ns : List Str} {ds : List D} {b1 b2 : Bool} {G : HD} {Q : Post} (h1 : ec C (.ref A) b1) (h2 : ec C (.ref B) b2) (q : Q (.bl (b1 || b2)) G) : rIsiW ic ec [.exc C ns ds, .tup [.ref A, .ref B]] G Q :=
  ⟨_, ⟨b1, _, h1, ⟨b2, _, h2, rfl, rfl⟩, rfl⟩, by rw [Bool.or_false]; exact q⟩
end DL

namespace P
open PySem PySem.Spec L2 DL
/-! ### the addresses that the top gives -/
structure Env where
  C_NoDeed : Addr
  C_NoRow : Addr
  C_NoText : Addr
  C_WaitError : Addr
  xm : Value → Value → Bool → Prop
  xf : Addr → Str → Prop
  ec : Addr → Value → Bool → Prop
  F_number_in : Addr
  F_key_in : Addr
  F_mode_in : Addr
  F_worth_in : Addr
  F_pace_in : Addr
  F_keys_in : Addr
  ok : Addr → Str → Prop
  ic : String ⊕ Addr → String ⊕ Addr → Bool → Prop
/-- what holds of them -/
structure Env.Good (e : Env) : Prop where
  triv : True
  xm_NoDeed_NoDeed : e.xm (.ref e.C_NoDeed) (.ref e.C_NoDeed) true
  xm_NoDeed_NoRow : e.xm (.ref e.C_NoDeed) (.ref e.C_NoRow) false
  xm_NoDeed_NoText : e.xm (.ref e.C_NoDeed) (.ref e.C_NoText) false
  xm_NoDeed_WaitError : e.xm (.ref e.C_NoDeed) (.ref e.C_WaitError) false
  xm_NoRow_NoDeed : e.xm (.ref e.C_NoRow) (.ref e.C_NoDeed) false
  xm_NoRow_NoRow : e.xm (.ref e.C_NoRow) (.ref e.C_NoRow) true
  xm_NoRow_NoText : e.xm (.ref e.C_NoRow) (.ref e.C_NoText) false
  xm_NoRow_WaitError : e.xm (.ref e.C_NoRow) (.ref e.C_WaitError) false
  xm_NoText_NoDeed : e.xm (.ref e.C_NoText) (.ref e.C_NoDeed) false
  xm_NoText_NoRow : e.xm (.ref e.C_NoText) (.ref e.C_NoRow) false
  xm_NoText_NoText : e.xm (.ref e.C_NoText) (.ref e.C_NoText) true
  xm_NoText_WaitError : e.xm (.ref e.C_NoText) (.ref e.C_WaitError) false
  xm_WaitError_NoDeed : e.xm (.ref e.C_WaitError) (.ref e.C_NoDeed) true
  xm_WaitError_NoRow : e.xm (.ref e.C_WaitError) (.ref e.C_NoRow) true
  xm_WaitError_NoText : e.xm (.ref e.C_WaitError) (.ref e.C_NoText) true
  xm_WaitError_WaitError : e.xm (.ref e.C_WaitError) (.ref e.C_WaitError) true
  ec_NoDeed_NoDeed : e.ec e.C_NoDeed (.ref e.C_NoDeed) true
  ec_NoDeed_NoRow : e.ec e.C_NoDeed (.ref e.C_NoRow) false
  ec_NoDeed_NoText : e.ec e.C_NoDeed (.ref e.C_NoText) false
  ec_NoRow_NoDeed : e.ec e.C_NoRow (.ref e.C_NoDeed) false
  ec_NoRow_NoRow : e.ec e.C_NoRow (.ref e.C_NoRow) true
  ec_NoRow_NoText : e.ec e.C_NoRow (.ref e.C_NoText) false
  xf_NoText_row : e.xf e.C_NoText "row"
  ec_NoText_NoDeed : e.ec e.C_NoText (.ref e.C_NoDeed) false
  ec_NoText_NoRow : e.ec e.C_NoText (.ref e.C_NoRow) false
  ec_NoText_NoText : e.ec e.C_NoText (.ref e.C_NoText) true
  ec_WaitError_NoDeed : e.ec e.C_WaitError (.ref e.C_NoDeed) false
  ec_WaitError_NoRow : e.ec e.C_WaitError (.ref e.C_NoRow) false
  ec_WaitError_NoText : e.ec e.C_WaitError (.ref e.C_NoText) false
def tbl_FORMS (e : Env) : List (Str × D) := [("tick", .tup [.str "number"]), ("set", .tup [.str "number", .str "number", .str "number", .str "number"]), ("pace", .tup [.str "number", .str "number", .str "pace"]), ("stop", .tup [.str "number", .str "number"]), ("back", .tup [.str "number", .str "number"]), ("choose", .tup [.str "number", .str "number"]), ("renew", .tup [.str "number"]), ("catch", .tup [.str "number", .str "number"]), ("mark", .tup [.str "number"]), ("gone", .tup [.str "number", .str "number"]), ("begin", .tup []), ("again", .tup [.str "number"]), ("take", .tup [.str "number", .str "key", .str "mode"]), ("read", .tup [.str "number", .str "key"]), ("write", .tup [.str "number", .str "key", .str "worth"]), ("finish", .tup [.str "number"]), ("tell", .tup [.str "number"]), ("stay", .tup [.str "number"]), ("deliver", .tup [.str "number"]), ("lose", .tup [.str "number"]), ("question", .tup [.str "number"]), ("at", .tup [.str "number", .str "keys"]), ("copy", .tup [.str "number", .str "number", .str "keys"]), ("now", .tup [.str "number", .str "keys"]), ("move", .tup [.str "key", .str "number"]), ("form", .tup [.str "number", .str "number"]), ("settle", .tup [])]
def tbl_READERS (e : Env) : List (Str × D) := [("number", .ref e.F_number_in), ("key", .ref e.F_key_in), ("mode", .ref e.F_mode_in), ("worth", .ref e.F_worth_in), ("pace", .ref e.F_pace_in), ("keys", .ref e.F_keys_in)]
/-! ### what each def does -/
-- _law_begun: slots 0 _law_script, 1 _law_k, 2 _law_cell, 3 _law_number_here, 4 _law_mixed,
def w_law_begun (e : Env) : SpD := wpf 2 3
    (sSeq (sSet 2 (dOp dIx (dOp dAddV (dSliceV (dVar 0) (oSome (dVar 1)) (oSome (dOp dAddV (dVar 1) (dC (.int 1))))) (dLstV (dCons (dC (.int 0)) (dNil)))) (dC (.int 0))))
    (sSeq (sSet 3 (dCB rMax2 (dCons (dVar 2) (dCons (dOp dSub (dUn dNeg (dC (.int 1))) (dVar 2)) (dNil)))))
    (sSeq (sSet 4 (dOp dMod (dOp dAddV (dOp dAddV (dOp dAddV (dOp dMod (dVar 3) (dC (.int 2147483629))) (dOp dMul (dC (.int 7919)) (dVar 1))) (dOp dMul (dOp dMul (dC (.int 104729)) (dVar 1)) (dVar 1))) (dC (.int 11))) (dC (.int 2147483629))))
    (sRet (dLst (dCons (dVar 3) (dCons (dVar 4) (dCons (dOp (dCmpI fun i j => decide (j ≤ i)) (dVar 3) (dOp dPow (dC (.int 10)) (dC (.int 18)))) (dNil)))))))))
-- _law_kinds: slots 0 _law_found,
def w_law_kinds (e : Env) : SpD := wpf 0 1
    (sSeq (sSet 0 (dDisp ["tick", "set", "pace", "stop", "back"] (dCons (dC (.str "n")) (dCons (dC (.str "nnnn")) (dCons (dC (.str "nnp")) (dCons (dC (.str "nn")) (dCons (dC (.str "nn")) (dNil))))))))
    (sSeq (sDrop (dUpd (dVar 0) (dDisp ["choose", "renew"] (dCons (dC (.str "nn")) (dCons (dC (.str "n")) (dNil))))))
    (sSeq (sDrop (dUpd (dVar 0) (dDisp ["catch", "mark", "gone", "begin", "again"] (dCons (dC (.str "nn")) (dCons (dC (.str "n")) (dCons (dC (.str "nn")) (dCons (dC (.str "")) (dCons (dC (.str "n")) (dNil)))))))))
    (sSeq (sDrop (dUpd (dVar 0) (dDisp ["take", "read"] (dCons (dC (.str "nkm")) (dCons (dC (.str "nk")) (dNil))))))
    (sSeq (sDrop (dUpd (dVar 0) (dDisp ["write", "finish", "tell", "stay", "deliver", "lose"] (dCons (dC (.str "nkw")) (dCons (dC (.str "n")) (dCons (dC (.str "n")) (dCons (dC (.str "n")) (dCons (dC (.str "n")) (dCons (dC (.str "n")) (dNil))))))))))
    (sSeq (sDrop (dUpd (dVar 0) (dDisp ["question", "at", "copy", "now", "move", "form", "settle"] (dCons (dC (.str "n")) (dCons (dC (.str "ns")) (dCons (dC (.str "nns")) (dCons (dC (.str "ns")) (dCons (dC (.str "kn")) (dCons (dC (.str "nn")) (dCons (dC (.str "")) (dNil)))))))))))
    (sRet (dVar 0))))))))
-- _law_text: slots 0 _law_deed, 1 _law_kinds_here, 2 _law_words, 3 _law_kind, 4 _law_thing, 5 _law_one,
def l_law_text_1 (e : Env) : TDS :=
    (sIf (dTest (dOp (dEqX false) (dVar 3) (dC (.str "p"))))
    (sDrop (dApp (dVar 2) (dCons (dOp dAddV (dOp dAddV (dCB rStrD (dCons (dOp dIx (dVar 4) (dC (.int 0))) (dNil))) (dC (.str "/"))) (dCB rStrD (dCons (dOp dIx (dVar 4) (dC (.int 1))) (dNil)))) (dNil))))
    (sIf (dTest (dOp (dInS false) (dVar 3) (dC (.str "ws"))))
    (sDrop (dApp (dVar 2) (dCons (dJoin (dC (.str ",")) (dLcV (jSeq (dVar 4)) (.one 5) (dYes) (dCB rStrD (dCons (dVar 5) (dNil))) [5])) (dNil))))
    (sDrop (dApp (dVar 2) (dCons (dCB rStrD (dCons (dVar 4) (dNil))) (dNil))))))
def w_law_text (e : Env) : SpD := wpf 1 5
    (sSeq (sSet 1 (dDGet (dCall (w_law_kinds e) [] dNil) (dOp dIx (dVar 0) (dC (.int 0)))))
    (sSeq (sSet 2 (dLst (dCons (dOp dIx (dVar 0) (dC (.int 0))) (dNil))))
    (sSeq (sFor (jZipG false (dCons (dVar 1) (dCons (dSliceV (dVar 0) (oSome (dC (.int 1))) (oNone)) (dNil)))) (.many [3, 4])
    (l_law_text_1 e))
    (sRet (dJoin (dC (.str " ")) (dVar 2))))))
-- _law_take: slots 0 _law_state, 1 _law_many, 2 _law_digit, 3 _law_made, 4 _law_turn,
def l_law_take_1 (e : Env) : TDS :=
    (sSeq (sSub (dVar 0) (dC (.int 1)) (dOp dMod (dOp dAddV (dOp dMul (dOp dIx (dVar 0) (dC (.int 1))) (dC (.int 48271))) (dC (.int 11))) (dC (.int 2147483647))) rSetD)
    (sSet 3 (dOp dAddV (dOp dMul (dVar 3) (dC (.int 2147483587))) (dOp dMod (dOp dMul (dOp dIx (dVar 0) (dC (.int 1))) (dOp dIx (dVar 0) (dC (.int 1)))) (dC (.int 2147483587))))))
def w_law_take (e : Env) : SpD := wpf 2 3
    (sSeq (sIf (dTru (dOp dIx (dVar 0) (dC (.int 2))))
    (sSeq (sSet 2 (dOp dMod (dOp dIx (dVar 0) (dC (.int 0))) (dVar 1)))
    (sSeq (sSub (dVar 0) (dC (.int 0)) (dOp dDiv (dOp dIx (dVar 0) (dC (.int 0))) (dVar 1)) rSetD)
    (sSeq (sSub (dVar 0) (dC (.int 2)) (dOp (dCmpI fun i j => decide (j < i)) (dOp dIx (dVar 0) (dC (.int 0))) (dC (.int 0))) rSetD)
    (sRet (dVar 2)))))
    (sNext))
    (sSeq (sSet 3 (dC (.int 0)))
    (sSeq (sFor (jRng1 (dCons (dOp dAddV (dC (.int 1)) (dCB rInt (dCons (dOp (dCmpI fun i j => decide (j < i)) (dVar 1) (dOp dPow (dC (.int 10)) (dC (.int 6)))) (dNil)))) (dNil))) (.one 4)
    (l_law_take_1 e))
    (sRet (dOp dMod (dOp dDiv (dVar 3) (dC (.int 64))) (dVar 1))))))
-- _law_number: slots 0 _law_state, 1 _law_far,
def w_law_number (e : Env) : SpD := wpf 1 1
    (sSeq (sSet 1 (dOp dAddV (dOp dPow (dC (.int 10)) (dC (.int 29))) (dCall (w_law_take e) [] (dCons (dVar 0) (dCons (dC (.int 9)) (dNil))))))
    (sRet (dOp dIx (dLstV (dCons (dC (.int 0)) (dCons (dC (.int 1)) (dCons (dCall (w_law_take e) [] (dCons (dVar 0) (dCons (dC (.int 30)) (dNil)))) (dCons (dVar 1) (dCons (dOp dSub (dOp dSub (dC (.int 0)) (dC (.int 1))) (dCall (w_law_take e) [] (dCons (dVar 0) (dCons (dC (.int 50)) (dNil))))) (dNil))))))) (dCall (w_law_take e) [] (dCons (dVar 0) (dCons (dC (.int 5)) (dNil)))))))
-- _law_a_key: slots 0 _law_state,
def w_law_a_key (e : Env) : SpD := wpf 1 0
    (sRet (dOp dIx (dLstV (dCons (dC (.str "a")) (dCons (dC (.str "b")) (dCons (dC (.str "zzzzzz")) (dCons (dC (.str "read")) (dCons (dC (.str "tick")) (dNil))))))) (dCall (w_law_take e) [] (dCons (dVar 0) (dCons (dC (.int 5)) (dNil))))))
-- _law_things: slots 0 _law_state, 1 _law_kinds_here, 2 _law_found, 3 _law_kind, 4 _law_pace, 5 _law_worth, 6 _law_some, 7 _law_mode, 8 _law_menu, 9 _law_part,
def l_law_things_1 (e : Env) : TDS :=
    (sSeq (sSet 4 (dTup (dCons (dCall (w_law_number e) [] (dCons (dVar 0) (dNil))) (dCons (dCall (w_law_number e) [] (dCons (dVar 0) (dNil))) (dNil)))))
    (sSeq (sSet 5 (dCB rTuple (dCons (dLcV (jRng1 (dCons (dOp dAddV (dC (.int 1)) (dCall (w_law_take e) [] (dCons (dVar 0) (dCons (dC (.int 4)) (dNil))))) (dNil))) (.one 9) (dYes) (dCall (w_law_number e) [] (dCons (dVar 0) (dNil))) [9]) (dNil))))
    (sSeq (sSet 6 (dCB rTuple (dCons (dLcV (jRng1 (dCons (dOp dAddV (dC (.int 1)) (dCall (w_law_take e) [] (dCons (dVar 0) (dCons (dC (.int 3)) (dNil))))) (dNil))) (.one 9) (dYes) (dCall (w_law_a_key e) [] (dCons (dVar 0) (dNil))) [9]) (dNil))))
    (sSeq (sSet 7 (dOp dIx (dLstV (dCons (dC (.str "read")) (dCons (dC (.str "write")) (dNil)))) (dCall (w_law_take e) [] (dCons (dVar 0) (dCons (dC (.int 2)) (dNil))))))
    (sSeq (sSet 8 (dDisp ["n", "k", "m", "w", "p", "s"] (dCons (dCall (w_law_number e) [] (dCons (dVar 0) (dNil))) (dCons (dCall (w_law_a_key e) [] (dCons (dVar 0) (dNil))) (dCons (dVar 7) (dCons (dVar 5) (dCons (dVar 4) (dCons (dVar 6) (dNil)))))))))
    (sDrop (dApp (dVar 2) (dCons (dDGet (dVar 8) (dVar 3)) (dNil)))))))))
def w_law_things (e : Env) : SpD := wpf 2 8
    (sSeq (sSet 2 (dLst (dNil)))
    (sSeq (sFor (jStr (dVar 1)) (.one 3)
    (l_law_things_1 e))
    (sRet (dCB rTuple (dCons (dVar 2) (dNil))))))
-- _law_drawn: slots 0 _law_state, 1 _law_some, 2 _law_word,
def w_law_drawn (e : Env) : SpD := wpf 1 2
    (sSeq (sSet 1 (dCB rSortDic (dCons (dCall (w_law_kinds e) [] dNil) (dNil))))
    (sSeq (sSet 2 (dOp dIx (dVar 1) (dCall (w_law_take e) [] (dCons (dVar 0) (dCons (dCB rLen (dCons (dVar 1) (dNil))) (dNil))))))
    (sRet (dOp dAddV (dTup (dCons (dVar 2) (dNil))) (dCall (w_law_things e) [] (dCons (dVar 0) (dCons (dDGet (dCall (w_law_kinds e) [] dNil) (dVar 2)) (dNil))))))))
-- _law_bent: slots 0 _law_state, 1 _law_text_here, 2 _law_signs, 3 _law_at, 4 _law_sign, 5 _law_way, 6 _law_words, 7 _law_odd,
def w_law_bent (e : Env) : SpD := wpf 2 6
    (sSeq (sSet 2 (dC (.str "0123456789-,/ abz_+.A\n\t")))
    (sSeq (sSet 3 (dCall (w_law_take e) [] (dCons (dVar 0) (dCons (dOp dAddV (dCB rLen (dCons (dVar 1) (dNil))) (dC (.int 1))) (dNil)))))
    (sSeq (sSet 4 (dOp dIx (dVar 2) (dCall (w_law_take e) [] (dCons (dVar 0) (dCons (dCB rLen (dCons (dVar 2) (dNil))) (dNil))))))
    (sSeq (sSet 5 (dCall (w_law_take e) [] (dCons (dVar 0) (dCons (dC (.int 6)) (dNil)))))
    (sSeq (sIf (dTest (dOp dLtD (dVar 5) (dC (.int 3))))
    (sRet (dOp dIx (dLstV (dCons (dOp dAddV (dOp dAddV (dSliceV (dVar 1) (oNone) (oSome (dVar 3))) (dVar 4)) (dSliceV (dVar 1) (oSome (dVar 3)) (oNone))) (dCons (dOp dAddV (dOp dAddV (dSliceV (dVar 1) (oNone) (oSome (dVar 3))) (dVar 4)) (dSliceV (dVar 1) (oSome (dOp dAddV (dVar 3) (dC (.int 1)))) (oNone))) (dCons (dOp dAddV (dSliceV (dVar 1) (oNone) (oSome (dVar 3))) (dSliceV (dVar 1) (oSome (dOp dAddV (dVar 3) (dC (.int 1)))) (oNone))) (dNil))))) (dVar 5)))
    (sNext))
    (sSeq (sSet 6 (dSplit (dVar 1) (dC (.str " "))))
    (sSeq (sSet 3 (dCall (w_law_take e) [] (dCons (dVar 0) (dCons (dCB rLen (dCons (dVar 6) (dNil))) (dNil)))))
    (sSeq (sIf (dTest (dOp (dEqX false) (dVar 5) (dC (.int 3))))
    (sRet (dJoin (dC (.str " ")) (dOp dAddV (dSliceV (dVar 6) (oNone) (oSome (dVar 3))) (dSliceV (dVar 6) (oSome (dOp dAddV (dVar 3) (dC (.int 1)))) (oNone)))))
    (sNext))
    (sSeq (sIf (dTest (dOp (dEqX false) (dVar 5) (dC (.int 4))))
    (sRet (dJoin (dC (.str " ")) (dOp dAddV (dOp dAddV (dSliceV (dVar 6) (oNone) (oSome (dVar 3))) (dLstV (dCons (dOp dIx (dVar 6) (dVar 3)) (dNil)))) (dSliceV (dVar 6) (oSome (dVar 3)) (oNone)))))
    (sNext))
    (sSeq (sSet 7 (dLstV (dCons (dC (.str "")) (dCons (dC (.str "0")) (dCons (dC (.str "a")) (dCons (dC (.str "1,2")) (dCons (dC (.str "1/2")) (dCons (dC (.str "write")) (dCons (dC (.str "-0")) (dCons (dC (.str "a,b")) (dNil)))))))))))
    (sRet (dJoin (dC (.str " ")) (dOp dAddV (dOp dAddV (dSliceV (dVar 6) (oNone) (oSome (dVar 3))) (dLstV (dCons (dOp dIx (dVar 7) (dCall (w_law_take e) [] (dCons (dVar 0) (dCons (dC (.int 8)) (dNil))))) (dNil)))) (dSliceV (dVar 6) (oSome (dOp dAddV (dVar 3) (dC (.int 1)))) (oNone)))))))))))))))
-- _law_is_key: slots 0 _law_word, 1 _law_sign,
def w_law_is_key (e : Env) : SpD := wpf 1 1
    (sRet (dAndV (dChn (dC (.int 1)) (dLink (dCmpI fun i j => decide (i ≤ j)) (dCB rLen (dCons (dVar 0) (dNil))) (dLast (dCmpI fun i j => decide (i ≤ j)) (dC (.int 6))))) (dOp (dEqX false) (dLcV (jStr (dVar 0)) (.one 1) (dNot (dChnT (dC (.str "a")) (dLink dLeX (dVar 1) (dLast dLeX (dC (.str "z")))))) (dVar 1) [1]) (dLstV (dNil)))))
-- _law_is_number: slots 0 _law_word, 1 _law_rest, 2 _law_sign,
def w_law_is_number (e : Env) : SpD := wpf 1 2
    (sSeq (sSet 1 (dSliceV (dVar 0) (oSome (dCB rInt (dCons (dOp (dEqX false) (dSliceV (dVar 0) (oNone) (oSome (dC (.int 1)))) (dC (.str "-"))) (dNil)))) (oNone)))
    (sSeq (sIf (dOr (dNot (dChnT (dC (.int 1)) (dLink (dCmpI fun i j => decide (i ≤ j)) (dCB rLen (dCons (dVar 1) (dNil))) (dLast (dCmpI fun i j => decide (i ≤ j)) (dC (.int 30)))))) (dTest (dOp (dEqX true) (dLcV (jStr (dVar 1)) (.one 2) (dTest (dOp (dInS true) (dVar 2) (dC (.str "0123456789")))) (dVar 2) [2]) (dLstV (dNil)))))
    (sRet (dC (.bl false)))
    (sNext))
    (sRet (dOrV (dOp (dEqX true) (dOp dIx (dVar 1) (dC (.int 0))) (dC (.str "0"))) (dOp (dEqX false) (dVar 0) (dC (.str "0")))))))
-- _law_read_thing: slots 0 _law_kind, 1 _law_word, 2 _law_parts, 3 _law_numbers, 4 _law_one,
def w_law_read_thing (e : Env) : SpD := wpf 2 3
    (sSeq (sSet 2 (dSplit (dVar 1) (dOp dIx (dLstV (dCons (dC (.str ",")) (dCons (dC (.str "/")) (dNil)))) (dCB rInt (dCons (dOp (dEqX false) (dVar 0) (dC (.str "p"))) (dNil))))))
    (sSeq (sIf (dTest (dOp (dEqX false) (dVar 0) (dC (.str "k"))))
    (sRet (dOp dIx (dLstV (dCons (dC .non) (dCons (dVar 1) (dNil)))) (dCB rInt (dCons (dCall (w_law_is_key e) [] (dCons (dVar 1) (dNil))) (dNil)))))
    (sNext))
    (sSeq (sIf (dTest (dOp (dEqX false) (dVar 0) (dC (.str "m"))))
    (sRet (dOp dIx (dLstV (dCons (dC .non) (dCons (dVar 1) (dNil)))) (dCB rInt (dCons (dOp (dInT false) (dVar 1) (dTup (dCons (dC (.str "read")) (dCons (dC (.str "write")) (dNil))))) (dNil)))))
    (sNext))
    (sSeq (sIf (dTest (dOp (dEqX false) (dVar 0) (dC (.str "s"))))
    (sRet (dOp dIx (dLstV (dCons (dC .non) (dCons (dCB rTuple (dCons (dVar 2) (dNil))) (dNil)))) (dCB rInt (dCons (dOp (dEqX false) (dLcV (jSeq (dVar 2)) (.one 4) (dNot (dTru (dCall (w_law_is_key e) [] (dCons (dVar 4) (dNil))))) (dVar 4) [4]) (dLstV (dNil))) (dNil)))))
    (sNext))
    (sSeqJ (sIf (dTest (dOp (dEqX false) (dVar 0) (dC (.str "n"))))
    (sSet 2 (dLstV (dCons (dVar 1) (dNil))))
    (sNext))
    (sSeq (sIf (dOr (dTest (dOp (dEqX true) (dLcV (jSeq (dVar 2)) (.one 4) (dNot (dTru (dCall (w_law_is_number e) [] (dCons (dVar 4) (dNil))))) (dVar 4) [4]) (dLstV (dNil)))) (dOr (dAnd (dTest (dOp (dEqX false) (dVar 0) (dC (.str "p")))) (dTest (dOp (dEqX true) (dCB rLen (dCons (dVar 2) (dNil))) (dC (.int 2))))) (dTest (dOp (dCmpI fun i j => decide (j < i)) (dCB rLen (dCons (dVar 2) (dNil))) (dC (.int 4))))))
    (sRet (dC .non))
    (sNext))
    (sSeq (sSet 3 (dCB rTuple (dCons (dLcV (jSeq (dVar 2)) (.one 4) (dYes) (dCB rIntS (dCons (dVar 4) (dNil))) [4]) (dNil))))
    (sRet (dOp dIx (dLstV (dCons (dVar 3) (dCons (dOp dIx (dVar 3) (dC (.int 0))) (dNil)))) (dCB rInt (dCons (dOp (dEqX false) (dVar 0) (dC (.str "n"))) (dNil))))))))))))
-- _law_due: slots 0 _law_text_here, 1 _law_words, 2 _law_kinds_here, 3 _law_things_here, 4 _law_kind, 5 _law_word,
def w_law_due (e : Env) : SpD := wpf 1 5
    (sSeq (sIf (dNot (dTru (dCB (rIsiE e.ic e.ec) (dCons (dVar 0) (dCons (dC (.ty "str")) (dNil))))))
    (sRet (dC .non))
    (sNext))
    (sSeq (sSet 1 (dSplit (dVar 0) (dC (.str " "))))
    (sSeq (sSet 2 (dGet1 (dCall (w_law_kinds e) [] dNil) (dOp dIx (dVar 1) (dC (.int 0)))))
    (sSeq (sIf (dOr (dTest (dOp (dIsX false) (dVar 2) (dC .non))) (dTest (dOp (dEqX true) (dCB rLen (dCons (dVar 2) (dNil))) (dOp dSub (dCB rLen (dCons (dVar 1) (dNil))) (dC (.int 1))))))
    (sRet (dC .non))
    (sNext))
    (sSeq (sSet 3 (dLcV (jZipG false (dCons (dVar 2) (dCons (dSliceV (dVar 1) (oSome (dC (.int 1))) (oNone)) (dNil)))) (.many [4, 5]) (dYes) (dCall (w_law_read_thing e) [] (dCons (dVar 4) (dCons (dVar 5) (dNil)))) [4, 5]))
    (sRet (dOp dIx (dLstV (dCons (dC .non) (dCons (dCB rTuple (dCons (dOp dAddV (dSliceV (dVar 1) (oNone) (oSome (dC (.int 1)))) (dVar 3)) (dNil))) (dNil)))) (dCB rInt (dCons (dOp (dInN true) (dC .non) (dVar 3)) (dNil))))))))))
-- number_in: slots 0 word, 1 figures, 2 sign,
def w_number_in (e : Env) : SpD := wpf 1 2
    (sSeq (sSet 1 (dIf (dTest (dOp (dEqX false) (dSliceV (dVar 0) (oNone) (oSome (dC (.int 1)))) (dC (.str "-")))) (dSliceV (dVar 0) (oSome (dC (.int 1))) (oNone)) (dVar 0)))
    (sSeq (sIf (dOr (dNot (dChnT (dC (.int 1)) (dLink (dCmpI fun i j => decide (i ≤ j)) (dCB rLen (dCons (dVar 1) (dNil))) (dLast (dCmpI fun i j => decide (i ≤ j)) (dC (.int 30)))))) (dNot (dTru (dCB (rAllD fun bs => bs.all id) (dCons (dLcV (jStr (dVar 1)) (.one 2) (dYes) (dOp (dInS false) (dVar 2) (dC (.str "0123456789"))) [2]) (dNil))))))
    (sRet (dC .non))
    (sNext))
    (sRet (dIf (dTest (dOp (dEqX false) (dCB rStrD (dCons (dCB rIntS (dCons (dVar 0) (dNil))) (dNil))) (dVar 0))) (dCB rIntS (dCons (dVar 0) (dNil))) (dC .non)))))
-- is_key: slots 0 thing, 1 sign,
def w_is_key (e : Env) : SpD := wpf 1 1
    (sRet (dAndV (dCB (rIsiE e.ic e.ec) (dCons (dVar 0) (dCons (dC (.ty "str")) (dNil)))) (dAndV (dChn (dC (.int 1)) (dLink (dCmpI fun i j => decide (i ≤ j)) (dCB rLen (dCons (dVar 0) (dNil))) (dLast (dCmpI fun i j => decide (i ≤ j)) (dC (.int 6))))) (dCB (rAllD fun bs => bs.all id) (dCons (dLcV (jStr (dVar 0)) (.one 1) (dYes) (dOp (dInS false) (dVar 1) (dC (.str "abcdefghijklmnopqrstuvwxyz"))) [1]) (dNil))))))
-- key_in: slots 0 word,
def w_key_in (e : Env) : SpD := wpf 1 0
    (sRet (dIf (dTru (dCall (w_is_key e) [] (dCons (dVar 0) (dNil)))) (dVar 0) (dC .non)))
-- mode_in: slots 0 word,
def w_mode_in (e : Env) : SpD := wpf 1 0
    (sRet (dIf (dTest (dOp (dInT false) (dVar 0) (dTup (dCons (dC (.str "read")) (dCons (dC (.str "write")) (dNil)))))) (dVar 0) (dC .non)))
-- numbers_in: slots 0 word, 1 mark, 2 found, 3 part,
def w_numbers_in (e : Env) : SpD := wpf 2 2
    (sSeq (sSet 2 (dLcV (jSeq (dSplit (dVar 0) (dVar 1))) (.one 3) (dYes) (dCall (w_number_in e) [] (dCons (dVar 3) (dNil))) [3]))
    (sRet (dIf (dTest (dOp (dInN false) (dC .non) (dVar 2))) (dC .non) (dCB rTuple (dCons (dVar 2) (dNil))))))
-- worth_in: slots 0 word, 1 found,
def w_worth_in (e : Env) : SpD := wpf 1 1
    (sSeq (sSet 1 (dCall (w_numbers_in e) [] (dCons (dVar 0) (dCons (dC (.str ",")) (dNil)))))
    (sRet (dIf (dAnd (dTest (dOp (dIsX true) (dVar 1) (dC .non))) (dTest (dOp (dCmpI fun i j => decide (i ≤ j)) (dCB rLen (dCons (dVar 1) (dNil))) (dC (.int 4))))) (dVar 1) (dC .non))))
-- pace_in: slots 0 word, 1 found,
def w_pace_in (e : Env) : SpD := wpf 1 1
    (sSeq (sSet 1 (dCall (w_numbers_in e) [] (dCons (dVar 0) (dCons (dC (.str "/")) (dNil)))))
    (sRet (dIf (dAnd (dTest (dOp (dIsX true) (dVar 1) (dC .non))) (dTest (dOp (dEqX false) (dCB rLen (dCons (dVar 1) (dNil))) (dC (.int 2))))) (dVar 1) (dC .non))))
-- keys_in: slots 0 word, 1 found, 2 one,
def w_keys_in (e : Env) : SpD := wpf 1 2
    (sSeq (sSet 1 (dSplit (dVar 0) (dC (.str ","))))
    (sRet (dIf (dTru (dCB (rAllD fun bs => bs.all id) (dCons (dLcV (jSeq (dVar 1)) (.one 2) (dYes) (dCall (w_is_key e) [] (dCons (dVar 2) (dNil))) [2]) (dNil)))) (dCB rTuple (dCons (dVar 1) (dNil))) (dC .non))))
-- read_deed: slots 0 text, 1 word, 2 words, 3 found, 4 kind, 5 one, 6 reader,
def l_read_deed_1 (e : Env) : TDS :=
    (sSeq (sSet 6 (dKGet (tbl_READERS e) (dVar 4)))
    (sDrop (dApp (dVar 3) (dCons (dCallL [(e.F_number_in, w_number_in e), (e.F_key_in, w_key_in e), (e.F_mode_in, w_mode_in e), (e.F_worth_in, w_worth_in e), (e.F_pace_in, w_pace_in e), (e.F_keys_in, w_keys_in e)] 6 (dCons (dVar 5) (dNil))) (dNil)))))
def w_read_deed (e : Env) : SpD := wpf 1 6
    (sSeq (sIf (dNot (dTru (dCB (rIsiE e.ic e.ec) (dCons (dVar 0) (dCons (dC (.ty "str")) (dNil))))))
    (sRaiseX e.C_NoText ["row"] (dCons (dC (.int 0)) (dNil)))
    (sNext))
    (sSeq (sStarK 1 2 (dSplit (dVar 0) (dC (.str " "))))
    (sSeq (sIf (dOr (dTest (dKIn true (tbl_FORMS e) (dVar 1))) (dTest (dOp (dEqX true) (dCB rLen (dCons (dVar 2) (dNil))) (dCB rLen (dCons (dKGet (tbl_FORMS e) (dVar 1)) (dNil))))))
    (sRaiseX e.C_NoText ["row"] (dCons (dC (.int 0)) (dNil)))
    (sNext))
    (sSeq (sSet 3 (dLst (dNil)))
    (sSeq (sFor (jZipG true (dCons (dKGet (tbl_FORMS e) (dVar 1)) (dCons (dVar 2) (dNil)))) (.many [4, 5])
    (l_read_deed_1 e))
    (sSeq (sIf (dTest (dOp (dInN false) (dC .non) (dVar 3)))
    (sRaiseX e.C_NoText ["row"] (dCons (dC (.int 0)) (dNil)))
    (sNext))
    (sRet (dOp dAddV (dTup (dCons (dVar 1) (dNil))) (dCB rTuple (dCons (dVar 3) (dNil)))))))))))
-- _law_right: slots 0 _law_text_here, 1 _law_caught, 2 _law_found, 3 e, 4 _law_due_here,
def w_law_right (e : Env) : SpD := wpf 1 4
    (sSeq (sSet 1 (dC .non))
    (sSeq (sSet 2 (dC .non))
    (sSeqJ (sTryH e.xm
    (sSet 2 (dCall (w_read_deed e) [] (dCons (dVar 0) (dNil))))
    ((.ref e.C_WaitError, some 3, sSet 1 (dVar 3)) :: []))
    (sSeq (sSet 4 (dCall (w_law_due e) [] (dCons (dVar 0) (dNil))))
    (sSeq (sIf (dTest (dOp (dIsX true) (dVar 4) (dC .non)))
    (sRet (dAndV (dOp (dIsX false) (dVar 1) (dC .non)) (dOp (dEqX false) (dCB rReprX (dCons (dVar 2) (dNil))) (dCB rReprX (dCons (dVar 4) (dNil))))))
    (sNext))
    (sRet (dAndV (dCB (rIsiE e.ic e.ec) (dCons (dVar 1) (dCons (dC (.ref e.C_NoText)) (dNil)))) (dAndV (dNotV (dCB (rIsiW e.ic e.ec) (dCons (dVar 1) (dCons (dTup (dCons (dC (.ref e.C_NoDeed)) (dCons (dC (.ref e.C_NoRow)) (dNil)))) (dNil))))) (dOp (dEqX false) (dCB rReprX (dCons (dXFld e.xf "row" (dVar 1)) (dNil))) (dC (.str "0")))))))))))
-- law: slots 0 _law_script, 1 _law_k, 2 _law_state, 3 _law_text_here, 4 _law_turn, 5 _law_other, 6 _law_some, 7 _law_thing,
def l_law_1 (e : Env) : TDS :=
    (sSeq (sSet 5 (dCall (w_law_bent e) [] (dCons (dVar 2) (dCons (dVar 3) (dNil)))))
    (sIf (dOr (dNot (dTru (dCall (w_law_right e) [] (dCons (dVar 5) (dNil))))) (dNot (dTru (dCall (w_law_right e) [] (dCons (dCall (w_law_bent e) [] (dCons (dVar 2) (dCons (dVar 5) (dNil)))) (dNil))))))
    (sRet (dC (.bl false)))
    (sNext)))
def l_law_2 (e : Env) : TDS :=
    (sSeq (sSet 2 (dCall (w_law_begun e) [] (dCons (dVar 0) (dCons (dVar 1) (dNil)))))
    (sSeq (sSet 3 (dCall (w_law_text e) [] (dCons (dCall (w_law_drawn e) [] (dCons (dVar 2) (dNil))) (dNil))))
    (sFor (jRng1 (dCons (dC (.int 8)) (dNil))) (.one 4)
    (l_law_1 e))))
def l_law_3 (e : Env) : TDS :=
    (sIf (dNot (dTru (dCall (w_law_right e) [] (dCons (dVar 7) (dNil)))))
    (sRet (dC (.bl false)))
    (sNext))
def w_law (e : Env) : SpD := wpf 1 7
    (sSeq (sFor (jRng1 (dCons (dCB rMax2 (dCons (dC (.int 1)) (dCons (dCB rMin2 (dCons (dC (.int 30)) (dCons (dCB rLen (dCons (dVar 0) (dNil))) (dNil)))) (dNil)))) (dNil))) (.one 1)
    (l_law_2 e))
    (sSeq (sSet 6 (dLstV (dCons (dC (.str "")) (dCons (dC (.str " ")) (dCons (dC (.str "begin ")) (dCons (dC (.str " begin")) (dCons (dC (.str "begin 1")) (dCons (dC (.str "Begin")) (dCons (dC (.str "tick")) (dCons (dC (.str "tick 01")) (dCons (dC (.str "tick -0")) (dCons (dC (.str "tick 1_0")) (dCons (dC (.str "tick +1")) (dNil))))))))))))))
    (sSeq (sSet 6 (dOp dAddV (dVar 6) (dLstV (dCons (dOp dAddV (dC (.str "tick ")) (dOp dMulS (dC (.str "9")) (dC (.int 30)))) (dCons (dOp dAddV (dC (.str "tick ")) (dOp dMulS (dC (.str "9")) (dC (.int 31)))) (dCons (dC (.str "pace 0 0 1")) (dCons (dC (.str "pace 0 0 1/2/3")) (dCons (dC (.str "pace 0 0 1/")) (dCons (dC (.str "at 1 a,")) (dNil))))))))))
    (sSeq (sSet 6 (dOp dAddV (dVar 6) (dLstV (dCons (dC (.str "at 1 a,b")) (dCons (dC (.str "at 1 ,a")) (dCons (dC (.str "at 1 A")) (dCons (dC (.str "write 0 a 1,")) (dCons (dC (.str "write 0 a 1,2,3,4,5")) (dCons (dC (.str "take 0 a Read")) (dCons (dC (.str "settle\n")) (dNil)))))))))))
    (sSeq (sFor (jSeq (dOp dAddV (dVar 6) (dLstV (dCons (dC (.str "tick\t1")) (dCons (dC .non) (dCons (dC (.int 5)) (dCons (dC (.bl true)) (dCons (dLstV (dCons (dC (.str "begin")) (dNil))) (dCons (dTup (dCons (dC (.str "begin")) (dNil))) (dCons (dEmp) (dCons (dTup (dCons (dC (.str "tick")) (dCons (dC (.int 1)) (dNil)))) (dNil)))))))))))) (.one 7)
    (l_law_3 e))
    (sRet (dC (.bl true))))))))
end P

section
open PySem PySem.Spec L2 DL
local macro_rules | `(tactic| exists $es:term,*) => `(tactic| try simp only [r_mulS, q_kget, q_kin, r_kgS, r_kiS, q_fmt, r_fmtI, r_fmtS, r_jsP, q_jsN, q_jsC, q_fstr, q_split, r_splP, r_sliVS, r_strX, q_zipG, q_callL, q_rev0, r_rev0T, q_popL, r_popLP, r_popLO, q_dispI, r_dispI, r_repT, q_starK, q_putNest, r_zipP, q_sidx, r_sidx, r_max3, r_max2T, r_maxTL, q_star, q_sortSet, r_srtSetO, q_dclr, r_clrDP, r_clrDO, q_upd, r_updP, r_updO, q_revV, r_asLK, r_revO, q_mkX, q_lstI, q_lstRg, r_lrg, r_lenD, r_frzD, q_pop1, r_pop1S, r_pop1I, r_popO1, q_eqE, r_inTT, r_inTN, r_inTK, r_inSo, r_inSn, q_srtI, q_dc, r_keyS, r_keyI, q_methK, r_metKd, r_metK, r_popS, r_popI, r_popO, r_sdfS, r_sdfI, q_items, r_itP, r_itO, r_inIR, r_inIq, r_inIo, q_disp, r_dkF, r_inF, q_augI, r_getP2, r_getO2, r_cmpA, q_makeK, q_enum, r_enumP, r_enumO, r_repK, r_addNK, r_inIK, r_inIT, q_get1, q_get2, q_dget, q_sdict, q_pop2, q_setd, q_dic, r_dictP, r_getS, r_getI, r_getO, r_dkS, r_dkI, r_dkO, r_inS, r_inI, r_inO, r_dpS, r_dpI, r_dpO, r_dicP, r_dicO, r_sortDic, r_listDic, r_dictDic, q_dapp, r_lstP, r_appP, r_appO, q_clear, r_clrP, r_clrO, q_truO, r_truOP, r_ownTru, r_boolOD, r_ownBool, q_notO, r_cmpTI, r_cmpT3, r_lenOD, r_ownLen, q_jkeys, q_jvals, r_fzP, r_fzO, q_jstr, r_strS, r_leXI, r_leXS, q_join, q_upper, r_joinP, r_upP, q_kw1, r_minT2, q_emp, q_mt1, r_isiEB, r_isiEb, r_isiEt, r_isiEs, r_isiEl, r_isiEd, r_isiER, r_isE_non, r_isX_non, r_isE_bl, r_isX_bl, r_isE_int, r_isX_int, r_isE_str, r_isX_str, r_isE_tup, r_isX_tup, r_isE_kl, r_isX_kl, r_isE_kc, r_isX_kc, r_isE_ref, r_isX_ref, r_rIsiET, r_rIsiER, r_rIsiXT, r_rIsiXR, r_isD_non_int, r_isD_non_bool, r_isD_non_tuple, r_isD_non_str, r_isD_non_list, r_isD_non_dict, r_isD_bl_int, r_isD_bl_bool, r_isD_bl_tuple, r_isD_bl_str, r_isD_bl_list, r_isD_bl_dict, r_isD_int_int, r_isD_int_bool, r_isD_int_tuple, r_isD_int_str, r_isD_int_list, r_isD_int_dict, r_isD_str_int, r_isD_str_bool, r_isD_str_tuple, r_isD_str_str, r_isD_str_list, r_isD_str_dict, r_isD_tup_int, r_isD_tup_bool, r_isD_tup_tuple, r_isD_tup_str, r_isD_tup_list, r_isD_tup_dict, r_isD_kl_int, r_isD_kl_bool, r_isD_kl_tuple, r_isD_kl_str, r_isD_kl_list, r_isD_kl_dict, r_isD_kc_int, r_isD_kc_bool, r_isD_kc_tuple, r_isD_kc_str, r_isD_kc_list, r_isD_kc_dict, r_isD_non_own, r_isD_bl_own, r_isD_int_own, r_isD_str_own, r_isD_tup_own, r_isD_kl_own, r_isD_kc_own, q_wpf, q_seq, q_set, q_ret, q_retN, q_if, q_drop, r_unp', r_par, q_next, q_brk, q_cont, q_for, sWhile, q_sub, sAug, q_rng1, r_rng1P, jRng2, q_jseq, r_seqT, r_seqK, r_seqR, r_seqL, r_ownP, q_op, r_var, r_varS, q_c, q_cons, q_nil, q_cb, q_tup, q_lst, r_test, r_tru, q_not, q_and, q_or, r_andV, r_orV, r_notV, q_if', q_un, q_call, q_slice, q_some, q_none, r_intP, r_chn, r_chnT, r_link, r_last, cp2, pw2, cp3, pw3, cp4, pw4, cp5, pw5, cp6, pw6, cp7, pw7, cp8, pw8, cp9, pw9, cp10, pw10, cp12, pw12, cp15, pw15, cp18, pw18, cp20, pw20, cp24, pw24, cp28, pw28, cp29, pw29, cp30, pw30, q_tryH, q_raise0, q_raiseX, q_xfld, r_xfld, q_setAs, q_setAs0, q_endsAs0, q_endsNx, q_endsRt, q_endsBk, q_endsCt, r_isNx, r_lcV, q_lstV, q_sliceV, q_frz, r_frzR, r_frzL, r_frzT, r_frzK, r_frzN, r_addVI, r_addVT, r_addVK, r_addVO, r_sliVK, r_sliVC, r_sliVT, r_sliVR, r_sliVL, r_listVK, r_listVC, r_listVT, r_truK, r_eqXS, r_eqXI, r_eqXT2, r_strI, r_seqC, r_ixC, r_lenC, r_sliC, q_lc, q_yes, q_make, r_nonP, q_fldg, r_eqT2, r_set0, r_set1, q_put1, q_putN, r_blP, r_boolP, r_unpP, r_parP, r_opt, r_pick, r_add, r_addT, r_addR, r_addL, r_sub, r_mul, r_div, r_mod, r_pow, r_cmp, r_lt, r_neg, r_isXB, r_isXN, r_isN, r_isNr, r_isNi, r_isNn, r_isNt, r_eqI, r_ixT, r_ixK, r_ixR, r_lstOf, r_sliT, r_sliK, r_sliR, r_sliL, r_truB, r_truI, r_truT, r_truN, r_truR, r_truL, r_max, r_min, r_intB, r_intI, r_abs, r_lenT, r_lenK, r_lenR, r_lenL, r_nat, r_set, r_setL, r_isI, r_isB, r_isT, r_fld, r_fldR, r_fldI, r_sfd, r_sfdR, r_sfdI, r_met, r_metR, r_met1, atI0, atI1, atI2, atI3, atI4, ixN1a, ixN2a, ixN2b, ixN3a, ixN3b, ixN3c, put_same, List.map_cons, List.map_nil, List.length_cons, List.length_nil, List.length_set, List.replicate, List.cons_append, List.nil_append, List.append_nil, List.getElem?_cons_zero, List.getElem?_cons_succ, List.set_cons_zero, List.set_cons_succ, true_and, and_true, Option.some.injEq, if_true, if_false, ite_true, ite_false, reduceIte, Bool.not_true, Bool.not_false, Bool.false_eq_true, Nat.reduceAdd, Nat.reduceLeDiff, $[$es:term],*])
namespace P
open PySem PySem.Spec L2 DL
/-! ### the row of draws -/
def Row (G : HD) (a : Addr) : Prop := ∃ (x y : Int) (z : Bool), 0 ≤ x ∧ G a = some (.lst [.int x, .int y, .bl z])
theorem Row.le {G G' : HD} {a : Addr} (h : Row G a) (l : Le G G') : Row G' a := let ⟨x, y, z, h0, h1⟩ := h; ⟨x, y, z, h0, l _ _ h1⟩
theorem Row.fr {G G' : HD} {a : Addr} {A : List Addr} (h : Row G a) (l : Fr A G G') (n : a ∉ A) : Row G' a := let ⟨x, y, z, h0, h1⟩ := h; ⟨x, y, z, h0, l _ _ n h1⟩
theorem Row.ins {G : HD} {a p C : Addr} {fs : List (Str × D)} (h : Row G a) (hp : G p = some (.ins C fs)) : a ≠ p := by
  obtain ⟨_, _, _, _, h1⟩ := h; rintro rfl; rw [h1] at hp; cases hp
theorem begun_ok {e : Env} {G : HD} {ns : List Int} {k : Nat} {Q : Post} {E : DX} (h9 : k < 100) (hl : ns.length ≤ 63) (hQ : ∀ p G', Row G' p → Le G G' → G p = none → Q (.ref p) G') : w_law_begun e [.kc (ns.map D.int), .int k] G Q E := by
  unfold w_law_begun
  exists if_true
  have hc : cutD (ns.map D.int) (some (k : Int)) (some ((k : Int) + 1)) = (((ns.drop (HT.sIx (ns.map D.int).length 0 (some (k : Int)))).take (HT.sIx (ns.map D.int).length (ns.map D.int).length (some ((k : Int) + 1)) - HT.sIx (ns.map D.int).length 0 (some (k : Int)))).map D.int) := by
    unfold cutD
    rw [List.map_take, List.map_drop]
  have hl : (cutD (ns.map D.int) (some (k : Int)) (some ((k : Int) + 1))).length ≤ 1 := by
    have hz : HT.sIx (ns.map D.int).length (ns.map D.int).length (some ((k : Int) + 1)) - HT.sIx (ns.map D.int).length 0 (some (k : Int)) ≤ 1 := by
      simp only [HT.sIx]; split <;> split <;> omega
    unfold cutD
    rw [List.length_take]; omega
  obtain ⟨c, hcc⟩ : ∃ c, atI (cutD (ns.map D.int) (some (k : Int)) (some ((k : Int) + 1)) ++ [D.int 0]) 0 = some (.int c) := by
    rw [hc]
    cases (ns.drop (HT.sIx (ns.map D.int).length 0 (some (k : Int)))).take (HT.sIx (ns.map D.int).length (ns.map D.int).length (some ((k : Int) + 1)) - HT.sIx (ns.map D.int).length 0 (some (k : Int))) with
    | nil => exact ⟨0, atI0⟩
    | cons c _ => exact ⟨c, atI0⟩
  exists hcc
  refine ⟨by have : sizeLine ≥ 100 := by decide
             omega, by omega, mul_l (by omega) (by omega), mul_l (by omega) (by omega), mul_r (by omega) (by omega), by omega, newL_in fun p G1 hp _ h1 l1 _ => fg_in (hQ _ _ ⟨_, _, _, ?_, h1⟩ l1 hp)⟩
  split <;> omega
theorem take_ok {e : Env} {G : HD} {a : Addr} {n : Int} {Q : Post} {E : DX} (hG : Row G a) (hn : 0 < n) (hn2 : n < 2 ^ 100) (hQ : ∀ r G', 0 ≤ r → r < n → Row G' a → Fr [a] G G' → Q (.int r) G') : w_law_take e [.ref a, .int n] G Q E := by
  obtain ⟨x, y, z, hx, hG⟩ := hG
  unfold w_law_take
  exists hG
  split
  · refine ⟨hn, wide_div (b := 100) hn (by omega) (by omega) (by omega), fg_in (hQ _ _ (Int.emod_nonneg _ (by omega)) (Int.emod_lt_of_pos _ hn) ⟨x / n, y, decide (0 < x / n), Int.ediv_nonneg hx (by omega), put_same⟩ (Fr.trans (Fr.put List.mem_cons_self) (Fr.put List.mem_cons_self)))⟩
  · refine ⟨by split <;> omega, by split <;> omega, ?_⟩
    refine forR_inv (I := fun _ σ G' => (∃ m : Int, ∃ w, 0 ≤ m ∧ σ = [some (.ref a), some (.int n), none, some (.int m), w]) ∧ Row G' a ∧ Fr [a] G G') (fun _ => trivial) (fun i k σ G' hi hI hk => ?_) (fun σ G' hI => ?_) ⟨⟨0, none, by omega, rfl⟩, ⟨x, y, z, hx, hG⟩, Fr.refl⟩
    · obtain ⟨⟨m, w, hm, rfl⟩, ⟨x', y', z', hx', hG'⟩, fr⟩ := hI
      unfold l_law_take_1
      exists hG'
      refine ⟨mul_r (by omega) (by omega), by omega, mul_r (by omega) (by omega), ?_, by omega, ?_⟩
      · exact mul_l (by omega) (by omega)
      · refine hk _ _ ⟨⟨_, _, ?_, rfl⟩, ⟨x', _, z', hx', put_same⟩, fr.trans (Fr.put List.mem_cons_self)⟩
        have := Int.emod_nonneg ((y' * 48271 + 11) % 2147483647 * ((y' * 48271 + 11) % 2147483647)) (b := 2147483587) (by omega)
        omega
    · obtain ⟨⟨m, w, hm, rfl⟩, hR, fr⟩ := hI
      exists if_true
      exact ⟨div_s (by omega) (by omega), hn, fg_in (hQ _ _ (Int.emod_nonneg _ (by omega)) (Int.emod_lt_of_pos _ hn) hR fr)⟩
theorem lc_filter {step : D → (D → HD → Prop) → (HD → Prop) → HD → Prop} {fin : List D → HD → Prop} {f : D → Bool} : ∀ {xs acc : List D} {G : HD}, (∀ x ∈ xs, ∀ (ky : D → HD → Prop) (kn : HD → Prop) (G : HD), (if f x = true then ky x G else kn G) → step x ky kn G) → fin (acc ++ xs.filter f) G → lcD (fun _ => True) step fin xs acc G
  | [], acc, G, _, hf => ⟨G, Le.refl _, trivial, by simpa using hf⟩
  | x :: xs, acc, G, h, hf => by
    refine ⟨G, Le.refl _, trivial, h x List.mem_cons_self _ _ _ ?_⟩
    cases hx : f x with
    | true => rw [if_pos rfl]; exact lc_filter (fun y hy => h y (List.mem_cons_of_mem _ hy)) (by rw [List.filter_cons_of_pos hx] at hf; simpa using hf)
    | false => rw [if_neg (by decide)]; exact lc_filter (fun y hy => h y (List.mem_cons_of_mem _ hy)) (by rw [List.filter_cons_of_neg (by rw [hx]; decide)] at hf; exact hf)
theorem lc_map {step : D → (D → HD → Prop) → (HD → Prop) → HD → Prop} {fin : List D → HD → Prop} {f : D → D} : ∀ {xs acc : List D} {G : HD}, (∀ x ∈ xs, ∀ (ky : D → HD → Prop) (kn : HD → Prop) (G : HD), ky (f x) G → step x ky kn G) → fin (acc ++ xs.map f) G → lcD (fun _ => True) step fin xs acc G
  | [], acc, G, _, hf => ⟨G, Le.refl _, trivial, by simpa using hf⟩
  | x :: xs, acc, G, h, hf => ⟨G, Le.refl _, trivial, h x List.mem_cons_self _ _ _ (lc_map (fun y hy => h y (List.mem_cons_of_mem _ hy)) (by simpa using hf))⟩
theorem lc_all {step : D → (D → HD → Prop) → (HD → Prop) → HD → Prop} {fin : List D → HD → Prop} {I : List D → HD → Prop} (h : ∀ x acc (ky : D → HD → Prop) (kn : HD → Prop) (G : HD), I acc G → (∀ y G', I (acc ++ [y]) G' → ky y G') → step x ky kn G) : ∀ {xs acc : List D} {G : HD}, (∀ acc' G', I acc' G' → acc'.length = acc.length + xs.length → fin acc' G') → I acc G → lcD (fun _ => True) step fin xs acc G
  | [], acc, G, hf, hI => ⟨G, Le.refl _, trivial, hf _ _ hI (by simp)⟩
  | x :: xs, acc, G, hf, hI => ⟨G, Le.refl _, trivial, h x acc _ _ _ hI fun y G' hI' => lc_all h (fun acc' G'' h1 h2 => hf _ _ h1 (by simp at h2 ⊢; omega)) hI'⟩
theorem r_allB {p : List Bool → Bool} {bs : List Bool} {G : HD} {Q : Post} : rAllD p [.kl (bs.map D.bl)] G Q = Q (.bl (p bs)) G := by
  unfold rAllD
  show (match asBls (bs.map D.bl) with | some ns => Q (.bl (p ns)) G | none => False) = _
  rw [asBls_map]
end P
namespace P
open PySem PySem.Spec L2 DL
/-! ### texts as lists of signs; numbers in them -/
def tl (x : Str) : List Nat := x.cps.toList
theorem tl_ext {x y : Str} (h : tl x = tl y) : x = y := by
  obtain ⟨⟨a⟩⟩ := x; obtain ⟨⟨b⟩⟩ := y
  have h : a = b := h
  subst h; rfl
theorem tl_len (x : Str) : (tl x).length = x.length := Array.length_toList
theorem tl_cut {x : Str} {lo hi : Option Int} : tl (cutS x lo hi) = ((tl x).drop (HT.sIx x.length 0 lo)).take (HT.sIx x.length x.length hi - HT.sIx x.length 0 lo) := rfl
theorem tl_cut0 {x : Str} {k : Nat} : tl (cutS x none (some (k : Int))) = (tl x).take k := by
  rw [tl_cut, HT.sIx_none, HT.sIx_nat, List.drop_zero, Nat.sub_zero]
  by_cases h : k ≤ x.length
  · rw [Nat.min_eq_left h]
  · rw [Nat.min_eq_right (by omega), List.take_of_length_le (by rw [tl_len]; omega), List.take_of_length_le (by rw [tl_len]; omega)]
theorem tl_cut1 {x : Str} {k : Nat} : tl (cutS x (some (k : Int)) none) = (tl x).drop k := by
  rw [tl_cut, HT.sIx_none, HT.sIx_nat]
  by_cases h : k ≤ x.length
  · rw [Nat.min_eq_left h, List.take_of_length_le (by rw [List.length_drop, tl_len]; omega)]
  · rw [Nat.min_eq_right (by omega), List.drop_of_length_le (by rw [tl_len]; omega), List.drop_of_length_le (by rw [tl_len]; omega), List.take_nil]
/-- the signs behind a minus -/
def figL (l : List Nat) : List Nat := if l.take 1 = [45] then l.drop 1 else l
def signed (l : List Nat) : Int := if l.take 1 = [45] then -((NumText.digitsVal (l.drop 1) : Nat) : Int) else ((NumText.digitsVal l : Nat) : Int)
def fig (c : Nat) : Bool := decide (48 ≤ c ∧ c ≤ 57)
def figOk (l : List Nat) : Bool := decide (1 ≤ (figL l).length ∧ (figL l).length ≤ 30) && (figL l).all fig
def numD (x : Str) : D := if figOk (tl x) = true then (if decide ((toString (signed (tl x)) : Str) = x) = true then .int (signed (tl x)) else .non) else .non
theorem minus_tl : tl (Str.ofString "-") = [45] := by decide +kernel
theorem figs_tl : tl (Str.ofString "0123456789") = (List.range 10).map (· + 48) := by decide +kernel
theorem mem_fig {c : Nat} : decide (c ∈ (Str.ofString "0123456789").cps.toList) = fig c := by
  unfold fig
  show decide (c ∈ tl (Str.ofString "0123456789")) = _
  rw [figs_tl, decide_eq_decide]
  simp only [List.mem_map, List.mem_range]
  constructor
  · rintro ⟨a, h, rfl⟩; omega
  · intro h; exact ⟨c - 48, by omega, by omega⟩
section
variable {e : Env} {G : HD} {Q : Post} {E : DX} {x y : Str}
theorem i_lenS (h : x.length ≤ 1000000) (q : Q (.int (x.length : Nat)) G) : DL.rLen [.str x] G Q := by
  have hs := million h
  unfold DL.rLen DL.lenD
  simp only [hs, if_true]
  exact q
def figD : D → Bool
  | .str y => (tl y).all fig
  | _ => false
theorem figD_c {c : Nat} : figD (.str ⟨#[c]⟩) = fig c := by simp [figD, tl]
theorem signs_fig (y : Str) : (signs y).map (fun d => D.bl (figD d)) = ((tl y).map fig).map D.bl := by
  unfold signs
  rw [List.map_map, List.map_map]
  apply List.map_congr_left
  intro c _
  show D.bl (figD (.str ⟨#[c]⟩)) = D.bl (fig c)
  rw [figD_c]
theorem allD_of {l : List Nat} (h : l.all fig = true) : NumText.AllDigits l := fun c hc => of_decide_eq_true (List.all_eq_true.mp h c hc)
theorem digits_lt : ∀ {l : List Nat}, NumText.AllDigits l → ∀ a : Nat, l.foldl (fun acc c => acc * 10 + (c - 48)) a + 1 ≤ (a + 1) * 10 ^ l.length
  | [], _, a => by simp
  | c :: l, h, a => by
    have ih := digits_lt (l := l) h.tail (a * 10 + (c - 48))
    have hc := h.head
    rw [List.foldl_cons, List.length_cons, Nat.pow_succ]
    refine Nat.le_trans ih ?_
    rw [Nat.mul_comm (10 ^ l.length) 10, ← Nat.mul_assoc]
    exact Nat.mul_le_mul_right _ (by omega)
theorem digVal_lt {l : List Nat} (h : NumText.AllDigits l) : NumText.digitsVal l < 10 ^ l.length := by
  have := digits_lt h 0
  unfold NumText.digitsVal
  omega
theorem figOk_int (h : figOk (tl x) = true) : PySem.intText? x = some (signed (tl x)) ∧ x.length ≤ 31 ∧ (signed (tl x)).natAbs < 10 ^ 30 := by
  unfold figOk at h
  rw [Bool.and_eq_true, decide_eq_true_eq] at h
  obtain ⟨⟨h1, h2⟩, h3⟩ := h
  have h3 := allD_of h3
  have hp : ∀ {k : Nat}, k ≤ 30 → 10 ^ k ≤ 10 ^ 30 := fun hk => Nat.pow_le_pow_right (by decide) hk
  unfold figL at h1 h2 h3
  unfold signed
  have hl := tl_len x
  by_cases hm : (tl x).take 1 = [45]
  · rw [if_pos hm] at h1 h2 h3 ⊢
    have ex : tl x = 45 :: (tl x).drop 1 := by
      have := List.take_append_drop 1 (tl x)
      rw [hm] at this
      exact this.symm
    have l31 : x.length ≤ 31 := by
      rw [← hl, ex, List.length_cons]
      omega
    refine ⟨PySem.intText_neg ex h3 (by intro z; rw [z] at h1; simp at h1) (by omega), l31, ?_⟩
    rw [Int.natAbs_neg, Int.natAbs_natCast]
    exact Nat.lt_of_lt_of_le (digVal_lt h3) (hp h2)
  · rw [if_neg hm] at h1 h2 h3 ⊢
    refine ⟨PySem.intText_digits h3 (by intro z; rw [show tl x = [] from z] at h1; simp at h1) (by omega), by omega, ?_⟩
    rw [Int.natAbs_natCast]
    exact Nat.lt_of_lt_of_le (digVal_lt h3) (hp h2)
theorem log_lt {n : Nat} (h : n < 10 ^ 30) : n.log2 < 1920 := by
  by_cases h0 : n = 0
  · subst h0; decide
  · exact Nat.lt_trans ((Nat.log2_lt (k := 100) h0).mpr (Nat.lt_of_lt_of_le h (by decide))) (by decide)
theorem i_intS {n : Int} (h : PySem.intText? x = some n) (h1 : x.length ≤ 640) (q : Q (.int n) G) : rIntS [.str x] G Q := ⟨n, h, h1, q⟩
theorem number_ok (hx : x.length ≤ 1000000) (hQ : Q (numD x) G) : w_number_in e [.str x] G Q E := by
  have hl := tl_len x
  unfold w_number_in
  exists if_true
  refine ⟨million hx, ?_⟩
  split
  case' isTrue h =>
    have hm : (tl x).take 1 = [45] := by
      have h := of_decide_eq_true h
      rw [← tl_cut0 (x := x) (k := 1), show cutS x none (some ((1 : Nat) : Int)) = _ from h, minus_tl]
    have hy : tl (cutS x (some 1) none) = figL (tl x) := by
      unfold figL
      rw [if_pos hm]
      exact tl_cut1 (k := 1)
    have hyl : (cutS x (some 1) none).length = (figL (tl x)).length := by rw [← hy, tl_len]
    have hyx : (figL (tl x)).length ≤ 1000000 := by
      rw [← hyl]
      have := tl_len (cutS x (some 1) none)
      rw [hy] at this
      rw [← this]
      unfold figL
      rw [if_pos hm, List.length_drop]
      omega
    refine ⟨million hx, ?_⟩
  case' isFalse h =>
    have hm : (tl x).take 1 ≠ [45] := by
      intro hm
      refine h (decide_eq_true (tl_ext ?_))
      rw [minus_tl, ← hm]
      exact tl_cut0 (k := 1)
    have hy : tl x = figL (tl x) := by
      unfold figL
      rw [if_neg hm]
    have hyl : x.length = (figL (tl x)).length := by rw [← hy, hl]
    have hyx : (figL (tl x)).length ≤ 1000000 := by omega
  all_goals
    refine i_lenS (by omega) ?_
    exists if_true
    split
    · rename_i c1
      replace c1 := of_decide_eq_true c1
      split
      · rename_i c2
        refine fg_in ?_
        have hn : numD x = .non := by
          unfold numD
          refine if_neg fun h => ?_
          unfold figOk at h
          rw [Bool.and_eq_true, decide_eq_true_eq] at h
          have c2 : ¬ (_ : Int) ≤ 30 := of_decide_eq_false (by simpa using c2)
          exact c2 (by omega)
        rw [hn] at hQ
        exact hQ
      · rename_i c2
        have c2 : (_ : Int) ≤ 30 := of_decide_eq_true (by simpa using c2)
        have hf : figOk (tl x) = (figL (tl x)).all fig := by
          unfold figOk
          rw [decide_eq_true (by omega), Bool.true_and]
        refine ⟨by rw [signs_len]; exact Nat.le_trans (Nat.le_of_eq hyl) hyx, lc_map (f := fun d => .bl (figD d)) (fun z hz ky kn G hk => ?_) ?_⟩
        · exists dwipe
          unfold signs at hz
          obtain ⟨c, hc, rfl⟩ := List.mem_map.mp hz
          refine i_inS ?_
          rw [if_neg (by decide), mem_fig, ← figD_c]
          exact hk
        · rw [List.nil_append, signs_fig, r_allB, hy]
          exists if_true
          have ea : (((figL (tl x)).map fig).all id) = (figL (tl x)).all fig := by rw [List.all_map]; rfl
          rw [ea, ← hf]
          split
          · rename_i c3
            refine fg_in ?_
            have hn : numD x = .non := by
              unfold numD
              exact if_neg fun h => by rw [h] at c3; cases c3
            rw [hn] at hQ
            exact hQ
          · rename_i c3
            have c3 : figOk (tl x) = true := by simpa using c3
            obtain ⟨i1, i2, i3⟩ := figOk_int c3
            refine i_intS i1 (by omega) ?_
            exists if_true
            refine ⟨log_lt i3, ?_⟩
            split
            · rename_i c4
              refine i_intS i1 (by omega) (fg_in ?_)
              have hn : numD x = .int (signed (tl x)) := by
                unfold numD
                rw [if_pos c3, if_pos c4]
              rw [hn] at hQ
              exact hQ
            · rename_i c4
              refine fg_in ?_
              have hn : numD x = .non := by
                unfold numD
                rw [if_pos c3, if_neg c4]
              rw [hn] at hQ
              exact hQ
    · rename_i c1
      refine fg_in ?_
      have hn : numD x = .non := by
        unfold numD
        refine if_neg fun h => ?_
        unfold figOk at h
        rw [Bool.and_eq_true, decide_eq_true_eq] at h
        exact c1 (decide_eq_true (by omega))
      rw [hn] at hQ
      exact hQ
end
end P
namespace P
open PySem PySem.Spec L2 DL
open TL (spl spl_hit spl_miss spl_nil pre pre_of_head kind_ok split_spl)
/-! ### keys, words of several parts -/
def letter (c : Nat) : Bool := decide (97 ≤ c ∧ c ≤ 122)
theorem abc_tl : tl (Str.ofString "abcdefghijklmnopqrstuvwxyz") = (List.range 26).map (· + 97) := by decide +kernel
theorem mem_abc {c : Nat} : decide (c ∈ (Str.ofString "abcdefghijklmnopqrstuvwxyz").cps.toList) = letter c := by
  unfold letter
  show decide (c ∈ tl (Str.ofString "abcdefghijklmnopqrstuvwxyz")) = _
  rw [abc_tl, decide_eq_decide]
  simp only [List.mem_map, List.mem_range]
  constructor
  · rintro ⟨a, h, rfl⟩; omega
  · intro h; exact ⟨c - 97, by omega, by omega⟩
def letD : D → Bool
  | .str y => (tl y).all letter
  | _ => false
theorem letD_c {c : Nat} : letD (.str ⟨#[c]⟩) = letter c := by simp [letD, tl]
theorem signs_let (y : Str) : (signs y).map (fun d => D.bl (letD d)) = ((tl y).map letter).map D.bl := by
  unfold signs
  rw [List.map_map, List.map_map]
  apply List.map_congr_left
  intro c _
  show D.bl (letD (.str ⟨#[c]⟩)) = D.bl (letter c)
  rw [letD_c]
def keyB (x : Str) : Bool := decide (1 ≤ x.length ∧ x.length ≤ 6) && (tl x).all letter
def keyD (x : Str) : D := if keyB x = true then .str x else .non
def modeD (x : Str) : D := if x = "read" ∨ x = "write" then .str x else .non
def numsD (x m : Str) : D := if ((Txt.split x m).map numD).any isNon = true then .non else .tup ((Txt.split x m).map numD)
def lenT : D → Nat
  | .tup l => l.length
  | _ => 0
def worthD (x : Str) : D := if isNon (numsD x ",") = true then .non else if lenT (numsD x ",") ≤ 4 then numsD x "," else .non
def paceD (x : Str) : D := if isNon (numsD x "/") = true then .non else if lenT (numsD x "/") = 2 then numsD x "/" else .non
def keysD (x : Str) : D := if ((Txt.split x ",").all keyB) = true then .tup ((Txt.split x ",").map .str) else .non
/-! parts of a text -/
theorem spl1_hit {s : Nat} {acc r : List Nat} : spl [s] 0 acc (s :: r) = acc :: spl [s] 0 [] r := spl_hit (S := [s]) (by simp [pre])
theorem spl1_miss {s c : Nat} {acc r : List Nat} (h : c ≠ s) : spl [s] 0 acc (c :: r) = spl [s] 0 (acc ++ [c]) r := spl_miss (S := [s]) (pre_of_head [] r h)
theorem spl1_len {s : Nat} : ∀ (l acc : List Nat), ∀ p ∈ spl [s] 0 acc l, p.length ≤ acc.length + l.length
  | [], acc, p, hp => by
    rw [spl_nil] at hp
    obtain rfl := List.mem_singleton.mp hp
    simp
  | c :: r, acc, p, hp => by
    by_cases h : c = s
    · subst h
      rw [spl1_hit] at hp
      rcases List.mem_cons.mp hp with rfl | hp
      · simp
      · have := spl1_len r [] p hp
        simp at this ⊢
        omega
    · rw [spl1_miss h] at hp
      have := spl1_len r (acc ++ [c]) p hp
      simp at this ⊢
      omega
theorem spl1_count {s : Nat} : ∀ (l acc : List Nat), (spl [s] 0 acc l).length ≤ l.length + 1
  | [], acc => by rw [spl_nil]; simp
  | c :: r, acc => by
    by_cases h : c = s
    · subst h
      rw [spl1_hit, List.length_cons, List.length_cons]
      have := spl1_count (s := c) r []
      omega
    · rw [spl1_miss h, List.length_cons]
      have := spl1_count (s := s) r (acc ++ [c])
      omega
theorem split_tl {x m : Str} {s : Nat} (hm : tl m = [s]) (hs : s < 256) : (Txt.split x m).map tl = spl [s] 0 [] (tl x) := by
  have hk : ¬ Builtin.Str.strKind x < Builtin.Str.strKind m := kind_ok (by
    have e : m = ⟨#[s]⟩ := tl_ext hm
    rw [e]; simp [hs])
  have := split_spl x m (by rw [show TL.tl m = [s] from hm]; simp) hk
  rw [show TL.tl m = [s] from hm] at this
  exact this
theorem split_mem {x m : Str} {s : Nat} (hm : tl m = [s]) (hs : s < 256) {p : Str} (hp : p ∈ Txt.split x m) : p.length ≤ x.length := by
  have h : tl p ∈ spl [s] 0 [] (tl x) := by rw [← split_tl hm hs]; exact List.mem_map_of_mem hp
  have := spl1_len _ _ _ h
  rw [tl_len, tl_len] at this
  simpa using this
theorem split_count {x m : Str} {s : Nat} (hm : tl m = [s]) (hs : s < 256) : (Txt.split x m).length ≤ x.length + 1 := by
  have := spl1_count (s := s) (tl x) []
  rw [← split_tl hm hs, List.length_map, tl_len] at this
  exact this
theorem comma_tl : tl (Str.ofString ",") = [44] := by decide +kernel
theorem slash_tl : tl (Str.ofString "/") = [47] := by decide +kernel
theorem space_tl : tl (Str.ofString " ") = [32] := by decide +kernel
theorem numD_py (G : HD) (x : Str) : ∃ p, pyD 8 G (numD x) = some p := by
  unfold numD
  split
  · split
    · exact ⟨_, rfl⟩
    · exact ⟨_, rfl⟩
  · exact ⟨_, rfl⟩
theorem mapM_some {α β : Type} {f : α → Option β} : ∀ {l : List α}, (∀ a ∈ l, ∃ b, f a = some b) → ∃ bs, l.mapM f = some bs
  | [], _ => ⟨[], by simp⟩
  | a :: l, h => by
    obtain ⟨b, e1⟩ := h a List.mem_cons_self
    obtain ⟨bs, e2⟩ := mapM_some (l := l) fun c hc => h c (List.mem_cons_of_mem _ hc)
    exact ⟨b :: bs, by rw [List.mapM_cons, e1, e2]; rfl⟩
section
variable {e : Env} {G : HD} {Q : Post} {E : DX} {x y m : Str}
theorem key_ok (hx : x.length ≤ 1000000) (hQ : Q (.bl (keyB x)) G) : w_is_key e [.str x] G Q E := by
  have hl := tl_len x
  unfold w_is_key
  exists if_true
  refine i_lenS hx ?_
  exists if_true
  by_cases h1 : 1 ≤ x.length
  · by_cases h2 : x.length ≤ 6
    · exists show (1 : Int) ≤ (x.length : Nat) by omega, show ((x.length : Nat) : Int) ≤ 6 by omega, decide_true
      have hQ' : Q (.bl ((tl x).all letter)) G := by
        unfold keyB at hQ
        rw [decide_eq_true ⟨h1, h2⟩, Bool.true_and] at hQ
        exact hQ
      refine ⟨by rw [signs_len]; exact hx, lc_map (f := fun d => .bl (letD d)) (fun z hz ky kn G hk => ?_) ?_⟩
      · exists dwipe
        unfold signs at hz
        obtain ⟨c, hc, rfl⟩ := List.mem_map.mp hz
        refine i_inS ?_
        rw [if_neg (by decide), mem_abc, ← letD_c]
        exact hk
      · rw [List.nil_append, signs_let, r_allB]
        refine fg_in ?_
        rw [List.all_map]
        exact hQ'
    · exists show (1 : Int) ≤ (x.length : Nat) by omega, show ¬ ((x.length : Nat) : Int) ≤ 6 by omega, decide_true, decide_false
      refine fg_in ?_
      unfold keyB at hQ
      rw [decide_eq_false (by omega), Bool.false_and] at hQ
      exact hQ
  · exists show ¬ (1 : Int) ≤ (x.length : Nat) by omega, decide_false
    refine fg_in ?_
    unfold keyB at hQ
    rw [decide_eq_false (by omega), Bool.false_and] at hQ
    exact hQ
theorem keyin_ok (hx : x.length ≤ 1000000) (hQ : Q (keyD x) G) : w_key_in e [.str x] G Q E := by
  unfold w_key_in
  exists if_true
  refine key_ok hx ?_
  exists if_true
  unfold keyD at hQ
  split
  · rename_i h; rw [if_pos h] at hQ; exact fg_in hQ
  · rename_i h; rw [if_neg h] at hQ; exact fg_in hQ
theorem i_tupK {l : List D} (q : Q (.tup l) G) : rTuple [.kl l] G Q := q
theorem modein_ok (hQ : Q (modeD x) G) : w_mode_in e [.str x] G Q E := by
  unfold w_mode_in
  exists if_true
  show inSo false (some [Str.ofString "read", Str.ofString "write"]) (.str x) G _
  exists if_true
  unfold modeD at hQ
  split
  · rename_i h
    have h : x ∈ [Str.ofString "read", Str.ofString "write"] := by simpa using h
    rw [if_pos (by simpa using h)] at hQ
    exact fg_in hQ
  · rename_i h
    have h : ¬ x ∈ [Str.ofString "read", Str.ofString "write"] := by simpa using h
    rw [if_neg (by simpa using h)] at hQ
    exact fg_in hQ
theorem numbers_ok {s : Nat} (hm : tl m = [s]) (hs : s < 256) (hx : x.length ≤ 100000) (hQ : Q (numsD x m) G) : w_numbers_in e [.str x, .str m] G Q E := by
  have hc := split_count (x := x) hm hs
  have hml : m.length = 1 := by rw [← tl_len, hm]; rfl
  have hz := million (n := x.length + 2) (by omega)
  unfold w_numbers_in
  exists if_true
  refine ⟨⟨_, rfl⟩, by rw [hml]; rfl, hz, by rw [List.length_map]; omega, lc_map (f := fun d => match d with | .str p => numD p | _ => .non) (fun z hz ky kn G hk => ?_) ?_⟩
  · obtain ⟨p, hp, rfl⟩ := List.mem_map.mp hz
    exists dwipe
    exact number_ok (Nat.le_trans (split_mem hm hs hp) (by omega)) hk
  · have e1 : ((Txt.split x m).map D.str).map (fun d => match d with | .str p => numD p | _ => .non) = (Txt.split x m).map numD := by rw [List.map_map]; rfl
    rw [List.nil_append, e1]
    obtain ⟨ps, hps⟩ := mapM_some (f := pyD 8 G) (l := (Txt.split x m).map numD) fun a ha => by
      obtain ⟨p, _, rfl⟩ := List.mem_map.mp ha
      exact numD_py G p
    refine i_inN (b := ((Txt.split x m).map numD).any isNon) rfl hps rfl ?_
    exists if_true
    unfold numsD at hQ
    split
    · rename_i h; rw [if_pos h] at hQ; exact fg_in hQ
    · rename_i h; rw [if_neg h] at hQ
      exact i_tupK (fg_in hQ)
theorem worthin_ok (hx : x.length ≤ 100000) (hQ : Q (worthD x) G) : w_worth_in e [.str x] G Q E := by
  unfold w_worth_in
  exists if_true
  refine numbers_ok comma_tl (by decide) hx ?_
  unfold worthD at hQ
  have ht : isNon (numsD x ",") = true ∧ numsD x "," = .non ∨ ∃ l, numsD x "," = .tup l := by
    unfold numsD
    split
    · exact .inl ⟨rfl, rfl⟩
    · exact .inr ⟨_, rfl⟩
  rcases ht with ⟨h1, h2⟩ | ⟨l, hl⟩
  · rw [if_pos h1] at hQ
    rw [h2]
    exists if_true
    exact fg_in hQ
  · rw [hl] at hQ ⊢
    rw [if_neg (by intro z; cases z)] at hQ
    exists if_true
    have hQ : Q (if l.length ≤ 4 then .tup l else .non) G := hQ
    split
    · rename_i h; rw [if_pos (by have := of_decide_eq_true h; omega)] at hQ; exact fg_in hQ
    · rename_i h; rw [if_neg (fun z => h (decide_eq_true (by omega)))] at hQ; exact fg_in hQ
theorem pacein_ok (hx : x.length ≤ 100000) (hQ : Q (paceD x) G) : w_pace_in e [.str x] G Q E := by
  unfold w_pace_in
  exists if_true
  refine numbers_ok slash_tl (by decide) hx ?_
  unfold paceD at hQ
  have ht : isNon (numsD x "/") = true ∧ numsD x "/" = .non ∨ ∃ l, numsD x "/" = .tup l := by
    unfold numsD
    split
    · exact .inl ⟨rfl, rfl⟩
    · exact .inr ⟨_, rfl⟩
  rcases ht with ⟨h1, h2⟩ | ⟨l, hl⟩
  · rw [if_pos h1] at hQ
    rw [h2]
    exists if_true
    exact fg_in hQ
  · rw [hl] at hQ ⊢
    rw [if_neg (by intro z; cases z)] at hQ
    exists if_true
    have hQ : Q (if l.length = 2 then .tup l else .non) G := hQ
    split
    · rename_i h; rw [if_pos (by have := of_decide_eq_true h; omega)] at hQ; exact fg_in hQ
    · rename_i h; rw [if_neg (fun z => h (decide_eq_true (by omega)))] at hQ; exact fg_in hQ
theorem keysin_ok (hx : x.length ≤ 100000) (hQ : Q (keysD x) G) : w_keys_in e [.str x] G Q E := by
  have hc := split_count (x := x) comma_tl (by decide)
  have hz := million (n := x.length + 2) (by omega)
  unfold w_keys_in
  exists if_true
  refine ⟨⟨_, rfl⟩, rfl, hz, by rw [List.length_map]; omega, lc_map (f := fun d => match d with | .str p => .bl (keyB p) | _ => .non) (fun z hz ky kn G hk => ?_) ?_⟩
  · obtain ⟨p, hp, rfl⟩ := List.mem_map.mp hz
    exists dwipe
    exact key_ok (Nat.le_trans (split_mem comma_tl (by decide) hp) (by omega)) hk
  · have e1 : ((Txt.split x ",").map D.str).map (fun d => match d with | .str p => .bl (keyB p) | _ => .non) = ((Txt.split x ",").map keyB).map D.bl := by rw [List.map_map, List.map_map]; rfl
    rw [List.nil_append, e1, r_allB]
    exists if_true
    have ea : ((Txt.split x ",").map keyB).all id = (Txt.split x ",").all keyB := by rw [List.all_map]; rfl
    rw [ea]
    unfold keysD at hQ
    split
    · rename_i h; rw [if_pos h] at hQ; exact i_tupK (fg_in hQ)
    · rename_i h; rw [if_neg h] at hQ; exact fg_in hQ
end
end P
namespace P
open PySem PySem.Spec L2 DL
/-! ### the words and their kinds -/
def KS : List (Str × Str) := [("tick", "n"), ("set", "nnnn"), ("pace", "nnp"), ("stop", "nn"), ("back", "nn"), ("choose", "nn"), ("renew", "n"), ("catch", "nn"), ("mark", "n"), ("gone", "nn"), ("begin", ""), ("again", "n"), ("take", "nkm"), ("read", "nk"), ("write", "nkw"), ("finish", "n"), ("tell", "n"), ("stay", "n"), ("deliver", "n"), ("lose", "n"), ("question", "n"), ("at", "ns"), ("copy", "nns"), ("now", "ns"), ("move", "kn"), ("form", "nn"), ("settle", "")]
def kindsKV : List (Key × D) := KS.map fun p => (Sum.inr p.1, .str p.2)
theorem upd_step {G1 : HD} {p : Addr} {L M : List (Key × D)} {K : Post} (h : G1 p = some (.dK L)) (hb : L.length + M.length ≤ 1000000) (hK : ∀ G2, G2 p = some (.dK (mergeKD L M)) → Fr [p] G1 G2 → K .non G2) :
    (∃ l, G1 p = some (.dK l)) ∧ ∀ q, G1 q = none → p ≠ q ∧ updO (put (put G1 q (.dK [])) q (.dK M) p) (some (.dK M)) p (put (put G1 q (.dK [])) q (.dK M)) K := by
  refine ⟨⟨L, h⟩, fun q hq => ?_⟩
  have hne : p ≠ q := by rintro rfl; rw [h] at hq; cases hq
  refine ⟨hne, ?_⟩
  rw [put_ne hne, put_ne hne, h]
  refine ⟨hb, hK _ put_same fun b o hb e => ?_⟩
  have hbp : b ≠ p := by simpa using hb
  have hbq : b ≠ q := by rintro rfl; rw [e] at hq; cases hq
  rw [put_ne hbp, put_ne hbq, put_ne hbq]
  exact e
section
variable {e : Env} {G : HD} {Q : Post} {E : DX} {x y m : Str}
theorem kinds_ok (hQ : ∀ p, G p = none → Q (.ref p) (put G p (.dK kindsKV))) : w_law_kinds e [] G Q E := by
  unfold w_law_kinds
  exists if_true
  intro p hp
  refine ⟨⟨_, rfl⟩, (upd_step put_same ?_ fun G2 h2 f2 => ?_).2⟩
  · decide +kernel
  refine upd_step h2 ?_ fun G3 h3 f3 => ?_
  · decide +kernel
  refine upd_step h3 ?_ fun G4 h4 f4 => ?_
  · decide +kernel
  refine upd_step h4 ?_ fun G5 h5 f5 => ?_
  · decide +kernel
  refine upd_step h5 ?_ fun G6 h6 f6 => ?_
  · decide +kernel
  refine fg_le (fun b o hb => ?_) (hQ p hp)
  by_cases e : b = p
  · subst e
    rw [put_same] at hb
    cases hb
    exact h6.trans (congrArg (fun l => some (MO.dK l)) (by kernel_rfl))
  · rw [put_ne e] at hb
    have f := (((f2.trans f3).trans f4).trans f5).trans f6
    refine f b o (by simpa using e) ?_
    rw [put_ne e, put_ne e]
    exact hb
end
end P
namespace P
open PySem PySem.Spec L2 DL
/-! ### things of deeds, as the law draws them -/
def Nb (i : Int) : Prop := i.natAbs < 10 ^ 30
def Kys : List Str := ["a", "b", "zzzzzz", "read", "tick"]
inductive Th : Nat → D → Prop where
  | n {i : Int} (h : Nb i) : Th 110 (.int i)
  | k {x : Str} (h : x ∈ Kys) : Th 107 (.str x)
  | m {x : Str} (h : x = "read" ∨ x = "write") : Th 109 (.str x)
  | w (ns : List Int) (h : 1 ≤ ns.length ∧ ns.length ≤ 4) (h2 : ∀ i ∈ ns, Nb i) : Th 119 (.tup (ns.map .int))
  | p {i j : Int} (hi : Nb i) (hj : Nb j) : Th 112 (.tup [.int i, .int j])
  | s (xs : List Str) (h : 1 ≤ xs.length ∧ xs.length ≤ 3) (h2 : ∀ x ∈ xs, x ∈ Kys) : Th 115 (.tup (xs.map .str))
inductive Ths : List Nat → List D → Prop where
  | nil : Ths [] []
  | cons {c : Nat} {d : D} {cs : List Nat} {ds : List D} (h : Th c d) (r : Ths cs ds) : Ths (c :: cs) (d :: ds)
theorem Ths.snoc {cs : List Nat} {ds : List D} {c : Nat} {d : D} (h : Ths cs ds) (t : Th c d) : Ths (cs ++ [c]) (ds ++ [d]) := by
  induction h with
  | nil => exact .cons t .nil
  | cons h _ ih => exact .cons h ih
def lts : List Nat := [110, 107, 109, 119, 112, 115]
section
variable {e : Env} {G : HD} {Q : Post} {E : DX} {a : Addr}
theorem numL_ok (hG : Row G a) (hQ : ∀ i G', Nb i → Row G' a → Fr [a] G G' → Q (.int i) G') : w_law_number e [.ref a] G Q E := by
  unfold w_law_number
  exists if_true
  refine take_ok hG (by decide) (by decide) fun r G1 h0 h1 R1 f1 => ?_
  exists if_true
  refine take_ok R1 (by decide) (by decide) fun r2 G2 h2 h3 R2 f2 => ?_
  exists if_true
  refine take_ok R2 (by decide) (by decide) fun r3 G3 h4 h5 R3 f3 => ?_
  exists if_true
  refine take_ok R3 (by decide) (by decide) fun r4 G4 h6 h7 R4 f4 => ?_
  exists if_true
  have ff := ((f1.trans f2).trans f3).trans f4
  refine pickP h6 (by simpa using h7) fun x hx => ?_
  simp only [List.mem_cons, List.not_mem_nil, or_false] at hx
  rcases hx with rfl | rfl | rfl | rfl | rfl
  · exact fg_in (hQ _ _ (by unfold Nb; decide) R4 ff)
  · exact fg_in (hQ _ _ (by unfold Nb; decide) R4 ff)
  · exact fg_in (hQ _ _ (by unfold Nb; omega) R4 ff)
  · exact fg_in (hQ _ _ (by unfold Nb; omega) R4 ff)
  · exact fg_in (hQ _ _ (by unfold Nb; omega) R4 ff)
theorem keyL_ok (hG : Row G a) (hQ : ∀ x G', x ∈ Kys → Row G' a → Fr [a] G G' → Q (.str x) G') : w_law_a_key e [.ref a] G Q E := by
  unfold w_law_a_key
  exists if_true
  refine take_ok hG (by decide) (by decide) fun r G1 h0 h1 R1 f1 => ?_
  exists if_true
  refine pickP h0 (by simpa using h1) fun x hx => ?_
  have hx : ∃ y ∈ Kys, x = .str y := by
    simp only [List.mem_cons, List.not_mem_nil, or_false] at hx
    rcases hx with rfl | rfl | rfl | rfl | rfl
    · exact ⟨_, by simp [Kys], rfl⟩
    · exact ⟨_, by simp [Kys], rfl⟩
    · exact ⟨_, by simp [Kys], rfl⟩
    · exact ⟨_, by simp [Kys], rfl⟩
    · exact ⟨_, by simp [Kys], rfl⟩
  obtain ⟨y, hy, rfl⟩ := hx
  exact fg_in (hQ _ _ hy R1 f1)
/-- the dict of things by kinds -/
def menuKV (n k m w p s : D) : List (Key × D) := [(Sum.inr "n", n), (Sum.inr "k", k), (Sum.inr "m", m), (Sum.inr "w", w), (Sum.inr "p", p), (Sum.inr "s", s)]
theorem menu_at {n k m w p s : D} {c : Nat} (hc : c ∈ lts) (hn : Th 110 n) (hk : Th 107 k) (hm : Th 109 m) (hw : Th 119 w) (hp : Th 112 p) (hs : Th 115 s) : ∃ d, valD (menuKV n k m w p s) (Sum.inr ⟨#[c]⟩) = some d ∧ Th c d := by
  simp only [lts, List.mem_cons, List.not_mem_nil, or_false] at hc
  rcases hc with rfl | rfl | rfl | rfl | rfl | rfl
  · exact ⟨n, by rfl, hn⟩
  · exact ⟨k, by rfl, hk⟩
  · exact ⟨m, by rfl, hm⟩
  · exact ⟨w, by rfl, hw⟩
  · exact ⟨p, by rfl, hp⟩
  · exact ⟨s, by rfl, hs⟩
theorem things_step {c : Nat} (hc : c ∈ lts) {pf : Addr} {acc : List D} {o4 o5 o6 o7 o8 o9 : Option D} {ls : Str} {W : DW} {D' : DEnds} (hG : Row G a) (hp : G pf = some (.lst acc)) (ne : pf ≠ a) (hb : acc.length < 1000)
    (hQ : ∀ d G' σ', Th c d → Row G' a → G' pf = some (.lst (acc ++ [d])) → Fr [a, pf] G G' → (∃ q3 q4 q5 q6 q7 q8 q9, σ' = [some (.ref a), some (.str ls), some (.ref pf), q3, q4, q5, q6, q7, q8, q9]) → D'.nx σ' G') :
    l_law_things_1 e W D' [some (.ref a), some (.str ls), some (.ref pf), some (.str ⟨#[c]⟩), o4, o5, o6, o7, o8, o9] G := by
  unfold l_law_things_1
  exists if_true
  refine numL_ok hG fun i1 G1 n1 R1 f1 => ?_
  exists if_true
  refine numL_ok R1 fun i2 G2 n2 R2 f2 => ?_
  exists if_true
  refine take_ok R2 (by decide) (by decide) fun r G3 h0 h1 R3 f3 => ?_
  exists if_true
  refine ⟨by omega, by omega, by rw [ints_len]; omega, lc_all (I := fun acc G' => (∃ ns : List Int, acc = ns.map D.int ∧ ∀ i ∈ ns, Nb i) ∧ Row G' a ∧ Fr [a] G3 G') (fun x acc ky kn G' hI hk => ?_) (fun acc' G4 hI hl => ?_) ⟨⟨[], rfl, by simp⟩, R3, Fr.refl⟩⟩
  · obtain ⟨⟨ns, rfl, hn⟩, hR, hf⟩ := hI
    exists dwipe
    refine numL_ok hR fun i G5 h5 R5 f5 => hk _ _ ⟨⟨ns ++ [i], by simp, fun j hj => ?_⟩, R5, hf.trans f5⟩
    rcases List.mem_append.mp hj with hj | hj
    · exact hn j hj
    · rw [List.mem_singleton.mp hj]; exact h5
  obtain ⟨⟨ns, rfl, hn⟩, R4, f4⟩ := hI
  rw [List.length_map, ints_len, List.length_nil] at hl
  refine i_tupK ?_
  exists if_true
  refine take_ok R4 (by decide) (by decide) fun r6 G6 h06 h16 R6 f6 => ?_
  exists if_true
  refine ⟨by omega, by omega, by rw [ints_len]; omega, lc_all (I := fun acc G' => (∃ xs : List Str, acc = xs.map D.str ∧ ∀ x ∈ xs, x ∈ Kys) ∧ Row G' a ∧ Fr [a] G6 G') (fun x acc ky kn G' hI hk => ?_) (fun acc' G7 hI hl7 => ?_) ⟨⟨[], rfl, by simp⟩, R6, Fr.refl⟩⟩
  · obtain ⟨⟨xs, rfl, hn⟩, hR, hf⟩ := hI
    exists dwipe
    refine keyL_ok hR fun y G5 h5 R5 f5 => hk _ _ ⟨⟨xs ++ [y], by simp, fun j hj => ?_⟩, R5, hf.trans f5⟩
    rcases List.mem_append.mp hj with hj | hj
    · exact hn j hj
    · rw [List.mem_singleton.mp hj]; exact h5
  obtain ⟨⟨xs, rfl, hx⟩, R7, f7⟩ := hI
  rw [List.length_map, ints_len, List.length_nil] at hl7
  refine i_tupK ?_
  exists if_true
  refine take_ok R7 (by decide) (by decide) fun r8 G8 h08 h18 R8 f8 => ?_
  exists if_true
  refine pickP h08 (by simpa using h18) fun d3 hd3 => ?_
  have hd3 : Th 109 d3 := by
    simp only [List.mem_cons, List.not_mem_nil, or_false] at hd3
    rcases hd3 with rfl | rfl
    · exact .m (.inl rfl)
    · exact .m (.inr rfl)
  exists if_true
  intro p hp0
  have hpa : p ≠ a := by
    obtain ⟨_, _, _, _, hh⟩ := R8
    rintro rfl; rw [hp0] at hh; cases hh
  have Rp : Row (put G8 p (.dK [])) a := by
    obtain ⟨x, y, z, h0, hh⟩ := R8
    exact ⟨x, y, z, h0, by rw [put_ne (Ne.symm hpa)]; exact hh⟩
  refine numL_ok Rp fun i9 G9 n9 R9 f9 => ?_
  exists if_true
  refine keyL_ok R9 fun x10 G10 k10 R10 f10 => ?_
  exists if_true
  have hpG : G10 p = some (.dK []) := f10 p _ (by simpa using hpa) (f9 p _ (by simpa using hpa) put_same)
  have fAll : Fr [a] G G8 := ((((f1.trans f2).trans f3).trans f4).trans f6).trans (f7.trans f8)
  have hpf8 : G8 pf = some (.lst acc) := fAll pf _ (by simpa using ne) hp
  have hnp : pf ≠ p := by rintro rfl; rw [hp0] at hpf8; cases hpf8
  have fp : Fr [a] G (put G10 p (.dK (menuKV (.int i9) (.str x10) d3 (.tup (ns.map .int)) (.tup [.int i1, .int i2]) (.tup (xs.map .str))))) := fun b o hb hbo => by
    have h8 := fAll b o hb hbo
    have hbp : b ≠ p := by rintro rfl; rw [hp0] at h8; cases h8
    rw [put_ne hbp]
    exact f10 b o hb (f9 b o hb (by rw [put_ne hbp]; exact h8))
  obtain ⟨d, e1, td⟩ := menu_at hc (.n n9) (.k k10) hd3 (.w ns (by omega) hn) (.p n1 n2) (.s xs (by omega) hx)
  refine ⟨hpG, ?_⟩
  show (∃ ys, put G10 p (.dK (menuKV (.int i9) (.str x10) d3 (.tup (ns.map .int)) (.tup [.int i1, .int i2]) (.tup (xs.map .str)))) pf = some (.lst ys)) ∧ optP (valD (menuKV (.int i9) (.str x10) d3 (.tup (ns.map .int)) (.tup [.int i1, .int i2]) (.tup (xs.map .str))) (Sum.inr ⟨#[c]⟩)) _ _
  have hpf := fp pf _ (by simpa using ne) hp
  refine ⟨⟨_, hpf⟩, ?_⟩
  rw [e1]
  exists if_true
  show appO (put G10 p (.dK (menuKV (.int i9) (.str x10) d3 (.tup (ns.map .int)) (.tup [.int i1, .int i2]) (.tup (xs.map .str)))) pf) pf d _ _
  rw [hpf]
  exists if_true
  refine ⟨by omega, hQ d _ _ td ?_ put_same ?_ ⟨_, _, _, _, _, _, _, rfl⟩⟩
  · obtain ⟨x, y, z, h0, hh⟩ := R10
    exact ⟨x, y, z, h0, by rw [put_ne (Ne.symm ne), put_ne (Ne.symm hpa)]; exact hh⟩
  · refine (fp.mono (by simp)).trans (Fr.put (by simp))
theorem signs_of (x : Str) : signs x = (tl x).map fun c => D.str ⟨#[c]⟩ := rfl
theorem things_ok {ls : Str} (hl : ∀ c ∈ tl ls, c ∈ lts) (h9 : (tl ls).length ≤ 9) (hG : Row G a) (hQ : ∀ ds G', Ths (tl ls) ds → Row G' a → Fr [a] G G' → Q (.tup ds) G') : w_law_things e [.ref a, .str ls] G Q E := by
  unfold w_law_things
  exists if_true
  refine newL_in fun pf G1 hp0 _ hp1 l1 _ => ?_
  exists if_true
  have hpa : pf ≠ a := by
    obtain ⟨_, _, _, _, hh⟩ := hG
    rintro rfl; rw [hp0] at hh; cases hh
  refine forD_inv (fun l σ G' => ∃ done rest ds, tl ls = done ++ rest ∧ l = rest.map (fun c => D.str ⟨#[c]⟩) ∧ Ths done ds ∧ G' pf = some (.lst ds) ∧ ds.length = done.length ∧ Row G' a ∧ Fr [a] G G' ∧ ∃ o3 o4 o5 o6 o7 o8 o9, σ = [some (.ref a), some (.str ls), some (.ref pf), o3, o4, o5, o6, o7, o8, o9]) (fun _ _ _ _ => trivial) (fun x l k σ G' hI hk => ?_) (fun σ G' hI => ?_) _ _ _ ⟨[], tl ls, [], rfl, signs_of ls, .nil, hp1, rfl, hG.le l1, Fr.le l1, _, _, _, _, _, _, _, rfl⟩
  · obtain ⟨done, rest, ds, e1, e2, th, hp, hdl, R, f, o3, o4, o5, o6, o7, o8, o9, rfl⟩ := hI
    cases rest with
    | nil => cases e2
    | cons c rest =>
      rw [List.map_cons] at e2
      injection e2 with e2 e3
      subst e2
      exists if_true
      have hln := congrArg List.length e1
      rw [List.length_append, List.length_cons] at hln
      refine things_step (hl c (by rw [e1]; simp)) R hp hpa (by omega) fun d G2 σ' td R2 hp2 f2 ⟨q3, q4, q5, q6, q7, q8, q9, eσ⟩ => hk _ _ ⟨done ++ [c], rest, ds ++ [d], by simp [e1], e3, th.snoc td, hp2, by simp [hdl], R2, ?_, q3, q4, q5, q6, q7, q8, q9, eσ⟩
      intro b o hb hbo
      have hbp : b ≠ pf := by rintro rfl; rw [hp0] at hbo; cases hbo
      exact f2 b o (by simp only [List.mem_cons, List.not_mem_nil, or_false, not_or]; exact ⟨by simpa using hb, hbp⟩) (f b o hb hbo)
  · obtain ⟨done, rest, ds, e1, e2, th, hp, hdl, R, f, o3, o4, o5, o6, o7, o8, o9, rfl⟩ := hI
    cases rest with
    | cons c rest => cases e2
    | nil =>
      rw [List.append_nil] at e1
      exists if_true
      show (match asQ G' (.ref pf) with | some es => fg Q (.tup es) G' | none => False)
      rw [show asQ G' (.ref pf) = some ds by show asL G' (.ref pf) = _; rw [asL_ref, hp]; rfl]
      exact fg_in (hQ _ _ (by rw [e1]; exact th) R f)
end
end P
namespace P
open PySem PySem.Spec L2 DL
open TL (numL numL_digits numL_ne numL_val numL_len tl_num)
/-! ### what the things are written as; the readers read it back -/
def intL (i : Int) : List Nat := if i < 0 then 45 :: numL i.natAbs else numL i.natAbs
theorem tl_int (i : Int) : tl (toString i : Str) = intL i := by
  unfold intL
  by_cases h : i < 0
  · rw [if_pos h]
    have e1 : toString i = "-" ++ toString (0 - i) := PyProof.Rows.toString_neg h
    have e2 : (0 - i : Int) = ((i.natAbs : Nat) : Int) := by omega
    show (Str.ofString (toString i)).cps.toList = _
    have e3 : (Str.ofString (toString ((i.natAbs : Nat) : Int))).cps.toList = numL i.natAbs := tl_num i.natAbs
    rw [Str.ofString_eq_toList] at e3
    rw [e1, e2, Str.ofString_eq_toList]
    show (("-" ++ toString ((i.natAbs : Nat) : Int)).toList.map Char.toNat) = _
    rw [String.toList_append, List.map_append]
    have e3 : (toString ((i.natAbs : Nat) : Int)).toList.map Char.toNat = numL i.natAbs := e3
    rw [e3]
    rfl
  · rw [if_neg h]
    have e2 : i = ((i.natAbs : Nat) : Int) := by omega
    have := tl_num i.natAbs
    rw [← e2] at this
    exact this
theorem numL_take (n : Nat) : (numL n).take 1 ≠ [45] := fun h => by
  have : 45 ∈ numL n := List.mem_of_mem_take (i := 1) (by rw [h]; simp)
  have := numL_digits n 45 this
  omega
theorem nb_nat {i : Int} (h : Nb i) : 1 ≤ (numL i.natAbs).length ∧ (numL i.natAbs).length ≤ 30 := by
  refine ⟨?_, numL_len (by decide) h⟩
  have := numL_ne i.natAbs
  cases e : numL i.natAbs with
  | nil => exact absurd e this
  | cons _ _ => simp
theorem fig_numL (n : Nat) : (numL n).all fig = true := List.all_eq_true.mpr fun c hc => decide_eq_true (numL_digits n c hc)
theorem num_back {i : Int} (h : Nb i) : numD (toString i) = .int i := by
  have hb := nb_nat h
  have e1 : figOk (tl (toString i : Str)) = true ∧ signed (tl (toString i : Str)) = i := by
    rw [tl_int]
    unfold figOk figL signed intL
    by_cases hi : i < 0
    · rw [if_pos hi]
      have ht : (45 :: numL i.natAbs).take 1 = [45] := rfl
      rw [if_pos ht, if_pos ht]
      have hd : (45 :: numL i.natAbs).drop 1 = numL i.natAbs := rfl
      rw [hd, fig_numL, numL_val, decide_eq_true hb]
      exact ⟨rfl, by omega⟩
    · rw [if_neg hi, if_neg (numL_take _), if_neg (numL_take _), fig_numL, numL_val, decide_eq_true hb]
      exact ⟨rfl, by omega⟩
  unfold numD
  rw [if_pos e1.1, e1.2, if_pos (decide_eq_true rfl)]
theorem int_len {i : Int} (h : Nb i) : (toString i : Str).length ≤ 31 := by
  rw [← tl_len, tl_int]
  have := nb_nat h
  unfold intL
  split
  · rw [List.length_cons]; omega
  · omega
theorem int_free {i : Int} {s : Nat} (h : s < 45 ∨ 57 < s ∨ s = 47) : s ∉ tl (toString i : Str) := by
  rw [tl_int]
  unfold intL
  intro hm
  have hd : s ∈ numL i.natAbs → False := fun h2 => by have := numL_digits _ s h2; omega
  split at hm
  · rcases List.mem_cons.mp hm with rfl | hm
    · omega
    · exact hd hm
  · exact hd hm
def oneT : D → Str
  | .int i => toString i
  | .str x => x
  | _ => ""
def txk (k : Str) : D → Str
  | .tup l => if k = "pace" then oneT (l.getD 0 .non) ++ "/" ++ oneT (l.getD 1 .non) else Txt.join "," (l.map oneT)
  | d => oneT d
def kname (c : Nat) : Str := if c = 110 then "number" else if c = 107 then "key" else if c = 109 then "mode" else if c = 119 then "worth" else if c = 112 then "pace" else "keys"
theorem key_all : (Kys.all fun x => keyB x && decide (x.length ≤ 6) && decide (32 ∉ tl x) && decide (44 ∉ tl x) && PyData.strOk x) = true := by decide +kernel
theorem key_of {x : Str} (h : x ∈ Kys) : keyB x = true ∧ x.length ≤ 6 ∧ 32 ∉ tl x ∧ 44 ∉ tl x ∧ PyData.strOk x = true := by
  have := List.all_eq_true.mp key_all x h
  simp only [Bool.and_eq_true, decide_eq_true_eq] at this
  exact ⟨this.1.1.1.1, this.1.1.1.2, this.1.1.2, this.1.2, this.2⟩
theorem join_len (m : Str) : ∀ xs : List Str, (Txt.join m xs).length ≤ (xs.map (·.length)).sum + xs.length * m.length
  | [] => by rw [TL.join_eq]; exact Nat.zero_le _
  | [x] => by rw [TL.join_eq]; show x.length ≤ _; simp
  | x :: y :: r => by
    have ih := join_len m (y :: r)
    rw [TL.join_eq] at ih ⊢
    have e : (Str.join m (x :: y :: r)).length = x.length + m.length + (Str.join m (y :: r)).length := by
      show (x ++ m ++ Str.join m (y :: r)).cps.size = _
      show ((x.cps ++ m.cps) ++ (Str.join m (y :: r)).cps).size = _
      rw [Array.size_append, Array.size_append]
      rfl
    rw [e]
    simp only [List.map_cons, List.sum_cons, List.length_cons] at ih ⊢
    rw [Nat.succ_mul (r.length + 1)]
    omega
theorem join_free {m : Str} {s : Nat} (hm : s ∉ tl m) : ∀ {xs : List Str}, (∀ x ∈ xs, s ∉ tl x) → s ∉ tl (Txt.join m xs)
  | [], _ => by rw [TL.join_eq]; show s ∉ []; simp
  | [x], h => by rw [TL.join_eq]; exact h x (by simp)
  | x :: y :: r, h => by
    have ih := join_free hm (xs := y :: r) fun z hz => h z (List.mem_cons_of_mem _ hz)
    rw [TL.join_eq] at ih ⊢
    have e : tl (Str.join m (x :: y :: r)) = tl x ++ tl m ++ tl (Str.join m (y :: r)) := by
      show ((x.cps ++ m.cps) ++ (Str.join m (y :: r)).cps).toList = _
      rw [Array.toList_append, Array.toList_append]
      rfl
    rw [e]
    simp only [List.mem_append, not_or]
    exact ⟨⟨h x (by simp), hm⟩, ih⟩
end P
namespace P
open PySem PySem.Spec L2 DL
open TL (numL numL_digits numL_ne numL_val)
/-! ### the law's own reader: numbers, keys -/
theorem ofNat_fig : ∀ d, d < 58 → (Char.ofNat d).toNat = d := by decide
theorem numL_back {l : List Nat} (h : NumText.AllDigits l) (hn : l ≠ []) (hh : l.head? ≠ some 48 ∨ l = [48]) : numL (NumText.digitsVal l) = l := by
  obtain ⟨c, r, rfl⟩ : ∃ c r, l = c :: r := by
    cases l with
    | nil => exact absurd rfl hn
    | cons c r => exact ⟨c, r, rfl⟩
  have e := NumText.toDigits_digitsVal r.length (c :: r) rfl h (by
    rcases hh with hh | hh
    · right
      have h0 := h.head
      have h1 : c ≠ 48 := fun z => hh (by rw [z]; rfl)
      exact ⟨c, r, rfl, by omega⟩
    · left
      injection hh with _ e
      rw [e]; rfl)
  unfold numL
  rw [e, List.map_map]
  have : ∀ l : List Nat, NumText.AllDigits l → l.map (Char.toNat ∘ Char.ofNat) = l := fun l hl => by
    induction l with
    | nil => rfl
    | cons d l ih =>
      have hd := hl.head
      rw [List.map_cons, ih hl.tail]
      show (Char.ofNat d).toNat :: l = _
      rw [ofNat_fig d (by omega)]
  exact this _ h
theorem numL_head (n : Nat) : (numL n).head? = some 48 → n = 0 := by
  induction n using Nat.strongRecOn with
  | _ n ih =>
    intro h
    by_cases h10 : n < 10
    · rw [TL.numL_lt h10] at h
      injection h with h
      omega
    · rw [TL.numL_step (by omega)] at h
      have hne := numL_ne (n / 10)
      have h2 : (numL (n / 10)).head? = some 48 := by
        cases e : numL (n / 10) with
        | nil => exact absurd e hne
        | cons c r => rw [e] at h; exact h
      have := ih (n / 10) (by omega) h2
      omega
def lead (l : List Nat) : Bool := decide (l.head? ≠ some 48)
def lnumB (x : Str) : Bool := figOk (tl x) && (lead (figL (tl x)) || decide (x = "0"))
theorem zero_tl : tl (Str.ofString "0") = [48] := by decide +kernel
theorem lnum_core {t : List Nat} (h1 : 1 ≤ (figL t).length) (h3 : NumText.AllDigits (figL t)) : decide (intL (signed t) = t) = (lead (figL t) || decide (t = [48])) := by
  unfold figL at h1 h3 ⊢
  unfold signed lead
  by_cases hm : t.take 1 = [45]
  · rw [if_pos hm] at h1 h3 ⊢
    rw [if_pos hm]
    have ex : t = 45 :: t.drop 1 := by
      have := List.take_append_drop 1 t
      rw [hm] at this
      exact this.symm
    generalize t.drop 1 = l at ex h1 h3
    have hne : l ≠ [] := by rintro rfl; simp at h1
    subst ex
    rw [decide_eq_false (p := 45 :: l = [48]) (by intro z; injection z with z; omega), Bool.or_false, decide_eq_decide]
    unfold intL
    by_cases hv : NumText.digitsVal l = 0
    · rw [hv, if_neg (by decide)]
      constructor
      · intro z
        rw [show (-((0 : Nat) : Int)).natAbs = 0 from rfl, TL.numL_lt (by decide)] at z
        injection z with z; omega
      · intro z
        exfalso
        have := numL_back h3 hne (.inl z)
        rw [hv, TL.numL_lt (by decide)] at this
        rw [← this] at z
        exact z rfl
    · rw [if_pos (by omega), Int.natAbs_neg, Int.natAbs_natCast]
      constructor
      · intro z hh
        injection z with _ z
        exact hv (numL_head _ (by rw [z]; exact hh))
      · intro z
        rw [numL_back h3 hne (.inl z)]
  · rw [if_neg hm] at h1 h3 ⊢
    rw [if_neg hm]
    have hne : t ≠ [] := by rintro rfl; simp at h1
    unfold intL
    rw [if_neg (by omega), Int.natAbs_natCast]
    by_cases hh : t.head? = some 48
    · rw [decide_eq_false (p := t.head? ≠ some 48) (by intro z; exact z hh), Bool.false_or, decide_eq_decide]
      constructor
      · intro z
        have hv := numL_head _ (by rw [z]; exact hh)
        rw [hv, TL.numL_lt (by decide)] at z
        exact z.symm
      · intro z
        exact numL_back h3 hne (.inr z)
    · rw [decide_eq_true (p := t.head? ≠ some 48) hh, Bool.true_or, decide_eq_true_eq]
      exact numL_back h3 hne (.inl hh)
theorem lnum_eq (x : Str) : numD x = if lnumB x = true then .int (signed (tl x)) else .non := by
  unfold numD lnumB
  by_cases hf : figOk (tl x) = true
  · rw [if_pos hf, hf, Bool.true_and]
    have hx0 : (x = "0") ↔ tl x = [48] := ⟨fun h => by rw [h]; exact zero_tl, fun h => tl_ext (h.trans zero_tl.symm)⟩
    have heq : ((toString (signed (tl x)) : Str) = x) ↔ intL (signed (tl x)) = tl x := ⟨fun h => by rw [← tl_int, h], fun h => tl_ext ((tl_int _).trans h)⟩
    have h : (decide ((toString (signed (tl x)) : Str) = x)) = (lead (figL (tl x)) || decide (x = "0")) := by
      rw [decide_eq_decide.mpr heq, decide_eq_decide.mpr hx0]
      unfold figOk at hf
      rw [Bool.and_eq_true, decide_eq_true_eq] at hf
      exact lnum_core hf.1.1 (allD_of hf.2)
    rw [h]
  · rw [if_neg hf, if_neg (by rw [Bool.not_eq_true] at hf; rw [hf]; simp)]
theorem lt1 {a b : Nat} : ([a] < [b]) ↔ a < b := by
  constructor
  · intro h
    rcases List.cons_lt_cons_iff.mp h with h | ⟨_, h⟩
    · exact h
    · exact absurd h (List.not_lt_nil _)
  · intro h; exact List.cons_lt_cons_iff.mpr (.inl h)
theorem cpa : (Str.ofString "a").cps.toList = [97] := by decide +kernel
theorem cpz : (Str.ofString "z").cps.toList = [122] := by decide +kernel
theorem filt_all {α : Type} {f : α → Bool} : ∀ {l : List α}, (l.filter fun x => !f x).isEmpty = l.all f
  | [] => rfl
  | x :: l => by
    have ih := filt_all (f := f) (l := l)
    cases hx : f x with
    | true => rw [List.filter_cons_of_neg (by simp [hx]), List.all_cons, hx, ih]; rfl
    | false => rw [List.filter_cons_of_pos (by simp [hx]), List.all_cons, hx]; rfl
theorem eqv_emp {l : List D} : eqvD (.kl l) (.kl []) = l.isEmpty := by
  cases l with
  | nil => rfl
  | cons a l => rfl
theorem pure_nil : pureD 9 (.kl []) = true := rfl
theorem signs_pure {x : Str} (hs : PyData.strOk x = true) {f : D → Bool} : pureD 9 (.kl ((signs x).filter f)) = true := by
  refine List.all_eq_true.mpr fun z hz => ?_
  have hz := (List.mem_filter.mp hz).1
  unfold signs at hz
  obtain ⟨c, hc, rfl⟩ := List.mem_map.mp hz
  unfold PyData.strOk at hs
  rw [Array.all_eq_true'] at hs
  have h3 := hs c (by simpa using hc)
  show PyData.strOk ⟨#[c]⟩ = true
  simpa [PyData.strOk] using h3
theorem strs_pure {xs : List Str} (hs : ∀ x ∈ xs, PyData.strOk x = true) {f : D → Bool} : pureD 9 (.kl ((xs.map D.str).filter f)) = true := by
  refine List.all_eq_true.mpr fun z hz => ?_
  obtain ⟨x, hx, rfl⟩ := List.mem_map.mp (List.mem_filter.mp hz).1
  exact hs x hx
theorem tl_cut00 {x : Str} : cutS x (some 0) none = x := tl_ext (tl_cut1 (k := 0))
theorem cut_ok {x : Str} {lo hi : Option Int} (hs : PyData.strOk x = true) : PyData.strOk (cutS x lo hi) = true := by
  unfold PyData.strOk at hs ⊢
  rw [Array.all_eq_true'] at hs ⊢
  intro c hc
  refine hs c ?_
  have h2 : c ∈ tl (cutS x lo hi) := by simpa [tl] using hc
  rw [tl_cut] at h2
  have := List.mem_of_mem_drop (List.mem_of_mem_take h2)
  simpa [tl] using this
section
variable {e : Env} {G : HD} {Q : Post} {E : DX} {x y m : Str}
theorem i_ixS {i : Int} {c : Nat} (h : x.length ≤ 1000000) (ha : atI (tl x) i = some c) (q : Q (.str ⟨#[c]⟩) G) : dIx (.str x) (.int i) G Q := by
  refine ⟨million h, ?_⟩
  rw [show atI x.cps.toList i = some c from ha]
  exact q
theorem isnum_ok (hs : PyData.strOk x = true) (hx : x.length ≤ 1000000) (hQ : Q (.bl (lnumB x)) G) : w_law_is_number e [.str x] G Q E := by
  have hl := tl_len x
  unfold w_law_is_number
  exists if_true
  obtain ⟨y, hy, hyo, ey, eh⟩ : ∃ y : Str, y.length ≤ 1000000 ∧ PyData.strOk y = true ∧ tl y = figL (tl x) ∧ cutS x (some (if decide (cutS x none (some 1) = Str.ofString "-") = true then 1 else 0)) none = y := by
    refine ⟨_, ?_, cut_ok hs, ?_, rfl⟩
    · rw [← tl_len, tl_cut]
      refine Nat.le_trans (List.length_take_le' _ _) ?_
      rw [List.length_drop]
      omega
    · unfold figL
      by_cases h : cutS x none (some 1) = Str.ofString "-"
      · have hm : (tl x).take 1 = [45] := by
          rw [← tl_cut0 (x := x) (k := 1), show cutS x none (some ((1 : Nat) : Int)) = _ from h, minus_tl]
        rw [if_pos hm, if_pos (decide_eq_true h)]
        exact tl_cut1 (k := 1)
      · have hm : (tl x).take 1 ≠ [45] := by
          intro hm
          refine h (tl_ext ?_)
          rw [minus_tl, ← hm]
          exact tl_cut0 (k := 1)
        rw [if_neg hm, if_neg (by simpa using h)]
        rw [tl_cut00]
  rw [eh]
  refine ⟨million hx, million hx, i_lenS hy ?_⟩
  have hyl : y.length = (figL (tl x)).length := by rw [← ey, tl_len]
  unfold lnumB figOk at hQ
  rw [← ey, tl_len] at hQ
  by_cases h1 : 1 ≤ y.length
  · by_cases h2 : y.length ≤ 30
    · rw [decide_eq_true ⟨h1, h2⟩, Bool.true_and] at hQ
      exists show (1 : Int) ≤ (y.length : Nat) by omega, show ((y.length : Nat) : Int) ≤ 30 by omega, decide_true
      refine ⟨by rw [signs_len]; exact hy, lc_filter (f := fun d => !figD d) (fun z hz ky kn G hk => ?_) ?_⟩
      · exists dwipe
        unfold signs at hz
        obtain ⟨c, hc, rfl⟩ := List.mem_map.mp hz
        refine i_inS ?_
        rw [if_pos rfl, mem_fig, ← figD_c]
        exists if_true
        exact hk
      · rw [List.nil_append]
        refine i_eqX (signs_pure hyo) pure_nil ?_
        rw [eqv_emp, filt_all (f := figD)]
        have e1 : (signs y).all figD = (tl y).all fig := by
          unfold signs
          rw [List.all_map]
          congr 1
          funext c
          exact figD_c
        rw [e1]
        exists if_true
        by_cases h4 : (tl y).all fig = true
        · rw [h4, Bool.true_and] at hQ
          rw [h4, if_neg (by decide)]
          obtain ⟨c, r, ec⟩ : ∃ c r, tl y = c :: r := by
            cases e5 : tl y with
            | nil => rw [← tl_len, e5] at h1; simp at h1
            | cons c r => exact ⟨c, r, rfl⟩
          refine i_ixS (c := c) hy (by rw [ec]; exact atI0) ?_
          rw [ec] at hQ
          exists if_true
          by_cases h5 : c = 48
          · subst h5
            rw [show lead (48 :: r) = false from rfl, Bool.false_or] at hQ
            rw [decide_eq_true (show (⟨#[48]⟩ : Str) = Str.ofString "0" from tl_ext (by rw [zero_tl]; rfl))]
            exists if_true
            exact fg_in hQ
          · rw [show lead (c :: r) = true from decide_eq_true (by intro z; injection z with z; exact h5 z), Bool.true_or] at hQ
            rw [decide_eq_false (show ¬ (⟨#[c]⟩ : Str) = Str.ofString "0" from fun z => h5 (by have := congrArg tl z; rw [zero_tl] at this; injection this))]
            exists if_true
            exact fg_in hQ
        · rw [Bool.not_eq_true] at h4
          rw [h4, Bool.false_and] at hQ
          rw [h4, if_pos (by decide)]
          exact fg_in hQ
    · rw [decide_eq_false (fun z => h2 z.2), Bool.false_and, Bool.false_and] at hQ
      exists show (1 : Int) ≤ (y.length : Nat) by omega, show ¬ ((y.length : Nat) : Int) ≤ 30 by omega, decide_true, decide_false
      exact fg_in hQ
  · rw [decide_eq_false (fun z => h1 z.1), Bool.false_and, Bool.false_and] at hQ
    exists show ¬ (1 : Int) ≤ (y.length : Nat) by omega, decide_false
    exact fg_in hQ
theorem lkey_ok (hs : PyData.strOk x = true) (hx : x.length ≤ 1000000) (hQ : Q (.bl (keyB x)) G) : w_law_is_key e [.str x] G Q E := by
  unfold w_law_is_key
  exists if_true
  refine i_lenS hx ?_
  unfold keyB at hQ
  exists if_true
  by_cases h1 : 1 ≤ x.length
  · by_cases h2 : x.length ≤ 6
    · exists show (1 : Int) ≤ (x.length : Nat) by omega, show ((x.length : Nat) : Int) ≤ 6 by omega, decide_true
      rw [decide_eq_true ⟨h1, h2⟩, Bool.true_and] at hQ
      refine ⟨by rw [signs_len]; exact hx, lc_filter (f := fun d => !letD d) (fun z hz ky kn G hk => ?_) ?_⟩
      · exists dwipe
        unfold signs at hz
        obtain ⟨c, hc, rfl⟩ := List.mem_map.mp hz
        rw [letD_c] at hk
        exists cpa, cpz, lt1
        by_cases h3 : c < 97
        · rw [show letter c = false from decide_eq_false (by omega)] at hk
          exists h3, decide_true
          simpa using hk
        · by_cases h4 : 122 < c
          · rw [show letter c = false from decide_eq_false (by omega)] at hk
            exists h3, h4, decide_true, decide_false
            simpa using hk
          · rw [show letter c = true from decide_eq_true (by omega)] at hk
            exists h3, h4, decide_true, decide_false
            simpa using hk
      · rw [List.nil_append]
        refine i_eqX (signs_pure hs) pure_nil ?_
        rw [eqv_emp, filt_all (f := letD)]
        have e1 : (signs x).all letD = (tl x).all letter := by
          unfold signs
          rw [List.all_map]
          congr 1
          funext c
          exact letD_c
        rw [e1]
        exists if_true
        exact fg_in hQ
    · exists show (1 : Int) ≤ (x.length : Nat) by omega, show ¬ ((x.length : Nat) : Int) ≤ 6 by omega, decide_true, decide_false
      rw [decide_eq_false (fun z => h2 z.2), Bool.false_and] at hQ
      exact fg_in hQ
  · exists show ¬ (1 : Int) ≤ (x.length : Nat) by omega, decide_false
    rw [decide_eq_false (fun z => h1 z.1), Bool.false_and] at hQ
    exact fg_in hQ
end
end P
namespace P
open PySem PySem.Spec L2 DL
def rdD (k x : Str) : D := if k = "number" then numD x else if k = "key" then keyD x else if k = "mode" then modeD x else if k = "worth" then worthD x else if k = "pace" then paceD x else keysD x
theorem kn_n : kname 110 = "number" := rfl
theorem kn_k : kname 107 = "key" := by decide
theorem kn_m : kname 109 = "mode" := by decide
theorem kn_w : kname 119 = "worth" := by decide
theorem kn_p : kname 112 = "pace" := by decide
theorem kn_s : kname 115 = "keys" := by decide
theorem rd_n {x : Str} : rdD "number" x = numD x := if_pos rfl
theorem rd_k {x : Str} : rdD "key" x = keyD x := by unfold rdD; rw [if_neg (by decide), if_pos rfl]
theorem rd_m {x : Str} : rdD "mode" x = modeD x := by unfold rdD; rw [if_neg (by decide), if_neg (by decide), if_pos rfl]
theorem rd_w {x : Str} : rdD "worth" x = worthD x := by unfold rdD; rw [if_neg (by decide), if_neg (by decide), if_neg (by decide), if_pos rfl]
theorem rd_p {x : Str} : rdD "pace" x = paceD x := by unfold rdD; rw [if_neg (by decide), if_neg (by decide), if_neg (by decide), if_neg (by decide), if_pos rfl]
theorem rd_s {x : Str} : rdD "keys" x = keysD x := by unfold rdD; rw [if_neg (by decide), if_neg (by decide), if_neg (by decide), if_neg (by decide), if_neg (by decide)]
theorem comma_ok : (Str.ofString ",").cps.all (· < 256) = true := by decide +kernel
theorem slash_ok : (Str.ofString "/").cps.all (· < 256) = true := by decide +kernel
theorem comma_f : 32 ∉ tl (Str.ofString ",") := by rw [comma_tl]; decide
theorem slash_f : 32 ∉ tl (Str.ofString "/") := by rw [slash_tl]; decide
theorem len1 (x : Str) {l : List Nat} (h : tl x = l) : x.length = l.length := by rw [← h, tl_len]
theorem one_map (ns : List Int) : (ns.map D.int).map oneT = ns.map fun i => (toString i : Str) := by rw [List.map_map]; rfl
theorem one_maps (xs : List Str) : (xs.map D.str).map oneT = xs := by rw [List.map_map]; exact List.map_id _
theorem sum_le {k : Nat} : ∀ {xs : List Str}, (∀ x ∈ xs, x.length ≤ k) → (xs.map (·.length)).sum ≤ xs.length * k
  | [], _ => by simp
  | x :: r, h => by
    have ih := sum_le (xs := r) fun y hy => h y (List.mem_cons_of_mem _ hy)
    have := h x (by simp)
    simp only [List.map_cons, List.sum_cons, List.length_cons]
    rw [Nat.succ_mul]
    omega
theorem pace_tx {k : Str} (i j : Int) (h : k = "pace") : txk k (.tup [.int i, .int j]) = Txt.join "/" [(toString i : Str), (toString j : Str)] := by
  rw [TL.join_eq]
  show (if k = "pace" then _ else _) = _
  rw [if_pos h]
  rfl
theorem tup_tx {k : Str} (l : List D) (h : k ≠ "pace") : txk k (.tup l) = Txt.join "," (l.map oneT) := if_neg h
theorem nums_back {ns : List Int} {m : Str} {s : Nat} (hm : tl m = [s]) (hk : m.cps.all (· < 256) = true) (hs : s < 45 ∨ 57 < s ∨ s = 47) (hn : ∀ i ∈ ns, Nb i) (h1 : 1 ≤ ns.length) : numsD (Txt.join m (ns.map fun i => (toString i : Str))) m = .tup (ns.map .int) := by
  have e : Txt.split (Txt.join m (ns.map fun i => (toString i : Str))) m = ns.map fun i => (toString i : Str) := TL.split_join (s := s) (S := []) hm hk (by intro z; rw [List.map_eq_nil_iff.mp z] at h1; simp at h1) fun p hp => by
    obtain ⟨i, _, rfl⟩ := List.mem_map.mp hp
    exact int_free hs
  have e2 : (ns.map fun i => (toString i : Str)).map numD = ns.map .int := by
    rw [List.map_map]
    exact List.map_congr_left fun i hi => num_back (hn i hi)
  unfold numsD
  rw [e, e2, if_neg]
  intro h
  obtain ⟨d, hd, z⟩ := List.any_eq_true.mp h
  obtain ⟨i, _, rfl⟩ := List.mem_map.mp hd
  cases z
structure TxOk (c : Nat) (d : D) : Prop where
  free : 32 ∉ tl (txk (kname c) d)
  len : (txk (kname c) d).length ≤ 130
  back : rdD (kname c) (txk (kname c) d) = d
  non : isNon d = false
theorem th_ok {c : Nat} {d : D} (h : Th c d) : TxOk c d := by
  cases h with
  | n h => exact ⟨int_free (.inl (by decide)), Nat.le_trans (int_len h) (by decide), by rw [kn_n, rd_n]; exact num_back h, rfl⟩
  | k h =>
    obtain ⟨a, b, c, _, _⟩ := key_of h
    exact ⟨c, Nat.le_trans b (by decide), by rw [kn_k, rd_k]; exact if_pos a, rfl⟩
  | m h =>
    refine ⟨?_, ?_, by rw [kn_m, rd_m]; exact if_pos h, rfl⟩
    · rcases h with rfl | rfl <;> (show 32 ∉ tl (Str.ofString _); decide +kernel)
    · rcases h with rfl | rfl <;> (show (Str.ofString _).length ≤ 130; decide +kernel)
  | w ns h h2 =>
    have e : txk (kname 119) (.tup (ns.map .int)) = Txt.join "," (ns.map fun i => (toString i : Str)) := by rw [tup_tx _ (by decide), one_map]
    have nb := nums_back (m := ",") comma_tl comma_ok (.inl (by decide)) h2 h.1
    refine ⟨?_, ?_, ?_, rfl⟩
    · rw [e]
      exact join_free comma_f fun x hx => by obtain ⟨i, _, rfl⟩ := List.mem_map.mp hx; exact int_free (.inl (by decide))
    · rw [e]
      have h1 := join_len "," (ns.map fun i => (toString i : Str))
      have h3 := sum_le (k := 31) (xs := ns.map fun i => (toString i : Str)) fun x hx => by obtain ⟨i, hi, rfl⟩ := List.mem_map.mp hx; exact int_len (h2 i hi)
      rw [len1 _ comma_tl, List.length_map] at h1
      rw [List.length_map] at h3
      simp only [List.length_cons, List.length_nil] at h1
      omega
    · rw [e, kn_w, rd_w]
      unfold worthD
      rw [nb]
      have hl : lenT (.tup (ns.map D.int)) ≤ 4 := by show (ns.map D.int).length ≤ 4; rw [List.length_map]; exact h.2
      rw [if_neg (by intro z; cases z), if_pos hl]
  | p hi hj =>
    rename_i i j
    have e := pace_tx (k := kname 112) i j kn_p
    have nb := nums_back (ns := [i, j]) (m := "/") slash_tl slash_ok (.inr (.inr rfl)) (by simp [hi, hj]) (by simp)
    have nb : numsD (Txt.join "/" [(toString i : Str), (toString j : Str)]) "/" = .tup [.int i, .int j] := nb
    refine ⟨?_, ?_, ?_, rfl⟩
    · rw [e]
      exact join_free slash_f fun x hx => by
        simp only [List.mem_cons, List.not_mem_nil, or_false] at hx
        rcases hx with rfl | rfl <;> exact int_free (.inl (by decide))
    · rw [e]
      have h1 := join_len "/" [(toString i : Str), (toString j : Str)]
      rw [len1 _ slash_tl] at h1
      have := int_len hi
      have := int_len hj
      simp only [List.map_cons, List.map_nil, List.sum_cons, List.sum_nil, List.length_cons, List.length_nil] at h1
      omega
    · rw [e, kn_p, rd_p]
      unfold paceD
      rw [nb, if_neg (by intro z; cases z)]
      exact if_pos rfl
  | s xs h h2 =>
    have e : txk (kname 115) (.tup (xs.map .str)) = Txt.join "," xs := by rw [tup_tx _ (by decide), one_maps]
    refine ⟨?_, ?_, ?_, rfl⟩
    · rw [e]
      exact join_free comma_f fun x hx => (key_of (h2 x hx)).2.2.1
    · rw [e]
      have h1 := join_len "," xs
      have h3 := sum_le (k := 6) (xs := xs) fun x hx => (key_of (h2 x hx)).2.1
      rw [len1 _ comma_tl] at h1
      simp only [List.length_cons, List.length_nil] at h1
      omega
    · have e2 : Txt.split (Txt.join "," xs) "," = xs := TL.split_join (s := 44) (S := []) comma_tl comma_ok (by intro z; rw [z] at h; simp at h) fun p hp => (key_of (h2 p hp)).2.2.2.1
      rw [e, kn_s, rd_s]
      unfold keysD
      rw [e2, if_pos (List.all_eq_true.mpr fun x hx => (key_of (h2 x hx)).1)]
end P
namespace P
open PySem PySem.Spec L2 DL
open TL (spl)
/-! ### the law's own reader of one word -/
theorem spl1_sub {s : Nat} : ∀ (l acc : List Nat), ∀ p ∈ spl [s] 0 acc l, ∀ c ∈ p, c ∈ acc ∨ c ∈ l
  | [], acc, p, hp, c, hc => by
    rw [TL.spl_nil] at hp
    obtain rfl := List.mem_singleton.mp hp
    exact .inl hc
  | d :: r, acc, p, hp, c, hc => by
    by_cases h : d = s
    · subst h
      rw [spl1_hit] at hp
      rcases List.mem_cons.mp hp with rfl | hp
      · exact .inl hc
      · rcases spl1_sub r [] p hp c hc with h | h
        · cases h
        · exact .inr (List.mem_cons_of_mem _ h)
    · rw [spl1_miss h] at hp
      rcases spl1_sub r (acc ++ [d]) p hp c hc with h | h
      · rcases List.mem_append.mp h with h | h
        · exact .inl h
        · rw [List.mem_singleton.mp h]; exact .inr (by simp)
      · exact .inr (List.mem_cons_of_mem _ h)
theorem strOk_tl {x : Str} : PyData.strOk x = true ↔ ∀ c ∈ tl x, c < 0x110000 := by
  unfold PyData.strOk tl
  rw [Array.all_eq_true']
  simp
theorem split_ok {x m : Str} {s : Nat} (hm : tl m = [s]) (hs : s < 256) (hx : PyData.strOk x = true) {p : Str} (hp : p ∈ Txt.split x m) : PyData.strOk p = true := by
  have h : tl p ∈ spl [s] 0 [] (tl x) := by rw [← split_tl hm hs]; exact List.mem_map_of_mem hp
  rw [strOk_tl] at hx ⊢
  intro c hc
  rcases spl1_sub _ _ _ h c hc with h | h
  · cases h
  · exact hx c h
theorem isNon_num (x : Str) : isNon (numD x) = !lnumB x := by
  rw [lnum_eq]
  cases lnumB x <;> rfl
theorem nums_any (ps : List Str) : (ps.map numD).any isNon = !ps.all lnumB := by
  induction ps with
  | nil => rfl
  | cons p ps ih => rw [List.map_cons, List.any_cons, ih, isNon_num, List.all_cons, Bool.not_and]
theorem nums_int {ps : List Str} (h : ps.all lnumB = true) : ps.map numD = ps.map fun p => D.int (signed (tl p)) := List.map_congr_left fun p hp => by
  rw [lnum_eq, if_pos (List.all_eq_true.mp h p hp)]
theorem lnum_fig {x : Str} (h : lnumB x = true) : figOk (tl x) = true := by
  unfold lnumB at h
  rw [Bool.and_eq_true] at h
  exact h.1
def numB : D → Bool
  | .str x => lnumB x
  | _ => false
def keyBD : D → Bool
  | .str x => keyB x
  | _ => false
theorem all_map (ps : List Str) : (ps.map D.str).all numB = ps.all lnumB := by rw [List.all_map]; rfl
theorem allk_map (ps : List Str) : (ps.map D.str).all keyBD = ps.all keyB := by rw [List.all_map]; rfl
theorem ch_eq {c k : Nat} {z : Str} (h : tl z = [k]) : ((⟨#[c]⟩ : Str) = z) = (c = k) := propext ⟨fun e => by
  have := congrArg tl e
  rw [h] at this
  injection this, fun e => by subst e; exact tl_ext h.symm⟩
theorem ch_n {c : Nat} : ((⟨#[c]⟩ : Str) = Str.ofString "n") = (c = 110) := ch_eq (by decide +kernel)
theorem ch_k {c : Nat} : ((⟨#[c]⟩ : Str) = Str.ofString "k") = (c = 107) := ch_eq (by decide +kernel)
theorem ch_m {c : Nat} : ((⟨#[c]⟩ : Str) = Str.ofString "m") = (c = 109) := ch_eq (by decide +kernel)
theorem ch_p {c : Nat} : ((⟨#[c]⟩ : Str) = Str.ofString "p") = (c = 112) := ch_eq (by decide +kernel)
theorem ch_s {c : Nat} : ((⟨#[c]⟩ : Str) = Str.ofString "s") = (c = 115) := ch_eq (by decide +kernel)
section
variable {e : Env} {G : HD} {Q : Post} {E : DX} {x y m : Str}
theorem lcs_num {ps : List Str} (hs : ∀ p ∈ ps, PyData.strOk p = true) {fin : List D → HD → Prop} {step : D → (D → HD → Prop) → (HD → Prop) → HD → Prop} (hst : ∀ p ∈ ps, ∀ (ky : D → HD → Prop) (kn : HD → Prop) (G : HD), (if (!lnumB p) = true then ky (.str p) G else kn G) → step (.str p) ky kn G) (h : ∀ l, pureD 9 (.kl l) = true → l.isEmpty = ps.all lnumB → fin l G) : lcD (fun _ => True) step fin (ps.map D.str) [] G := by
  refine lc_filter (f := fun d => !numB d) (fun z hz ky kn G hk => ?_) ?_
  · obtain ⟨p, hp, rfl⟩ := List.mem_map.mp hz
    exact hst p hp ky kn G hk
  · rw [List.nil_append]
    exact h _ (strs_pure hs) (by rw [filt_all (f := numB), all_map])
theorem lcs_key {ps : List Str} (hs : ∀ p ∈ ps, PyData.strOk p = true) {fin : List D → HD → Prop} {step : D → (D → HD → Prop) → (HD → Prop) → HD → Prop} (hst : ∀ p ∈ ps, ∀ (ky : D → HD → Prop) (kn : HD → Prop) (G : HD), (if (!keyB p) = true then ky (.str p) G else kn G) → step (.str p) ky kn G) (h : ∀ l, pureD 9 (.kl l) = true → l.isEmpty = ps.all keyB → fin l G) : lcD (fun _ => True) step fin (ps.map D.str) [] G := by
  refine lc_filter (f := fun d => !keyBD d) (fun z hz ky kn G hk => ?_) ?_
  · obtain ⟨p, hp, rfl⟩ := List.mem_map.mp hz
    exact hst p hp ky kn G hk
  · rw [List.nil_append]
    exact h _ (strs_pure hs) (by rw [filt_all (f := keyBD), allk_map])
theorem split_ne {x m : Str} {s : Nat} (hm : tl m = [s]) (hs : s < 256) : Txt.split x m ≠ [] := fun z => by
  have h := split_tl (x := x) hm hs
  rw [z] at h
  have : ∀ l acc, TL.spl [s] 0 acc l ≠ [] := fun l => by
    induction l with
    | nil => intro acc; rw [TL.spl_nil]; simp
    | cons d r ih =>
      intro acc
      by_cases e : d = s
      · subst e; rw [spl1_hit]; simp
      · rw [spl1_miss e]; exact ih _
  exact this _ _ h.symm
theorem lcs_int {ps : List Str} (ha : ps.all lnumB = true) {fin : List D → HD → Prop} {step : D → (D → HD → Prop) → (HD → Prop) → HD → Prop} (hst : ∀ p ∈ ps, ∀ (ky : D → HD → Prop) (kn : HD → Prop) (G : HD), PySem.intText? p = some (signed (tl p)) → p.length ≤ 31 → ky (.int (signed (tl p))) G → step (.str p) ky kn G) (h : fin (ps.map numD) G) : lcD (fun _ => True) step fin (ps.map D.str) [] G := by
  refine lc_map (f := fun d => match d with | .str p => .int (signed (tl p)) | _ => .non) (fun z hz ky kn G hk => ?_) ?_
  · obtain ⟨p, hp, rfl⟩ := List.mem_map.mp hz
    have hf := figOk_int (lnum_fig (List.all_eq_true.mp ha p hp))
    exact hst p hp ky kn G hf.1 hf.2.1 hk
  · rw [List.nil_append, List.map_map]
    rw [nums_int ha] at h
    exact h
theorem lread_ok {c : Nat} (hc : c ∈ lts) (hs : PyData.strOk x = true) (hx : x.length ≤ 100000) (hQ : Q (rdD (kname c) x) G) : w_law_read_thing e [.str ⟨#[c]⟩, .str x] G Q E := by
  have hz := million (n := x.length + 2) (by omega)
  unfold w_law_read_thing
  simp only [lts, List.mem_cons, List.not_mem_nil, or_false] at hc
  rcases hc with rfl | rfl | rfl | rfl | rfl | rfl
  · exists q_seqJ, ch_n, ch_k, ch_m, ch_p, ch_s, Nat.reduceEqDiff, decide_true, decide_false
    rw [kn_n, rd_n, lnum_eq] at hQ
    refine ⟨⟨_, rfl⟩, by rw [len1 _ comma_tl]; rfl, hz, lcs_num (ps := [x]) (by simpa using hs) (fun p hp ky kn G hk => ?_) fun l hp hl => ?_⟩
    · exists dwipe
      rw [List.mem_singleton.mp hp] at hk ⊢
      refine isnum_ok hs (by omega) ?_
      exists if_true
      exact hk
    · refine i_eqX hp pure_nil ?_
      rw [eqv_emp, hl]
      exists if_true
      cases h : lnumB x
      · rw [h, if_neg (by decide)] at hQ
        rw [List.all_cons, h]
        exists if_true
        exact fg_in hQ
      · rw [h, if_pos rfl] at hQ
        rw [List.all_cons, h]
        exists List.all_nil, Bool.and_true
        rw [if_neg (by decide)]
        refine lcs_int (ps := [x]) (by rw [List.all_cons, h]; rfl) (fun p hp ky kn G hi hl hk => ?_) ?_
        · exists dwipe
          exact i_intS hi (by omega) hk
        · rw [List.map_cons, lnum_eq, h]
          refine i_tupK ?_
          exists if_true
          exact fg_in hQ
  · exists ch_n, ch_k, ch_m, ch_p, ch_s, Nat.reduceEqDiff, decide_true, decide_false
    refine ⟨⟨_, rfl⟩, by rw [len1 _ comma_tl]; rfl, hz, lkey_ok hs (by omega) ?_⟩
    rw [kn_k, rd_k] at hQ
    unfold keyD at hQ
    exists if_true
    cases h : keyB x
    · rw [h, if_neg (by decide)] at hQ
      exists if_true
      exact fg_in hQ
    · rw [h, if_pos rfl] at hQ
      exists if_true
      exact fg_in hQ
  · exists ch_n, ch_k, ch_m, ch_p, ch_s, Nat.reduceEqDiff, decide_true, decide_false
    refine ⟨⟨_, rfl⟩, by rw [len1 _ comma_tl]; rfl, hz, ?_⟩
    rw [kn_m, rd_m] at hQ
    unfold modeD at hQ
    show inSo false (some [Str.ofString "read", Str.ofString "write"]) (.str x) G _
    exists if_true
    by_cases h : x = "read" ∨ x = "write"
    · rw [if_pos h] at hQ
      have h : x ∈ [Str.ofString "read", Str.ofString "write"] := by simpa using h
      rw [if_pos (by simpa using h)]
      exists if_true
      exact fg_in hQ
    · rw [if_neg h] at hQ
      have h : ¬ x ∈ [Str.ofString "read", Str.ofString "write"] := by simpa using h
      rw [if_neg (by simpa using h)]
      exists if_true
      exact fg_in hQ
  · exists q_seqJ, ch_n, ch_k, ch_m, ch_p, ch_s, Nat.reduceEqDiff, decide_true, decide_false
    have hne := split_ne (x := x) comma_tl (by decide)
    have hln := split_count (x := x) comma_tl (by decide)
    have hso : ∀ p ∈ Txt.split x ",", PyData.strOk p = true := fun p hp => split_ok comma_tl (by decide) hs hp
    have hsl : ∀ p ∈ Txt.split x ",", p.length ≤ x.length := fun p hp => split_mem comma_tl (by decide) hp
    rw [kn_w, rd_w] at hQ
    unfold worthD numsD at hQ
    rw [nums_any] at hQ
    generalize Txt.split x (Str.ofString ",") = ps at hne hln hso hsl hQ ⊢
    refine ⟨⟨_, rfl⟩, by rw [len1 _ comma_tl]; rfl, hz, by rw [List.length_map]; omega, lcs_num hso (fun p hp ky kn G hk => ?_) fun l hp hl => ?_⟩
    · exists dwipe
      refine isnum_ok (hso p hp) (by have := hsl p hp; omega) ?_
      exists if_true
      exact hk
    · refine i_eqX hp pure_nil ?_
      rw [eqv_emp, hl]
      exists if_true
      cases h : ps.all lnumB
      · rw [h] at hQ
        exists if_true
        exact fg_in hQ
      · simp only [h, Bool.not_true, Bool.false_eq_true, if_false] at hQ
        rw [if_neg (by intro z; cases z)] at hQ
        rw [if_neg (by decide), List.length_map]
        by_cases h4 : ps.length ≤ 4
        · rw [if_pos (by show (ps.map numD).length ≤ 4; rw [List.length_map]; exact h4)] at hQ
          rw [if_neg (by simp; omega)]
          refine ⟨by omega, lcs_int h (fun p hp ky kn G hi hl hk => ?_) ?_⟩
          · exists dwipe
            exact i_intS hi (by omega) hk
          · refine i_tupK ?_
            cases ps with
            | nil => exact absurd rfl hne
            | cons p ps =>
              exists if_true
              exact fg_in hQ
        · rw [if_neg (by show ¬ (ps.map numD).length ≤ 4; rw [List.length_map]; exact h4)] at hQ
          rw [if_pos (by simp; omega)]
          exact fg_in hQ
  · exists q_seqJ, ch_n, ch_k, ch_m, ch_p, ch_s, Nat.reduceEqDiff, decide_true, decide_false
    have hne := split_ne (x := x) slash_tl (by decide)
    have hln := split_count (x := x) slash_tl (by decide)
    have hso : ∀ p ∈ Txt.split x "/", PyData.strOk p = true := fun p hp => split_ok slash_tl (by decide) hs hp
    have hsl : ∀ p ∈ Txt.split x "/", p.length ≤ x.length := fun p hp => split_mem slash_tl (by decide) hp
    rw [kn_p, rd_p] at hQ
    unfold paceD numsD at hQ
    rw [nums_any] at hQ
    generalize Txt.split x (Str.ofString "/") = ps at hne hln hso hsl hQ ⊢
    refine ⟨⟨_, rfl⟩, by rw [len1 _ slash_tl]; rfl, hz, by rw [List.length_map]; omega, lcs_num hso (fun p hp ky kn G hk => ?_) fun l hp hl => ?_⟩
    · exists dwipe
      refine isnum_ok (hso p hp) (by have := hsl p hp; omega) ?_
      exists if_true
      exact hk
    · refine i_eqX hp pure_nil ?_
      rw [eqv_emp, hl]
      exists if_true
      cases h : ps.all lnumB
      · rw [h] at hQ
        exists if_true
        exact fg_in hQ
      · simp only [h, Bool.not_true, Bool.false_eq_true, if_false] at hQ
        rw [if_neg (by intro z; cases z)] at hQ
        rw [if_neg (by decide), List.length_map]
        by_cases h4 : ps.length = 2
        · rw [if_pos (by show (ps.map numD).length = 2; rw [List.length_map]; exact h4)] at hQ
          rw [h4, if_neg (by decide), if_neg (by decide)]
          refine ⟨by decide, lcs_int h (fun p hp ky kn G hi hl hk => ?_) ?_⟩
          · exists dwipe
            exact i_intS hi (by omega) hk
          · refine i_tupK ?_
            cases ps with
            | nil => exact absurd rfl hne
            | cons p ps =>
              exists if_true
              exact fg_in hQ
        · rw [if_neg (by show ¬ (ps.map numD).length = 2; rw [List.length_map]; exact h4)] at hQ
          rw [if_pos (by simp; omega)]
          exact fg_in hQ
  · exists ch_n, ch_k, ch_m, ch_p, ch_s, Nat.reduceEqDiff, decide_true, decide_false
    have hln := split_count (x := x) comma_tl (by decide)
    have hso : ∀ p ∈ Txt.split x ",", PyData.strOk p = true := fun p hp => split_ok comma_tl (by decide) hs hp
    have hsl : ∀ p ∈ Txt.split x ",", p.length ≤ x.length := fun p hp => split_mem comma_tl (by decide) hp
    rw [kn_s, rd_s] at hQ
    unfold keysD at hQ
    generalize Txt.split x (Str.ofString ",") = ps at hln hso hsl hQ ⊢
    refine ⟨⟨_, rfl⟩, by rw [len1 _ comma_tl]; rfl, hz, ?_⟩
    refine i_tupK ⟨by rw [List.length_map]; omega, lcs_key hso (fun p hp ky kn G hk => ?_) fun l hp hl => ?_⟩
    · exists dwipe
      refine lkey_ok (hso p hp) (by have := hsl p hp; omega) ?_
      exists if_true
      exact hk
    · refine i_eqX hp pure_nil ?_
      rw [eqv_emp, hl]
      exists if_true
      cases h : ps.all keyB
      · rw [h, if_neg (by decide)] at hQ
        exists if_true
        exact fg_in hQ
      · rw [h, if_pos rfl] at hQ
        exists if_true
        exact fg_in hQ
end
end P
namespace P
open PySem PySem.Spec L2 DL
/-! ### the text of a deed -/
theorem kinds_b : (KS.all fun p => match valD kindsKV (Sum.inr p.1) with | some (.str z) => decide (z = p.2) | _ => false) = true := by decide +kernel
theorem kinds_at {w ls : Str} (h : (w, ls) ∈ KS) : valD kindsKV (Sum.inr w) = some (.str ls) := by
  have := List.all_eq_true.mp kinds_b _ h
  dsimp only at this
  split at this
  · rename_i z e
    rw [e, of_decide_eq_true this]
  · cases this
def kinS : D → Str
  | .str z => z
  | _ => ""
def isS : D → Bool
  | .str _ => true
  | _ => false
theorem isS_map : ∀ {l : List D}, l.all isS = true → l = (l.map kinS).map .str
  | [], _ => rfl
  | d :: l, h => by
    rw [List.all_cons, Bool.and_eq_true] at h
    cases d with
    | str z => rw [List.map_cons, List.map_cons, ← isS_map h.2]; rfl
    | _ => cases h.1
theorem forms_b (e : Env) : (KS.all fun p => match (tbl_FORMS e).lookup p.1 with | some (.tup l) => l.all isS && decide (l.map kinS = (tl p.2).map kname) | _ => false) = true := by unfold tbl_FORMS; decide +kernel
theorem forms_at (e : Env) {w ls : Str} (h : (w, ls) ∈ KS) : (tbl_FORMS e).lookup w = some (.tup ((tl ls).map fun c => .str (kname c))) := by
  have := List.all_eq_true.mp (forms_b e) _ h
  dsimp only at this
  split at this
  · rename_i l el
    rw [Bool.and_eq_true, decide_eq_true_eq] at this
    rw [el, isS_map this.1, this.2, List.map_map]
    rfl
  · cases this
theorem ks_b : (KS.all fun p => (tl p.2).all (fun c => decide (c ∈ lts)) && decide ((tl p.2).length ≤ 4) && decide (32 ∉ tl p.1) && decide (p.1.length ≤ 8) && PyData.strOk p.1) = true := by decide +kernel
theorem ks_of {w ls : Str} (h : (w, ls) ∈ KS) : (∀ c ∈ tl ls, c ∈ lts) ∧ (tl ls).length ≤ 4 ∧ 32 ∉ tl w ∧ w.length ≤ 8 ∧ PyData.strOk w = true := by
  have := List.all_eq_true.mp ks_b _ h
  simp only [Bool.and_eq_true, decide_eq_true_eq, List.all_eq_true] at this
  exact ⟨fun c hc => this.1.1.1.1 c hc, this.1.1.1.2, this.1.1.2, this.1.2, this.2⟩
/-- the words of things -/
def txs (cs : List Nat) (ds : List D) : List Str := List.zipWith (fun c d => txk (kname c) d) cs ds
def TXT (w : Str) (cs : List Nat) (ds : List D) : Str := Txt.join " " (w :: txs cs ds)
theorem Ths.len {cs : List Nat} {ds : List D} (h : Ths cs ds) : cs.length = ds.length := by
  induction h with
  | nil => rfl
  | cons _ _ ih => rw [List.length_cons, List.length_cons, ih]
theorem Ths.txs {cs : List Nat} {ds : List D} (h : Ths cs ds) : (∀ t ∈ P.txs cs ds, 32 ∉ tl t ∧ t.length ≤ 130) ∧ (P.txs cs ds).length = cs.length := by
  induction h with
  | nil => exact ⟨fun t ht => absurd ht (by simp [P.txs]), rfl⟩
  | cons h _ ih =>
    refine ⟨fun t ht => ?_, by show (_ :: _).length = _; rw [List.length_cons, List.length_cons, ← ih.2]; rfl⟩
    rcases List.mem_cons.mp ht with rfl | ht
    · exact ⟨(th_ok h).free, (th_ok h).len⟩
    · exact ih.1 t ht
section
variable {e : Env} {G : HD} {Q : Post} {E : DX} {c : Nat} {d : D}
theorem lcs_ints {ns : List Int} {fin : List D → HD → Prop} {step : D → (D → HD → Prop) → (HD → Prop) → HD → Prop} (hs : ∀ i ∈ ns, ∀ (ky : D → HD → Prop) (kn : HD → Prop) (G : HD), ky (.str (toString i)) G → step (.int i) ky kn G) (h : fin ((ns.map fun i => (toString i : Str)).map .str) G) : lcD (fun _ => True) step fin (ns.map D.int) [] G := by
  refine lc_map (f := fun d => .str (oneT d)) (fun x hx ky kn G hk => ?_) ?_
  · obtain ⟨i, hi, rfl⟩ := List.mem_map.mp hx
    exact hs i hi ky kn G hk
  · rw [List.nil_append, List.map_map]
    rw [List.map_map] at h
    exact h
theorem lcs_strs {xs : List Str} {fin : List D → HD → Prop} {step : D → (D → HD → Prop) → (HD → Prop) → HD → Prop} (hs : ∀ x ∈ xs, ∀ (ky : D → HD → Prop) (kn : HD → Prop) (G : HD), ky (.str x) G → step (.str x) ky kn G) (h : fin (xs.map .str) G) : lcD (fun _ => True) step fin (xs.map D.str) [] G := by
  refine lc_map (f := fun d => d) (fun x hx ky kn G hk => ?_) ?_
  · obtain ⟨i, hi, rfl⟩ := List.mem_map.mp hx
    exact hs i hi ky kn G hk
  · rw [List.nil_append, List.map_id']
    exact h
theorem asStrs_map : ∀ xs : List Str, asStrs (xs.map D.str) = some xs
  | [] => rfl
  | x :: xs => by show (asStrs (xs.map D.str)).map (x :: ·) = _; rw [asStrs_map xs]; rfl
theorem i_join {m : Str} {xs : List Str} (hb : (xs.map (·.length)).sum + xs.length * m.length ≤ 16777216) (q : Q (.str (Txt.join m xs)) G) : joinO m (some (xs.map D.str)) G Q := by
  simp only [joinO, asStrs_map]
  exact ⟨hb, q⟩
theorem worths_len {ns : List Int} (h : ns.length ≤ 4) (h2 : ∀ i ∈ ns, Nb i) : ((ns.map fun i => (toString i : Str)).map (·.length)).sum + (ns.map fun i => (toString i : Str)).length * (Str.ofString ",").length ≤ 16777216 := by
  have h3 := sum_le (k := 31) (xs := ns.map fun i => (toString i : Str)) fun x hx => by obtain ⟨i, hi, rfl⟩ := List.mem_map.mp hx; exact int_len (h2 i hi)
  rw [len1 _ comma_tl, List.length_map] at *
  simp only [List.length_cons, List.length_nil] at *
  omega
theorem keys_len {xs : List Str} (h : xs.length ≤ 3) (h2 : ∀ x ∈ xs, x ∈ Kys) : (xs.map (·.length)).sum + xs.length * (Str.ofString ",").length ≤ 16777216 := by
  have h3 := sum_le (k := 6) (xs := xs) fun x hx => (key_of (h2 x hx)).2.1
  rw [len1 _ comma_tl]
  simp only [List.length_cons, List.length_nil] at *
  omega
end
end P
namespace P
open PySem PySem.Spec L2 DL
/-! ### shown_deed, the law's text, read_deed -/
section
variable {e : Env} {G : HD} {Q : Post} {E : DX} {w ls : Str} {ds : List D}
theorem txt_len (hw : (w, ls) ∈ KS) (h : Ths (tl ls) ds) : ((w :: txs (tl ls) ds).map (·.length)).sum + (w :: txs (tl ls) ds).length * (Str.ofString " ").length ≤ 533 := by
  obtain ⟨_, h9, _, hwl, _⟩ := ks_of hw
  have h3 := sum_le (k := 130) (xs := txs (tl ls) ds) fun x hx => (h.txs.1 x hx).2
  rw [h.txs.2] at h3
  rw [len1 _ space_tl, List.length_cons, h.txs.2, List.map_cons, List.sum_cons]
  simp only [List.length_cons, List.length_nil]
  omega
theorem cut_1 {d : D} : cutD (d :: ds) (some 1) none = ds := by
  unfold cutD
  have e : HT.sIx (d :: ds).length 0 (some 1) = 1 := by
    exact (HT.sIx_nat _ _ 1).trans (by simp)
  rw [e]
  show (ds.take _) = ds
  exact List.take_of_length_le (by show ds.length ≤ (d :: ds).length - 1; simp)
theorem r_addVS {x y : Str} : dAddV (.str x) (.str y) G Q = (x.length + y.length ≤ sizeLine ∧ Q (.str (x ++ y)) G) := propext ⟨fun h => h, fun h => h⟩
theorem le_put {G G' : HD} {p : Addr} {o : MO} (l : Le G G') (h : G p = none) : Le G (put G' p o) := fun b u e => by
  have hb : b ≠ p := by rintro rfl; rw [h] at e; cases e
  rw [put_ne hb]
  exact l b u e
theorem text_step {c : Nat} {d : D} (h : Th c d) {W : DW} {D' : DEnds} {pw : Addr} {acc : List Str} {o0 o1 o5 : Option D} (hp : G pw = some (.lst (acc.map .str))) (hb : acc.length ≤ 1000)
    (hQ : ∀ σ', (∃ q3 q4 q5, σ' = [o0, o1, some (.ref pw), q3, q4, q5]) → D'.nx σ' (put G pw (.lst ((acc ++ [txk (kname c) d]).map .str)))) : l_law_text_1 e W D' [o0, o1, some (.ref pw), some (.str ⟨#[c]⟩), some d, o5] G := by
  have ha : ∀ t : Str, (acc.map D.str) ++ [.str t] = (acc ++ [t]).map .str := fun t => by rw [List.map_append]; rfl
  have hz := million (n := 1001) (by decide)
  have hf : ∀ σ' t, t = txk (kname c) d → (∃ q3 q4 q5, σ' = [o0, o1, some (.ref pw), q3, q4, q5]) → appO (G pw) pw (.str t) G fun _ G1 => D'.nx σ' G1 := fun σ' t et hσ => by
    rw [hp, r_appO, ha, et]
    exact ⟨by rw [List.length_map]; omega, hQ σ' hσ⟩
  unfold l_law_text_1
  cases h with
  | n h =>
    exists if_true
    rw [if_neg (by decide)]
    refine i_inS ?_
    exists if_true
    rw [if_neg (by decide)]
    exact ⟨⟨_, hp⟩, log_lt h, hf _ _ rfl ⟨_, _, _, rfl⟩⟩
  | k h =>
    exists if_true
    rw [if_neg (by decide)]
    refine i_inS ?_
    exists if_true
    rw [if_neg (by decide)]
    exact ⟨⟨_, hp⟩, hf _ _ rfl ⟨_, _, _, rfl⟩⟩
  | m h =>
    exists if_true
    rw [if_neg (by decide)]
    refine i_inS ?_
    exists if_true
    rw [if_neg (by decide)]
    exact ⟨⟨_, hp⟩, hf _ _ rfl ⟨_, _, _, rfl⟩⟩
  | w ns h h2 =>
    exists if_true
    rw [if_neg (by decide)]
    refine i_inS ?_
    exists if_true
    rw [if_pos (by decide)]
    refine ⟨⟨_, hp⟩, ⟨_, rfl⟩, by rw [List.length_map]; omega, lcs_ints (fun i hi ky kn G hk => ?_) (i_join (worths_len h.2 h2) (hf _ _ ?_ ⟨_, _, _, rfl⟩))⟩
    · exists dwipe
      exact ⟨log_lt (h2 i hi), hk⟩
    · rw [tup_tx _ (by decide), one_map]
  | p hi hj =>
    rename_i i j
    exists if_true
    rw [if_pos (by decide)]
    have e := pace_tx (k := kname 112) i j kn_p
    have li := int_len hi
    have lj := int_len hj
    have ls := len1 _ slash_tl
    have la : ∀ x y : Str, (x ++ y).length = x.length + y.length := fun x y => Array.size_append
    simp only [List.length_cons, List.length_nil] at ls
    have l2 : ((toString i : Str) ++ Str.ofString "/").length = (toString i : Str).length + 1 := by rw [la, ls]
    exists r_addVS
    refine ⟨⟨_, hp⟩, log_lt hi, by omega, log_lt hj, by omega, hf _ _ ?_ ⟨_, _, _, rfl⟩⟩
    rw [e, TL.join_eq]
    rfl
  | s xs h h2 =>
    exists if_true
    rw [if_neg (by decide)]
    refine i_inS ?_
    exists if_true
    rw [if_pos (by decide)]
    refine ⟨⟨_, hp⟩, ⟨_, rfl⟩, by rw [List.length_map]; omega, lcs_strs (fun x hx ky kn G hk => ?_) (i_join (keys_len h.2 h2) (hf _ _ ?_ ⟨_, _, _, rfl⟩))⟩
    · exists dwipe
      exact hk
    · rw [tup_tx _ (by decide), one_maps]
theorem lawtext_ok (hw : (w, ls) ∈ KS) (h : Ths (tl ls) ds) (hQ : Q (.str (TXT w (tl ls) ds)) G) : w_law_text e [.tup (.str w :: ds)] G Q E := by
  obtain ⟨h1, h9, _, hwl, _⟩ := ks_of hw
  have hl := h.len
  unfold w_law_text
  exists if_true
  refine kinds_ok fun p hp => ?_
  exists kinds_at hw
  refine newL_in fun pw G1 hp0 _ hp1 l1 _ => ?_
  have hpw : G pw = none := (Le.newB (o := .dK kindsKV) hp).no hp0
  have l01 : Le G G1 := (Le.newB hp).trans l1
  refine r_zipGP (ds := signs ls) (es := ds) rfl (by show some (cutD (D.str w :: ds) (some 1) none) = some ds; rw [cut_1]) (fun z => by cases z) ?_
  rw [signs_of]
  refine forD_inv (fun l σ G' => ∃ cs es acc o3 o4 o5, l = zipD (cs.map fun c => .str ⟨#[c]⟩) es ∧ Ths cs es ∧ acc ++ txs cs es = w :: txs (tl ls) ds ∧ G' pw = some (.lst (acc.map .str)) ∧ Le G G' ∧ σ = [some (.tup (.str w :: ds)), some (.str ls), some (.ref pw), o3, o4, o5]) (fun _ _ _ _ => trivial) (fun x l k σ G' hI hk => ?_) (fun σ G' hI => ?_) _ _ _ ⟨tl ls, ds, [w], _, _, _, rfl, h, rfl, hp1, l01, rfl⟩
  · obtain ⟨cs, es, acc, o3, o4, o5, e1, th, e2, hp, hle, rfl⟩ := hI
    cases th with
    | nil => cases e1
    | cons t th =>
      rename_i c d cs es
      injection e1 with e1 e3
      subst e1
      refine ⟨rfl, ?_⟩
      exists setAll
      have hln := congrArg List.length e2
      rw [List.length_append, List.length_cons, h.txs.2] at hln
      refine text_step t hp (by omega) fun σ' ⟨q3, q4, q5, eσ⟩ => hk _ _ ⟨cs, es, acc ++ [txk (kname c) d], q3, q4, q5, e3, th, by rw [List.append_assoc]; exact e2, put_same, le_put hle hpw, eσ⟩
  · obtain ⟨cs, es, acc, o3, o4, o5, e1, th, e2, hp, hle, rfl⟩ := hI
    cases th with
    | cons t th => cases e1
    | nil =>
      have e2 : acc ++ [] = _ := e2
      rw [List.append_nil] at e2
      exists if_true
      rw [asL_ref, hp, r_lstOf]
      refine ⟨⟨_, rfl⟩, i_join (by rw [e2]; exact Nat.le_trans (txt_len hw h) (by decide)) (fg_le hle ?_)⟩
      rw [e2]
      exact hQ
end
end P
namespace P
open PySem PySem.Spec L2 DL
section
variable {e : Env} {G : HD} {Q : Post} {E : DX} {w ls : Str} {ds : List D} {a : Addr}
theorem cap_le {k : Nat} : ∀ (ds : List D), (∀ d ∈ ds, capD d ≤ k) → capDs ds ≤ ds.length * (k + 2)
  | [], _ => Nat.zero_le _
  | d :: ds, h => by
    have ih := cap_le ds fun x hx => h x (List.mem_cons_of_mem _ hx)
    have := h d (by simp)
    show capD d + 2 + capDs ds ≤ _
    rw [List.length_cons, Nat.succ_mul]
    omega
theorem th_small {c : Nat} {d : D} (h : Th c d) : pureD 8 d = true ∧ smallD 8 d = true ∧ capD d ≤ 3000 := by
  have kx : ∀ {x : Str}, x ∈ Kys → (PyData.strOk x && decide (x.length ≤ 60)) = true := fun {x} hx => by
    have := key_of hx
    rw [this.2.2.2.2, decide_eq_true (by omega)]
    rfl
  have nx : ∀ {i : Int}, Nb i → decide (i.natAbs < 10 ^ 60) = true := fun {i} hi => decide_eq_true (Nat.lt_of_lt_of_le hi (by decide))
  cases h with
  | n h => exact ⟨rfl, nx h, by show 602 ≤ 3000; decide⟩
  | k h => exact ⟨(key_of h).2.2.2.2, kx h, by show 602 ≤ 3000; decide⟩
  | m h => rcases h with rfl | rfl <;> exact ⟨by decide +kernel, by decide +kernel, by show 602 ≤ 3000; decide⟩
  | w ns h h2 =>
    refine ⟨?_, ?_, ?_⟩
    · exact List.all_eq_true.mpr fun d hd => by obtain ⟨i, _, rfl⟩ := List.mem_map.mp hd; rfl
    · exact List.all_eq_true.mpr fun d hd => by obtain ⟨i, hi, rfl⟩ := List.mem_map.mp hd; exact nx (h2 i hi)
    · have := cap_le (k := 602) (ns.map D.int) fun d hd => by obtain ⟨i, _, rfl⟩ := List.mem_map.mp hd; exact Nat.le_refl _
      rw [List.length_map] at this
      show 5 + capDs (ns.map D.int) ≤ 3000
      omega
  | p hi hj => exact ⟨rfl, by show (decide _ && (decide _ && true)) = true; rw [nx hi, nx hj]; rfl, by show 5 + (602 + 2 + (602 + 2 + 0)) ≤ 3000; decide⟩
  | s xs h h2 =>
    refine ⟨?_, ?_, ?_⟩
    · exact List.all_eq_true.mpr fun d hd => by obtain ⟨x, hx, rfl⟩ := List.mem_map.mp hd; exact (key_of (h2 x hx)).2.2.2.2
    · exact List.all_eq_true.mpr fun d hd => by obtain ⟨x, hx, rfl⟩ := List.mem_map.mp hd; exact kx (h2 x hx)
    · have := cap_le (k := 602) (xs.map D.str) fun d hd => by obtain ⟨i, _, rfl⟩ := List.mem_map.mp hd; exact Nat.le_refl _
      rw [List.length_map] at this
      show 5 + capDs (xs.map D.str) ≤ 3000
      omega
theorem Ths.small {cs : List Nat} (h : Ths cs ds) : ds.all (pureD 8) = true ∧ ds.all (smallD 8) = true ∧ ∀ d ∈ ds, capD d ≤ 3000 := by
  induction h with
  | nil => exact ⟨rfl, rfl, fun d hd => by cases hd⟩
  | cons h _ ih =>
    obtain ⟨a, b, c⟩ := th_small h
    refine ⟨by rw [List.all_cons, a, ih.1]; rfl, by rw [List.all_cons, b, ih.2.1]; rfl, fun d hd => ?_⟩
    rcases List.mem_cons.mp hd with rfl | hd
    · exact c
    · exact ih.2.2 d hd
theorem keys_eq : strKeys kindsKV = some (KS.map (·.1)) := by kernel_rfl
theorem sort_kinds (hQ : ∀ (ys : List Str) p G', ys.Perm (KS.map (·.1)) → G' p = some (.lst (ys.map .str)) → Le G G' → G p = none → Q (.ref p) G') : srtO kindsKV G Q := by
  unfold srtO
  rw [keys_eq]
  exact ⟨by decide, fun ys hp _ => newL_in fun p G1 hp0 _ h1 l1 _ => hQ ys p G1 hp h1 l1 hp0⟩
theorem word_of {ys : List Str} (hp : ys.Perm (KS.map (·.1))) {y : Str} (hy : y ∈ ys) : ∃ ls, (y, ls) ∈ KS := by
  obtain ⟨⟨w, ls⟩, h1, rfl⟩ := List.mem_map.mp (hp.mem_iff.mp hy)
  exact ⟨ls, h1⟩
theorem len_of {ys : List Str} (hp : ys.Perm (KS.map (·.1))) : ys.length = 27 := by rw [hp.length_eq]; rfl
theorem drawn_ok (hG : Row G a) (hQ : ∀ w ls ds G', (w, ls) ∈ KS → Ths (tl ls) ds → Row G' a → Fr [a] G G' → Q (.tup (.str w :: ds)) G') : w_law_drawn e [.ref a] G Q E := by
  have hz := million (n := 1000) (by decide)
  unfold w_law_drawn
  exists if_true
  refine kinds_ok fun p hp => ?_
  exists if_true
  refine sort_kinds fun ys q G1 perm h1 l1 hq => ?_
  have hy := len_of perm
  have l01 : Le G G1 := (Le.newB hp).trans l1
  exists h1
  rw [List.length_map, hy]
  refine take_ok (hG.le l01) (by decide) (by decide) fun r G2 h0 hr R2 f2 => ?_
  have hqa : q ≠ a := by
    obtain ⟨_, _, _, _, hh⟩ := hG
    rintro rfl
    rw [show put G p (.dK kindsKV) q = some _ from Le.newB hp _ _ hh] at hq; cases hq
  have h2 := f2 q _ (by simpa using hqa) h1
  exists h2
  refine pickP h0 (by rw [List.length_map, hy]; omega) fun x hx => ?_
  obtain ⟨y, hym, rfl⟩ := List.mem_map.mp hx
  obtain ⟨ls, hw⟩ := word_of perm hym
  obtain ⟨k1, k2, _⟩ := ks_of hw
  exists if_true
  refine kinds_ok fun p3 hp3 => ?_
  exists kinds_at hw
  refine things_ok k1 (by omega) (R2.le (Le.newB hp3)) fun ds G4 th R4 f4 => ?_
  have hl := th.len
  exists if_true
  refine ⟨by show 1 + ds.length ≤ sizeLine; omega, fg_in (hQ y ls ds G4 hw th R4 ?_)⟩
  exact ((Fr.le l01).trans f2).trans ((Fr.le (Le.newB hp3)).trans f4)
end
end P
namespace P
open PySem PySem.Spec L2 DL
section
variable {e : Env} {G : HD} {Q : Post} {E : DX} {w ls : Str} {ds : List D}
theorem th_py (G : HD) {c : Nat} {d : D} (h : Th c d) : ∃ p, pyD 8 G d = some p := by
  cases h with
  | n h => exact ⟨_, rfl⟩
  | k h => exact ⟨.str _, if_pos (key_of h).2.2.2.2⟩
  | m h => 
    refine ⟨.str _, if_pos ?_⟩
    rcases h with rfl | rfl <;> decide +kernel
  | w ns h h2 =>
    obtain ⟨ps, hps⟩ := mapM_some (f := pyD 7 G) (l := ns.map D.int) fun a ha => by
      obtain ⟨i, _, rfl⟩ := List.mem_map.mp ha
      exact ⟨_, rfl⟩
    exact ⟨.tuple ps, by show ((ns.map D.int).mapM (pyD 7 G)).map PyData.tuple = _; rw [hps]; rfl⟩
  | p hi hj => exact ⟨_, rfl⟩
  | s xs h h2 =>
    obtain ⟨ps, hps⟩ := mapM_some (f := pyD 7 G) (l := xs.map D.str) fun a ha => by
      obtain ⟨x, hx, rfl⟩ := List.mem_map.mp ha
      exact ⟨.str _, if_pos (key_of (h2 x hx)).2.2.2.2⟩
    exact ⟨.tuple ps, by show ((xs.map D.str).mapM (pyD 7 G)).map PyData.tuple = _; rw [hps]; rfl⟩
theorem Ths.py (G : HD) {cs : List Nat} (h : Ths cs ds) : (∃ ps, ds.mapM (pyD 8 G) = some ps) ∧ ds.any isNon = false := by
  induction h with
  | nil => exact ⟨⟨[], rfl⟩, rfl⟩
  | cons h _ ih =>
    obtain ⟨⟨ps, h1⟩, h2⟩ := ih
    obtain ⟨p, hp⟩ := th_py G h
    exact ⟨⟨p :: ps, by rw [List.mapM_cons, hp, h1]; rfl⟩, by rw [List.any_cons, h2, (th_ok h).non]; rfl⟩
theorem rdr_n : (tbl_READERS e).lookup (kname 110) = some (.ref e.F_number_in) := rfl
theorem rdr_k : (tbl_READERS e).lookup (kname 107) = some (.ref e.F_key_in) := by kernel_rfl
theorem rdr_m : (tbl_READERS e).lookup (kname 109) = some (.ref e.F_mode_in) := by kernel_rfl
theorem rdr_w : (tbl_READERS e).lookup (kname 119) = some (.ref e.F_worth_in) := by kernel_rfl
theorem rdr_p : (tbl_READERS e).lookup (kname 112) = some (.ref e.F_pace_in) := by kernel_rfl
theorem rdr_s : (tbl_READERS e).lookup (kname 115) = some (.ref e.F_keys_in) := by kernel_rfl
/-- one word is read -/
theorem read_step {c : Nat} (hc : c ∈ lts) {x : Str} (hx : x.length ≤ 100000) {W : DW} {D' : DEnds} {pf : Addr} {acc : List D} {o0 o1 o2 o6 : Option D} (hp : G pf = some (.lst acc)) (hb : acc.length ≤ 1000)
    (hQ : ∀ σ', (∃ q4 q5 q6, σ' = [o0, o1, o2, some (.ref pf), q4, q5, q6]) → D'.nx σ' (put G pf (.lst (acc ++ [rdD (kname c) x])))) : l_read_deed_1 e W D' [o0, o1, o2, some (.ref pf), some (.str (kname c)), some (.str x), o6] G := by
  have hf : ∀ σ' d, d = rdD (kname c) x → (∃ q4 q5 q6, σ' = [o0, o1, o2, some (.ref pf), q4, q5, q6]) → appO (G pf) pf d G fun _ G1 => D'.nx σ' G1 := fun σ' t et hσ => by
    rw [hp, r_appO, et]
    exact ⟨by omega, hQ σ' hσ⟩
  unfold l_read_deed_1
  simp only [lts, List.mem_cons, List.not_mem_nil, or_false] at hc
  rcases hc with rfl | rfl | rfl | rfl | rfl | rfl
  · exists if_true
    rw [rdr_n]
    exists if_true
    refine ⟨⟨_, hp⟩, (e.F_number_in, w_number_in e), by simp, rfl, number_ok (e := e) (by omega) ?_⟩
    exists if_true
    exact hf _ _ (by rw [kn_n, rd_n]) ⟨_, _, _, rfl⟩
  · exists if_true
    rw [rdr_k]
    exists if_true
    refine ⟨⟨_, hp⟩, (e.F_key_in, w_key_in e), by simp, rfl, keyin_ok (e := e) (by omega) ?_⟩
    exists if_true
    exact hf _ _ (by rw [kn_k, rd_k]) ⟨_, _, _, rfl⟩
  · exists if_true
    rw [rdr_m]
    exists if_true
    refine ⟨⟨_, hp⟩, (e.F_mode_in, w_mode_in e), by simp, rfl, modein_ok (e := e)  ?_⟩
    exists if_true
    exact hf _ _ (by rw [kn_m, rd_m]) ⟨_, _, _, rfl⟩
  · exists if_true
    rw [rdr_w]
    exists if_true
    refine ⟨⟨_, hp⟩, (e.F_worth_in, w_worth_in e), by simp, rfl, worthin_ok (e := e) hx ?_⟩
    exists if_true
    exact hf _ _ (by rw [kn_w, rd_w]) ⟨_, _, _, rfl⟩
  · exists if_true
    rw [rdr_p]
    exists if_true
    refine ⟨⟨_, hp⟩, (e.F_pace_in, w_pace_in e), by simp, rfl, pacein_ok (e := e) hx ?_⟩
    exists if_true
    exact hf _ _ (by rw [kn_p, rd_p]) ⟨_, _, _, rfl⟩
  · exists if_true
    rw [rdr_s]
    exists if_true
    refine ⟨⟨_, hp⟩, (e.F_keys_in, w_keys_in e), by simp, rfl, keysin_ok (e := e) hx ?_⟩
    exists if_true
    exact hf _ _ (by rw [kn_s, rd_s]) ⟨_, _, _, rfl⟩
end
end P
namespace P
open PySem PySem.Spec L2 DL
/-! ### the deed that a text writes, by the law -/
def rdZ (cs : List Nat) (ys : List Str) : List D := List.zipWith (fun c y => rdD (kname c) y) cs ys
def dueW (w : Str) (ys : List Str) : D := match KS.lookup w with
  | none => .non
  | some ls => if (tl ls).length = ys.length then (if (rdZ (tl ls) ys).any isNon = true then .non else .tup (.str w :: rdZ (tl ls) ys)) else .non
def dueD (x : Str) : D := match Txt.split x " " with
  | [] => .non
  | w :: ys => dueW w ys
theorem lookup_mem {l : List (Str × Str)} {w ls : Str} (h : l.lookup w = some ls) : (w, ls) ∈ l := by
  induction l with
  | nil => cases h
  | cons p l ih =>
    obtain ⟨a, b⟩ := p
    rw [List.lookup_cons] at h
    by_cases e : w = a
    · subst e
      rw [beq_self_eq_true] at h
      cases h
      exact List.mem_cons_self
    · rw [beq_false_of_ne e] at h
      exact List.mem_cons_of_mem _ (ih h)
theorem val_kinds (w : Str) : valD kindsKV (Sum.inr w) = (KS.lookup w).map D.str := by
  have : ∀ l : List (Str × Str), valD (l.map fun p => ((Sum.inr p.1 : Key), D.str p.2)) (Sum.inr w) = (l.lookup w).map D.str := fun l => by
    induction l with
    | nil => rfl
    | cons p l ih =>
      obtain ⟨a, b⟩ := p
      rw [List.lookup_cons, List.map_cons]
      show (if (Sum.inr a : Key) = Sum.inr w then some (D.str b) else valD (l.map _) (Sum.inr w)) = _
      by_cases e : w = a
      · subst e
        rw [beq_self_eq_true, if_pos rfl]; rfl
      · rw [beq_false_of_ne e, if_neg (fun z => e (by injection z with z; exact z.symm)), ih]
  exact this KS
theorem numD_py7 (G : HD) (x : Str) : ∃ p, pyD 7 G (numD x) = some p := by
  unfold numD
  split
  · split
    · exact ⟨_, rfl⟩
    · exact ⟨_, rfl⟩
  · exact ⟨_, rfl⟩
theorem numsD_py (G : HD) (x m : Str) : ∃ p, pyD 8 G (numsD x m) = some p := by
  unfold numsD
  split
  · exact ⟨_, rfl⟩
  · obtain ⟨ps, hps⟩ := mapM_some (f := pyD 7 G) (l := (Txt.split x m).map numD) fun a ha => by
      obtain ⟨p, _, rfl⟩ := List.mem_map.mp ha
      exact numD_py7 G p
    exact ⟨.tuple ps, by show ((((Txt.split x m).map numD)).mapM (pyD 7 G)).map PyData.tuple = _; rw [hps]; rfl⟩
theorem rd_py (G : HD) {c : Nat} (hc : c ∈ lts) {x : Str} (hs : PyData.strOk x = true) : ∃ p, pyD 8 G (rdD (kname c) x) = some p := by
  simp only [lts, List.mem_cons, List.not_mem_nil, or_false] at hc
  rcases hc with rfl | rfl | rfl | rfl | rfl | rfl
  · rw [kn_n, rd_n]; exact numD_py G x
  · rw [kn_k, rd_k]
    unfold keyD
    split
    · exact ⟨.str _, if_pos hs⟩
    · exact ⟨_, rfl⟩
  · rw [kn_m, rd_m]
    unfold modeD
    split
    · exact ⟨.str _, if_pos hs⟩
    · exact ⟨_, rfl⟩
  · rw [kn_w, rd_w]
    unfold worthD
    split
    · exact ⟨_, rfl⟩
    · split
      · exact numsD_py G x _
      · exact ⟨_, rfl⟩
  · rw [kn_p, rd_p]
    unfold paceD
    split
    · exact ⟨_, rfl⟩
    · split
      · exact numsD_py G x _
      · exact ⟨_, rfl⟩
  · rw [kn_s, rd_s]
    unfold keysD
    split
    · obtain ⟨ps, hps⟩ := mapM_some (f := pyD 7 G) (l := (Txt.split x ",").map D.str) fun a ha => by
        obtain ⟨p, hp, rfl⟩ := List.mem_map.mp ha
        exact ⟨.str _, if_pos (split_ok comma_tl (by decide) hs hp)⟩
      exact ⟨.tuple ps, by show ((((Txt.split x ",").map D.str)).mapM (pyD 7 G)).map PyData.tuple = _; rw [hps]; rfl⟩
    · exact ⟨_, rfl⟩
theorem rdZ_py (G : HD) : ∀ {cs : List Nat} {ys : List Str}, (∀ c ∈ cs, c ∈ lts) → (∀ y ∈ ys, PyData.strOk y = true) → ∃ ps, (rdZ cs ys).mapM (pyD 8 G) = some ps
  | [], _, _, _ => ⟨[], by unfold rdZ; simp⟩
  | _ :: _, [], _, _ => ⟨[], by unfold rdZ; simp⟩
  | c :: cs, y :: ys, hc, hy => by
    obtain ⟨p, hp⟩ := rd_py G (hc c (by simp)) (hy y (by simp))
    obtain ⟨ps, hps⟩ := rdZ_py G (cs := cs) (ys := ys) (fun d h => hc d (List.mem_cons_of_mem _ h)) fun z h => hy z (List.mem_cons_of_mem _ h)
    exact ⟨p :: ps, by show (rdD (kname c) y :: rdZ cs ys).mapM (pyD 8 G) = _; rw [List.mapM_cons, hp, hps]; rfl⟩
def rdF : D → D
  | .tup [.str z, .str y] => rdD (kname ((tl z).headD 0)) y
  | _ => .non
theorem rdZ_map : ∀ (cs : List Nat) (ys : List Str), (zipD (cs.map fun c => .str ⟨#[c]⟩) (ys.map .str)).map rdF = rdZ cs ys
  | [], _ => rfl
  | _ :: _, [] => rfl
  | c :: cs, y :: ys => by
    show rdF (.tup [.str ⟨#[c]⟩, .str y]) :: (zipD _ _).map rdF = rdD (kname c) y :: rdZ cs ys
    rw [rdZ_map cs ys]
    rfl
theorem zip_in : ∀ {cs : List Nat} {ys : List Str} {d : D}, d ∈ zipD (cs.map fun c => D.str ⟨#[c]⟩) (ys.map .str) → ∃ c y, c ∈ cs ∧ y ∈ ys ∧ d = .tup [.str ⟨#[c]⟩, .str y]
  | [], _, _, h => by cases h
  | _ :: _, [], _, h => by cases h
  | c :: cs, y :: ys, d, h => by
    rcases List.mem_cons.mp (show d ∈ D.tup [.str ⟨#[c]⟩, .str y] :: zipD _ _ from h) with h | h
    · exact ⟨c, y, by simp, by simp, h⟩
    · obtain ⟨c2, y2, h1, h2, h3⟩ := zip_in h
      exact ⟨c2, y2, List.mem_cons_of_mem _ h1, List.mem_cons_of_mem _ h2, h3⟩
theorem cut_h {d : D} {ds : List D} : cutD (d :: ds) none (some 1) = [d] := by
  unfold cutD
  have e : HT.sIx (d :: ds).length (d :: ds).length (some 1) = 1 := (HT.sIx_nat _ _ 1).trans (by simp)
  rw [e, HT.sIx_none]
  rfl
section
variable {e : Env} {G : HD} {Q : Post} {E : DX} {x y m : Str}
theorem due_ok (hs : PyData.strOk x = true) (hx : x.length ≤ 100000) (hQ : Q (dueD x) G) : w_law_due e [.str x] G Q E := by
  have hz := million (n := x.length + 2) (by omega)
  have hz9 := million (n := 1000) (by decide)
  have hne := split_ne (x := x) space_tl (by decide)
  have hln := split_count (x := x) space_tl (by decide)
  have hso : ∀ p ∈ Txt.split x " ", PyData.strOk p = true := fun p hp => split_ok space_tl (by decide) hs hp
  have hsl : ∀ p ∈ Txt.split x " ", p.length ≤ x.length := fun p hp => split_mem space_tl (by decide) hp
  unfold w_law_due
  exists if_true
  unfold dueD at hQ
  generalize Txt.split x (Str.ofString " ") = ws at hne hln hso hsl hQ ⊢
  cases ws with
  | nil => exact absurd rfl hne
  | cons w ys =>
  dsimp only at hQ
  refine ⟨⟨_, rfl⟩, by rw [len1 _ space_tl]; rfl, hz, kinds_ok fun p hp => ?_⟩
  exists if_true
  rw [val_kinds]
  unfold dueW at hQ
  cases hk : KS.lookup w with
  | none =>
    rw [hk] at hQ
    exists Option.map_none, Option.getD_none
    exact ⟨⟨_, rfl⟩, fg_le (Le.newB hp) hQ⟩
  | some ls =>
    rw [hk] at hQ
    dsimp only at hQ
    have hw := lookup_mem hk
    obtain ⟨k1, k2, _⟩ := ks_of hw
    have hll := tl_len ls
    exists Option.map_some, Option.getD_some
    refine ⟨⟨_, rfl⟩, ?_⟩
    rw [if_neg (show ¬ DL.isNon (D.str ls) = true by intro z; cases z)]
    refine i_lenS (by omega) ?_
    exists if_true
    rw [List.length_map, cut_1, cut_h]
    by_cases hl : (tl ls).length = ys.length
    · rw [if_pos hl] at hQ
      rw [show decide (((ls.length : Nat) : Int) = ((ys.length + 1 : Nat) : Int) - 1) = true from decide_eq_true (by omega)]
      exists if_true
      refine r_zipGP (ds := signs ls) (es := ys.map .str) rfl rfl (fun z => by cases z) ?_
      rw [signs_of]
      refine ⟨by rw [zip_len, List.length_map]; omega, lc_map (f := rdF) (fun z hz2 ky kn G hk2 => ?_) ?_⟩
      · obtain ⟨c, y, hc, hy, rfl⟩ := zip_in hz2
        refine ⟨rfl, ?_⟩
        exists dwipe, setAll
        exact lread_ok (k1 c hc) (hso y (List.mem_cons_of_mem _ hy)) (by have := hsl y (List.mem_cons_of_mem _ hy); omega) hk2
      · rw [List.nil_append, rdZ_map]
        have hrl : (rdZ (tl ls) ys).length = ys.length := by unfold rdZ; rw [List.length_zipWith, hl]; omega
        refine ⟨by rw [hrl]; show 1 + ys.length ≤ sizeLine; omega, i_tupK ?_⟩
        obtain ⟨ps, hps⟩ := rdZ_py (put G p (.dK kindsKV)) (cs := tl ls) (ys := ys) k1 fun y hy => hso y (List.mem_cons_of_mem _ hy)
        refine i_inN (es := rdZ (tl ls) ys) rfl hps rfl ?_
        exists if_true
        cases hb : (rdZ (tl ls) ys).any DL.isNon
        · rw [hb, if_neg (by decide)] at hQ
          exists if_true
          exact fg_le (Le.newB hp) hQ
        · rw [hb, if_pos rfl] at hQ
          exists if_true
          exact fg_le (Le.newB hp) hQ
    · rw [if_neg hl] at hQ
      rw [show decide (((ls.length : Nat) : Int) = ((ys.length + 1 : Nat) : Int) - 1) = false from decide_eq_false (by omega)]
      exists if_true
      exact fg_le (Le.newB hp) hQ
end
end P
namespace P
open PySem PySem.Spec L2 DL
/-! ### read_deed of any text -/
theorem forms_keys (e : Env) : (tbl_FORMS e).map (·.1) = KS.map (·.1) := by unfold tbl_FORMS; kernel_rfl
theorem lookup_no {α : Type} : ∀ {l : List (Str × α)} {w : Str}, w ∉ l.map (·.1) → l.lookup w = none
  | [], _, _ => rfl
  | (a, b) :: l, w, h => by
    simp only [List.map_cons, List.mem_cons, not_or] at h
    rw [List.lookup_cons, beq_false_of_ne h.1]
    exact lookup_no h.2
theorem lookup_some {α : Type} : ∀ {l : List (Str × α)} {w : Str}, w ∈ l.map (·.1) → ∃ d, l.lookup w = some d
  | [], _, h => by cases h
  | (a, b) :: l, w, h => by
    rw [List.lookup_cons]
    by_cases e : w = a
    · subst e; rw [beq_self_eq_true]; exact ⟨_, rfl⟩
    · rw [beq_false_of_ne e]
      refine lookup_some (l := l) ?_
      simp only [List.map_cons, List.mem_cons] at h
      exact h.resolve_left e
theorem forms_no (e : Env) {w : Str} (h : KS.lookup w = none) : (tbl_FORMS e).lookup w = none := by
  refine lookup_no fun hm => ?_
  rw [forms_keys] at hm
  obtain ⟨d, hd⟩ := lookup_some hm
  rw [h] at hd; cases hd
section
variable {e : Env} {G : HD} {Q : Post} {E : DX} {x y m : Str}
theorem readg_ok (hs : PyData.strOk x = true) (hx : x.length ≤ 100000) (hQ : dueD x ≠ .non → Q (dueD x) G) (hE : dueD x = .non → E (.ref e.C_NoText) [("row", .int 0)] G) : w_read_deed e [.str x] G Q E := by
  have hz := million (n := x.length + 2) (by omega)
  have hz9 := million (n := 1000) (by decide)
  have hne := split_ne (x := x) space_tl (by decide)
  have hln := split_count (x := x) space_tl (by decide)
  have hso : ∀ p ∈ Txt.split x " ", PyData.strOk p = true := fun p hp => split_ok space_tl (by decide) hs hp
  have hsl : ∀ p ∈ Txt.split x " ", p.length ≤ x.length := fun p hp => split_mem space_tl (by decide) hp
  unfold w_read_deed
  exists if_true
  unfold dueD at hQ hE
  generalize Txt.split x (Str.ofString " ") = ws at hne hln hso hsl hQ hE ⊢
  cases ws with
  | nil => exact absurd rfl hne
  | cons w ys =>
  dsimp only at hQ hE
  unfold dueW at hQ hE
  cases hk : KS.lookup w with
  | none =>
    rw [hk] at hE
    have hf := forms_no e hk
    exists hf
    refine ⟨⟨_, rfl⟩, by rw [len1 _ space_tl]; rfl, hz, ?_⟩
    rw [if_pos (by decide)]
    exact ⟨G, Le.refl _, hE rfl⟩
  | some ls =>
    rw [hk] at hQ hE
    dsimp only at hQ hE
    have hw := lookup_mem hk
    obtain ⟨k1, k2, _⟩ := ks_of hw
    have hf := forms_at e hw
    exists hf
    refine ⟨⟨_, rfl⟩, by rw [len1 _ space_tl]; rfl, hz, ?_⟩
    rw [if_neg (show ¬ (!(some (D.tup (List.map (fun c => D.str (kname c)) (tl ls)))).isSome) = true from by simp)]
    rw [List.length_map, List.length_map]
    by_cases hl : (tl ls).length = ys.length
    · rw [if_pos hl] at hQ hE
      rw [if_neg (show ¬ (!decide (((ys.length : Nat) : Int) = (((tl ls).length : Nat) : Int))) = true from by simp; omega)]
      refine newL_in fun pf G1 hp0 _ hp1 l1 _ => ?_
      refine r_zipGP (ds := (tl ls).map fun c => .str (kname c)) (es := ys.map .str) rfl rfl (fun _ => by rw [List.length_map, List.length_map, hl]) ?_
      refine forD_inv (fun l σ G' => ∃ cs zs acc o4 o5 o6, l = zipD (cs.map fun c => .str (kname c)) (zs.map .str) ∧ cs.length = zs.length ∧ (∀ c ∈ cs, c ∈ lts) ∧ (∀ z ∈ zs, z ∈ ys) ∧ acc ++ rdZ cs zs = rdZ (tl ls) ys ∧ G' pf = some (.lst acc) ∧ Le G G' ∧ σ = [some (.str x), some (.str w), some (.kl (ys.map .str)), some (.ref pf), o4, o5, o6]) (fun _ _ _ _ => trivial) (fun d l k σ G' hI hk => ?_) (fun σ G' hI => ?_) _ _ _ ⟨tl ls, ys, [], _, _, _, rfl, hl, k1, fun _ h => h, rfl, hp1, l1, rfl⟩
      · obtain ⟨cs, zs, acc, o4, o5, o6, e1, hcl, hcs, hzs, e2, hp, hle, rfl⟩ := hI
        cases cs with
        | nil => cases e1
        | cons c cs =>
        cases zs with
        | nil => cases e1
        | cons z zs =>
          injection e1 with e1 e3
          subst e1
          refine ⟨rfl, ?_⟩
          exists setAll
          have hll := congrArg List.length e2
          have e4 : rdZ (c :: cs) (z :: zs) = rdD (kname c) z :: rdZ cs zs := rfl
          have e5 : (rdZ (tl ls) ys).length ≤ 4 := by unfold rdZ; rw [List.length_zipWith]; omega
          rw [List.length_append] at hll
          refine read_step (hcs c (by simp)) (by have := hsl z (List.mem_cons_of_mem _ (hzs z (by simp))); omega) hp (by omega) fun σ' ⟨q4, q5, q6, eσ⟩ => hk _ _ ⟨cs, zs, acc ++ [rdD (kname c) z], q4, q5, q6, e3, by simpa using hcl, fun c h => hcs c (List.mem_cons_of_mem _ h), fun z h => hzs z (List.mem_cons_of_mem _ h), by rw [List.append_assoc, ← e2, e4]; rfl, put_same, le_put hle hp0, eσ⟩
      · obtain ⟨cs, zs, acc, o4, o5, o6, e1, hcl, hcs, hzs, e2, hp, hle, rfl⟩ := hI
        have e0 : rdZ cs zs = [] := by
          cases cs with
          | nil => rfl
          | cons c cs =>
            cases zs with
            | nil => rfl
            | cons z zs => cases e1
        rw [e0, List.append_nil] at e2
        subst e2
        exists if_true
        obtain ⟨ps, hps⟩ := rdZ_py G' (cs := tl ls) (ys := ys) k1 fun y hy => hso y (List.mem_cons_of_mem _ hy)
        refine i_inN (es := rdZ (tl ls) ys) (by rw [asL_ref, hp]; rfl) hps rfl ?_
        exists if_true
        cases hb : (rdZ (tl ls) ys).any DL.isNon
        · rw [hb, if_neg (by decide)] at hQ
          exists if_true
          show (match asQ G' (.ref pf) with | some es => dAddV (.tup [.str w]) (.tup es) G' (fg Q) | none => False)
          rw [show asQ G' (.ref pf) = some (rdZ (tl ls) ys) by show asL G' (.ref pf) = _; rw [asL_ref, hp]; rfl]
          refine ⟨?_, fg_le hle (hQ (by simp))⟩
          show 1 + (rdZ (tl ls) ys).length ≤ sizeLine
          unfold rdZ; rw [List.length_zipWith]; omega
        · rw [hb, if_pos rfl] at hE
          exists if_true
          exact ⟨G, hle, hE rfl⟩
    · rw [if_neg hl] at hE
      rw [if_pos (show (!decide (((ys.length : Nat) : Int) = (((tl ls).length : Nat) : Int))) = true from by simp; omega)]
      exact ⟨G, Le.refl _, hE rfl⟩
end
end P
namespace P
open PySem PySem.Spec L2 DL
open TL (spl)
/-! ### the deed found, told; the law's question of one text -/
theorem spl1_two {s : Nat} : ∀ (l acc : List Nat), (∀ p ∈ spl [s] 0 acc l, 1 ≤ p.length) → 2 * (spl [s] 0 acc l).length ≤ acc.length + l.length + 1
  | [], acc, h => by
    rw [TL.spl_nil] at h ⊢
    have := h acc (by simp)
    simp only [List.length_cons, List.length_nil]
    omega
  | c :: r, acc, h => by
    by_cases e : c = s
    · subst e
      rw [spl1_hit] at h ⊢
      have h1 := h acc (by simp)
      have ih := spl1_two r [] fun p hp => h p (List.mem_cons_of_mem _ hp)
      simp only [List.length_cons, List.length_nil] at ih ⊢
      omega
    · rw [spl1_miss e] at h ⊢
      have ih := spl1_two r (acc ++ [c]) h
      rw [List.length_append] at ih
      simp only [List.length_cons, List.length_nil] at ih ⊢
      omega
theorem keys_two {y : Str} (h : (Txt.split y ",").all keyB = true) : 2 * (Txt.split y ",").length ≤ y.length + 1 := by
  have e := split_tl (x := y) comma_tl (by decide)
  have := spl1_two (s := 44) (tl y) [] (by
    rw [← e]
    intro p hp
    obtain ⟨x, hx, rfl⟩ := List.mem_map.mp hp
    have hk := List.all_eq_true.mp h x hx
    unfold keyB at hk
    rw [Bool.and_eq_true, decide_eq_true_eq] at hk
    rw [tl_len]
    exact hk.1.1)
  rw [← e, List.length_map, tl_len] at this
  simpa using this
theorem keyB_len {x : Str} (h : keyB x = true) : x.length ≤ 6 := by
  unfold keyB at h
  rw [Bool.and_eq_true, decide_eq_true_eq] at h
  exact h.1.2
theorem num_small (x : Str) : pureD 7 (numD x) = true ∧ smallD 7 (numD x) = true ∧ capD (numD x) ≤ 602 := by
  rw [lnum_eq]
  split
  · rename_i h
    have hf := figOk_int (lnum_fig h)
    exact ⟨rfl, decide_eq_true (Nat.lt_of_lt_of_le hf.2.2 (by decide)), by show 602 ≤ 602; decide⟩
  · exact ⟨rfl, rfl, by decide⟩
theorem numT_small {ps : List Str} (h : ps.length ≤ 4) : pureD 8 (.tup (ps.map numD)) = true ∧ smallD 8 (.tup (ps.map numD)) = true ∧ capD (.tup (ps.map numD)) ≤ 3000 := by
  refine ⟨?_, ?_, ?_⟩
  · exact List.all_eq_true.mpr fun d hd => by obtain ⟨p, _, rfl⟩ := List.mem_map.mp hd; exact (num_small p).1
  · exact List.all_eq_true.mpr fun d hd => by obtain ⟨p, _, rfl⟩ := List.mem_map.mp hd; exact (num_small p).2.1
  · have := cap_le (k := 602) (ps.map numD) fun d hd => by obtain ⟨p, _, rfl⟩ := List.mem_map.mp hd; exact (num_small p).2.2
    rw [List.length_map] at this
    show 5 + capDs (ps.map numD) ≤ 3000
    omega
def capK (c : Nat) : Nat := if c = 115 then 665400 else 3000
theorem non_small (c : Nat) : pureD 8 .non = true ∧ smallD 8 .non = true ∧ capD .non ≤ capK c := ⟨rfl, rfl, Nat.le_trans (show capD .non ≤ 602 by decide) (by unfold capK; split <;> decide)⟩
theorem rd_small {c : Nat} (hc : c ∈ lts) {y : Str} (hs : PyData.strOk y = true) (hy : y.length ≤ 2200) : pureD 8 (rdD (kname c) y) = true ∧ smallD 8 (rdD (kname c) y) = true ∧ capD (rdD (kname c) y) ≤ capK c := by
  simp only [lts, List.mem_cons, List.not_mem_nil, or_false] at hc
  rcases hc with rfl | rfl | rfl | rfl | rfl | rfl
  · rw [kn_n, rd_n, lnum_eq]
    split
    · rename_i h
      have hf := figOk_int (lnum_fig h)
      exact ⟨rfl, decide_eq_true (Nat.lt_of_lt_of_le hf.2.2 (by decide)), by show 602 ≤ _; decide⟩
    · exact non_small _
  · rw [kn_k, rd_k]
    unfold keyD
    split
    · rename_i h
      have := keyB_len h
      exact ⟨hs, by show (PyData.strOk y && decide (y.length ≤ 60)) = true; rw [hs, decide_eq_true (by omega)]; rfl, by show 602 ≤ _; decide⟩
    · exact non_small _
  · rw [kn_m, rd_m]
    unfold modeD
    split
    · rename_i h
      refine ⟨hs, ?_, by show 602 ≤ _; decide⟩
      rcases h with rfl | rfl <;> decide +kernel
    · exact non_small _
  · rw [kn_w, rd_w]
    unfold worthD
    split
    · exact non_small _
    · split
      · rename_i h1 h2
        unfold numsD at h1 h2 ⊢
        split
        · exact non_small _
        · rename_i h3
          rw [if_neg h3] at h2
          have h2 : ((Txt.split y ",").map numD).length ≤ 4 := h2
          rw [List.length_map] at h2
          exact numT_small h2
      · exact non_small _
  · rw [kn_p, rd_p]
    unfold paceD
    split
    · exact non_small _
    · split
      · rename_i h1 h2
        unfold numsD at h1 h2 ⊢
        split
        · exact non_small _
        · rename_i h3
          rw [if_neg h3] at h2
          have h2 : ((Txt.split y "/").map numD).length = 2 := h2
          rw [List.length_map] at h2
          exact numT_small (by omega)
      · exact non_small _
  · rw [kn_s, rd_s]
    unfold keysD
    split
    · rename_i h
      have h2 := keys_two h
      have hso : ∀ p ∈ Txt.split y ",", PyData.strOk p = true := fun p hp => split_ok comma_tl (by decide) hs hp
      refine ⟨?_, ?_, ?_⟩
      · exact List.all_eq_true.mpr fun d hd => by obtain ⟨p, hp, rfl⟩ := List.mem_map.mp hd; exact hso p hp
      · exact List.all_eq_true.mpr fun d hd => by
          obtain ⟨p, hp, rfl⟩ := List.mem_map.mp hd
          have := keyB_len (List.all_eq_true.mp h p hp)
          show (PyData.strOk p && decide (p.length ≤ 60)) = true
          rw [hso p hp, decide_eq_true (by omega)]; rfl
      · have := cap_le (k := 602) ((Txt.split y ",").map D.str) fun d hd => by obtain ⟨i, _, rfl⟩ := List.mem_map.mp hd; exact Nat.le_refl _
        rw [List.length_map] at this
        show 5 + capDs ((Txt.split y ",").map D.str) ≤ 665400
        omega
    · exact non_small _
theorem rdZ_small : ∀ {cs : List Nat} {ys : List Str}, (∀ c ∈ cs, c ∈ lts) → (∀ y ∈ ys, PyData.strOk y = true ∧ y.length ≤ 2200) → (rdZ cs ys).all (pureD 8) = true ∧ (rdZ cs ys).all (smallD 8) = true ∧ capDs (rdZ cs ys) ≤ (cs.map fun c => capK c + 2).sum
  | [], _, _, _ => ⟨rfl, rfl, Nat.zero_le _⟩
  | _ :: _, [], _, _ => ⟨rfl, rfl, Nat.zero_le _⟩
  | c :: cs, y :: ys, hc, hy => by
    obtain ⟨a1, a2, a3⟩ := rd_small (hc c (by simp)) (hy y (by simp)).1 (hy y (by simp)).2
    obtain ⟨b1, b2, b3⟩ := rdZ_small (cs := cs) (ys := ys) (fun d h => hc d (List.mem_cons_of_mem _ h)) fun z h => hy z (List.mem_cons_of_mem _ h)
    refine ⟨?_, ?_, ?_⟩
    · show (rdD (kname c) y :: rdZ cs ys).all (pureD 8) = true
      rw [List.all_cons, a1, b1]; rfl
    · show (rdD (kname c) y :: rdZ cs ys).all (smallD 8) = true
      rw [List.all_cons, a2, b2]; rfl
    · show capD (rdD (kname c) y) + 2 + capDs (rdZ cs ys) ≤ _
      rw [List.map_cons, List.sum_cons]
      omega
theorem ks_cap : (KS.all fun p => decide (((tl p.2).map fun c => capK c + 2).sum ≤ 990000)) = true := by decide +kernel
theorem due_repr {x : Str} {G : HD} {Q : Post} (hs : PyData.strOk x = true) (hx : x.length ≤ 2200) (hn : dueD x ≠ .non) (hQ : Q (.str (toPy 9 (dueD x)).shown) G) : rReprX [dueD x] G Q := by
  have hso : ∀ p ∈ Txt.split x " ", PyData.strOk p = true := fun p hp => split_ok space_tl (by decide) hs hp
  have hsl : ∀ p ∈ Txt.split x " ", p.length ≤ x.length := fun p hp => split_mem space_tl (by decide) hp
  unfold dueD at hn hQ ⊢
  generalize Txt.split x (Str.ofString " ") = ws at hso hsl hn hQ ⊢
  cases ws with
  | nil => exact absurd rfl hn
  | cons w ys =>
  dsimp only at hn hQ ⊢
  unfold dueW at hn hQ ⊢
  cases hk : KS.lookup w with
  | none => rw [hk] at hn; exact absurd rfl hn
  | some ls =>
    rw [hk] at hn hQ
    dsimp only at hn hQ ⊢
    have hw := lookup_mem hk
    obtain ⟨k1, k2, _, hwl, hok⟩ := ks_of hw
    by_cases hl : (tl ls).length = ys.length
    · rw [if_pos hl] at hn hQ ⊢
      by_cases hb : (rdZ (tl ls) ys).any DL.isNon = true
      · rw [if_pos hb] at hn; exact absurd rfl hn
      · rw [if_neg hb] at hQ ⊢
        obtain ⟨a, b, c⟩ := rdZ_small (cs := tl ls) (ys := ys) k1 fun y hy => ⟨hso y (List.mem_cons_of_mem _ hy), Nat.le_trans (hsl y (List.mem_cons_of_mem _ hy)) hx⟩
        have hcap := of_decide_eq_true (List.all_eq_true.mp ks_cap _ hw)
        dsimp only at hcap
        refine i_reprS (.inl ?_) ?_ ?_ hQ
        · show (PyData.strOk w && (rdZ (tl ls) ys).all (pureD 8)) = true
          rw [hok, a]; rfl
        · show ((PyData.strOk w && decide (w.length ≤ 60)) && (rdZ (tl ls) ys).all (smallD 8)) = true
          rw [hok, b, decide_eq_true (by omega)]; rfl
        · show 5 + (602 + 2 + capDs (rdZ (tl ls) ys)) ≤ 1000000
          omega
    · rw [if_neg hl] at hn; exact absurd rfl hn
theorem isNon_of {d : D} (h : d ≠ .non) : DL.isNon d = false := by
  cases d with
  | non => exact absurd rfl h
  | _ => rfl
theorem row_at : List.lookup (Str.ofString "row") ([Str.ofString "row"].zip [D.int 0]) = some (D.int 0) := by
  rw [List.zip_cons_cons, List.lookup_cons, beq_self_eq_true]
section
variable {e : Env} {G : HD} {Q : Post} {E : DX} {x : Str}
theorem right_any (g : e.Good) (hs : PyData.strOk x = true) (hx : x.length ≤ 2200) (hQ : Q (.bl true) G) : w_law_right e [.str x] G Q E := by
  unfold w_law_right
  exists q_seqJ
  refine readg_ok hs (by omega) (fun hn => ?_) (fun hn => ?_)
  · exists if_true
    refine due_ok hs (by omega) ?_
    rw [isNon_of hn]
    exists if_true
    refine due_repr hs hx hn ?_
    refine due_repr hs hx hn ?_
    exists decide_true
    exact fg_in hQ
  · refine catch1 g.xm_WaitError_NoText ?_
    exists if_true
    refine due_ok hs (by omega) ?_
    rw [hn]
    exists if_true
    refine ⟨true, g.ec_NoText_NoText, ?_⟩
    rw [if_pos rfl]
    refine i_isiW2 g.ec_NoText_NoDeed g.ec_NoText_NoRow ?_
    exists if_true
    refine ⟨g.xf_NoText_row, ?_⟩
    rw [row_at]
    exists if_true
    refine i_reprS (.inl rfl) (by decide) (by decide) ?_
    exists if_true
    rw [show (toPy 9 (.int 0)).shown = Str.ofString "0" by decide +kernel, decide_eq_true rfl]
    exact fg_in hQ
theorem read_non {x : D} (hq : ∀ Q' : Post, Q' (.bl false) G → rIsiE e.ic e.ec [x, .ty "str"] G Q') (hE : E (.ref e.C_NoText) [("row", .int 0)] G) : w_read_deed e [x] G Q E := by
  unfold w_read_deed
  exists if_true
  refine hq _ ?_
  exists if_true
  exact ⟨G, Le.refl _, hE⟩
theorem due_non {x : D} (hq : ∀ Q' : Post, Q' (.bl false) G → rIsiE e.ic e.ec [x, .ty "str"] G Q') (hQ : Q .non G) : w_law_due e [x] G Q E := by
  unfold w_law_due
  exists if_true
  refine hq _ ?_
  exists if_true
  exact fg_in hQ
theorem right_non {x : D} (g : e.Good) (hq : ∀ Q' : Post, Q' (.bl false) G → rIsiE e.ic e.ec [x, .ty "str"] G Q') (hQ : Q (.bl true) G) : w_law_right e [x] G Q E := by
  unfold w_law_right
  exists q_seqJ
  refine read_non hq ?_
  refine catch1 g.xm_WaitError_NoText ?_
  exists if_true
  refine due_non hq ?_
  exists if_true
  refine ⟨true, g.ec_NoText_NoText, ?_⟩
  rw [if_pos rfl]
  refine i_isiW2 g.ec_NoText_NoDeed g.ec_NoText_NoRow ?_
  exists if_true
  refine ⟨g.xf_NoText_row, ?_⟩
  rw [row_at]
  exists if_true
  refine i_reprS (.inl rfl) (by decide) (by decide) ?_
  exists if_true
  rw [show (toPy 9 (.int 0)).shown = Str.ofString "0" by decide +kernel, decide_eq_true rfl]
  exact fg_in hQ
end
end P
namespace P
open PySem PySem.Spec L2 DL
open TL (spl)
/-! ### texts put otherwise -/
theorem spl1_sum {s : Nat} : ∀ (l acc : List Nat), ((spl [s] 0 acc l).map List.length).sum + (spl [s] 0 acc l).length = acc.length + l.length + 1
  | [], acc => by rw [TL.spl_nil]; simp
  | c :: r, acc => by
    by_cases e : c = s
    · subst e
      rw [spl1_hit]
      have ih := spl1_sum (s := c) r []
      simp only [List.map_cons, List.sum_cons, List.length_cons, List.length_nil] at ih ⊢
      omega
    · rw [spl1_miss e]
      have ih := spl1_sum (s := s) r (acc ++ [c])
      rw [List.length_append] at ih
      simp only [List.length_cons, List.length_nil] at ih ⊢
      omega
theorem split_sum {x m : Str} {s : Nat} (hm : tl m = [s]) (hs : s < 256) : ((Txt.split x m).map (·.length)).sum + (Txt.split x m).length = x.length + 1 := by
  have e := split_tl (x := x) hm hs
  have := spl1_sum (s := s) (tl x) []
  rw [← e, List.map_map, List.length_map, tl_len] at this
  have e2 : (Txt.split x m).map (List.length ∘ tl) = (Txt.split x m).map (·.length) := List.map_congr_left fun p _ => tl_len p
  rw [e2] at this
  simpa using this
theorem tl_app (x y : Str) : tl (x ++ y) = tl x ++ tl y := by
  show (x.cps ++ y.cps).toList = _
  rw [Array.toList_append]; rfl
theorem app_len (x y : Str) : (x ++ y).length = x.length + y.length := Array.size_append
theorem app_ok {x y : Str} (hx : PyData.strOk x = true) (hy : PyData.strOk y = true) : PyData.strOk (x ++ y) = true := by
  rw [strOk_tl] at hx hy ⊢
  intro c hc
  rw [tl_app] at hc
  rcases List.mem_append.mp hc with h | h
  · exact hx c h
  · exact hy c h
theorem join_ok {m : Str} {xs : List Str} (hm : PyData.strOk m = true) (hx : ∀ x ∈ xs, PyData.strOk x = true) : PyData.strOk (Txt.join m xs) = true := by
  rw [strOk_tl] at hm ⊢
  intro c hc
  refine Nat.lt_of_not_le fun hge => ?_
  refine join_free (s := c) (m := m) (fun h => ?_) (xs := xs) (fun x hx2 h => ?_) hc
  · have := hm c h; omega
  · have := (strOk_tl.mp (hx x hx2)) c h; omega
theorem cut_len {x : Str} {lo hi : Option Int} : (cutS x lo hi).length ≤ x.length := by
  rw [← tl_len, tl_cut]
  refine Nat.le_trans (List.length_take_le' _ _) ?_
  rw [List.length_drop, tl_len]
  omega
theorem cutD_take {ds : List D} {k : Nat} : cutD ds none (some (k : Int)) = ds.take k := by
  unfold cutD
  rw [HT.sIx_none, HT.sIx_nat, List.drop_zero, Nat.sub_zero]
  by_cases h : k ≤ ds.length
  · rw [Nat.min_eq_left h]
  · rw [Nat.min_eq_right (by omega), List.take_of_length_le (by omega), List.take_of_length_le (by omega)]
theorem cutD_drop {ds : List D} {k : Nat} : cutD ds (some (k : Int)) none = ds.drop k := by
  unfold cutD
  rw [HT.sIx_none, HT.sIx_nat]
  by_cases h : k ≤ ds.length
  · rw [Nat.min_eq_left h, List.take_of_length_le (by rw [List.length_drop]; omega)]
  · rw [Nat.min_eq_right (by omega), List.drop_of_length_le (by omega), List.drop_of_length_le (by omega), List.take_nil]
def SG : Str := "0123456789-,/ abz_+.A\n\t"
theorem sg_len : SG.length = 23 := by decide +kernel
theorem sg_ok : PyData.strOk SG = true := by decide +kernel
theorem sp_ok : PyData.strOk (Str.ofString " ") = true := by decide +kernel
theorem sum_take (l : List Nat) (k : Nat) : (l.take k).sum + (l.drop k).sum = l.sum := by
  rw [← List.sum_append, List.take_append_drop]
def ODDS : List Str := ["", "0", "a", "1,2", "1/2", "write", "-0", "a,b"]
theorem odds_b : (ODDS.all fun x => PyData.strOk x && decide (x.length ≤ 5)) = true := by decide +kernel
section
variable {e : Env} {G : HD} {Q : Post} {E : DX} {x y : Str} {a : Addr}
theorem join_fin {xs : List Str} {n : Nat} (hn : n ≤ 100000) (hs : ∀ x ∈ xs, PyData.strOk x = true) (hb : (xs.map (·.length)).sum + xs.length ≤ n) (hQ : ∀ y, PyData.strOk y = true → y.length ≤ n → Q (.str y) G) : joinO " " (some (xs.map D.str)) G Q := by
  have h1 := join_len " " xs
  rw [len1 _ space_tl] at h1
  simp only [List.length_cons, List.length_nil, Nat.zero_add, Nat.mul_one] at h1
  refine i_join ?_ (hQ _ (join_ok sp_ok hs) (Nat.le_trans h1 hb))
  rw [len1 _ space_tl]
  simp only [List.length_cons, List.length_nil, Nat.zero_add, Nat.mul_one]
  omega
theorem bent_ok (hs : PyData.strOk x = true) (hx : x.length ≤ 1090) (hG : Row G a) (hQ : ∀ y G', PyData.strOk y = true → y.length ≤ 2 * x.length + 10 → Row G' a → Fr [a] G G' → Q (.str y) G') : w_law_bent e [.ref a, .str x] G Q E := by
  have hz := million (n := 10000) (by decide)
  unfold w_law_bent
  exists if_true
  refine i_lenS (by omega) ?_
  exists if_true
  refine take_ok hG (by omega) (by omega) fun r G1 h0 h1 R1 f1 => ?_
  refine i_lenS (x := SG) (by rw [sg_len]; decide) ?_
  rw [sg_len]
  refine take_ok R1 (by decide) (by decide) fun r2 G2 h2 h3 R2 f2 => ?_
  obtain ⟨r, rfl⟩ := Int.eq_ofNat_of_zero_le h0
  obtain ⟨r2, rfl⟩ := Int.eq_ofNat_of_zero_le h2
  have hsg : r2 < (tl SG).length := by rw [tl_len, sg_len]; omega
  refine i_ixS (x := SG) (c := (tl SG)[r2]) (by rw [sg_len]; decide) (DL.atI_nat (List.getElem?_eq_getElem hsg)) ?_
  have hcok : PyData.strOk (⟨#[(tl SG)[r2]]⟩ : Str) = true := by
    have := strOk_tl.mp sg_ok _ (List.getElem_mem hsg)
    rw [strOk_tl]
    intro c hc
    rw [List.mem_singleton.mp (show c ∈ [(tl SG)[r2]] from hc)]
    exact this
  generalize hsgn : (⟨#[(tl SG)[r2]]⟩ : Str) = sgn at hcok
  have hcl : sgn.length = 1 := by rw [← hsgn]; rfl
  refine take_ok R2 (by decide) (by decide) fun w G3 h4 h5 R3 f3 => ?_
  exists if_true
  have ff := (f1.trans f2).trans f3
  have hc1 := fun lo hi => cut_len (x := x) (lo := lo) (hi := hi)
  have hc2 := fun lo hi => cut_ok (x := x) (lo := lo) (hi := hi) hs
  split
  · rename_i hw
    exists r_addVS
    have a1 := hc1 none (some (r : Int)); have a2 := hc1 (some (r : Int)) none; have a3 := hc1 (some ((r : Int) + 1)) none
    have b1 := hc2 none (some (r : Int)); have b2 := hc2 (some (r : Int)) none; have b3 := hc2 (some ((r : Int) + 1)) none
    generalize cutS x none (some (r : Int)) = p1 at a1 b1 ⊢
    generalize cutS x (some (r : Int)) none = p2 at a2 b2 ⊢
    generalize cutS x (some ((r : Int) + 1)) none = p3 at a3 b3 ⊢
    refine ⟨by omega, by omega, by omega, by rw [app_len]; omega, by omega, by omega, by omega, by rw [app_len]; omega, by omega, by omega, by omega, pickP h4 (by have := of_decide_eq_true hw; simp only [List.length_cons, List.length_nil]; omega) fun z hz => ?_⟩
    simp only [List.mem_cons, List.not_mem_nil, or_false] at hz
    rcases hz with rfl | rfl | rfl
    · exact fg_in (hQ _ _ (app_ok (app_ok b1 hcok) b2) (by rw [app_len, app_len]; omega) R3 ff)
    · exact fg_in (hQ _ _ (app_ok (app_ok b1 hcok) b3) (by rw [app_len, app_len]; omega) R3 ff)
    · exact fg_in (hQ _ _ (app_ok b1 b3) (by rw [app_len]; omega) R3 ff)
  · have hne := split_ne (x := x) space_tl (by decide)
    have hln := split_count (x := x) space_tl (by decide)
    have hsum := split_sum (x := x) space_tl (by decide)
    have hso : ∀ p ∈ Txt.split x " ", PyData.strOk p = true := fun p hp => split_ok space_tl (by decide) hs hp
    have hsl : ∀ p ∈ Txt.split x " ", p.length ≤ x.length := fun p hp => split_mem space_tl (by decide) hp
    generalize Txt.split x (Str.ofString " ") = ws at hne hln hsum hso hsl ⊢
    have hpos : 0 < ws.length := List.length_pos_iff.mpr hne
    refine ⟨⟨_, rfl⟩, by rw [len1 _ space_tl]; rfl, by omega, ?_⟩
    rw [List.length_map]
    refine take_ok R3 (by omega) (by omega) fun k G4 h6 h7 R4 f4 => ?_
    obtain ⟨k, rfl⟩ := Int.eq_ofNat_of_zero_le h6
    have hk : k < ws.length := by omega
    have ff4 := ff.trans f4
    have st := sum_take (ws.map (·.length)) k
    have sd : ((ws.map (·.length)).drop (k + 1)).sum ≤ ((ws.map (·.length)).drop k).sum := by
      have := sum_take ((ws.map (·.length)).drop k) 1
      rw [List.drop_drop] at this
      omega
    have ct : cutD (ws.map D.str) none (some ((k : Nat) : Int)) = (ws.take k).map D.str := by rw [cutD_take, List.map_take]
    have cd : cutD (ws.map D.str) (some ((k : Nat) : Int)) none = (ws.drop k).map D.str := by rw [cutD_drop, List.map_drop]
    have cd1 : cutD (ws.map D.str) (some (((k : Nat) : Int) + 1)) none = (ws.drop (k + 1)).map D.str := by rw [show ((k : Nat) : Int) + 1 = ((k + 1 : Nat) : Int) from rfl, cutD_drop, List.map_drop]
    have o1 : ∀ p ∈ ws.take k, PyData.strOk p = true := fun p hp => hso p (List.mem_of_mem_take hp)
    have o2 : ∀ j, ∀ p ∈ ws.drop j, PyData.strOk p = true := fun j p hp => hso p (List.mem_of_mem_drop hp)
    exists if_true
    rw [ct, cd, cd1]
    exists List.length_map, List.length_append, List.length_take, List.length_drop
    split
    · refine ⟨⟨_, rfl⟩, by omega, ?_⟩
      rw [← List.map_append]
      refine join_fin (n := 2 * x.length + 10) (by omega) (fun p hp => ?_) ?_ fun y h1 h2 => fg_in (hQ y _ h1 h2 R4 ff4)
      · rcases List.mem_append.mp hp with hp | hp
        · exact o1 p hp
        · exact o2 _ p hp
      · rw [List.map_append, List.sum_append, List.length_append, List.map_take, List.map_drop, List.length_take, List.length_drop]
        omega
    · split
      · refine ⟨⟨_, rfl⟩, ?_⟩
        have hget : (ws.map D.str)[k]? = some (.str ws[k]) := by rw [List.getElem?_map, List.getElem?_eq_getElem hk]; rfl
        rw [DL.atI_nat hget]
        have hmem : ws[k] ∈ ws := List.getElem_mem hk
        generalize ws[k] = wk at hmem
        exists if_true
        refine ⟨by omega, by omega, ?_⟩
        rw [show [D.str wk] = [wk].map D.str from rfl, ← List.map_append, ← List.map_append]
        refine join_fin (n := 2 * x.length + 10) (by omega) (fun p hp => ?_) ?_ fun y h1 h2 => fg_in (hQ y _ h1 h2 R4 ff4)
        · rcases List.mem_append.mp hp with hp | hp
          · rcases List.mem_append.mp hp with hp | hp
            · exact o1 p hp
            · rw [List.mem_singleton.mp hp]; exact hso _ hmem
          · exact o2 _ p hp
        · have := hsl _ hmem
          rw [List.map_append, List.sum_append, List.length_append, List.map_append, List.sum_append, List.length_append, List.map_take, List.map_drop, List.length_take, List.length_drop]
          simp only [List.map_cons, List.map_nil, List.sum_cons, List.sum_nil, List.length_cons, List.length_nil]
          omega
      · refine ⟨⟨_, rfl⟩, ?_⟩
        refine take_ok R4 (by decide) (by decide) fun r5 G5 h8 h9 R5 f5 => ?_
        exists if_true
        refine pickP h8 (by simpa using h9) fun z hz => ?_
        obtain ⟨wk, hmem, rfl⟩ : ∃ wk ∈ ODDS, z = .str wk := List.mem_map.mp (show z ∈ ODDS.map D.str from hz) |>.imp fun _ h => ⟨h.1, h.2.symm⟩
        have hod := List.all_eq_true.mp odds_b wk hmem
        rw [Bool.and_eq_true, decide_eq_true_eq] at hod
        refine ⟨by omega, by omega, ?_⟩
        rw [show [D.str wk] = [wk].map D.str from rfl, ← List.map_append, ← List.map_append]
        refine join_fin (n := 2 * x.length + 10) (by omega) (fun p hp => ?_) ?_ fun y h1 h2 => fg_in (hQ y _ h1 h2 R5 (ff4.trans f5))
        · rcases List.mem_append.mp hp with hp | hp
          · rcases List.mem_append.mp hp with hp | hp
            · exact o1 p hp
            · rw [List.mem_singleton.mp hp]; exact hod.1
          · exact o2 _ p hp
        · rw [List.map_append, List.sum_append, List.length_append, List.map_append, List.sum_append, List.length_append, List.map_take, List.map_drop, List.length_take, List.length_drop]
          simp only [List.map_cons, List.map_nil, List.sum_cons, List.sum_nil, List.length_cons, List.length_nil]
          omega
end
end P
namespace P
open PySem PySem.Spec L2 DL
/-! ### the law -/
theorem int_ok (i : Int) : PyData.strOk (toString i : Str) = true := by
  rw [strOk_tl, tl_int]
  intro c hc
  unfold intL at hc
  have hd : c ∈ TL.numL i.natAbs → c < 0x110000 := fun h => by have := TL.numL_digits _ c h; omega
  split at hc
  · rcases List.mem_cons.mp hc with rfl | hc
    · omega
    · exact hd hc
  · exact hd hc
theorem comma_so : PyData.strOk (Str.ofString ",") = true := by decide +kernel
theorem slash_so : PyData.strOk (Str.ofString "/") = true := by decide +kernel
theorem th_so {c : Nat} {d : D} (h : Th c d) : PyData.strOk (txk (kname c) d) = true := by
  cases h with
  | n h => exact int_ok _
  | k h => exact (key_of h).2.2.2.2
  | m h => rcases h with rfl | rfl <;> (show PyData.strOk (Str.ofString _) = true; decide +kernel)
  | w ns h h2 =>
    rw [tup_tx _ (by decide), one_map]
    exact join_ok comma_so fun x hx => by obtain ⟨i, _, rfl⟩ := List.mem_map.mp hx; exact int_ok i
  | p hi hj =>
    rw [pace_tx _ _ kn_p]
    exact join_ok slash_so fun x hx => by
      simp only [List.mem_cons, List.not_mem_nil, or_false] at hx
      rcases hx with rfl | rfl <;> exact int_ok _
  | s xs h h2 =>
    rw [tup_tx _ (by decide), one_maps]
    exact join_ok comma_so fun x hx => (key_of (h2 x hx)).2.2.2.2
theorem Ths.so {cs : List Nat} {ds : List D} (h : Ths cs ds) : ∀ t ∈ P.txs cs ds, PyData.strOk t = true := by
  induction h with
  | nil => exact fun t ht => absurd ht (by simp [P.txs])
  | cons h _ ih =>
    intro t ht
    rcases List.mem_cons.mp ht with rfl | ht
    · exact th_so h
    · exact ih t ht
theorem TXT_ok {w ls : Str} {ds : List D} (hw : (w, ls) ∈ KS) (h : Ths (tl ls) ds) : PyData.strOk (TXT w (tl ls) ds) = true ∧ (TXT w (tl ls) ds).length ≤ 533 := by
  refine ⟨join_ok sp_ok fun x hx => ?_, Nat.le_trans (join_len _ _) (txt_len hw h)⟩
  rcases List.mem_cons.mp hx with rfl | hx
  · exact (ks_of hw).2.2.2.2
  · exact h.so x hx
def okT : D → Bool
  | .str x => PyData.strOk x && decide (x.length ≤ 2200)
  | .non => true
  | .int _ => true
  | .bl _ => true
  | .kl _ => true
  | .tup _ => true
  | .emp => true
  | _ => false
theorem right_d {e : Env} (g : e.Good) {d : D} {G : HD} {Q : Post} {E : DX} (h : okT d = true) (hQ : Q (.bl true) G) : w_law_right e [d] G Q E := by
  cases d with
  | str x =>
    rw [okT, Bool.and_eq_true, decide_eq_true_eq] at h
    exact right_any g h.1 h.2 hQ
  | non =>
    refine right_non g (fun Q' q => ?_) hQ
    exists if_true
    exact q
  | int _ =>
    refine right_non g (fun Q' q => ?_) hQ
    exists if_true
    exact q
  | bl _ =>
    refine right_non g (fun Q' q => ?_) hQ
    exists if_true
    exact q
  | kl _ =>
    refine right_non g (fun Q' q => ?_) hQ
    exists if_true
    exact q
  | tup _ =>
    refine right_non g (fun Q' q => ?_) hQ
    exists if_true
    exact q
  | emp =>
    refine right_non g (fun Q' q => ?_) hQ
    exists if_true
    exact q
  | _ => cases h
def LST : List D := [D.str (Str.ofString ""), D.str (Str.ofString " "), D.str (Str.ofString "begin "),
                    D.str (Str.ofString " begin"), D.str (Str.ofString "begin 1"), D.str (Str.ofString "Begin"),
                    D.str (Str.ofString "tick"), D.str (Str.ofString "tick 01"), D.str (Str.ofString "tick -0"),
                    D.str (Str.ofString "tick 1_0"), D.str (Str.ofString "tick +1"),
                    D.str (Str.ofString "tick " ++ Txt.mul (Str.ofString "9") 30),
                    D.str (Str.ofString "tick " ++ Txt.mul (Str.ofString "9") 31), D.str (Str.ofString "pace 0 0 1"),
                    D.str (Str.ofString "pace 0 0 1/2/3"), D.str (Str.ofString "pace 0 0 1/"),
                    D.str (Str.ofString "at 1 a,"), D.str (Str.ofString "at 1 a,b"), D.str (Str.ofString "at 1 ,a"),
                    D.str (Str.ofString "at 1 A"), D.str (Str.ofString "write 0 a 1,"),
                    D.str (Str.ofString "write 0 a 1,2,3,4,5"), D.str (Str.ofString "take 0 a Read"),
                    D.str (Str.ofString "settle\n"), D.str (Str.ofString "tick\t1"), D.non, D.int 5, D.bl true,
                    D.kl [D.str (Str.ofString "begin")], D.tup [D.str (Str.ofString "begin")], D.emp,
                    D.tup [D.str (Str.ofString "tick"), D.int 1]]
theorem lst_b : LST.all okT = true := by unfold LST; decide +kernel
theorem mul_len : (Str.ofString "9").length = 1 ∧ (Str.ofString "tick ").length = 5 ∧ (Txt.mul (Str.ofString "9") 30).length = 30 ∧ (Txt.mul (Str.ofString "9") 31).length = 31 := by decide +kernel
def Deed (d : D) : Prop := ∃ w ls ds, (w, ls) ∈ KS ∧ Ths (tl ls) ds ∧ d = .tup (.str w :: ds)
def TOk (n : Nat) (t : Str) : Prop := PyData.strOk t = true ∧ t.length ≤ n
theorem inner_gen {sb sr : SpD} {x : Addr}
    (hb : ∀ (n : Nat) (t : Str) (G : HD) (Q : Post) (E : DX), n ≤ 1090 → TOk n t → Row G x → (∀ y G', TOk (2 * n + 10) y → Row G' x → Q (.str y) G') → sb [.ref x, .str t] G Q E)
    (hr : ∀ (t : Str) (G : HD) (Q : Post) (E : DX), TOk 2200 t → Q (.bl true) G → sr [.str t] G Q E)
    {W : DW} {D' : DEnds} {o0 o1 o4 o5 o6 o7 : Option D} {G : HD} {t : Str} (ht : TOk 533 t) (hR : Row G x) (hQ : ∀ y G', Row G' x → D'.nx [o0, o1, some (.ref x), some (.str t), o4, some (.str y), o6, o7] G') :
    (sSeq (sSet 5 (dCall sb [] (dCons (dVar 2) (dCons (dVar 3) (dNil)))))
    (sIf (dOr (dNot (dTru (dCall sr [] (dCons (dVar 5) (dNil))))) (dNot (dTru (dCall sr [] (dCons (dCall sb [] (dCons (dVar 2) (dCons (dVar 5) (dNil)))) (dNil))))))
    (sRet (dC (.bl false)))
    (sNext))) W D' [o0, o1, some (.ref x), some (.str t), o4, o5, o6, o7] G := by
  exists if_true
  refine hb 533 t _ _ _ (by decide) ht hR fun y G3 y1 R3 => ?_
  refine hr y _ _ _ ⟨y1.1, Nat.le_trans y1.2 (by decide)⟩ ?_
  exists if_true
  refine hb 1076 y _ _ _ (by decide) y1 R3 fun z G4 z1 R4 => ?_
  refine hr z _ _ _ ⟨z1.1, Nat.le_trans z1.2 (by decide)⟩ ?_
  exists if_true
  exact hQ _ _ R4
theorem outer_gen {s0 s1 s2 : SpD} {F : TDS} {ns : List Int} {kk : Nat}
    (h0 : ∀ (G : HD) (Q : Post) (E : DX), (∀ x G', Row G' x → Q (.ref x) G') → s0 [.kc (ns.map D.int), .int kk] G Q E)
    (h2 : ∀ (x : Addr) (G : HD) (Q : Post) (E : DX), Row G x → (∀ d G', Deed d → Row G' x → Q d G') → s2 [.ref x] G Q E)
    (h1 : ∀ (d : D) (G : HD) (Q : Post) (E : DX), Deed d → (∀ t, TOk 533 t → Q (.str t) G) → s1 [d] G Q E)
    (hF : ∀ (x : Addr) (t : Str) (W : DW) (D' : DEnds) (o0 o1 o4 o5 o6 o7 : Option D) (G : HD), TOk 533 t → Row G x → (∀ o y G', Row G' x → D'.nx [o0, o1, some (.ref x), some (.str t), o, some (.str y), o6, o7] G') → F W D' [o0, o1, some (.ref x), some (.str t), o4, o5, o6, o7] G)
    {W : DW} {D' : DEnds} {o2 o3 o4 o5 : Option D} {G : HD} (hQ : ∀ σ' G', (∃ o1 o2 o3 o4 o5 : Option D, σ' = [some (.kc (ns.map D.int)), o1, o2, o3, o4, o5, none, none]) → D'.nx σ' G') :
    (sSeq (sSet 2 (dCall s0 [] (dCons (dVar 0) (dCons (dVar 1) (dNil)))))
    (sSeq (sSet 3 (dCall s1 [] (dCons (dCall s2 [] (dCons (dVar 2) (dNil))) (dNil))))
    F)) W D' [some (.kc (ns.map D.int)), some (.int kk), o2, o3, o4, o5, none, none] G := by
  exists if_true
  refine h0 _ _ _ fun x G1 R1 => ?_
  refine h2 _ _ _ _ R1 fun d G2 hd R2 => ?_
  refine h1 _ _ _ _ hd fun t ht => ?_
  exists if_true
  exact hF x t _ _ _ _ _ _ _ _ _ ht R2 fun o y G' R' => hQ _ _ ⟨_, _, _, _, _, rfl⟩
theorem loop_gen {b : TDS} {x : Addr} {t : Str} (hb : ∀ (W : DW) (D' : DEnds) (o0 o1 o4 o5 o6 o7 : Option D) (G : HD), Row G x → (∀ y G', Row G' x → D'.nx [o0, o1, some (.ref x), some (.str t), o4, some (.str y), o6, o7] G') → b W D' [o0, o1, some (.ref x), some (.str t), o4, o5, o6, o7] G)
    {W : DW} {D' : DEnds} {o0 o1 o4 o5 o6 o7 : Option D} {G : HD} (hR : Row G x) (hQ : ∀ o y G', Row G' x → D'.nx [o0, o1, some (.ref x), some (.str t), o, some (.str y), o6, o7] G') : sFor (jRng1 (dCons (dC (.int 8)) (dNil))) (.one 4) b W D' [o0, o1, some (.ref x), some (.str t), o4, o5, o6, o7] G := by
  exists if_true
  refine ⟨by omega, by omega, ?_⟩
  refine forR_inv (n := 8) (I := fun i σ G => Row G x ∧ ∃ o4 o5 : Option D, σ = [o0, o1, some (.ref x), some (.str t), o4, o5, o6, o7] ∧ (0 < i → ∃ y, o5 = some (.str y))) (fun _ => trivial) (fun i k σ G hi hI hk => ?_) (fun σ G hI => ?_) ⟨hR, _, _, rfl, fun h => absurd h (by omega)⟩
  · obtain ⟨hR, o4, o5, rfl, _⟩ := hI
    exists if_true
    exact hb _ _ _ _ _ _ _ _ _ hR fun y G' R' => hk _ _ ⟨R', _, _, rfl, fun _ => ⟨y, rfl⟩⟩
  · obtain ⟨hR, o4, o5, rfl, h5⟩ := hI
    obtain ⟨y, rfl⟩ := h5 (by decide)
    exact hQ _ _ _ hR
theorem last_ok {e : P.Env} (g : e.Good) {d : D} (h : okT d = true) {W : DW} {D' : DEnds} {o0 o1 o2 o3 o4 o5 o6 : Option D} {G : HD} (hQ : D'.nx [o0, o1, o2, o3, o4, o5, o6, some d] G) : l_law_3 e W D' [o0, o1, o2, o3, o4, o5, o6, some d] G := by
  unfold l_law_3
  exists if_true
  refine right_d g h ?_
  exists if_true
  exact hQ
end P
namespace P
open PySem PySem.Spec L2 DL
theorem law1_ok {e : P.Env} (g : e.Good) {x : Addr} {t : Str} (ht : TOk 533 t) (W : DW) (D' : DEnds) (o0 o1 o4 o5 o6 o7 : Option D) (G : HD) (hR : Row G x) (hQ : ∀ y G', Row G' x → D'.nx [o0, o1, some (.ref x), some (.str t), o4, some (.str y), o6, o7] G') : l_law_1 e W D' [o0, o1, some (.ref x), some (.str t), o4, o5, o6, o7] G := by
  unfold l_law_1
  exact inner_gen (fun n t G Q E hn ht hR q => bent_ok ht.1 (Nat.le_trans ht.2 hn) hR fun y G' y1 y2 R _ => q y G' ⟨y1, by have := ht.2; omega⟩ R) (fun t G Q E ht q => right_any g ht.1 ht.2 q) ht hR hQ
theorem law2_ok {e : P.Env} (g : e.Good) {ns : List Int} (h : ns.length ≤ 63) {kk : Nat} (hk2 : kk < 100) {W : DW} {D' : DEnds} {o2 o3 o4 o5 : Option D} {G : HD} (hQ : ∀ σ' G', (∃ o1 o2 o3 o4 o5 : Option D, σ' = [some (.kc (ns.map D.int)), o1, o2, o3, o4, o5, none, none]) → D'.nx σ' G') : l_law_2 e W D' [some (.kc (ns.map D.int)), some (.int kk), o2, o3, o4, o5, none, none] G := by
  unfold l_law_2
  exact outer_gen (s0 := w_law_begun e) (s1 := w_law_text e) (s2 := w_law_drawn e) (fun G Q E q => begun_ok hk2 h fun x G1 R _ _ => q x G1 R)
    (fun x G Q E R q => drawn_ok R fun w ls ds G2 hw th R2 _ => q _ _ ⟨w, ls, ds, hw, th, rfl⟩ R2)
    (fun d G Q E ⟨w, ls, ds, hw, th, ed⟩ q => by subst ed; exact lawtext_ok hw th (q _ (TXT_ok hw th)))
    (fun x t W D' o0 o1 o4 o5 o6 o7 G ht hR q => loop_gen (fun W D' o0 o1 o4 o5 o6 o7 G R q2 => law1_ok g ht W D' o0 o1 o4 o5 o6 o7 G R q2) hR q) hQ
theorem main (e : P.Env) (g : e.Good) (ns : List Int) (h : ns.length ≤ 63) : w_law e [.kc (ns.map D.int)] (fun _ => none) (fun d _ => d = .bl true) fun _ _ _ => False := by
  unfold w_law
  exists if_true
  have hb : (0 : Int) ≤ (ns.map D.int).length ∧ ((ns.map D.int).length : Int) ≤ 63 := by rw [List.length_map]; omega
  generalize ((ns.map D.int).length : Int) = N at hb
  refine ⟨by split <;> split <;> omega, by split <;> split <;> omega, ?_⟩
  refine forR_inv (I := fun i σ G => ∃ o1 o2 o3 o4 o5 : Option D, σ = [some (.kc (ns.map D.int)), o1, o2, o3, o4, o5, none, none]) (fun _ => trivial) (fun i k σ G hi hI hk => ?_) (fun σ G hI => ?_) ⟨_, _, _, _, _, rfl⟩
  · obtain ⟨o1, o2, o3, o4, o5, rfl⟩ := hI
    have hi2 : i < 41 := by revert hi; split <;> split <;> omega
    obtain ⟨kk, hkk⟩ : ∃ kk : Nat, (0 : Int) + (i : Nat) = (kk : Int) := ⟨i, by omega⟩
    rw [hkk]
    exact law2_ok g h (by omega) fun σ' G' hσ => hk _ _ hσ
  · obtain ⟨o1, o2, o3, o4, o5, rfl⟩ := hI
    exists r_addVS
    obtain ⟨m1, m2, m3, m4⟩ := mul_len
    have hz := million (n := 1000) (by decide)
    rw [m1, m2, m3, m4]
    refine ⟨by omega, by omega, by omega, by omega, by omega, by omega, by omega, ?_⟩
    exact forD_inv (fun l σ G' => l.all okT = true ∧ ∃ o1 o2 o3 o4 o5 o6 o7 : Option D, σ = [some (.kc (ns.map D.int)), o1, o2, o3, o4, o5, o6, o7]) (fun _ _ _ _ => trivial) (fun d l k σ G' ⟨hl, o1, o2, o3, o4, o5, o6, o7, eσ⟩ hk => by
      subst eσ
      rw [List.all_cons, Bool.and_eq_true] at hl
      exact last_ok g hl.1 (hk _ _ ⟨hl.2, _, _, _, _, _, _, _, rfl⟩)) (fun σ G' _ => fg_in rfl) _ _ _ ⟨lst_b, _, _, _, _, _, _, _, rfl⟩
end P

end

set_option maxHeartbeats 4000000
namespace P
open PySem PySem.Spec L2 DL
open PyProof.Rows hiding St
def top (i : Nat) : Stmt := PySem.Challenge.pw_stampedwait_k80_texts_of_no_deed.main.body.getD i (.Pass ⟨0, 0, 0, 0⟩)
abbrev s_law_begun : Stmt := top 22
abbrev N_law_begun : List Str := ["_law_script", "_law_k", "_law_cell", "_law_number_here", "_law_mixed"]
abbrev s_law_kinds : Stmt := top 27
abbrev N_law_kinds : List Str := ["_law_found"]
abbrev s_law_text : Stmt := top 28
abbrev N_law_text : List Str := ["_law_deed", "_law_kinds_here", "_law_words", "_law_kind", "_law_thing", "_law_one"]
abbrev s_law_take : Stmt := top 23
abbrev N_law_take : List Str := ["_law_state", "_law_many", "_law_digit", "_law_made", "_law_turn"]
abbrev s_law_number : Stmt := top 25
abbrev N_law_number : List Str := ["_law_state", "_law_far"]
abbrev s_law_a_key : Stmt := top 24
abbrev N_law_a_key : List Str := ["_law_state"]
abbrev s_law_things : Stmt := top 26
abbrev N_law_things : List Str := ["_law_state", "_law_kinds_here", "_law_found", "_law_kind", "_law_pace", "_law_worth", "_law_some", "_law_mode", "_law_menu", "_law_part"]
abbrev s_law_drawn : Stmt := top 29
abbrev N_law_drawn : List Str := ["_law_state", "_law_some", "_law_word"]
abbrev s_law_bent : Stmt := top 35
abbrev N_law_bent : List Str := ["_law_state", "_law_text_here", "_law_signs", "_law_at", "_law_sign", "_law_way", "_law_words", "_law_odd"]
abbrev s_law_is_key : Stmt := top 31
abbrev N_law_is_key : List Str := ["_law_word", "_law_sign"]
abbrev s_law_is_number : Stmt := top 30
abbrev N_law_is_number : List Str := ["_law_word", "_law_rest", "_law_sign"]
abbrev s_law_read_thing : Stmt := top 32
abbrev N_law_read_thing : List Str := ["_law_kind", "_law_word", "_law_parts", "_law_numbers", "_law_one"]
abbrev s_law_due : Stmt := top 33
abbrev N_law_due : List Str := ["_law_text_here", "_law_words", "_law_kinds_here", "_law_things_here", "_law_kind", "_law_word"]
abbrev s_number_in : Stmt := top 12
abbrev N_number_in : List Str := ["word", "figures", "sign"]
abbrev s_is_key : Stmt := top 9
abbrev N_is_key : List Str := ["thing", "sign"]
abbrev s_key_in : Stmt := top 16
abbrev N_key_in : List Str := ["word"]
abbrev s_mode_in : Stmt := top 17
abbrev N_mode_in : List Str := ["word"]
abbrev s_numbers_in : Stmt := top 13
abbrev N_numbers_in : List Str := ["word", "mark", "found", "part"]
abbrev s_worth_in : Stmt := top 18
abbrev N_worth_in : List Str := ["word", "found"]
abbrev s_pace_in : Stmt := top 14
abbrev N_pace_in : List Str := ["word", "found"]
abbrev s_keys_in : Stmt := top 15
abbrev N_keys_in : List Str := ["word", "found", "one"]
abbrev s_read_deed : Stmt := top 20
abbrev N_read_deed : List Str := ["text", "word", "words", "found", "kind", "one", "reader"]
abbrev s_law_right : Stmt := top 34
abbrev N_law_right : List Str := ["_law_text_here", "_law_caught", "_law_found", "e", "_law_due_here"]
abbrev s_law : Stmt := top 36
abbrev N_law : List Str := ["_law_script", "_law_k", "_law_state", "_law_text_here", "_law_turn", "_law_other", "_law_some", "_law_thing"]
abbrev s_NoText_init : Stmt := inClass (top 4) 0
theorem bt_str : bootBuiltins "str" = some (.type "str") := by decide +kernel
/-! ### what the top has left of them -/
structure Txt (w : World) (K : PySem.W.Frag) (mg : Str → Option Value) (e : Env) : Prop where
  hok : ∀ C f, e.ok C f → AttrOk K C f
  hic : ∀ a c b, e.ic a c b → IsiOk K a c b
  hxm : ∀ c u b, e.xm c u b → PySem.W.exmOne K u c = some b
  hxf : ∀ C f, e.xf C f → XfOk K C f
  hec : ∀ C c b, e.ec C c b → EcOk K C c b
  gx_NoDeed : mg "NoDeed" = some (.ref e.C_NoDeed)
  rs_NoDeed : RaiseF K mg "NoDeed" e.C_NoDeed
  gx_NoRow : mg "NoRow" = some (.ref e.C_NoRow)
  rs_NoRow : RaiseF K mg "NoRow" e.C_NoRow
  gx_NoText : mg "NoText" = some (.ref e.C_NoText)
  gx_WaitError : mg "WaitError" = some (.ref e.C_WaitError)
  rs_WaitError : RaiseF K mg "WaitError" e.C_WaitError
  xi_NoText : DX.OexB K "ValueError" "ValueError.__new__" [.type "ValueError", .type "Exception", .type "BaseException", .type "object"] e.C_NoText
  xb_NoText : BaseI K mg "WaitError" "ValueError.__init__"
  xn_NoText : PySem.W.findIn K (.ref e.C_NoText) "row" = some none
  xk_NoText : PySem.W.keepIn K (.ref e.C_NoText) = true ∧ PySem.W.subIn K (.ref e.C_NoText) (.type "BaseException") = some true ∧ PySem.W.typeIn K (.ref e.C_NoText) = some (.type "type")
  f_NoText_init : MetF K e.C_NoText "__init__" "NoText.__init__" s_NoText_init []
  n_all : mg "all" = none
  n_int : mg "int" = none
  n_isinstance : mg "isinstance" = none
  n_len : mg "len" = none
  n_max : mg "max" = none
  n_min : mg "min" = none
  n_range : mg "range" = none
  n_repr : mg "repr" = none
  n_sorted : mg "sorted" = none
  n_str : mg "str" = none
  n_tuple : mg "tuple" = none
  n_zip : mg "zip" = none
  kd_FORMS : KDic K mg w "FORMS" (tbl_FORMS e)
  kd_READERS : KDic K mg w "READERS" (tbl_READERS e)
  fa_number_in : mg "number_in" = some (.ref e.F_number_in)
  fa_key_in : mg "key_in" = some (.ref e.F_key_in)
  fa_mode_in : mg "mode_in" = some (.ref e.F_mode_in)
  fa_worth_in : mg "worth_in" = some (.ref e.F_worth_in)
  fa_pace_in : mg "pace_in" = some (.ref e.F_pace_in)
  fa_keys_in : mg "keys_in" = some (.ref e.F_keys_in)
  k_LETTERS : ConstF K mg "LETTERS" (.str "abcdefghijklmnopqrstuvwxyz")
  k_LONGEST : ConstF K mg "LONGEST" (.int 6)
  k_MOST_FIELDS : ConstF K mg "MOST_FIELDS" (.int 4)
  f_law_begun : DefF K mg "_law_begun" s_law_begun ([])
  f_law_kinds : DefF K mg "_law_kinds" s_law_kinds ([])
  f_law_text : DefF K mg "_law_text" s_law_text ([])
  f_law_take : DefF K mg "_law_take" s_law_take ([])
  f_law_number : DefF K mg "_law_number" s_law_number ([])
  f_law_a_key : DefF K mg "_law_a_key" s_law_a_key ([])
  f_law_things : DefF K mg "_law_things" s_law_things ([])
  f_law_drawn : DefF K mg "_law_drawn" s_law_drawn ([])
  f_law_bent : DefF K mg "_law_bent" s_law_bent ([])
  f_law_is_key : DefF K mg "_law_is_key" s_law_is_key ([])
  f_law_is_number : DefF K mg "_law_is_number" s_law_is_number ([])
  f_law_read_thing : DefF K mg "_law_read_thing" s_law_read_thing ([])
  f_law_due : DefF K mg "_law_due" s_law_due ([])
  f_number_in : DefF K mg "number_in" s_number_in ([])
  f_is_key : DefF K mg "is_key" s_is_key ([])
  f_key_in : DefF K mg "key_in" s_key_in ([])
  f_mode_in : DefF K mg "mode_in" s_mode_in ([])
  f_numbers_in : DefF K mg "numbers_in" s_numbers_in ([])
  f_worth_in : DefF K mg "worth_in" s_worth_in ([])
  f_pace_in : DefF K mg "pace_in" s_pace_in ([])
  f_keys_in : DefF K mg "keys_in" s_keys_in ([])
  f_read_deed : DefF K mg "read_deed" s_read_deed ([])
  f_law_right : DefF K mg "_law_right" s_law_right ([])
  f_law : DefF K mg "law" s_law ([])
theorem gc_LETTERS {X : Cx} {e : Env} (T : Txt X.w X.K X.mg e) (hg : Gl X "LETTERS" := by rfl) {pos : Pos} : DE X (.Name "LETTERS" pos) (dC (.str "abcdefghijklmnopqrstuvwxyz")) := T.k_LETTERS.de hg
theorem gc_LONGEST {X : Cx} {e : Env} (T : Txt X.w X.K X.mg e) (hg : Gl X "LONGEST" := by rfl) {pos : Pos} : DE X (.Name "LONGEST" pos) (dC (.int 6)) := T.k_LONGEST.de hg
theorem gc_MOST_FIELDS {X : Cx} {e : Env} (T : Txt X.w X.K X.mg e) (hg : Gl X "MOST_FIELDS" := by rfl) {pos : Pos} : DE X (.Name "MOST_FIELDS" pos) (dC (.int 4)) := T.k_MOST_FIELDS.de hg
section
variable {P : Program} {w : World} {K : PySem.W.Frag} {mg : Str → Option Value} {base : Heap} {e : Env}
theorem sc_NoText_init : FnScope ["self", "row"] ["self", "row"] (defScope s_NoText_init) := ⟨rfl, rfl, rfl, by decide +kernel, rfl, by decide +kernel, by decide +kernel⟩
theorem ri_NoText (T : Txt w K mg e) : RaiseI P w K mg base 1 "NoText" e.C_NoText ["row"] := by
    obtain ⟨f, fd, dvs, hdd, F, hm⟩ := T.f_NoText_init
    obtain rfl : dvs = [] := List.eq_nil_of_length_eq_zero (hdd.rel (fun _ => none)).length
    exact ⟨⟨_, _, _, _, f, fd, T.xi_NoText, (DX.XBase.of PySem.F.excBase_ValueError), hm.at_, hm.fn, init1 (m := "no such text") sc_NoText_init F (fun cdv A outer s H E => pss_cons (ps_expr (pe_bin T.xi_NoText (DX.XBase.of PySem.F.excBase_ValueError) T.xb_NoText (by rfl) (pa_cons (pv 0) (pa_cons pe_str pa_nil)) (by decide +kernel))) (pss_one (ps_stB T.xi_NoText T.xn_NoText (pv 0) (pv 1)))), F.bindsN (ps := ["self", "row"]) fun _ _ _ _ _ _ us hl => match us, hl with | [_, _], _ => rfl⟩, T.gx_NoText, T.xk_NoText.1, T.xk_NoText.2.1, T.xk_NoText.2.2⟩
theorem sc_law_begun : FnScope N_law_begun ["_law_script", "_law_k"] (defScope s_law_begun) := ⟨rfl, rfl, rfl, by decide +kernel, rfl, by decide +kernel, by decide +kernel⟩
theorem ok_law_begun (T : Txt w K mg e) {f : Addr} {fd : FuncData} {dvs : List V} (F : L2.FunD K "_law_begun" "_law_begun" (defArgs s_law_begun) (defBody s_law_begun) (defScope s_law_begun) dvs [] f fd) : FnK P w K mg base 1 f fd ["_law_script", "_law_k"] (w_law_begun e) :=
  fnd (k := 0) F sc_law_begun rfl rfl fun cdv A outer s H E hr =>
    (dss_cons (ds_set (i := 2) (de_item (de_addV (de_sliceV (dv 0) (do_some (dv 1)) (do_some (de_addV (dv 1) de_int))) (de_lstV (da_cons de_int da_nil))) de_int) sc_law_begun.nd)
    (dss_cons (ds_set (i := 3) (bc_max rfl T.n_max (da_cons (dv 2) (da_cons (de_sub (de_neg de_int) (dv 2)) da_nil))) sc_law_begun.nd)
    (dss_cons (ds_set (i := 4) (de_mod (de_addV (de_addV (de_addV (de_mod (dv 3) de_int) (de_mul de_int (dv 1))) (de_mul (de_mul de_int (dv 1)) (dv 1))) de_int) de_int) sc_law_begun.nd)
    (dss_one (ds_ret (de_lst (da_cons (dv 3) (da_cons (dv 4) (da_cons (de_c1 (c_ge hr.units) (dv 3) (de_pow de_int de_int)) da_nil)))))))))
theorem c_law_begun_2 (T : Txt w K mg e) : DefK P w K mg base 1 "_law_begun" (w_law_begun e) [] := by
    obtain ⟨f, fd, dvs, hdd, F, hm⟩ := T.f_law_begun
    have hdl : dvs.length = 0 := (hdd.rel (fun _ => none)).length
    obtain ⟨ds, hv, hb⟩ : ∃ ds, Vals (dvs.drop 0) ds ∧ Binds K fd ["_law_script", "_law_k"] ds := by
      obtain rfl : dvs = [] := List.eq_nil_of_length_eq_zero hdl
      exact ⟨[], .nil, F.bindsN (ps := ["_law_script", "_law_k"]) fun _ _ _ _ _ _ us hl => match us, hl with | [_, _], _ => rfl⟩
    exact ⟨f, fd, _, _, _, ok_law_begun T F, hm, F.kp, hb, hv, hdd.drop 0, wpf_len⟩
theorem sc_law_kinds : FnScope N_law_kinds [] (defScope s_law_kinds) := ⟨rfl, rfl, rfl, by decide +kernel, rfl, by decide +kernel, by decide +kernel⟩
theorem ok_law_kinds (T : Txt w K mg e) {f : Addr} {fd : FuncData} {dvs : List V} (F : L2.FunD K "_law_kinds" "_law_kinds" (defArgs s_law_kinds) (defBody s_law_kinds) (defScope s_law_kinds) dvs [] f fd) : FnK P w K mg base 1 f fd [] (w_law_kinds e) :=
  fnd (k := 0) F sc_law_kinds rfl rfl fun cdv A outer s H E hr =>
    (dss_cons (ds_set (i := 0) (de_disp (dps_cons de_str de_str (dps_cons de_str de_str (dps_cons de_str de_str (dps_cons de_str de_str (dps_cons de_str de_str dps_nil))))) (by decide +kernel)) sc_law_kinds.nd)
    (dss_cons (ds_expr (de_upd (dv 0) (de_disp (dps_cons de_str de_str (dps_cons de_str de_str dps_nil)) (by decide +kernel)) ⟨rfl, rfl, rfl, rfl⟩))
    (dss_cons (ds_expr (de_upd (dv 0) (de_disp (dps_cons de_str de_str (dps_cons de_str de_str (dps_cons de_str de_str (dps_cons de_str de_str (dps_cons de_str de_str dps_nil))))) (by decide +kernel)) ⟨rfl, rfl, rfl, rfl⟩))
    (dss_cons (ds_expr (de_upd (dv 0) (de_disp (dps_cons de_str de_str (dps_cons de_str de_str dps_nil)) (by decide +kernel)) ⟨rfl, rfl, rfl, rfl⟩))
    (dss_cons (ds_expr (de_upd (dv 0) (de_disp (dps_cons de_str de_str (dps_cons de_str de_str (dps_cons de_str de_str (dps_cons de_str de_str (dps_cons de_str de_str (dps_cons de_str de_str dps_nil)))))) (by decide +kernel)) ⟨rfl, rfl, rfl, rfl⟩))
    (dss_cons (ds_expr (de_upd (dv 0) (de_disp (dps_cons de_str de_str (dps_cons de_str de_str (dps_cons de_str de_str (dps_cons de_str de_str (dps_cons de_str de_str (dps_cons de_str de_str (dps_cons de_str de_str dps_nil))))))) (by decide +kernel)) ⟨rfl, rfl, rfl, rfl⟩))
    (dss_one (ds_ret (dv 0)))))))))
theorem c_law_kinds_0 (T : Txt w K mg e) : DefK P w K mg base 1 "_law_kinds" (w_law_kinds e) [] := by
    obtain ⟨f, fd, dvs, hdd, F, hm⟩ := T.f_law_kinds
    have hdl : dvs.length = 0 := (hdd.rel (fun _ => none)).length
    obtain ⟨ds, hv, hb⟩ : ∃ ds, Vals (dvs.drop 0) ds ∧ Binds K fd [] ds := by
      obtain rfl : dvs = [] := List.eq_nil_of_length_eq_zero hdl
      exact ⟨[], .nil, F.bindsN (ps := []) fun _ _ _ _ _ _ us hl => match us, hl with | [], _ => rfl⟩
    exact ⟨f, fd, _, _, _, ok_law_kinds T F, hm, F.kp, hb, hv, hdd.drop 0, wpf_len⟩
theorem sc_law_text : FnScope N_law_text ["_law_deed"] (defScope s_law_text) := ⟨rfl, rfl, rfl, by decide +kernel, rfl, by decide +kernel, by decide +kernel⟩
theorem ok_law_text (T : Txt w K mg e) {f : Addr} {fd : FuncData} {dvs : List V} (F : L2.FunD K "_law_text" "_law_text" (defArgs s_law_text) (defBody s_law_text) (defScope s_law_text) dvs [] f fd) : FnK P w K mg base 2 f fd ["_law_deed"] (w_law_text e) :=
  fnd (k := 1) F sc_law_text rfl rfl fun cdv A outer s H E hr =>
    (dss_cons (ds_set (i := 1) (de_dget hr.units (dk_call0 (c_law_kinds_0 T) hr) (de_item (dv 0) de_int)) sc_law_text.nd)
    (dss_cons (ds_set (i := 2) (de_lst (da_cons (de_item (dv 0) de_int) da_nil)) sc_law_text.nd)
    (dss_cons (ds_for (passes_of rfl) rfl (di_zipG T.n_zip (da_cons (dv 1) (da_cons (de_sliceV (dv 0) (do_some de_int) do_none) da_nil))) (tg_many rfl (.one sc_law_text.nd 3 (.one sc_law_text.nd 4 .nil)))
    (dss_one (ds_if (dt_c1 (c_eqX hr.units) (dv 3) de_str)
    (dss_one (ds_expr (de_app (dv 2) (da_cons (de_addV (de_addV (bc_str T.n_str (da_cons (de_item (dv 4) de_int) da_nil)) de_str) (bc_str T.n_str (da_cons (de_item (dv 4) de_int) da_nil))) da_nil))))
    (dss_one (ds_if (dt_c1 c_inS (dv 3) de_str)
    (dss_one (ds_expr (de_app (dv 2) (da_cons (de_join de_str (de_lcV (own := [("_law_one", 5)]) rfl sc_law_text.nd (di_seq (dv 4)) (blkOk_by (N := N_law_text) (sc := defScope s_law_text) (by decide +kernel)) (fun _ _ _ _ _ => pg_name (i := 5) sc_law_text.nd rfl (Or.inl rfl)) tr_one (by decide) (fun _ _ _ _ _ => dts_nil) (fun _ _ _ _ _ => (bc_str T.n_str (da_cons (dv 5) da_nil))))) da_nil))))
    (dss_one (ds_expr (de_app (dv 2) (da_cons (bc_str T.n_str (da_cons (dv 4) da_nil)) da_nil)))))))))
    (dss_one (ds_ret (de_join de_str (dv 2)))))))
theorem c_law_text_1 (T : Txt w K mg e) : DefK P w K mg base 2 "_law_text" (w_law_text e) [] := by
    obtain ⟨f, fd, dvs, hdd, F, hm⟩ := T.f_law_text
    have hdl : dvs.length = 0 := (hdd.rel (fun _ => none)).length
    obtain ⟨ds, hv, hb⟩ : ∃ ds, Vals (dvs.drop 0) ds ∧ Binds K fd ["_law_deed"] ds := by
      obtain rfl : dvs = [] := List.eq_nil_of_length_eq_zero hdl
      exact ⟨[], .nil, F.bindsN (ps := ["_law_deed"]) fun _ _ _ _ _ _ us hl => match us, hl with | [_], _ => rfl⟩
    exact ⟨f, fd, _, _, _, ok_law_text T F, hm, F.kp, hb, hv, hdd.drop 0, wpf_len⟩
theorem sc_law_take : FnScope N_law_take ["_law_state", "_law_many"] (defScope s_law_take) := ⟨rfl, rfl, rfl, by decide +kernel, rfl, by decide +kernel, by decide +kernel⟩
theorem ok_law_take (T : Txt w K mg e) {f : Addr} {fd : FuncData} {dvs : List V} (F : L2.FunD K "_law_take" "_law_take" (defArgs s_law_take) (defBody s_law_take) (defScope s_law_take) dvs [] f fd) : FnK P w K mg base 1 f fd ["_law_state", "_law_many"] (w_law_take e) :=
  fnd (k := 0) F sc_law_take rfl rfl fun cdv A outer s H E hr =>
    (dss_cons (ds_if (dt_tru (de_item (dv 0) de_int))
    (dss_cons (ds_set (i := 2) (de_mod (de_item (dv 0) de_int) (dv 1)) sc_law_take.nd)
    (dss_cons (ds_sub set_list (sd_list _) (dv 0) de_int (de_div (de_item (dv 0) de_int) (dv 1)))
    (dss_cons (ds_sub set_list (sd_list _) (dv 0) de_int (de_c1 (c_gt hr.units) (de_item (dv 0) de_int) de_int))
    (dss_one (ds_ret (dv 2))))))
    dss_nil)
    (dss_cons (ds_set (i := 3) de_int sc_law_take.nd)
    (dss_cons (ds_for (passes_of rfl) rfl (di_range1 T.n_range (da_cons (de_addV de_int (bc_int T.n_int (da_cons (de_c1 (c_gt hr.units) (dv 1) (de_pow de_int de_int)) da_nil))) da_nil)) (tg_one sc_law_take.nd 4)
    (dss_cons (ds_sub set_list (sd_list _) (dv 0) de_int (de_mod (de_addV (de_mul (de_item (dv 0) de_int) de_int) de_int) de_int))
    (dss_one (ds_set (i := 3) (de_addV (de_mul (dv 3) de_int) (de_mod (de_mul (de_item (dv 0) de_int) (de_item (dv 0) de_int)) de_int)) sc_law_take.nd))))
    (dss_one (ds_ret (de_mod (de_div (dv 3) de_int) (dv 1)))))))
theorem c_law_take_2 (T : Txt w K mg e) : DefK P w K mg base 1 "_law_take" (w_law_take e) [] := by
    obtain ⟨f, fd, dvs, hdd, F, hm⟩ := T.f_law_take
    have hdl : dvs.length = 0 := (hdd.rel (fun _ => none)).length
    obtain ⟨ds, hv, hb⟩ : ∃ ds, Vals (dvs.drop 0) ds ∧ Binds K fd ["_law_state", "_law_many"] ds := by
      obtain rfl : dvs = [] := List.eq_nil_of_length_eq_zero hdl
      exact ⟨[], .nil, F.bindsN (ps := ["_law_state", "_law_many"]) fun _ _ _ _ _ _ us hl => match us, hl with | [_, _], _ => rfl⟩
    exact ⟨f, fd, _, _, _, ok_law_take T F, hm, F.kp, hb, hv, hdd.drop 0, wpf_len⟩
theorem sc_law_number : FnScope N_law_number ["_law_state"] (defScope s_law_number) := ⟨rfl, rfl, rfl, by decide +kernel, rfl, by decide +kernel, by decide +kernel⟩
theorem ok_law_number (T : Txt w K mg e) {f : Addr} {fd : FuncData} {dvs : List V} (F : L2.FunD K "_law_number" "_law_number" (defArgs s_law_number) (defBody s_law_number) (defScope s_law_number) dvs [] f fd) : FnK P w K mg base 2 f fd ["_law_state"] (w_law_number e) :=
  fnd (k := 1) F sc_law_number rfl rfl fun cdv A outer s H E hr =>
    (dss_cons (ds_set (i := 1) (de_addV (de_pow de_int de_int) (dk_call (c_law_take_2 T) hr (da_cons (dv 0) (da_cons de_int da_nil)))) sc_law_number.nd)
    (dss_one (ds_ret (de_item (de_lstV (da_cons de_int (da_cons de_int (da_cons (dk_call (c_law_take_2 T) hr (da_cons (dv 0) (da_cons de_int da_nil))) (da_cons (dv 1) (da_cons (de_sub (de_sub de_int de_int) (dk_call (c_law_take_2 T) hr (da_cons (dv 0) (da_cons de_int da_nil)))) da_nil)))))) (dk_call (c_law_take_2 T) hr (da_cons (dv 0) (da_cons de_int da_nil)))))))
theorem c_law_number_1 (T : Txt w K mg e) : DefK P w K mg base 2 "_law_number" (w_law_number e) [] := by
    obtain ⟨f, fd, dvs, hdd, F, hm⟩ := T.f_law_number
    have hdl : dvs.length = 0 := (hdd.rel (fun _ => none)).length
    obtain ⟨ds, hv, hb⟩ : ∃ ds, Vals (dvs.drop 0) ds ∧ Binds K fd ["_law_state"] ds := by
      obtain rfl : dvs = [] := List.eq_nil_of_length_eq_zero hdl
      exact ⟨[], .nil, F.bindsN (ps := ["_law_state"]) fun _ _ _ _ _ _ us hl => match us, hl with | [_], _ => rfl⟩
    exact ⟨f, fd, _, _, _, ok_law_number T F, hm, F.kp, hb, hv, hdd.drop 0, wpf_len⟩
theorem sc_law_a_key : FnScope N_law_a_key ["_law_state"] (defScope s_law_a_key) := ⟨rfl, rfl, rfl, by decide +kernel, rfl, by decide +kernel, by decide +kernel⟩
theorem ok_law_a_key (T : Txt w K mg e) {f : Addr} {fd : FuncData} {dvs : List V} (F : L2.FunD K "_law_a_key" "_law_a_key" (defArgs s_law_a_key) (defBody s_law_a_key) (defScope s_law_a_key) dvs [] f fd) : FnK P w K mg base 2 f fd ["_law_state"] (w_law_a_key e) :=
  fnd (k := 1) F sc_law_a_key rfl rfl fun cdv A outer s H E hr =>
    (dss_one (ds_ret (de_item (de_lstV (da_cons de_str (da_cons de_str (da_cons de_str (da_cons de_str (da_cons de_str da_nil)))))) (dk_call (c_law_take_2 T) hr (da_cons (dv 0) (da_cons de_int da_nil))))))
theorem c_law_a_key_1 (T : Txt w K mg e) : DefK P w K mg base 2 "_law_a_key" (w_law_a_key e) [] := by
    obtain ⟨f, fd, dvs, hdd, F, hm⟩ := T.f_law_a_key
    have hdl : dvs.length = 0 := (hdd.rel (fun _ => none)).length
    obtain ⟨ds, hv, hb⟩ : ∃ ds, Vals (dvs.drop 0) ds ∧ Binds K fd ["_law_state"] ds := by
      obtain rfl : dvs = [] := List.eq_nil_of_length_eq_zero hdl
      exact ⟨[], .nil, F.bindsN (ps := ["_law_state"]) fun _ _ _ _ _ _ us hl => match us, hl with | [_], _ => rfl⟩
    exact ⟨f, fd, _, _, _, ok_law_a_key T F, hm, F.kp, hb, hv, hdd.drop 0, wpf_len⟩
theorem sc_law_things : FnScope N_law_things ["_law_state", "_law_kinds_here"] (defScope s_law_things) := ⟨rfl, rfl, rfl, by decide +kernel, rfl, by decide +kernel, by decide +kernel⟩
theorem ok_law_things (T : Txt w K mg e) {f : Addr} {fd : FuncData} {dvs : List V} (F : L2.FunD K "_law_things" "_law_things" (defArgs s_law_things) (defBody s_law_things) (defScope s_law_things) dvs [] f fd) : FnK P w K mg base 3 f fd ["_law_state", "_law_kinds_here"] (w_law_things e) :=
  fnd (k := 2) F sc_law_things rfl rfl fun cdv A outer s H E hr =>
    (dss_cons (ds_set (i := 2) (de_lst da_nil) sc_law_things.nd)
    (dss_cons (ds_for (passes_of rfl) rfl (di_str (dv 1)) (tg_one sc_law_things.nd 3)
    (dss_cons (ds_set (i := 4) (de_tup (da_cons (dk_call (c_law_number_1 T) hr (da_cons (dv 0) da_nil)) (da_cons (dk_call (c_law_number_1 T) hr (da_cons (dv 0) da_nil)) da_nil))) sc_law_things.nd)
    (dss_cons (ds_set (i := 5) (bc_tuple T.n_tuple (da_cons (de_lcV (own := [("_law_part", 9)]) rfl sc_law_things.nd (di_range1 T.n_range (da_cons (de_addV de_int (dk_call (c_law_take_2 T) hr (da_cons (dv 0) (da_cons de_int da_nil)))) da_nil)) (blkOk_by (N := N_law_things) (sc := defScope s_law_things) (by decide +kernel)) (fun _ _ _ _ _ => pg_name (i := 9) sc_law_things.nd rfl (Or.inl rfl)) tr_one (by decide) (fun _ _ _ _ _ => dts_nil) (fun _ _ _ _ _ => (dk_call (c_law_number_1 T) hr (da_cons (dv 0) da_nil)))) da_nil)) sc_law_things.nd)
    (dss_cons (ds_set (i := 6) (bc_tuple T.n_tuple (da_cons (de_lcV (own := [("_law_part", 9)]) rfl sc_law_things.nd (di_range1 T.n_range (da_cons (de_addV de_int (dk_call (c_law_take_2 T) hr (da_cons (dv 0) (da_cons de_int da_nil)))) da_nil)) (blkOk_by (N := N_law_things) (sc := defScope s_law_things) (by decide +kernel)) (fun _ _ _ _ _ => pg_name (i := 9) sc_law_things.nd rfl (Or.inl rfl)) tr_one (by decide) (fun _ _ _ _ _ => dts_nil) (fun _ _ _ _ _ => (dk_call (c_law_a_key_1 T) hr (da_cons (dv 0) da_nil)))) da_nil)) sc_law_things.nd)
    (dss_cons (ds_set (i := 7) (de_item (de_lstV (da_cons de_str (da_cons de_str da_nil))) (dk_call (c_law_take_2 T) hr (da_cons (dv 0) (da_cons de_int da_nil)))) sc_law_things.nd)
    (dss_cons (ds_set (i := 8) (de_disp (dps_cons de_str (dk_call (c_law_number_1 T) hr (da_cons (dv 0) da_nil)) (dps_cons de_str (dk_call (c_law_a_key_1 T) hr (da_cons (dv 0) da_nil)) (dps_cons de_str (dv 7) (dps_cons de_str (dv 5) (dps_cons de_str (dv 4) (dps_cons de_str (dv 6) dps_nil)))))) (by decide +kernel)) sc_law_things.nd)
    (dss_one (ds_expr (de_app (dv 2) (da_cons (de_dget hr.units (dv 8) (dv 3)) da_nil))))))))))
    (dss_one (ds_ret (bc_tuple T.n_tuple (da_cons (dv 2) da_nil))))))
theorem c_law_things_2 (T : Txt w K mg e) : DefK P w K mg base 3 "_law_things" (w_law_things e) [] := by
    obtain ⟨f, fd, dvs, hdd, F, hm⟩ := T.f_law_things
    have hdl : dvs.length = 0 := (hdd.rel (fun _ => none)).length
    obtain ⟨ds, hv, hb⟩ : ∃ ds, Vals (dvs.drop 0) ds ∧ Binds K fd ["_law_state", "_law_kinds_here"] ds := by
      obtain rfl : dvs = [] := List.eq_nil_of_length_eq_zero hdl
      exact ⟨[], .nil, F.bindsN (ps := ["_law_state", "_law_kinds_here"]) fun _ _ _ _ _ _ us hl => match us, hl with | [_, _], _ => rfl⟩
    exact ⟨f, fd, _, _, _, ok_law_things T F, hm, F.kp, hb, hv, hdd.drop 0, wpf_len⟩
theorem sc_law_drawn : FnScope N_law_drawn ["_law_state"] (defScope s_law_drawn) := ⟨rfl, rfl, rfl, by decide +kernel, rfl, by decide +kernel, by decide +kernel⟩
theorem ok_law_drawn (T : Txt w K mg e) {f : Addr} {fd : FuncData} {dvs : List V} (F : L2.FunD K "_law_drawn" "_law_drawn" (defArgs s_law_drawn) (defBody s_law_drawn) (defScope s_law_drawn) dvs [] f fd) : FnK P w K mg base 4 f fd ["_law_state"] (w_law_drawn e) :=
  fnd (k := 3) F sc_law_drawn rfl rfl fun cdv A outer s H E hr =>
    (dss_cons (ds_set (i := 1) (bc_sortDic rfl T.n_sorted (da_cons (dk_call0 (c_law_kinds_0 T) hr) da_nil)) sc_law_drawn.nd)
    (dss_cons (ds_set (i := 2) (de_item (dv 1) (dk_call (c_law_take_2 T) hr (da_cons (dv 0) (da_cons (bc_len T.n_len (da_cons (dv 1) da_nil)) da_nil)))) sc_law_drawn.nd)
    (dss_one (ds_ret (de_addV (de_tup (da_cons (dv 2) da_nil)) (dk_call (c_law_things_2 T) hr (da_cons (dv 0) (da_cons (de_dget hr.units (dk_call0 (c_law_kinds_0 T) hr) (dv 2)) da_nil))))))))
theorem c_law_drawn_1 (T : Txt w K mg e) : DefK P w K mg base 4 "_law_drawn" (w_law_drawn e) [] := by
    obtain ⟨f, fd, dvs, hdd, F, hm⟩ := T.f_law_drawn
    have hdl : dvs.length = 0 := (hdd.rel (fun _ => none)).length
    obtain ⟨ds, hv, hb⟩ : ∃ ds, Vals (dvs.drop 0) ds ∧ Binds K fd ["_law_state"] ds := by
      obtain rfl : dvs = [] := List.eq_nil_of_length_eq_zero hdl
      exact ⟨[], .nil, F.bindsN (ps := ["_law_state"]) fun _ _ _ _ _ _ us hl => match us, hl with | [_], _ => rfl⟩
    exact ⟨f, fd, _, _, _, ok_law_drawn T F, hm, F.kp, hb, hv, hdd.drop 0, wpf_len⟩
theorem sc_law_bent : FnScope N_law_bent ["_law_state", "_law_text_here"] (defScope s_law_bent) := ⟨rfl, rfl, rfl, by decide +kernel, rfl, by decide +kernel, by decide +kernel⟩
theorem ok_law_bent (T : Txt w K mg e) {f : Addr} {fd : FuncData} {dvs : List V} (F : L2.FunD K "_law_bent" "_law_bent" (defArgs s_law_bent) (defBody s_law_bent) (defScope s_law_bent) dvs [] f fd) : FnK P w K mg base 2 f fd ["_law_state", "_law_text_here"] (w_law_bent e) :=
  fnd (k := 1) F sc_law_bent rfl rfl fun cdv A outer s H E hr =>
    (dss_cons (ds_set (i := 2) de_str sc_law_bent.nd)
    (dss_cons (ds_set (i := 3) (dk_call (c_law_take_2 T) hr (da_cons (dv 0) (da_cons (de_addV (bc_len T.n_len (da_cons (dv 1) da_nil)) de_int) da_nil))) sc_law_bent.nd)
    (dss_cons (ds_set (i := 4) (de_item (dv 2) (dk_call (c_law_take_2 T) hr (da_cons (dv 0) (da_cons (bc_len T.n_len (da_cons (dv 2) da_nil)) da_nil)))) sc_law_bent.nd)
    (dss_cons (ds_set (i := 5) (dk_call (c_law_take_2 T) hr (da_cons (dv 0) (da_cons de_int da_nil))) sc_law_bent.nd)
    (dss_cons (ds_if (dt_c1 (c_lt hr.units) (dv 5) de_int)
    (dss_one (ds_ret (de_item (de_lstV (da_cons (de_addV (de_addV (de_sliceV (dv 1) do_none (do_some (dv 3))) (dv 4)) (de_sliceV (dv 1) (do_some (dv 3)) do_none)) (da_cons (de_addV (de_addV (de_sliceV (dv 1) do_none (do_some (dv 3))) (dv 4)) (de_sliceV (dv 1) (do_some (de_addV (dv 3) de_int)) do_none)) (da_cons (de_addV (de_sliceV (dv 1) do_none (do_some (dv 3))) (de_sliceV (dv 1) (do_some (de_addV (dv 3) de_int)) do_none)) da_nil)))) (dv 5))))
    dss_nil)
    (dss_cons (ds_set (i := 6) (de_split (dv 1) de_str) sc_law_bent.nd)
    (dss_cons (ds_set (i := 3) (dk_call (c_law_take_2 T) hr (da_cons (dv 0) (da_cons (bc_len T.n_len (da_cons (dv 6) da_nil)) da_nil))) sc_law_bent.nd)
    (dss_cons (ds_if (dt_c1 (c_eqX hr.units) (dv 5) de_int)
    (dss_one (ds_ret (de_join de_str (de_addV (de_sliceV (dv 6) do_none (do_some (dv 3))) (de_sliceV (dv 6) (do_some (de_addV (dv 3) de_int)) do_none)))))
    dss_nil)
    (dss_cons (ds_if (dt_c1 (c_eqX hr.units) (dv 5) de_int)
    (dss_one (ds_ret (de_join de_str (de_addV (de_addV (de_sliceV (dv 6) do_none (do_some (dv 3))) (de_lstV (da_cons (de_item (dv 6) (dv 3)) da_nil))) (de_sliceV (dv 6) (do_some (dv 3)) do_none)))))
    dss_nil)
    (dss_cons (ds_set (i := 7) (de_lstV (da_cons de_str (da_cons de_str (da_cons de_str (da_cons de_str (da_cons de_str (da_cons de_str (da_cons de_str (da_cons de_str da_nil))))))))) sc_law_bent.nd)
    (dss_one (ds_ret (de_join de_str (de_addV (de_addV (de_sliceV (dv 6) do_none (do_some (dv 3))) (de_lstV (da_cons (de_item (dv 7) (dk_call (c_law_take_2 T) hr (da_cons (dv 0) (da_cons de_int da_nil)))) da_nil))) (de_sliceV (dv 6) (do_some (de_addV (dv 3) de_int)) do_none)))))))))))))))
theorem c_law_bent_2 (T : Txt w K mg e) : DefK P w K mg base 2 "_law_bent" (w_law_bent e) [] := by
    obtain ⟨f, fd, dvs, hdd, F, hm⟩ := T.f_law_bent
    have hdl : dvs.length = 0 := (hdd.rel (fun _ => none)).length
    obtain ⟨ds, hv, hb⟩ : ∃ ds, Vals (dvs.drop 0) ds ∧ Binds K fd ["_law_state", "_law_text_here"] ds := by
      obtain rfl : dvs = [] := List.eq_nil_of_length_eq_zero hdl
      exact ⟨[], .nil, F.bindsN (ps := ["_law_state", "_law_text_here"]) fun _ _ _ _ _ _ us hl => match us, hl with | [_, _], _ => rfl⟩
    exact ⟨f, fd, _, _, _, ok_law_bent T F, hm, F.kp, hb, hv, hdd.drop 0, wpf_len⟩
theorem sc_law_is_key : FnScope N_law_is_key ["_law_word"] (defScope s_law_is_key) := ⟨rfl, rfl, rfl, by decide +kernel, rfl, by decide +kernel, by decide +kernel⟩
theorem ok_law_is_key (T : Txt w K mg e) {f : Addr} {fd : FuncData} {dvs : List V} (F : L2.FunD K "_law_is_key" "_law_is_key" (defArgs s_law_is_key) (defBody s_law_is_key) (defScope s_law_is_key) dvs [] f fd) : FnK P w K mg base 1 f fd ["_law_word"] (w_law_is_key e) :=
  fnd (k := 0) F sc_law_is_key rfl rfl fun cdv A outer s H E hr =>
    (dss_one (ds_ret (de_and (de_chain de_int (dch_link (c_le hr.units) (bc_len T.n_len (da_cons (dv 0) da_nil)) (dch_last (c_le hr.units) de_int))) (de_one (de_c1 (c_eqX hr.units) (de_lcV (own := [("_law_sign", 1)]) rfl sc_law_is_key.nd (di_str (dv 0)) (blkOk_by (N := N_law_is_key) (sc := defScope s_law_is_key) (by decide +kernel)) (fun _ _ _ _ _ => pg_name (i := 1) sc_law_is_key.nd rfl (Or.inl rfl)) tr_one (by decide) (fun _ _ _ _ _ => (dts_one (dt_not (dt_chain de_str (dch_link (c_leX hr.units) (dv 1) (dch_last (c_leX hr.units) de_str)))))) (fun _ _ _ _ _ => (dv 1))) (de_lstV da_nil))))))
theorem c_law_is_key_1 (T : Txt w K mg e) : DefK P w K mg base 1 "_law_is_key" (w_law_is_key e) [] := by
    obtain ⟨f, fd, dvs, hdd, F, hm⟩ := T.f_law_is_key
    have hdl : dvs.length = 0 := (hdd.rel (fun _ => none)).length
    obtain ⟨ds, hv, hb⟩ : ∃ ds, Vals (dvs.drop 0) ds ∧ Binds K fd ["_law_word"] ds := by
      obtain rfl : dvs = [] := List.eq_nil_of_length_eq_zero hdl
      exact ⟨[], .nil, F.bindsN (ps := ["_law_word"]) fun _ _ _ _ _ _ us hl => match us, hl with | [_], _ => rfl⟩
    exact ⟨f, fd, _, _, _, ok_law_is_key T F, hm, F.kp, hb, hv, hdd.drop 0, wpf_len⟩
theorem sc_law_is_number : FnScope N_law_is_number ["_law_word"] (defScope s_law_is_number) := ⟨rfl, rfl, rfl, by decide +kernel, rfl, by decide +kernel, by decide +kernel⟩
theorem ok_law_is_number (T : Txt w K mg e) {f : Addr} {fd : FuncData} {dvs : List V} (F : L2.FunD K "_law_is_number" "_law_is_number" (defArgs s_law_is_number) (defBody s_law_is_number) (defScope s_law_is_number) dvs [] f fd) : FnK P w K mg base 1 f fd ["_law_word"] (w_law_is_number e) :=
  fnd (k := 0) F sc_law_is_number rfl rfl fun cdv A outer s H E hr =>
    (dss_cons (ds_set (i := 1) (de_sliceV (dv 0) (do_some (bc_int T.n_int (da_cons (de_c1 (c_eqX hr.units) (de_sliceV (dv 0) do_none (do_some de_int)) de_str) da_nil))) do_none) sc_law_is_number.nd)
    (dss_cons (ds_if (dt_w (dtw_or (dt_not (dt_chain de_int (dch_link (c_le hr.units) (bc_len T.n_len (da_cons (dv 1) da_nil)) (dch_last (c_le hr.units) de_int)))) (dtw_or1 (dt_c1 (c_neX hr.units) (de_lcV (own := [("_law_sign", 2)]) rfl sc_law_is_number.nd (di_str (dv 1)) (blkOk_by (N := N_law_is_number) (sc := defScope s_law_is_number) (by decide +kernel)) (fun _ _ _ _ _ => pg_name (i := 2) sc_law_is_number.nd rfl (Or.inl rfl)) tr_one (by decide) (fun _ _ _ _ _ => (dts_one (dt_c1 c_ninS (dv 2) de_str))) (fun _ _ _ _ _ => (dv 2))) (de_lstV da_nil)))))
    (dss_one (ds_ret de_bl))
    dss_nil)
    (dss_one (ds_ret (de_or (de_c1 (c_neX hr.units) (de_item (dv 1) de_int) de_str) (de_one (de_c1 (c_eqX hr.units) (dv 0) de_str)))))))
theorem c_law_is_number_1 (T : Txt w K mg e) : DefK P w K mg base 1 "_law_is_number" (w_law_is_number e) [] := by
    obtain ⟨f, fd, dvs, hdd, F, hm⟩ := T.f_law_is_number
    have hdl : dvs.length = 0 := (hdd.rel (fun _ => none)).length
    obtain ⟨ds, hv, hb⟩ : ∃ ds, Vals (dvs.drop 0) ds ∧ Binds K fd ["_law_word"] ds := by
      obtain rfl : dvs = [] := List.eq_nil_of_length_eq_zero hdl
      exact ⟨[], .nil, F.bindsN (ps := ["_law_word"]) fun _ _ _ _ _ _ us hl => match us, hl with | [_], _ => rfl⟩
    exact ⟨f, fd, _, _, _, ok_law_is_number T F, hm, F.kp, hb, hv, hdd.drop 0, wpf_len⟩
theorem sc_law_read_thing : FnScope N_law_read_thing ["_law_kind", "_law_word"] (defScope s_law_read_thing) := ⟨rfl, rfl, rfl, by decide +kernel, rfl, by decide +kernel, by decide +kernel⟩
theorem ok_law_read_thing (T : Txt w K mg e) {f : Addr} {fd : FuncData} {dvs : List V} (F : L2.FunD K "_law_read_thing" "_law_read_thing" (defArgs s_law_read_thing) (defBody s_law_read_thing) (defScope s_law_read_thing) dvs [] f fd) : FnK P w K mg base 2 f fd ["_law_kind", "_law_word"] (w_law_read_thing e) :=
  fnd (k := 1) F sc_law_read_thing rfl rfl fun cdv A outer s H E hr =>
    (dss_cons (ds_set (i := 2) (de_split (dv 1) (de_item (de_lstV (da_cons de_str (da_cons de_str da_nil))) (bc_int T.n_int (da_cons (de_c1 (c_eqX hr.units) (dv 0) de_str) da_nil)))) sc_law_read_thing.nd)
    (dss_cons (ds_if (dt_c1 (c_eqX hr.units) (dv 0) de_str)
    (dss_one (ds_ret (de_item (de_lstV (da_cons de_non (da_cons (dv 1) da_nil))) (bc_int T.n_int (da_cons (dk_call (c_law_is_key_1 T) hr (da_cons (dv 1) da_nil)) da_nil)))))
    dss_nil)
    (dss_cons (ds_if (dt_c1 (c_eqX hr.units) (dv 0) de_str)
    (dss_one (ds_ret (de_item (de_lstV (da_cons de_non (da_cons (dv 1) da_nil))) (bc_int T.n_int (da_cons (de_c1 c_inT (dv 1) (de_tup (da_cons de_str (da_cons de_str da_nil)))) da_nil)))))
    dss_nil)
    (dss_cons (ds_if (dt_c1 (c_eqX hr.units) (dv 0) de_str)
    (dss_one (ds_ret (de_item (de_lstV (da_cons de_non (da_cons (bc_tuple T.n_tuple (da_cons (dv 2) da_nil)) da_nil))) (bc_int T.n_int (da_cons (de_c1 (c_eqX hr.units) (de_lcV (own := [("_law_one", 4)]) rfl sc_law_read_thing.nd (di_seq (dv 2)) (blkOk_by (N := N_law_read_thing) (sc := defScope s_law_read_thing) (by decide +kernel)) (fun _ _ _ _ _ => pg_name (i := 4) sc_law_read_thing.nd rfl (Or.inl rfl)) tr_one (by decide) (fun _ _ _ _ _ => (dts_one (dt_not (dt_tru (dk_call (c_law_is_key_1 T) hr (da_cons (dv 4) da_nil)))))) (fun _ _ _ _ _ => (dv 4))) (de_lstV da_nil)) da_nil)))))
    dss_nil)
    (dss_consJ (ds_if (dt_c1 (c_eqX hr.units) (dv 0) de_str)
    (dss_one (ds_set (i := 2) (de_lstV (da_cons (dv 1) da_nil)) sc_law_read_thing.nd))
    dss_nil)
    (dss_cons (ds_if (dt_w (dtw_or (dt_c1 (c_neX hr.units) (de_lcV (own := [("_law_one", 4)]) rfl sc_law_read_thing.nd (di_seq (dv 2)) (blkOk_by (N := N_law_read_thing) (sc := defScope s_law_read_thing) (by decide +kernel)) (fun _ _ _ _ _ => pg_name (i := 4) sc_law_read_thing.nd rfl (Or.inl rfl)) tr_one (by decide) (fun _ _ _ _ _ => (dts_one (dt_not (dt_tru (dk_call (c_law_is_number_1 T) hr (da_cons (dv 4) da_nil)))))) (fun _ _ _ _ _ => (dv 4))) (de_lstV da_nil)) (dtw_or (dt_w (dtw_and (dt_c1 (c_eqX hr.units) (dv 0) de_str) (dtw_and1 (dt_c1 (c_neX hr.units) (bc_len T.n_len (da_cons (dv 2) da_nil)) de_int)))) (dtw_or1 (dt_c1 (c_gt hr.units) (bc_len T.n_len (da_cons (dv 2) da_nil)) de_int)))))
    (dss_one (ds_ret de_non))
    dss_nil)
    (dss_cons (ds_set (i := 3) (bc_tuple T.n_tuple (da_cons (de_lcV (own := [("_law_one", 4)]) rfl sc_law_read_thing.nd (di_seq (dv 2)) (blkOk_by (N := N_law_read_thing) (sc := defScope s_law_read_thing) (by decide +kernel)) (fun _ _ _ _ _ => pg_name (i := 4) sc_law_read_thing.nd rfl (Or.inl rfl)) tr_one (by decide) (fun _ _ _ _ _ => dts_nil) (fun _ _ _ _ _ => (bc_intS T.n_int (da_cons (dv 4) da_nil)))) da_nil)) sc_law_read_thing.nd)
    (dss_one (ds_ret (de_item (de_lstV (da_cons (dv 3) (da_cons (de_item (dv 3) de_int) da_nil))) (bc_int T.n_int (da_cons (de_c1 (c_eqX hr.units) (dv 0) de_str) da_nil))))))))))))
theorem c_law_read_thing_2 (T : Txt w K mg e) : DefK P w K mg base 2 "_law_read_thing" (w_law_read_thing e) [] := by
    obtain ⟨f, fd, dvs, hdd, F, hm⟩ := T.f_law_read_thing
    have hdl : dvs.length = 0 := (hdd.rel (fun _ => none)).length
    obtain ⟨ds, hv, hb⟩ : ∃ ds, Vals (dvs.drop 0) ds ∧ Binds K fd ["_law_kind", "_law_word"] ds := by
      obtain rfl : dvs = [] := List.eq_nil_of_length_eq_zero hdl
      exact ⟨[], .nil, F.bindsN (ps := ["_law_kind", "_law_word"]) fun _ _ _ _ _ _ us hl => match us, hl with | [_, _], _ => rfl⟩
    exact ⟨f, fd, _, _, _, ok_law_read_thing T F, hm, F.kp, hb, hv, hdd.drop 0, wpf_len⟩
theorem sc_law_due : FnScope N_law_due ["_law_text_here"] (defScope s_law_due) := ⟨rfl, rfl, rfl, by decide +kernel, rfl, by decide +kernel, by decide +kernel⟩
theorem ok_law_due (T : Txt w K mg e) {f : Addr} {fd : FuncData} {dvs : List V} (F : L2.FunD K "_law_due" "_law_due" (defArgs s_law_due) (defBody s_law_due) (defScope s_law_due) dvs [] f fd) : FnK P w K mg base 3 f fd ["_law_text_here"] (w_law_due e) :=
  fnd (k := 2) F sc_law_due rfl rfl fun cdv A outer s H E hr =>
    (dss_cons (ds_if (dt_not (dt_tru (bc_isiE T.hic T.hec T.n_isinstance (da_cons (dv 0) (da_cons (de_bty rfl T.n_str bt_str) da_nil)))))
    (dss_one (ds_ret de_non))
    dss_nil)
    (dss_cons (ds_set (i := 1) (de_split (dv 0) de_str) sc_law_due.nd)
    (dss_cons (ds_set (i := 2) (de_get1 hr.units (dk_call0 (c_law_kinds_0 T) hr) (de_item (dv 1) de_int) ⟨rfl, rfl, rfl, rfl⟩) sc_law_due.nd)
    (dss_cons (ds_if (dt_w (dtw_or (dt_c1 (c_isX hr.units) (dv 2) de_non) (dtw_or1 (dt_c1 (c_neX hr.units) (bc_len T.n_len (da_cons (dv 2) da_nil)) (de_sub (bc_len T.n_len (da_cons (dv 1) da_nil)) de_int)))))
    (dss_one (ds_ret de_non))
    dss_nil)
    (dss_cons (ds_setLcV (i := 3) (own := [("_law_kind", 4), ("_law_word", 5)]) rfl sc_law_due.nd rfl rfl (sw_true rfl rfl rfl (by decide +kernel)) (di_zipG T.n_zip (da_cons (dv 2) (da_cons (de_sliceV (dv 1) (do_some de_int) do_none) da_nil))) (blkOk_by (N := N_law_due) (sc := defScope s_law_due) (by decide +kernel)) (fun _ _ _ _ _ => pg_tup rfl (pgs_cons (pg_name (i := 4) sc_law_due.nd rfl (Or.inl rfl)) (pgs_cons (pg_name (i := 5) sc_law_due.nd rfl (Or.inl rfl)) pgs_nil))) tr_many (by decide) (fun _ _ _ _ _ => dts_nil) (fun _ _ _ _ _ => (dk_call (c_law_read_thing_2 T) hr (da_cons (dv 4) (da_cons (dv 5) da_nil)))))
    (dss_one (ds_ret (de_item (de_lstV (da_cons de_non (da_cons (bc_tuple T.n_tuple (da_cons (de_addV (de_sliceV (dv 1) do_none (do_some de_int)) (dv 3)) da_nil)) da_nil))) (bc_int T.n_int (da_cons (de_c1 (c_ninN hr.units1) de_non (dv 3)) da_nil))))))))))
theorem c_law_due_1 (T : Txt w K mg e) : DefK P w K mg base 3 "_law_due" (w_law_due e) [] := by
    obtain ⟨f, fd, dvs, hdd, F, hm⟩ := T.f_law_due
    have hdl : dvs.length = 0 := (hdd.rel (fun _ => none)).length
    obtain ⟨ds, hv, hb⟩ : ∃ ds, Vals (dvs.drop 0) ds ∧ Binds K fd ["_law_text_here"] ds := by
      obtain rfl : dvs = [] := List.eq_nil_of_length_eq_zero hdl
      exact ⟨[], .nil, F.bindsN (ps := ["_law_text_here"]) fun _ _ _ _ _ _ us hl => match us, hl with | [_], _ => rfl⟩
    exact ⟨f, fd, _, _, _, ok_law_due T F, hm, F.kp, hb, hv, hdd.drop 0, wpf_len⟩
theorem sc_number_in : FnScope N_number_in ["word"] (defScope s_number_in) := ⟨rfl, rfl, rfl, by decide +kernel, rfl, by decide +kernel, by decide +kernel⟩
theorem ok_number_in (T : Txt w K mg e) {f : Addr} {fd : FuncData} {dvs : List V} (F : L2.FunD K "number_in" "number_in" (defArgs s_number_in) (defBody s_number_in) (defScope s_number_in) dvs [] f fd) : FnK P w K mg base 1 f fd ["word"] (w_number_in e) :=
  fnd (k := 0) F sc_number_in rfl rfl fun cdv A outer s H E hr =>
    (dss_cons (ds_set (i := 1) (de_ifExp (dt_c1 (c_eqX hr.units) (de_sliceV (dv 0) do_none (do_some de_int)) de_str) (de_sliceV (dv 0) (do_some de_int) do_none) (dv 0)) sc_number_in.nd)
    (dss_cons (ds_if (dt_w (dtw_or (dt_not (dt_chain de_int (dch_link (c_le hr.units) (bc_len T.n_len (da_cons (dv 1) da_nil)) (dch_last (c_le hr.units) de_int)))) (dtw_or1 (dt_not (dt_tru (bc_all rfl T.n_all (da_cons (de_lcV (own := [("sign", 2)]) rfl sc_number_in.nd (di_str (dv 1)) (blkOk_by (N := N_number_in) (sc := defScope s_number_in) (by decide +kernel)) (fun _ _ _ _ _ => pg_name (i := 2) sc_number_in.nd rfl (Or.inl rfl)) tr_one (by decide) (fun _ _ _ _ _ => dts_nil) (fun _ _ _ _ _ => (de_c1 c_inS (dv 2) de_str))) da_nil)))))))
    (dss_one (ds_ret de_non))
    dss_nil)
    (dss_one (ds_ret (de_ifExp (dt_c1 (c_eqX hr.units) (bc_str T.n_str (da_cons (bc_intS T.n_int (da_cons (dv 0) da_nil)) da_nil)) (dv 0)) (bc_intS T.n_int (da_cons (dv 0) da_nil)) de_non)))))
theorem c_number_in_1 (T : Txt w K mg e) : DefK P w K mg base 1 "number_in" (w_number_in e) [] := by
    obtain ⟨f, fd, dvs, hdd, F, hm⟩ := T.f_number_in
    have hdl : dvs.length = 0 := (hdd.rel (fun _ => none)).length
    obtain ⟨ds, hv, hb⟩ : ∃ ds, Vals (dvs.drop 0) ds ∧ Binds K fd ["word"] ds := by
      obtain rfl : dvs = [] := List.eq_nil_of_length_eq_zero hdl
      exact ⟨[], .nil, F.bindsN (ps := ["word"]) fun _ _ _ _ _ _ us hl => match us, hl with | [_], _ => rfl⟩
    exact ⟨f, fd, _, _, _, ok_number_in T F, hm, F.kp, hb, hv, hdd.drop 0, wpf_len⟩
theorem sc_is_key : FnScope N_is_key ["thing"] (defScope s_is_key) := ⟨rfl, rfl, rfl, by decide +kernel, rfl, by decide +kernel, by decide +kernel⟩
theorem ok_is_key (T : Txt w K mg e) {f : Addr} {fd : FuncData} {dvs : List V} (F : L2.FunD K "is_key" "is_key" (defArgs s_is_key) (defBody s_is_key) (defScope s_is_key) dvs [] f fd) : FnK P w K mg base 1 f fd ["thing"] (w_is_key e) :=
  fnd (k := 0) F sc_is_key rfl rfl fun cdv A outer s H E hr =>
    (dss_one (ds_ret (de_and (bc_isiE T.hic T.hec T.n_isinstance (da_cons (dv 0) (da_cons (de_bty rfl T.n_str bt_str) da_nil))) (de_and (de_chain de_int (dch_link (c_le hr.units) (bc_len T.n_len (da_cons (dv 0) da_nil)) (dch_last (c_le hr.units) (gc_LONGEST T)))) (de_one (bc_all rfl T.n_all (da_cons (de_lcV (own := [("sign", 1)]) rfl sc_is_key.nd (di_str (dv 0)) (blkOk_by (N := N_is_key) (sc := defScope s_is_key) (by decide +kernel)) (fun _ _ _ _ _ => pg_name (i := 1) sc_is_key.nd rfl (Or.inl rfl)) tr_one (by decide) (fun _ _ _ _ _ => dts_nil) (fun _ _ _ _ _ => (de_c1 c_inS (dv 1) (gc_LETTERS T)))) da_nil)))))))
theorem c_is_key_1 (T : Txt w K mg e) : DefK P w K mg base 1 "is_key" (w_is_key e) [] := by
    obtain ⟨f, fd, dvs, hdd, F, hm⟩ := T.f_is_key
    have hdl : dvs.length = 0 := (hdd.rel (fun _ => none)).length
    obtain ⟨ds, hv, hb⟩ : ∃ ds, Vals (dvs.drop 0) ds ∧ Binds K fd ["thing"] ds := by
      obtain rfl : dvs = [] := List.eq_nil_of_length_eq_zero hdl
      exact ⟨[], .nil, F.bindsN (ps := ["thing"]) fun _ _ _ _ _ _ us hl => match us, hl with | [_], _ => rfl⟩
    exact ⟨f, fd, _, _, _, ok_is_key T F, hm, F.kp, hb, hv, hdd.drop 0, wpf_len⟩
theorem sc_key_in : FnScope N_key_in ["word"] (defScope s_key_in) := ⟨rfl, rfl, rfl, by decide +kernel, rfl, by decide +kernel, by decide +kernel⟩
theorem ok_key_in (T : Txt w K mg e) {f : Addr} {fd : FuncData} {dvs : List V} (F : L2.FunD K "key_in" "key_in" (defArgs s_key_in) (defBody s_key_in) (defScope s_key_in) dvs [] f fd) : FnK P w K mg base 2 f fd ["word"] (w_key_in e) :=
  fnd (k := 1) F sc_key_in rfl rfl fun cdv A outer s H E hr =>
    (dss_one (ds_ret (de_ifExp (dt_tru (dk_call (c_is_key_1 T) hr (da_cons (dv 0) da_nil))) (dv 0) de_non)))
theorem c_key_in_1 (T : Txt w K mg e) : DefK P w K mg base 2 "key_in" (w_key_in e) [] := by
    obtain ⟨f, fd, dvs, hdd, F, hm⟩ := T.f_key_in
    have hdl : dvs.length = 0 := (hdd.rel (fun _ => none)).length
    obtain ⟨ds, hv, hb⟩ : ∃ ds, Vals (dvs.drop 0) ds ∧ Binds K fd ["word"] ds := by
      obtain rfl : dvs = [] := List.eq_nil_of_length_eq_zero hdl
      exact ⟨[], .nil, F.bindsN (ps := ["word"]) fun _ _ _ _ _ _ us hl => match us, hl with | [_], _ => rfl⟩
    exact ⟨f, fd, _, _, _, ok_key_in T F, hm, F.kp, hb, hv, hdd.drop 0, wpf_len⟩
theorem sc_mode_in : FnScope N_mode_in ["word"] (defScope s_mode_in) := ⟨rfl, rfl, rfl, by decide +kernel, rfl, by decide +kernel, by decide +kernel⟩
theorem ok_mode_in (T : Txt w K mg e) {f : Addr} {fd : FuncData} {dvs : List V} (F : L2.FunD K "mode_in" "mode_in" (defArgs s_mode_in) (defBody s_mode_in) (defScope s_mode_in) dvs [] f fd) : FnK P w K mg base 1 f fd ["word"] (w_mode_in e) :=
  fnd (k := 0) F sc_mode_in rfl rfl fun cdv A outer s H E hr =>
    (dss_one (ds_ret (de_ifExp (dt_c1 c_inT (dv 0) (de_tup (da_cons de_str (da_cons de_str da_nil)))) (dv 0) de_non)))
theorem c_mode_in_1 (T : Txt w K mg e) : DefK P w K mg base 1 "mode_in" (w_mode_in e) [] := by
    obtain ⟨f, fd, dvs, hdd, F, hm⟩ := T.f_mode_in
    have hdl : dvs.length = 0 := (hdd.rel (fun _ => none)).length
    obtain ⟨ds, hv, hb⟩ : ∃ ds, Vals (dvs.drop 0) ds ∧ Binds K fd ["word"] ds := by
      obtain rfl : dvs = [] := List.eq_nil_of_length_eq_zero hdl
      exact ⟨[], .nil, F.bindsN (ps := ["word"]) fun _ _ _ _ _ _ us hl => match us, hl with | [_], _ => rfl⟩
    exact ⟨f, fd, _, _, _, ok_mode_in T F, hm, F.kp, hb, hv, hdd.drop 0, wpf_len⟩
theorem sc_numbers_in : FnScope N_numbers_in ["word", "mark"] (defScope s_numbers_in) := ⟨rfl, rfl, rfl, by decide +kernel, rfl, by decide +kernel, by decide +kernel⟩
theorem ok_numbers_in (T : Txt w K mg e) {f : Addr} {fd : FuncData} {dvs : List V} (F : L2.FunD K "numbers_in" "numbers_in" (defArgs s_numbers_in) (defBody s_numbers_in) (defScope s_numbers_in) dvs [] f fd) : FnK P w K mg base 2 f fd ["word", "mark"] (w_numbers_in e) :=
  fnd (k := 1) F sc_numbers_in rfl rfl fun cdv A outer s H E hr =>
    (dss_cons (ds_setLcV (i := 2) (own := [("part", 3)]) rfl sc_numbers_in.nd rfl rfl (sw_true rfl rfl rfl (by decide +kernel)) (di_seq (de_split (dv 0) (dv 1))) (blkOk_by (N := N_numbers_in) (sc := defScope s_numbers_in) (by decide +kernel)) (fun _ _ _ _ _ => pg_name (i := 3) sc_numbers_in.nd rfl (Or.inl rfl)) tr_one (by decide) (fun _ _ _ _ _ => dts_nil) (fun _ _ _ _ _ => (dk_call (c_number_in_1 T) hr (da_cons (dv 3) da_nil))))
    (dss_one (ds_ret (de_ifExp (dt_c1 (c_inN hr.units1) de_non (dv 2)) de_non (bc_tuple T.n_tuple (da_cons (dv 2) da_nil))))))
theorem c_numbers_in_2 (T : Txt w K mg e) : DefK P w K mg base 2 "numbers_in" (w_numbers_in e) [] := by
    obtain ⟨f, fd, dvs, hdd, F, hm⟩ := T.f_numbers_in
    have hdl : dvs.length = 0 := (hdd.rel (fun _ => none)).length
    obtain ⟨ds, hv, hb⟩ : ∃ ds, Vals (dvs.drop 0) ds ∧ Binds K fd ["word", "mark"] ds := by
      obtain rfl : dvs = [] := List.eq_nil_of_length_eq_zero hdl
      exact ⟨[], .nil, F.bindsN (ps := ["word", "mark"]) fun _ _ _ _ _ _ us hl => match us, hl with | [_, _], _ => rfl⟩
    exact ⟨f, fd, _, _, _, ok_numbers_in T F, hm, F.kp, hb, hv, hdd.drop 0, wpf_len⟩
theorem sc_worth_in : FnScope N_worth_in ["word"] (defScope s_worth_in) := ⟨rfl, rfl, rfl, by decide +kernel, rfl, by decide +kernel, by decide +kernel⟩
theorem ok_worth_in (T : Txt w K mg e) {f : Addr} {fd : FuncData} {dvs : List V} (F : L2.FunD K "worth_in" "worth_in" (defArgs s_worth_in) (defBody s_worth_in) (defScope s_worth_in) dvs [] f fd) : FnK P w K mg base 3 f fd ["word"] (w_worth_in e) :=
  fnd (k := 2) F sc_worth_in rfl rfl fun cdv A outer s H E hr =>
    (dss_cons (ds_set (i := 1) (dk_call (c_numbers_in_2 T) hr (da_cons (dv 0) (da_cons de_str da_nil))) sc_worth_in.nd)
    (dss_one (ds_ret (de_ifExp (dt_w (dtw_and (dt_c1 (c_isnotX hr.units) (dv 1) de_non) (dtw_and1 (dt_c1 (c_le hr.units) (bc_len T.n_len (da_cons (dv 1) da_nil)) (gc_MOST_FIELDS T))))) (dv 1) de_non))))
theorem c_worth_in_1 (T : Txt w K mg e) : DefK P w K mg base 3 "worth_in" (w_worth_in e) [] := by
    obtain ⟨f, fd, dvs, hdd, F, hm⟩ := T.f_worth_in
    have hdl : dvs.length = 0 := (hdd.rel (fun _ => none)).length
    obtain ⟨ds, hv, hb⟩ : ∃ ds, Vals (dvs.drop 0) ds ∧ Binds K fd ["word"] ds := by
      obtain rfl : dvs = [] := List.eq_nil_of_length_eq_zero hdl
      exact ⟨[], .nil, F.bindsN (ps := ["word"]) fun _ _ _ _ _ _ us hl => match us, hl with | [_], _ => rfl⟩
    exact ⟨f, fd, _, _, _, ok_worth_in T F, hm, F.kp, hb, hv, hdd.drop 0, wpf_len⟩
theorem sc_pace_in : FnScope N_pace_in ["word"] (defScope s_pace_in) := ⟨rfl, rfl, rfl, by decide +kernel, rfl, by decide +kernel, by decide +kernel⟩
theorem ok_pace_in (T : Txt w K mg e) {f : Addr} {fd : FuncData} {dvs : List V} (F : L2.FunD K "pace_in" "pace_in" (defArgs s_pace_in) (defBody s_pace_in) (defScope s_pace_in) dvs [] f fd) : FnK P w K mg base 3 f fd ["word"] (w_pace_in e) :=
  fnd (k := 2) F sc_pace_in rfl rfl fun cdv A outer s H E hr =>
    (dss_cons (ds_set (i := 1) (dk_call (c_numbers_in_2 T) hr (da_cons (dv 0) (da_cons de_str da_nil))) sc_pace_in.nd)
    (dss_one (ds_ret (de_ifExp (dt_w (dtw_and (dt_c1 (c_isnotX hr.units) (dv 1) de_non) (dtw_and1 (dt_c1 (c_eqX hr.units) (bc_len T.n_len (da_cons (dv 1) da_nil)) de_int)))) (dv 1) de_non))))
theorem c_pace_in_1 (T : Txt w K mg e) : DefK P w K mg base 3 "pace_in" (w_pace_in e) [] := by
    obtain ⟨f, fd, dvs, hdd, F, hm⟩ := T.f_pace_in
    have hdl : dvs.length = 0 := (hdd.rel (fun _ => none)).length
    obtain ⟨ds, hv, hb⟩ : ∃ ds, Vals (dvs.drop 0) ds ∧ Binds K fd ["word"] ds := by
      obtain rfl : dvs = [] := List.eq_nil_of_length_eq_zero hdl
      exact ⟨[], .nil, F.bindsN (ps := ["word"]) fun _ _ _ _ _ _ us hl => match us, hl with | [_], _ => rfl⟩
    exact ⟨f, fd, _, _, _, ok_pace_in T F, hm, F.kp, hb, hv, hdd.drop 0, wpf_len⟩
theorem sc_keys_in : FnScope N_keys_in ["word"] (defScope s_keys_in) := ⟨rfl, rfl, rfl, by decide +kernel, rfl, by decide +kernel, by decide +kernel⟩
theorem ok_keys_in (T : Txt w K mg e) {f : Addr} {fd : FuncData} {dvs : List V} (F : L2.FunD K "keys_in" "keys_in" (defArgs s_keys_in) (defBody s_keys_in) (defScope s_keys_in) dvs [] f fd) : FnK P w K mg base 2 f fd ["word"] (w_keys_in e) :=
  fnd (k := 1) F sc_keys_in rfl rfl fun cdv A outer s H E hr =>
    (dss_cons (ds_set (i := 1) (de_split (dv 0) de_str) sc_keys_in.nd)
    (dss_one (ds_ret (de_ifExp (dt_tru (bc_all rfl T.n_all (da_cons (de_lcV (own := [("one", 2)]) rfl sc_keys_in.nd (di_seq (dv 1)) (blkOk_by (N := N_keys_in) (sc := defScope s_keys_in) (by decide +kernel)) (fun _ _ _ _ _ => pg_name (i := 2) sc_keys_in.nd rfl (Or.inl rfl)) tr_one (by decide) (fun _ _ _ _ _ => dts_nil) (fun _ _ _ _ _ => (dk_call (c_is_key_1 T) hr (da_cons (dv 2) da_nil)))) da_nil))) (bc_tuple T.n_tuple (da_cons (dv 1) da_nil)) de_non))))
theorem c_keys_in_1 (T : Txt w K mg e) : DefK P w K mg base 2 "keys_in" (w_keys_in e) [] := by
    obtain ⟨f, fd, dvs, hdd, F, hm⟩ := T.f_keys_in
    have hdl : dvs.length = 0 := (hdd.rel (fun _ => none)).length
    obtain ⟨ds, hv, hb⟩ : ∃ ds, Vals (dvs.drop 0) ds ∧ Binds K fd ["word"] ds := by
      obtain rfl : dvs = [] := List.eq_nil_of_length_eq_zero hdl
      exact ⟨[], .nil, F.bindsN (ps := ["word"]) fun _ _ _ _ _ _ us hl => match us, hl with | [_], _ => rfl⟩
    exact ⟨f, fd, _, _, _, ok_keys_in T F, hm, F.kp, hb, hv, hdd.drop 0, wpf_len⟩
theorem fl_READERS {X : Cx} {e : Env} (T : Txt X.w X.K X.mg e) : ∀ q ∈ [((e.F_number_in, w_number_in e) : Addr × SpD), ((e.F_key_in, w_key_in e) : Addr × SpD), ((e.F_mode_in, w_mode_in e) : Addr × SpD), ((e.F_worth_in, w_worth_in e) : Addr × SpD), ((e.F_pace_in, w_pace_in e) : Addr × SpD), ((e.F_keys_in, w_keys_in e) : Addr × SpD)], FnA X 3 q.1 q.2 := by
    intro q hq
    rcases List.mem_cons.mp hq with rfl | hq
    · exact .of (c_number_in_1 T) T.fa_number_in (by decide)
    rcases List.mem_cons.mp hq with rfl | hq
    · exact .of (c_key_in_1 T) T.fa_key_in (by decide)
    rcases List.mem_cons.mp hq with rfl | hq
    · exact .of (c_mode_in_1 T) T.fa_mode_in (by decide)
    rcases List.mem_cons.mp hq with rfl | hq
    · exact .of (c_worth_in_1 T) T.fa_worth_in (by decide)
    rcases List.mem_cons.mp hq with rfl | hq
    · exact .of (c_pace_in_1 T) T.fa_pace_in (by decide)
    rcases List.mem_cons.mp hq with rfl | hq
    · exact .of (c_keys_in_1 T) T.fa_keys_in (by decide)
    · cases hq
theorem sc_read_deed : FnScope N_read_deed ["text"] (defScope s_read_deed) := ⟨rfl, rfl, rfl, by decide +kernel, rfl, by decide +kernel, by decide +kernel⟩
theorem ok_read_deed (T : Txt w K mg e) {f : Addr} {fd : FuncData} {dvs : List V} (F : L2.FunD K "read_deed" "read_deed" (defArgs s_read_deed) (defBody s_read_deed) (defScope s_read_deed) dvs [] f fd) : FnK P w K mg base 4 f fd ["text"] (w_read_deed e) :=
  fnd (k := 3) F sc_read_deed rfl rfl fun cdv A outer s H E hr =>
    (dss_cons (ds_if (dt_not (dt_tru (bc_isiE T.hic T.hec T.n_isinstance (da_cons (dv 0) (da_cons (de_bty rfl T.n_str bt_str) da_nil)))))
    (dss_one (ds_raiseX (ri_NoText T) hr (da_cons de_int da_nil) rfl))
    dss_nil)
    (dss_cons (ds_starK (i := 1) (j := 2) (de_split (dv 0) de_str) rfl sc_read_deed.nd)
    (dss_cons (ds_if (dt_w (dtw_or (dt_knin T.kd_FORMS (dv 1)) (dtw_or1 (dt_c1 (c_neX hr.units) (bc_len T.n_len (da_cons (dv 2) da_nil)) (bc_len T.n_len (da_cons (de_kget T.kd_FORMS (dv 1)) da_nil))))))
    (dss_one (ds_raiseX (ri_NoText T) hr (da_cons de_int da_nil) rfl))
    dss_nil)
    (dss_cons (ds_set (i := 3) (de_lst da_nil) sc_read_deed.nd)
    (dss_cons (ds_for (passes_of rfl) rfl (di_zipS T.n_zip (da_cons (de_kget T.kd_FORMS (dv 1)) (da_cons (dv 2) da_nil))) (tg_many rfl (.one sc_read_deed.nd 4 (.one sc_read_deed.nd 5 .nil)))
    (dss_cons (ds_set (i := 6) (de_kget T.kd_READERS (dv 4)) sc_read_deed.nd)
    (dss_one (ds_expr (de_app (dv 3) (da_cons (de_callL (fl_READERS T) hr (da_cons (dv 5) da_nil)) da_nil))))))
    (dss_cons (ds_if (dt_c1 (c_inN hr.units1) de_non (dv 3))
    (dss_one (ds_raiseX (ri_NoText T) hr (da_cons de_int da_nil) rfl))
    dss_nil)
    (dss_one (ds_ret (de_addV (de_tup (da_cons (dv 1) da_nil)) (bc_tuple T.n_tuple (da_cons (dv 3) da_nil)))))))))))
theorem c_read_deed_1 (T : Txt w K mg e) : DefK P w K mg base 4 "read_deed" (w_read_deed e) [] := by
    obtain ⟨f, fd, dvs, hdd, F, hm⟩ := T.f_read_deed
    have hdl : dvs.length = 0 := (hdd.rel (fun _ => none)).length
    obtain ⟨ds, hv, hb⟩ : ∃ ds, Vals (dvs.drop 0) ds ∧ Binds K fd ["text"] ds := by
      obtain rfl : dvs = [] := List.eq_nil_of_length_eq_zero hdl
      exact ⟨[], .nil, F.bindsN (ps := ["text"]) fun _ _ _ _ _ _ us hl => match us, hl with | [_], _ => rfl⟩
    exact ⟨f, fd, _, _, _, ok_read_deed T F, hm, F.kp, hb, hv, hdd.drop 0, wpf_len⟩
theorem sc_law_right : FnScope N_law_right ["_law_text_here"] (defScope s_law_right) := ⟨rfl, rfl, rfl, by decide +kernel, rfl, by decide +kernel, by decide +kernel⟩
theorem ok_law_right (T : Txt w K mg e) {f : Addr} {fd : FuncData} {dvs : List V} (F : L2.FunD K "_law_right" "_law_right" (defArgs s_law_right) (defBody s_law_right) (defScope s_law_right) dvs [] f fd) : FnK P w K mg base 5 f fd ["_law_text_here"] (w_law_right e) :=
  fnd (k := 4) F sc_law_right rfl rfl fun cdv A outer s H E hr =>
    (dss_cons (ds_set (i := 1) de_non sc_law_right.nd)
    (dss_cons (ds_set (i := 2) de_non sc_law_right.nd)
    (dss_consJ (ds_tryH rfl rfl sc_law_right.nd T.hxm (fun pn xe => (dss_one (ds_set (i := 2) (dk_call (c_read_deed_1 T) hr (da_cons (dv 0) da_nil)) sc_law_right.nd)))
    (.as_ 3 ⟨rfl, rfl, .inl T.gx_WaitError⟩ rfl rfl (fun a pn => (dss_one (ds_set (i := 1) (dv 3) sc_law_right.nd)))
    .nil))
    (dss_cons (ds_set (i := 4) (dk_call (c_law_due_1 T) hr (da_cons (dv 0) da_nil)) sc_law_right.nd)
    (dss_cons (ds_if (dt_c1 (c_isnotX hr.units) (dv 4) de_non)
    (dss_one (ds_ret (de_and (de_c1 (c_isX hr.units) (dv 1) de_non) (de_one (de_c1 (c_eqX hr.units) (bc_reprXU hr.gd hr.units T.n_repr (da_cons (dv 2) da_nil)) (bc_reprXU hr.gd hr.units T.n_repr (da_cons (dv 4) da_nil)))))))
    dss_nil)
    (dss_one (ds_ret (de_and (bc_isiE T.hic T.hec T.n_isinstance (da_cons (dv 1) (da_cons (de_glob (d := .ref _) (v := .ref _) rfl T.gx_NoText rfl fun _ => rfl) da_nil))) (de_and (de_not (bc_isiW T.hic T.hec T.n_isinstance (da_cons (dv 1) (da_cons (de_tup (da_cons (de_glob (d := .ref _) (v := .ref _) rfl T.gx_NoDeed rfl fun _ => rfl) (da_cons (de_glob (d := .ref _) (v := .ref _) rfl T.gx_NoRow rfl fun _ => rfl) da_nil))) da_nil)))) (de_one (de_c1 (c_eqX hr.units) (bc_reprXU hr.gd hr.units T.n_repr (da_cons (de_xfld T.hxf (dv 1)) da_nil)) de_str)))))))))))
theorem c_law_right_1 (T : Txt w K mg e) : DefK P w K mg base 5 "_law_right" (w_law_right e) [] := by
    obtain ⟨f, fd, dvs, hdd, F, hm⟩ := T.f_law_right
    have hdl : dvs.length = 0 := (hdd.rel (fun _ => none)).length
    obtain ⟨ds, hv, hb⟩ : ∃ ds, Vals (dvs.drop 0) ds ∧ Binds K fd ["_law_text_here"] ds := by
      obtain rfl : dvs = [] := List.eq_nil_of_length_eq_zero hdl
      exact ⟨[], .nil, F.bindsN (ps := ["_law_text_here"]) fun _ _ _ _ _ _ us hl => match us, hl with | [_], _ => rfl⟩
    exact ⟨f, fd, _, _, _, ok_law_right T F, hm, F.kp, hb, hv, hdd.drop 0, wpf_len⟩
theorem sc_law : FnScope N_law ["_law_script"] (defScope s_law) := ⟨rfl, rfl, rfl, by decide +kernel, rfl, by decide +kernel, by decide +kernel⟩
theorem ok_law (T : Txt w K mg e) {f : Addr} {fd : FuncData} {dvs : List V} (F : L2.FunD K "law" "law" (defArgs s_law) (defBody s_law) (defScope s_law) dvs [] f fd) : FnK P w K mg base 6 f fd ["_law_script"] (w_law e) :=
  fnd (k := 5) F sc_law rfl rfl fun cdv A outer s H E hr =>
    (dss_cons (ds_for (passes_of rfl) rfl (di_range1 T.n_range (da_cons (bc_max rfl T.n_max (da_cons de_int (da_cons (bc_min rfl T.n_min (da_cons de_int (da_cons (bc_len T.n_len (da_cons (dv 0) da_nil)) da_nil))) da_nil))) da_nil)) (tg_one sc_law.nd 1)
    (dss_cons (ds_set (i := 2) (dk_call (c_law_begun_2 T) hr (da_cons (dv 0) (da_cons (dv 1) da_nil))) sc_law.nd)
    (dss_cons (ds_set (i := 3) (dk_call (c_law_text_1 T) hr (da_cons (dk_call (c_law_drawn_1 T) hr (da_cons (dv 2) da_nil)) da_nil)) sc_law.nd)
    (dss_one (ds_for (passes_of rfl) rfl (di_range1 T.n_range (da_cons de_int da_nil)) (tg_one sc_law.nd 4)
    (dss_cons (ds_set (i := 5) (dk_call (c_law_bent_2 T) hr (da_cons (dv 2) (da_cons (dv 3) da_nil))) sc_law.nd)
    (dss_one (ds_if (dt_w (dtw_or (dt_not (dt_tru (dk_call (c_law_right_1 T) hr (da_cons (dv 5) da_nil)))) (dtw_or1 (dt_not (dt_tru (dk_call (c_law_right_1 T) hr (da_cons (dk_call (c_law_bent_2 T) hr (da_cons (dv 2) (da_cons (dv 5) da_nil))) da_nil)))))))
    (dss_one (ds_ret de_bl))
    dss_nil))))))))
    (dss_cons (ds_set (i := 6) (de_lstV (da_cons de_str (da_cons de_str (da_cons de_str (da_cons de_str (da_cons de_str (da_cons de_str (da_cons de_str (da_cons de_str (da_cons de_str (da_cons de_str (da_cons de_str da_nil)))))))))))) sc_law.nd)
    (dss_cons (ds_set (i := 6) (de_addV (dv 6) (de_lstV (da_cons (de_addV de_str (de_mulS de_str de_int)) (da_cons (de_addV de_str (de_mulS de_str de_int)) (da_cons de_str (da_cons de_str (da_cons de_str (da_cons de_str da_nil)))))))) sc_law.nd)
    (dss_cons (ds_set (i := 6) (de_addV (dv 6) (de_lstV (da_cons de_str (da_cons de_str (da_cons de_str (da_cons de_str (da_cons de_str (da_cons de_str (da_cons de_str da_nil))))))))) sc_law.nd)
    (dss_cons (ds_for (passes_of rfl) rfl (di_seq (de_addV (dv 6) (de_lstV (da_cons de_str (da_cons de_non (da_cons de_int (da_cons de_bl (da_cons (de_lstV (da_cons de_str da_nil)) (da_cons (de_tup (da_cons de_str da_nil)) (da_cons de_emp (da_cons (de_tup (da_cons de_str (da_cons de_int da_nil))) da_nil))))))))))) (tg_one sc_law.nd 7)
    (dss_one (ds_if (dt_not (dt_tru (dk_call (c_law_right_1 T) hr (da_cons (dv 7) da_nil))))
    (dss_one (ds_ret de_bl))
    dss_nil)))
    (dss_one (ds_ret de_bl)))))))
end
/-! ### each fact, as the head has it -/
theorem all_mk {l : PySem.W.OpenLaw} {w : World} {K : PySem.W.Frag} {h : Heap} {mg : Str → Option Value} {fa : Addr} (X : K.In h) (G : h.Ns mainGlobals mg) (hfa : mg "law" = some (.ref fa)) (hmain : ∀ e : Env, e.Good → ∀ ns : List Int, ns.length ≤ 63 → w_law e [.kc (ns.map D.int)] (fun _ => none) (fun d _ => d = .bl true) fun _ _ _ => False)
    {C_NoDeed C_NoRow C_NoText C_WaitError f_XNoText G_FORMS G_READERS f_law_begun f_law_kinds f_law_text f_law_take f_law_number f_law_a_key f_law_things f_law_drawn f_law_bent f_law_is_key f_law_is_number f_law_read_thing f_law_due f_number_in f_is_key f_key_in f_mode_in f_numbers_in f_worth_in f_pace_in f_keys_in f_read_deed f_law_right f_law : Addr} {o_FORMS o_READERS : Obj} {od_XNoText an_XNoText od_law_begun an_law_begun od_law_kinds an_law_kinds od_law_text an_law_text od_law_take an_law_take od_law_number an_law_number od_law_a_key an_law_a_key od_law_things an_law_things od_law_drawn an_law_drawn od_law_bent an_law_bent od_law_is_key an_law_is_key od_law_is_number an_law_is_number od_law_read_thing an_law_read_thing od_law_due an_law_due od_number_in an_number_in od_is_key an_is_key od_key_in an_key_in od_mode_in an_mode_in od_numbers_in an_numbers_in od_worth_in an_worth_in od_pace_in an_pace_in od_keys_in an_keys_in od_read_deed an_read_deed od_law_right an_law_right od_law an_law : Option Addr} {sl_XNoText sl_law_begun sl_law_kinds sl_law_text sl_law_take sl_law_number sl_law_a_key sl_law_things sl_law_drawn sl_law_bent sl_law_is_key sl_law_is_number sl_law_read_thing sl_law_due sl_number_in sl_is_key sl_key_in sl_mode_in sl_numbers_in sl_worth_in sl_pace_in sl_keys_in sl_read_deed sl_law_right sl_law : Array (Option Value)} {oc_XNoText dV_XNoText kV_XNoText dc_XNoText pm_XNoText cd_XNoText ct_XNoText u_LETTERS u_LONGEST u_MOST_FIELDS oc_law_begun dV_law_begun kV_law_begun dc_law_begun pm_law_begun cd_law_begun ct_law_begun oc_law_kinds dV_law_kinds kV_law_kinds dc_law_kinds pm_law_kinds cd_law_kinds ct_law_kinds oc_law_text dV_law_text kV_law_text dc_law_text pm_law_text cd_law_text ct_law_text oc_law_take dV_law_take kV_law_take dc_law_take pm_law_take cd_law_take ct_law_take oc_law_number dV_law_number kV_law_number dc_law_number pm_law_number cd_law_number ct_law_number oc_law_a_key dV_law_a_key kV_law_a_key dc_law_a_key pm_law_a_key cd_law_a_key ct_law_a_key oc_law_things dV_law_things kV_law_things dc_law_things pm_law_things cd_law_things ct_law_things oc_law_drawn dV_law_drawn kV_law_drawn dc_law_drawn pm_law_drawn cd_law_drawn ct_law_drawn oc_law_bent dV_law_bent kV_law_bent dc_law_bent pm_law_bent cd_law_bent ct_law_bent oc_law_is_key dV_law_is_key kV_law_is_key dc_law_is_key pm_law_is_key cd_law_is_key ct_law_is_key oc_law_is_number dV_law_is_number kV_law_is_number dc_law_is_number pm_law_is_number cd_law_is_number ct_law_is_number oc_law_read_thing dV_law_read_thing kV_law_read_thing dc_law_read_thing pm_law_read_thing cd_law_read_thing ct_law_read_thing oc_law_due dV_law_due kV_law_due dc_law_due pm_law_due cd_law_due ct_law_due oc_number_in dV_number_in kV_number_in dc_number_in pm_number_in cd_number_in ct_number_in oc_is_key dV_is_key kV_is_key dc_is_key pm_is_key cd_is_key ct_is_key oc_key_in dV_key_in kV_key_in dc_key_in pm_key_in cd_key_in ct_key_in oc_mode_in dV_mode_in kV_mode_in dc_mode_in pm_mode_in cd_mode_in ct_mode_in oc_numbers_in dV_numbers_in kV_numbers_in dc_numbers_in pm_numbers_in cd_numbers_in ct_numbers_in oc_worth_in dV_worth_in kV_worth_in dc_worth_in pm_worth_in cd_worth_in ct_worth_in oc_pace_in dV_pace_in kV_pace_in dc_pace_in pm_pace_in cd_pace_in ct_pace_in oc_keys_in dV_keys_in kV_keys_in dc_keys_in pm_keys_in cd_keys_in ct_keys_in oc_read_deed dV_read_deed kV_read_deed dc_read_deed pm_read_deed cd_read_deed ct_read_deed oc_law_right dV_law_right kV_law_right dc_law_right pm_law_right cd_law_right ct_law_right oc_law dV_law kV_law dc_law pm_law cd_law ct_law : Value}
    (z_all : PySem.W.nsIn K mainGlobals "all" = some none)
    (z_int : PySem.W.nsIn K mainGlobals "int" = some none)
    (z_isinstance : PySem.W.nsIn K mainGlobals "isinstance" = some none)
    (z_len : PySem.W.nsIn K mainGlobals "len" = some none)
    (z_max : PySem.W.nsIn K mainGlobals "max" = some none)
    (z_min : PySem.W.nsIn K mainGlobals "min" = some none)
    (z_range : PySem.W.nsIn K mainGlobals "range" = some none)
    (z_repr : PySem.W.nsIn K mainGlobals "repr" = some none)
    (z_sorted : PySem.W.nsIn K mainGlobals "sorted" = some none)
    (z_str : PySem.W.nsIn K mainGlobals "str" = some none)
    (z_tuple : PySem.W.nsIn K mainGlobals "tuple" = some none)
    (z_zip : PySem.W.nsIn K mainGlobals "zip" = some none)
    (a_NoDeed : PySem.W.nsIn K mainGlobals "NoDeed" = some (some (.ref C_NoDeed)))
    (ei_NoDeed : PySem.W.excIn K C_NoDeed [.type "ValueError", .type "Exception", .type "BaseException", .type "object"] "ValueError.__new__" = true)
    (ek_NoDeed : PySem.W.keepIn K (.ref C_NoDeed) = true)
    (es_NoDeed : PySem.W.subIn K (.ref C_NoDeed) (.type "BaseException") = some true)
    (et_NoDeed : PySem.W.typeIn K (.ref C_NoDeed) = some (.type "type"))
    (ej_NoDeed : PySem.W.isClsIn K C_NoDeed = true)
    (a_NoRow : PySem.W.nsIn K mainGlobals "NoRow" = some (some (.ref C_NoRow)))
    (ei_NoRow : PySem.W.excIn K C_NoRow [.type "ValueError", .type "Exception", .type "BaseException", .type "object"] "ValueError.__new__" = true)
    (ek_NoRow : PySem.W.keepIn K (.ref C_NoRow) = true)
    (es_NoRow : PySem.W.subIn K (.ref C_NoRow) (.type "BaseException") = some true)
    (et_NoRow : PySem.W.typeIn K (.ref C_NoRow) = some (.type "type"))
    (ej_NoRow : PySem.W.isClsIn K C_NoRow = true)
    (a_NoText : PySem.W.nsIn K mainGlobals "NoText" = some (some (.ref C_NoText)))
    (ek_NoText : PySem.W.keepIn K (.ref C_NoText) = true)
    (es_NoText : PySem.W.subIn K (.ref C_NoText) (.type "BaseException") = some true)
    (et_NoText : PySem.W.typeIn K (.ref C_NoText) = some (.type "type"))
    (ej_NoText : PySem.W.isClsIn K C_NoText = true)
    (a_WaitError : PySem.W.nsIn K mainGlobals "WaitError" = some (some (.ref C_WaitError)))
    (ei_WaitError : PySem.W.excIn K C_WaitError [.type "ValueError", .type "Exception", .type "BaseException", .type "object"] "ValueError.__new__" = true)
    (ek_WaitError : PySem.W.keepIn K (.ref C_WaitError) = true)
    (es_WaitError : PySem.W.subIn K (.ref C_WaitError) (.type "BaseException") = some true)
    (et_WaitError : PySem.W.typeIn K (.ref C_WaitError) = some (.type "type"))
    (ej_WaitError : PySem.W.isClsIn K C_WaitError = true)
    (eu_NoDeed_NoDeed : PySem.W.subIn K (.ref C_NoDeed) (.ref C_NoDeed) = some true)
    (eu_NoDeed_NoRow : PySem.W.subIn K (.ref C_NoRow) (.ref C_NoDeed) = some false)
    (eu_NoDeed_NoText : PySem.W.subIn K (.ref C_NoText) (.ref C_NoDeed) = some false)
    (eu_NoDeed_WaitError : PySem.W.subIn K (.ref C_WaitError) (.ref C_NoDeed) = some false)
    (xga_NoDeed : PySem.W.findIn K (.ref C_NoDeed) "__getattribute__" = some (some (.builtin "BaseException.__getattribute__")))
    (xgg_NoDeed : PySem.W.findIn K (.ref C_NoDeed) "__getattr__" = some none)
    (xhd_NoDeed : PySem.W.hasDictIn K C_NoDeed = true)
    (xcl_NoDeed : PySem.W.findIn K (.ref C_NoDeed) "__class__" = some (some (.builtin "object.__class__")))
    (xmr_NoDeed : PySem.W.mroIn K C_NoDeed (.type "object") = some true)
    (xko_NoDeed_NoDeed : PySem.W.kitOne K (.ref C_NoDeed) (.ref C_NoDeed) = some true)
    (xko_NoDeed_NoRow : PySem.W.kitOne K (.ref C_NoDeed) (.ref C_NoRow) = some false)
    (xko_NoDeed_NoText : PySem.W.kitOne K (.ref C_NoDeed) (.ref C_NoText) = some false)
    (eu_NoRow_NoDeed : PySem.W.subIn K (.ref C_NoDeed) (.ref C_NoRow) = some false)
    (eu_NoRow_NoRow : PySem.W.subIn K (.ref C_NoRow) (.ref C_NoRow) = some true)
    (eu_NoRow_NoText : PySem.W.subIn K (.ref C_NoText) (.ref C_NoRow) = some false)
    (eu_NoRow_WaitError : PySem.W.subIn K (.ref C_WaitError) (.ref C_NoRow) = some false)
    (xga_NoRow : PySem.W.findIn K (.ref C_NoRow) "__getattribute__" = some (some (.builtin "BaseException.__getattribute__")))
    (xgg_NoRow : PySem.W.findIn K (.ref C_NoRow) "__getattr__" = some none)
    (xhd_NoRow : PySem.W.hasDictIn K C_NoRow = true)
    (xcl_NoRow : PySem.W.findIn K (.ref C_NoRow) "__class__" = some (some (.builtin "object.__class__")))
    (xmr_NoRow : PySem.W.mroIn K C_NoRow (.type "object") = some true)
    (xko_NoRow_NoDeed : PySem.W.kitOne K (.ref C_NoRow) (.ref C_NoDeed) = some false)
    (xko_NoRow_NoRow : PySem.W.kitOne K (.ref C_NoRow) (.ref C_NoRow) = some true)
    (xko_NoRow_NoText : PySem.W.kitOne K (.ref C_NoRow) (.ref C_NoText) = some false)
    (eu_NoText_NoDeed : PySem.W.subIn K (.ref C_NoDeed) (.ref C_NoText) = some false)
    (eu_NoText_NoRow : PySem.W.subIn K (.ref C_NoRow) (.ref C_NoText) = some false)
    (eu_NoText_NoText : PySem.W.subIn K (.ref C_NoText) (.ref C_NoText) = some true)
    (eu_NoText_WaitError : PySem.W.subIn K (.ref C_WaitError) (.ref C_NoText) = some false)
    (xga_NoText : PySem.W.findIn K (.ref C_NoText) "__getattribute__" = some (some (.builtin "BaseException.__getattribute__")))
    (xgg_NoText : PySem.W.findIn K (.ref C_NoText) "__getattr__" = some none)
    (xhd_NoText : PySem.W.hasDictIn K C_NoText = true)
    (xno_NoText_row : PySem.W.findIn K (.ref C_NoText) "row" = some none)
    (xcl_NoText : PySem.W.findIn K (.ref C_NoText) "__class__" = some (some (.builtin "object.__class__")))
    (xmr_NoText : PySem.W.mroIn K C_NoText (.type "object") = some true)
    (xko_NoText_NoDeed : PySem.W.kitOne K (.ref C_NoText) (.ref C_NoDeed) = some false)
    (xko_NoText_NoRow : PySem.W.kitOne K (.ref C_NoText) (.ref C_NoRow) = some false)
    (xko_NoText_NoText : PySem.W.kitOne K (.ref C_NoText) (.ref C_NoText) = some true)
    (eu_WaitError_NoDeed : PySem.W.subIn K (.ref C_NoDeed) (.ref C_WaitError) = some true)
    (eu_WaitError_NoRow : PySem.W.subIn K (.ref C_NoRow) (.ref C_WaitError) = some true)
    (eu_WaitError_NoText : PySem.W.subIn K (.ref C_NoText) (.ref C_WaitError) = some true)
    (eu_WaitError_WaitError : PySem.W.subIn K (.ref C_WaitError) (.ref C_WaitError) = some true)
    (xga_WaitError : PySem.W.findIn K (.ref C_WaitError) "__getattribute__" = some (some (.builtin "BaseException.__getattribute__")))
    (xgg_WaitError : PySem.W.findIn K (.ref C_WaitError) "__getattr__" = some none)
    (xhd_WaitError : PySem.W.hasDictIn K C_WaitError = true)
    (xcl_WaitError : PySem.W.findIn K (.ref C_WaitError) "__class__" = some (some (.builtin "object.__class__")))
    (xmr_WaitError : PySem.W.mroIn K C_WaitError (.type "object") = some true)
    (xko_WaitError_NoDeed : PySem.W.kitOne K (.ref C_WaitError) (.ref C_NoDeed) = some false)
    (xko_WaitError_NoRow : PySem.W.kitOne K (.ref C_WaitError) (.ref C_NoRow) = some false)
    (xko_WaitError_NoText : PySem.W.kitOne K (.ref C_WaitError) (.ref C_NoText) = some false)
    (xsp : PySem.W.specialIn K (.builtin "object.__class__") "__get__" = some (some (.builtin "getset_descriptor.__get__")))
    (xtk : PySem.W.takesIn K (.builtin "object.__class__") = some true)
    (xin_NoText : PySem.W.excInitIn K C_NoText [.type "ValueError", .type "Exception", .type "BaseException", .type "object"] "ValueError.__new__" = true)
    (xov_NoText : PySem.W.excOver K C_NoText [.type "ValueError", .type "Exception", .type "BaseException", .type "object"] = true)
    (xsa_NoText : PySem.W.findIn K (.ref C_NoText) "__setattr__" = some (some (.builtin "object.__setattr__")))
    (xa_NoText : PySem.W.findIn K (.ref C_NoText) "__init__" = some (some (.ref f_XNoText)))
    (xi_NoText : PySem.W.isFn K (.ref f_XNoText) = true)
    (xl_NoText : K.lookup f_XNoText = some ⟨oc_XNoText, od_XNoText, .func (PySem.W.fnOf "__init__" "NoText.__init__" (defArgs s_NoText_init) (defBody s_NoText_init) (defScope s_NoText_init) dV_XNoText kV_XNoText dc_XNoText pm_XNoText an_XNoText cd_XNoText ct_XNoText), sl_XNoText⟩)
    (xc_NoText : PySem.W.codeIn K cd_XNoText "NoText.__init__" = true)
    (xk_NoText : PySem.W.keepIn K (.ref f_XNoText) = true)
    (e_XNoText : dV_XNoText = .none)
    (xq1_WaitError : PySem.W.specialIn K (.ref C_WaitError) "__getattribute__" = some (some (.builtin "type.__getattribute__")))
    (xq2_WaitError : PySem.W.readsIn K C_WaitError (.type "type") = true)
    (xq3_WaitError : PySem.W.findCls K (.ref C_WaitError) (.type "type") "__init__" = some (.val (.builtin "ValueError.__init__")))
    (a_LETTERS : PySem.W.nsIn K mainGlobals "LETTERS" = some (some u_LETTERS))
    (t_LETTERS : ScaF u_LETTERS (.str "abcdefghijklmnopqrstuvwxyz"))
    (a_LONGEST : PySem.W.nsIn K mainGlobals "LONGEST" = some (some u_LONGEST))
    (t_LONGEST : ScaF u_LONGEST (.int 6))
    (a_MOST_FIELDS : PySem.W.nsIn K mainGlobals "MOST_FIELDS" = some (some u_MOST_FIELDS))
    (t_MOST_FIELDS : ScaF u_MOST_FIELDS (.int 4))
    (a_FORMS : PySem.W.nsIn K mainGlobals "FORMS" = some (some (.ref G_FORMS)))
    (l_FORMS : K.lookup G_FORMS = some o_FORMS)
    (lo_FORMS : (G_FORMS == sysModules) = false)
    (a_READERS : PySem.W.nsIn K mainGlobals "READERS" = some (some (.ref G_READERS)))
    (l_READERS : K.lookup G_READERS = some o_READERS)
    (lo_READERS : (G_READERS == sysModules) = false)
    (a_law_begun : PySem.W.nsIn K mainGlobals "_law_begun" = some (some (.ref f_law_begun)))
    (l_law_begun : K.lookup f_law_begun = some ⟨oc_law_begun, od_law_begun, .func (PySem.W.fnOf "_law_begun" "_law_begun" (defArgs s_law_begun) (defBody s_law_begun) (defScope s_law_begun) dV_law_begun kV_law_begun dc_law_begun pm_law_begun an_law_begun cd_law_begun ct_law_begun), sl_law_begun⟩)
    (c_law_begun : PySem.W.codeIn K cd_law_begun "_law_begun" = true)
    (k_law_begun : PySem.W.keepIn K (.ref f_law_begun) = true)
    (e_law_begun : dV_law_begun = .none)
    (a_law_kinds : PySem.W.nsIn K mainGlobals "_law_kinds" = some (some (.ref f_law_kinds)))
    (l_law_kinds : K.lookup f_law_kinds = some ⟨oc_law_kinds, od_law_kinds, .func (PySem.W.fnOf "_law_kinds" "_law_kinds" (defArgs s_law_kinds) (defBody s_law_kinds) (defScope s_law_kinds) dV_law_kinds kV_law_kinds dc_law_kinds pm_law_kinds an_law_kinds cd_law_kinds ct_law_kinds), sl_law_kinds⟩)
    (c_law_kinds : PySem.W.codeIn K cd_law_kinds "_law_kinds" = true)
    (k_law_kinds : PySem.W.keepIn K (.ref f_law_kinds) = true)
    (e_law_kinds : dV_law_kinds = .none)
    (a_law_text : PySem.W.nsIn K mainGlobals "_law_text" = some (some (.ref f_law_text)))
    (l_law_text : K.lookup f_law_text = some ⟨oc_law_text, od_law_text, .func (PySem.W.fnOf "_law_text" "_law_text" (defArgs s_law_text) (defBody s_law_text) (defScope s_law_text) dV_law_text kV_law_text dc_law_text pm_law_text an_law_text cd_law_text ct_law_text), sl_law_text⟩)
    (c_law_text : PySem.W.codeIn K cd_law_text "_law_text" = true)
    (k_law_text : PySem.W.keepIn K (.ref f_law_text) = true)
    (e_law_text : dV_law_text = .none)
    (a_law_take : PySem.W.nsIn K mainGlobals "_law_take" = some (some (.ref f_law_take)))
    (l_law_take : K.lookup f_law_take = some ⟨oc_law_take, od_law_take, .func (PySem.W.fnOf "_law_take" "_law_take" (defArgs s_law_take) (defBody s_law_take) (defScope s_law_take) dV_law_take kV_law_take dc_law_take pm_law_take an_law_take cd_law_take ct_law_take), sl_law_take⟩)
    (c_law_take : PySem.W.codeIn K cd_law_take "_law_take" = true)
    (k_law_take : PySem.W.keepIn K (.ref f_law_take) = true)
    (e_law_take : dV_law_take = .none)
    (a_law_number : PySem.W.nsIn K mainGlobals "_law_number" = some (some (.ref f_law_number)))
    (l_law_number : K.lookup f_law_number = some ⟨oc_law_number, od_law_number, .func (PySem.W.fnOf "_law_number" "_law_number" (defArgs s_law_number) (defBody s_law_number) (defScope s_law_number) dV_law_number kV_law_number dc_law_number pm_law_number an_law_number cd_law_number ct_law_number), sl_law_number⟩)
    (c_law_number : PySem.W.codeIn K cd_law_number "_law_number" = true)
    (k_law_number : PySem.W.keepIn K (.ref f_law_number) = true)
    (e_law_number : dV_law_number = .none)
    (a_law_a_key : PySem.W.nsIn K mainGlobals "_law_a_key" = some (some (.ref f_law_a_key)))
    (l_law_a_key : K.lookup f_law_a_key = some ⟨oc_law_a_key, od_law_a_key, .func (PySem.W.fnOf "_law_a_key" "_law_a_key" (defArgs s_law_a_key) (defBody s_law_a_key) (defScope s_law_a_key) dV_law_a_key kV_law_a_key dc_law_a_key pm_law_a_key an_law_a_key cd_law_a_key ct_law_a_key), sl_law_a_key⟩)
    (c_law_a_key : PySem.W.codeIn K cd_law_a_key "_law_a_key" = true)
    (k_law_a_key : PySem.W.keepIn K (.ref f_law_a_key) = true)
    (e_law_a_key : dV_law_a_key = .none)
    (a_law_things : PySem.W.nsIn K mainGlobals "_law_things" = some (some (.ref f_law_things)))
    (l_law_things : K.lookup f_law_things = some ⟨oc_law_things, od_law_things, .func (PySem.W.fnOf "_law_things" "_law_things" (defArgs s_law_things) (defBody s_law_things) (defScope s_law_things) dV_law_things kV_law_things dc_law_things pm_law_things an_law_things cd_law_things ct_law_things), sl_law_things⟩)
    (c_law_things : PySem.W.codeIn K cd_law_things "_law_things" = true)
    (k_law_things : PySem.W.keepIn K (.ref f_law_things) = true)
    (e_law_things : dV_law_things = .none)
    (a_law_drawn : PySem.W.nsIn K mainGlobals "_law_drawn" = some (some (.ref f_law_drawn)))
    (l_law_drawn : K.lookup f_law_drawn = some ⟨oc_law_drawn, od_law_drawn, .func (PySem.W.fnOf "_law_drawn" "_law_drawn" (defArgs s_law_drawn) (defBody s_law_drawn) (defScope s_law_drawn) dV_law_drawn kV_law_drawn dc_law_drawn pm_law_drawn an_law_drawn cd_law_drawn ct_law_drawn), sl_law_drawn⟩)
    (c_law_drawn : PySem.W.codeIn K cd_law_drawn "_law_drawn" = true)
    (k_law_drawn : PySem.W.keepIn K (.ref f_law_drawn) = true)
    (e_law_drawn : dV_law_drawn = .none)
    (a_law_bent : PySem.W.nsIn K mainGlobals "_law_bent" = some (some (.ref f_law_bent)))
    (l_law_bent : K.lookup f_law_bent = some ⟨oc_law_bent, od_law_bent, .func (PySem.W.fnOf "_law_bent" "_law_bent" (defArgs s_law_bent) (defBody s_law_bent) (defScope s_law_bent) dV_law_bent kV_law_bent dc_law_bent pm_law_bent an_law_bent cd_law_bent ct_law_bent), sl_law_bent⟩)
    (c_law_bent : PySem.W.codeIn K cd_law_bent "_law_bent" = true)
    (k_law_bent : PySem.W.keepIn K (.ref f_law_bent) = true)
    (e_law_bent : dV_law_bent = .none)
    (a_law_is_key : PySem.W.nsIn K mainGlobals "_law_is_key" = some (some (.ref f_law_is_key)))
    (l_law_is_key : K.lookup f_law_is_key = some ⟨oc_law_is_key, od_law_is_key, .func (PySem.W.fnOf "_law_is_key" "_law_is_key" (defArgs s_law_is_key) (defBody s_law_is_key) (defScope s_law_is_key) dV_law_is_key kV_law_is_key dc_law_is_key pm_law_is_key an_law_is_key cd_law_is_key ct_law_is_key), sl_law_is_key⟩)
    (c_law_is_key : PySem.W.codeIn K cd_law_is_key "_law_is_key" = true)
    (k_law_is_key : PySem.W.keepIn K (.ref f_law_is_key) = true)
    (e_law_is_key : dV_law_is_key = .none)
    (a_law_is_number : PySem.W.nsIn K mainGlobals "_law_is_number" = some (some (.ref f_law_is_number)))
    (l_law_is_number : K.lookup f_law_is_number = some ⟨oc_law_is_number, od_law_is_number, .func (PySem.W.fnOf "_law_is_number" "_law_is_number" (defArgs s_law_is_number) (defBody s_law_is_number) (defScope s_law_is_number) dV_law_is_number kV_law_is_number dc_law_is_number pm_law_is_number an_law_is_number cd_law_is_number ct_law_is_number), sl_law_is_number⟩)
    (c_law_is_number : PySem.W.codeIn K cd_law_is_number "_law_is_number" = true)
    (k_law_is_number : PySem.W.keepIn K (.ref f_law_is_number) = true)
    (e_law_is_number : dV_law_is_number = .none)
    (a_law_read_thing : PySem.W.nsIn K mainGlobals "_law_read_thing" = some (some (.ref f_law_read_thing)))
    (l_law_read_thing : K.lookup f_law_read_thing = some ⟨oc_law_read_thing, od_law_read_thing, .func (PySem.W.fnOf "_law_read_thing" "_law_read_thing" (defArgs s_law_read_thing) (defBody s_law_read_thing) (defScope s_law_read_thing) dV_law_read_thing kV_law_read_thing dc_law_read_thing pm_law_read_thing an_law_read_thing cd_law_read_thing ct_law_read_thing), sl_law_read_thing⟩)
    (c_law_read_thing : PySem.W.codeIn K cd_law_read_thing "_law_read_thing" = true)
    (k_law_read_thing : PySem.W.keepIn K (.ref f_law_read_thing) = true)
    (e_law_read_thing : dV_law_read_thing = .none)
    (a_law_due : PySem.W.nsIn K mainGlobals "_law_due" = some (some (.ref f_law_due)))
    (l_law_due : K.lookup f_law_due = some ⟨oc_law_due, od_law_due, .func (PySem.W.fnOf "_law_due" "_law_due" (defArgs s_law_due) (defBody s_law_due) (defScope s_law_due) dV_law_due kV_law_due dc_law_due pm_law_due an_law_due cd_law_due ct_law_due), sl_law_due⟩)
    (c_law_due : PySem.W.codeIn K cd_law_due "_law_due" = true)
    (k_law_due : PySem.W.keepIn K (.ref f_law_due) = true)
    (e_law_due : dV_law_due = .none)
    (a_number_in : PySem.W.nsIn K mainGlobals "number_in" = some (some (.ref f_number_in)))
    (l_number_in : K.lookup f_number_in = some ⟨oc_number_in, od_number_in, .func (PySem.W.fnOf "number_in" "number_in" (defArgs s_number_in) (defBody s_number_in) (defScope s_number_in) dV_number_in kV_number_in dc_number_in pm_number_in an_number_in cd_number_in ct_number_in), sl_number_in⟩)
    (c_number_in : PySem.W.codeIn K cd_number_in "number_in" = true)
    (k_number_in : PySem.W.keepIn K (.ref f_number_in) = true)
    (e_number_in : dV_number_in = .none)
    (a_is_key : PySem.W.nsIn K mainGlobals "is_key" = some (some (.ref f_is_key)))
    (l_is_key : K.lookup f_is_key = some ⟨oc_is_key, od_is_key, .func (PySem.W.fnOf "is_key" "is_key" (defArgs s_is_key) (defBody s_is_key) (defScope s_is_key) dV_is_key kV_is_key dc_is_key pm_is_key an_is_key cd_is_key ct_is_key), sl_is_key⟩)
    (c_is_key : PySem.W.codeIn K cd_is_key "is_key" = true)
    (k_is_key : PySem.W.keepIn K (.ref f_is_key) = true)
    (e_is_key : dV_is_key = .none)
    (a_key_in : PySem.W.nsIn K mainGlobals "key_in" = some (some (.ref f_key_in)))
    (l_key_in : K.lookup f_key_in = some ⟨oc_key_in, od_key_in, .func (PySem.W.fnOf "key_in" "key_in" (defArgs s_key_in) (defBody s_key_in) (defScope s_key_in) dV_key_in kV_key_in dc_key_in pm_key_in an_key_in cd_key_in ct_key_in), sl_key_in⟩)
    (c_key_in : PySem.W.codeIn K cd_key_in "key_in" = true)
    (k_key_in : PySem.W.keepIn K (.ref f_key_in) = true)
    (e_key_in : dV_key_in = .none)
    (a_mode_in : PySem.W.nsIn K mainGlobals "mode_in" = some (some (.ref f_mode_in)))
    (l_mode_in : K.lookup f_mode_in = some ⟨oc_mode_in, od_mode_in, .func (PySem.W.fnOf "mode_in" "mode_in" (defArgs s_mode_in) (defBody s_mode_in) (defScope s_mode_in) dV_mode_in kV_mode_in dc_mode_in pm_mode_in an_mode_in cd_mode_in ct_mode_in), sl_mode_in⟩)
    (c_mode_in : PySem.W.codeIn K cd_mode_in "mode_in" = true)
    (k_mode_in : PySem.W.keepIn K (.ref f_mode_in) = true)
    (e_mode_in : dV_mode_in = .none)
    (a_numbers_in : PySem.W.nsIn K mainGlobals "numbers_in" = some (some (.ref f_numbers_in)))
    (l_numbers_in : K.lookup f_numbers_in = some ⟨oc_numbers_in, od_numbers_in, .func (PySem.W.fnOf "numbers_in" "numbers_in" (defArgs s_numbers_in) (defBody s_numbers_in) (defScope s_numbers_in) dV_numbers_in kV_numbers_in dc_numbers_in pm_numbers_in an_numbers_in cd_numbers_in ct_numbers_in), sl_numbers_in⟩)
    (c_numbers_in : PySem.W.codeIn K cd_numbers_in "numbers_in" = true)
    (k_numbers_in : PySem.W.keepIn K (.ref f_numbers_in) = true)
    (e_numbers_in : dV_numbers_in = .none)
    (a_worth_in : PySem.W.nsIn K mainGlobals "worth_in" = some (some (.ref f_worth_in)))
    (l_worth_in : K.lookup f_worth_in = some ⟨oc_worth_in, od_worth_in, .func (PySem.W.fnOf "worth_in" "worth_in" (defArgs s_worth_in) (defBody s_worth_in) (defScope s_worth_in) dV_worth_in kV_worth_in dc_worth_in pm_worth_in an_worth_in cd_worth_in ct_worth_in), sl_worth_in⟩)
    (c_worth_in : PySem.W.codeIn K cd_worth_in "worth_in" = true)
    (k_worth_in : PySem.W.keepIn K (.ref f_worth_in) = true)
    (e_worth_in : dV_worth_in = .none)
    (a_pace_in : PySem.W.nsIn K mainGlobals "pace_in" = some (some (.ref f_pace_in)))
    (l_pace_in : K.lookup f_pace_in = some ⟨oc_pace_in, od_pace_in, .func (PySem.W.fnOf "pace_in" "pace_in" (defArgs s_pace_in) (defBody s_pace_in) (defScope s_pace_in) dV_pace_in kV_pace_in dc_pace_in pm_pace_in an_pace_in cd_pace_in ct_pace_in), sl_pace_in⟩)
    (c_pace_in : PySem.W.codeIn K cd_pace_in "pace_in" = true)
    (k_pace_in : PySem.W.keepIn K (.ref f_pace_in) = true)
    (e_pace_in : dV_pace_in = .none)
    (a_keys_in : PySem.W.nsIn K mainGlobals "keys_in" = some (some (.ref f_keys_in)))
    (l_keys_in : K.lookup f_keys_in = some ⟨oc_keys_in, od_keys_in, .func (PySem.W.fnOf "keys_in" "keys_in" (defArgs s_keys_in) (defBody s_keys_in) (defScope s_keys_in) dV_keys_in kV_keys_in dc_keys_in pm_keys_in an_keys_in cd_keys_in ct_keys_in), sl_keys_in⟩)
    (c_keys_in : PySem.W.codeIn K cd_keys_in "keys_in" = true)
    (k_keys_in : PySem.W.keepIn K (.ref f_keys_in) = true)
    (e_keys_in : dV_keys_in = .none)
    (a_read_deed : PySem.W.nsIn K mainGlobals "read_deed" = some (some (.ref f_read_deed)))
    (l_read_deed : K.lookup f_read_deed = some ⟨oc_read_deed, od_read_deed, .func (PySem.W.fnOf "read_deed" "read_deed" (defArgs s_read_deed) (defBody s_read_deed) (defScope s_read_deed) dV_read_deed kV_read_deed dc_read_deed pm_read_deed an_read_deed cd_read_deed ct_read_deed), sl_read_deed⟩)
    (c_read_deed : PySem.W.codeIn K cd_read_deed "read_deed" = true)
    (k_read_deed : PySem.W.keepIn K (.ref f_read_deed) = true)
    (e_read_deed : dV_read_deed = .none)
    (a_law_right : PySem.W.nsIn K mainGlobals "_law_right" = some (some (.ref f_law_right)))
    (l_law_right : K.lookup f_law_right = some ⟨oc_law_right, od_law_right, .func (PySem.W.fnOf "_law_right" "_law_right" (defArgs s_law_right) (defBody s_law_right) (defScope s_law_right) dV_law_right kV_law_right dc_law_right pm_law_right an_law_right cd_law_right ct_law_right), sl_law_right⟩)
    (c_law_right : PySem.W.codeIn K cd_law_right "_law_right" = true)
    (k_law_right : PySem.W.keepIn K (.ref f_law_right) = true)
    (e_law_right : dV_law_right = .none)
    (a_law : PySem.W.nsIn K mainGlobals "law" = some (some (.ref f_law)))
    (l_law : K.lookup f_law = some ⟨oc_law, od_law, .func (PySem.W.fnOf "law" "law" (defArgs s_law) (defBody s_law) (defScope s_law) dV_law kV_law dc_law pm_law an_law cd_law ct_law), sl_law⟩)
    (c_law : PySem.W.codeIn K cd_law "law" = true)
    (k_law : PySem.W.keepIn K (.ref f_law) = true)
    (e_law : dV_law = .none)
    (dk_FORMS : DicF K w.params o_FORMS [("tick", .tup [.str "number"]), ("set", .tup [.str "number", .str "number", .str "number", .str "number"]), ("pace", .tup [.str "number", .str "number", .str "pace"]), ("stop", .tup [.str "number", .str "number"]), ("back", .tup [.str "number", .str "number"]), ("choose", .tup [.str "number", .str "number"]), ("renew", .tup [.str "number"]), ("catch", .tup [.str "number", .str "number"]), ("mark", .tup [.str "number"]), ("gone", .tup [.str "number", .str "number"]), ("begin", .tup []), ("again", .tup [.str "number"]), ("take", .tup [.str "number", .str "key", .str "mode"]), ("read", .tup [.str "number", .str "key"]), ("write", .tup [.str "number", .str "key", .str "worth"]), ("finish", .tup [.str "number"]), ("tell", .tup [.str "number"]), ("stay", .tup [.str "number"]), ("deliver", .tup [.str "number"]), ("lose", .tup [.str "number"]), ("question", .tup [.str "number"]), ("at", .tup [.str "number", .str "keys"]), ("copy", .tup [.str "number", .str "number", .str "keys"]), ("now", .tup [.str "number", .str "keys"]), ("move", .tup [.str "key", .str "number"]), ("form", .tup [.str "number", .str "number"]), ("settle", .tup [])])
    (dk_READERS : DicF K w.params o_READERS [("number", .ref f_number_in), ("key", .ref f_key_in), ("mode", .ref f_mode_in), ("worth", .ref f_worth_in), ("pace", .ref f_pace_in), ("keys", .ref f_keys_in)])
    : ∃ fd : FuncData, (∀ (s : Shared) (v : Value), BindsTo s fd ⟨[v], []⟩ [("_law_script", v)]) ∧ ∀ base : Heap, K.In base → base.Ns mainGlobals mg → FnG l.prog w K mg base 6 fa fd ["_law_script"] (lawSp K) := by
  have q0 : f_law = fa := by
    have q := (PySem.W.mg_of X G a_law).symm.trans hfa
    injection q with q; injection q
  subst q0
  subst e_law_begun
  subst e_law_kinds
  subst e_law_text
  subst e_law_take
  subst e_law_number
  subst e_law_a_key
  subst e_law_things
  subst e_law_drawn
  subst e_law_bent
  subst e_law_is_key
  subst e_law_is_number
  subst e_law_read_thing
  subst e_law_due
  subst e_number_in
  subst e_is_key
  subst e_key_in
  subst e_mode_in
  subst e_numbers_in
  subst e_worth_in
  subst e_pace_in
  subst e_keys_in
  subst e_read_deed
  subst e_law_right
  subst e_law
  subst e_XNoText
  let e : Env := { C_NoDeed := C_NoDeed, C_NoRow := C_NoRow, C_NoText := C_NoText, C_WaitError := C_WaitError, xm := fun c u b => PySem.W.exmOne K u c = some b, xf := XfOk K, ec := EcOk K, F_number_in := f_number_in, F_key_in := f_key_in, F_mode_in := f_mode_in, F_worth_in := f_worth_in, F_pace_in := f_pace_in, F_keys_in := f_keys_in, ok := AttrOk K, ic := IsiOk K }
  have gd : e.Good := ⟨trivial, exm_of es_NoDeed ej_NoDeed et_NoDeed eu_NoDeed_NoDeed, exm_of es_NoDeed ej_NoDeed et_NoDeed eu_NoDeed_NoRow, exm_of es_NoDeed ej_NoDeed et_NoDeed eu_NoDeed_NoText, exm_of es_NoDeed ej_NoDeed et_NoDeed eu_NoDeed_WaitError, exm_of es_NoRow ej_NoRow et_NoRow eu_NoRow_NoDeed, exm_of es_NoRow ej_NoRow et_NoRow eu_NoRow_NoRow, exm_of es_NoRow ej_NoRow et_NoRow eu_NoRow_NoText, exm_of es_NoRow ej_NoRow et_NoRow eu_NoRow_WaitError, exm_of es_NoText ej_NoText et_NoText eu_NoText_NoDeed, exm_of es_NoText ej_NoText et_NoText eu_NoText_NoRow, exm_of es_NoText ej_NoText et_NoText eu_NoText_NoText, exm_of es_NoText ej_NoText et_NoText eu_NoText_WaitError, exm_of es_WaitError ej_WaitError et_WaitError eu_WaitError_NoDeed, exm_of es_WaitError ej_WaitError et_WaitError eu_WaitError_NoRow, exm_of es_WaitError ej_WaitError et_WaitError eu_WaitError_NoText, exm_of es_WaitError ej_WaitError et_WaitError eu_WaitError_WaitError, ⟨⟨⟨xga_NoDeed, xgg_NoDeed, es_NoDeed, xhd_NoDeed⟩, xcl_NoDeed, xsp, xtk, xmr_NoDeed⟩, xko_NoDeed_NoDeed⟩, ⟨⟨⟨xga_NoDeed, xgg_NoDeed, es_NoDeed, xhd_NoDeed⟩, xcl_NoDeed, xsp, xtk, xmr_NoDeed⟩, xko_NoDeed_NoRow⟩, ⟨⟨⟨xga_NoDeed, xgg_NoDeed, es_NoDeed, xhd_NoDeed⟩, xcl_NoDeed, xsp, xtk, xmr_NoDeed⟩, xko_NoDeed_NoText⟩, ⟨⟨⟨xga_NoRow, xgg_NoRow, es_NoRow, xhd_NoRow⟩, xcl_NoRow, xsp, xtk, xmr_NoRow⟩, xko_NoRow_NoDeed⟩, ⟨⟨⟨xga_NoRow, xgg_NoRow, es_NoRow, xhd_NoRow⟩, xcl_NoRow, xsp, xtk, xmr_NoRow⟩, xko_NoRow_NoRow⟩, ⟨⟨⟨xga_NoRow, xgg_NoRow, es_NoRow, xhd_NoRow⟩, xcl_NoRow, xsp, xtk, xmr_NoRow⟩, xko_NoRow_NoText⟩, ⟨⟨xga_NoText, xgg_NoText, es_NoText, xhd_NoText⟩, xno_NoText_row⟩, ⟨⟨⟨xga_NoText, xgg_NoText, es_NoText, xhd_NoText⟩, xcl_NoText, xsp, xtk, xmr_NoText⟩, xko_NoText_NoDeed⟩, ⟨⟨⟨xga_NoText, xgg_NoText, es_NoText, xhd_NoText⟩, xcl_NoText, xsp, xtk, xmr_NoText⟩, xko_NoText_NoRow⟩, ⟨⟨⟨xga_NoText, xgg_NoText, es_NoText, xhd_NoText⟩, xcl_NoText, xsp, xtk, xmr_NoText⟩, xko_NoText_NoText⟩, ⟨⟨⟨xga_WaitError, xgg_WaitError, es_WaitError, xhd_WaitError⟩, xcl_WaitError, xsp, xtk, xmr_WaitError⟩, xko_WaitError_NoDeed⟩, ⟨⟨⟨xga_WaitError, xgg_WaitError, es_WaitError, xhd_WaitError⟩, xcl_WaitError, xsp, xtk, xmr_WaitError⟩, xko_WaitError_NoRow⟩, ⟨⟨⟨xga_WaitError, xgg_WaitError, es_WaitError, xhd_WaitError⟩, xcl_WaitError, xsp, xtk, xmr_WaitError⟩, xko_WaitError_NoText⟩⟩
  obtain ⟨dvs_XNoText, hdd_XNoText, F_XNoText⟩ := fun_nd xl_NoText xc_NoText xk_NoText
  obtain ⟨dvs_law_begun, hdd_law_begun, F_law_begun⟩ := fun_nd l_law_begun c_law_begun k_law_begun
  obtain ⟨dvs_law_kinds, hdd_law_kinds, F_law_kinds⟩ := fun_nd l_law_kinds c_law_kinds k_law_kinds
  obtain ⟨dvs_law_text, hdd_law_text, F_law_text⟩ := fun_nd l_law_text c_law_text k_law_text
  obtain ⟨dvs_law_take, hdd_law_take, F_law_take⟩ := fun_nd l_law_take c_law_take k_law_take
  obtain ⟨dvs_law_number, hdd_law_number, F_law_number⟩ := fun_nd l_law_number c_law_number k_law_number
  obtain ⟨dvs_law_a_key, hdd_law_a_key, F_law_a_key⟩ := fun_nd l_law_a_key c_law_a_key k_law_a_key
  obtain ⟨dvs_law_things, hdd_law_things, F_law_things⟩ := fun_nd l_law_things c_law_things k_law_things
  obtain ⟨dvs_law_drawn, hdd_law_drawn, F_law_drawn⟩ := fun_nd l_law_drawn c_law_drawn k_law_drawn
  obtain ⟨dvs_law_bent, hdd_law_bent, F_law_bent⟩ := fun_nd l_law_bent c_law_bent k_law_bent
  obtain ⟨dvs_law_is_key, hdd_law_is_key, F_law_is_key⟩ := fun_nd l_law_is_key c_law_is_key k_law_is_key
  obtain ⟨dvs_law_is_number, hdd_law_is_number, F_law_is_number⟩ := fun_nd l_law_is_number c_law_is_number k_law_is_number
  obtain ⟨dvs_law_read_thing, hdd_law_read_thing, F_law_read_thing⟩ := fun_nd l_law_read_thing c_law_read_thing k_law_read_thing
  obtain ⟨dvs_law_due, hdd_law_due, F_law_due⟩ := fun_nd l_law_due c_law_due k_law_due
  obtain ⟨dvs_number_in, hdd_number_in, F_number_in⟩ := fun_nd l_number_in c_number_in k_number_in
  obtain ⟨dvs_is_key, hdd_is_key, F_is_key⟩ := fun_nd l_is_key c_is_key k_is_key
  obtain ⟨dvs_key_in, hdd_key_in, F_key_in⟩ := fun_nd l_key_in c_key_in k_key_in
  obtain ⟨dvs_mode_in, hdd_mode_in, F_mode_in⟩ := fun_nd l_mode_in c_mode_in k_mode_in
  obtain ⟨dvs_numbers_in, hdd_numbers_in, F_numbers_in⟩ := fun_nd l_numbers_in c_numbers_in k_numbers_in
  obtain ⟨dvs_worth_in, hdd_worth_in, F_worth_in⟩ := fun_nd l_worth_in c_worth_in k_worth_in
  obtain ⟨dvs_pace_in, hdd_pace_in, F_pace_in⟩ := fun_nd l_pace_in c_pace_in k_pace_in
  obtain ⟨dvs_keys_in, hdd_keys_in, F_keys_in⟩ := fun_nd l_keys_in c_keys_in k_keys_in
  obtain ⟨dvs_read_deed, hdd_read_deed, F_read_deed⟩ := fun_nd l_read_deed c_read_deed k_read_deed
  obtain ⟨dvs_law_right, hdd_law_right, F_law_right⟩ := fun_nd l_law_right c_law_right k_law_right
  obtain ⟨dvs_law, hdd_law, F_law⟩ := fun_nd l_law c_law k_law
  have T : Txt w K mg e := ⟨fun _ _ h => h,
    fun _ _ _ h => h,
    fun _ _ _ h => h,
    fun _ _ h => h,
    fun _ _ _ h => h,
    PySem.W.mg_of X G a_NoDeed,
    ⟨⟨_, _, _, _, PySem.F.excBase_ValueError, ei_NoDeed⟩, PySem.W.mg_of X G a_NoDeed, ek_NoDeed, es_NoDeed, et_NoDeed⟩,
    PySem.W.mg_of X G a_NoRow,
    ⟨⟨_, _, _, _, PySem.F.excBase_ValueError, ei_NoRow⟩, PySem.W.mg_of X G a_NoRow, ek_NoRow, es_NoRow, et_NoRow⟩,
    PySem.W.mg_of X G a_NoText,
    PySem.W.mg_of X G a_WaitError,
    ⟨⟨_, _, _, _, PySem.F.excBase_ValueError, ei_WaitError⟩, PySem.W.mg_of X G a_WaitError, ek_WaitError, es_WaitError, et_WaitError⟩,
    ⟨xin_NoText, xov_NoText, xhd_NoText, xsa_NoText, PySem.F.store_ValueError⟩,
    ⟨.inr ⟨C_WaitError, PySem.W.mg_of X G a_WaitError, xq1_WaitError, xq2_WaitError, xq3_WaitError⟩⟩,
    xno_NoText_row,
    ⟨ek_NoText, es_NoText, et_NoText⟩,
    ⟨f_XNoText, _, dvs_XNoText, hdd_XNoText, F_XNoText, ⟨xa_NoText, xi_NoText, xk_NoText⟩⟩,
    PySem.W.mg_none_of X G z_all,
    PySem.W.mg_none_of X G z_int,
    PySem.W.mg_none_of X G z_isinstance,
    PySem.W.mg_none_of X G z_len,
    PySem.W.mg_none_of X G z_max,
    PySem.W.mg_none_of X G z_min,
    PySem.W.mg_none_of X G z_range,
    PySem.W.mg_none_of X G z_repr,
    PySem.W.mg_none_of X G z_sorted,
    PySem.W.mg_none_of X G z_str,
    PySem.W.mg_none_of X G z_tuple,
    PySem.W.mg_none_of X G z_zip,
    dk_FORMS.kd (PySem.W.mg_of X G a_FORMS) l_FORMS lo_FORMS,
    dk_READERS.kd (PySem.W.mg_of X G a_READERS) l_READERS lo_READERS,
    PySem.W.mg_of X G a_number_in,
    PySem.W.mg_of X G a_key_in,
    PySem.W.mg_of X G a_mode_in,
    PySem.W.mg_of X G a_worth_in,
    PySem.W.mg_of X G a_pace_in,
    PySem.W.mg_of X G a_keys_in,
    t_LETTERS.cf (PySem.W.mg_of X G a_LETTERS),
    t_LONGEST.cf (PySem.W.mg_of X G a_LONGEST),
    t_MOST_FIELDS.cf (PySem.W.mg_of X G a_MOST_FIELDS),
    ⟨f_law_begun, _, dvs_law_begun, hdd_law_begun, F_law_begun, PySem.W.mg_of X G a_law_begun⟩,
    ⟨f_law_kinds, _, dvs_law_kinds, hdd_law_kinds, F_law_kinds, PySem.W.mg_of X G a_law_kinds⟩,
    ⟨f_law_text, _, dvs_law_text, hdd_law_text, F_law_text, PySem.W.mg_of X G a_law_text⟩,
    ⟨f_law_take, _, dvs_law_take, hdd_law_take, F_law_take, PySem.W.mg_of X G a_law_take⟩,
    ⟨f_law_number, _, dvs_law_number, hdd_law_number, F_law_number, PySem.W.mg_of X G a_law_number⟩,
    ⟨f_law_a_key, _, dvs_law_a_key, hdd_law_a_key, F_law_a_key, PySem.W.mg_of X G a_law_a_key⟩,
    ⟨f_law_things, _, dvs_law_things, hdd_law_things, F_law_things, PySem.W.mg_of X G a_law_things⟩,
    ⟨f_law_drawn, _, dvs_law_drawn, hdd_law_drawn, F_law_drawn, PySem.W.mg_of X G a_law_drawn⟩,
    ⟨f_law_bent, _, dvs_law_bent, hdd_law_bent, F_law_bent, PySem.W.mg_of X G a_law_bent⟩,
    ⟨f_law_is_key, _, dvs_law_is_key, hdd_law_is_key, F_law_is_key, PySem.W.mg_of X G a_law_is_key⟩,
    ⟨f_law_is_number, _, dvs_law_is_number, hdd_law_is_number, F_law_is_number, PySem.W.mg_of X G a_law_is_number⟩,
    ⟨f_law_read_thing, _, dvs_law_read_thing, hdd_law_read_thing, F_law_read_thing, PySem.W.mg_of X G a_law_read_thing⟩,
    ⟨f_law_due, _, dvs_law_due, hdd_law_due, F_law_due, PySem.W.mg_of X G a_law_due⟩,
    ⟨f_number_in, _, dvs_number_in, hdd_number_in, F_number_in, PySem.W.mg_of X G a_number_in⟩,
    ⟨f_is_key, _, dvs_is_key, hdd_is_key, F_is_key, PySem.W.mg_of X G a_is_key⟩,
    ⟨f_key_in, _, dvs_key_in, hdd_key_in, F_key_in, PySem.W.mg_of X G a_key_in⟩,
    ⟨f_mode_in, _, dvs_mode_in, hdd_mode_in, F_mode_in, PySem.W.mg_of X G a_mode_in⟩,
    ⟨f_numbers_in, _, dvs_numbers_in, hdd_numbers_in, F_numbers_in, PySem.W.mg_of X G a_numbers_in⟩,
    ⟨f_worth_in, _, dvs_worth_in, hdd_worth_in, F_worth_in, PySem.W.mg_of X G a_worth_in⟩,
    ⟨f_pace_in, _, dvs_pace_in, hdd_pace_in, F_pace_in, PySem.W.mg_of X G a_pace_in⟩,
    ⟨f_keys_in, _, dvs_keys_in, hdd_keys_in, F_keys_in, PySem.W.mg_of X G a_keys_in⟩,
    ⟨f_read_deed, _, dvs_read_deed, hdd_read_deed, F_read_deed, PySem.W.mg_of X G a_read_deed⟩,
    ⟨f_law_right, _, dvs_law_right, hdd_law_right, F_law_right, PySem.W.mg_of X G a_law_right⟩,
    ⟨f_law, _, dvs_law, hdd_law, F_law, PySem.W.mg_of X G a_law⟩⟩
  refine ⟨_, ?_, fun base _ _ => FnG.imp (ok_law (P := l.prog) (w := w) (base := base) T F_law) (law_lift (hmain e gd))⟩
  exact fun s v => .of_eq rfl
theorem walk {l : PySem.W.OpenLaw} {q : Program} {loose : List Str} {XP : (Str → Option Value) → Heap → Prop} {YP : World → Heap → Prop} {d : DefRec} {K : Params → PySem.W.Frag} (hn : l.most = some 63) (hdf : d.params.defaults = [])
    (hY : ∀ (w : World) (h : Heap), YP w h → (K w.params).In h)
    (F : ∀ (w : World) (mg : Str → Option Value) (fa : Addr) (h : Heap), (K w.params).In h → h.Ns mainGlobals mg → mg d.name = some (.ref fa) →
      ∃ fd : FuncData, (∀ (s : Shared) (u : Value), BindsTo s fd ⟨[u], []⟩ [("_law_script", u)]) ∧ ∀ base : Heap, (K w.params).In base → base.Ns mainGlobals mg → FnG l.prog w (K w.params) mg base 6 fa fd ["_law_script"] (lawSp (K w.params))) :
    PySem.W.WalkO q loose XP YP l.row.toRowW d [] (fun f vs => PySem.call f vs) :=
  walkG (k := 6) (x := "_law_script") (sp := fun w => lawSp (K w.params)) hn hdf ⟨⟨rfl, by decide, by decide⟩, rfl⟩ hY F (fun _ H a ns hl ho hS => ⟨a, ns, rfl, hl, ho, hS, fun _ => rfl⟩)
    fun _ _ _ _ _ ⟨_, _, _, _, _, _, _, _, _, _, _, _, z⟩ => z
end P
open PySem PySem.W PyProof.Rows
set_option maxRecDepth 100000 in
set_option maxHeartbeats 0 in
theorem PySem.Challenge.cw_stampedwait_k80_texts_of_no_deed_holds : PySem.Challenge.rw_stampedwait_k80_texts_of_no_deed.Holds := by
  w_on; o_law; k_head; (case hw => w_witness2)
  k_fill
  refine P.walk (l := PySem.Challenge.rw_stampedwait_k80_texts_of_no_deed) rfl rfl (fun w h Y => PySem.W.kIn_of Y) ?F
  case F =>
    intro w mg fa h KX G hmg
    refine' P.all_mk KX G hmg P.main ?z_all ?z_int ?z_isinstance ?z_len ?z_max ?z_min ?z_range ?z_repr ?z_sorted ?z_str ?z_tuple ?z_zip ?a_NoDeed ?ei_NoDeed ?ek_NoDeed ?es_NoDeed ?et_NoDeed ?ej_NoDeed ?a_NoRow ?ei_NoRow ?ek_NoRow ?es_NoRow ?et_NoRow ?ej_NoRow ?a_NoText ?ek_NoText ?es_NoText ?et_NoText ?ej_NoText ?a_WaitError ?ei_WaitError ?ek_WaitError ?es_WaitError ?et_WaitError ?ej_WaitError ?eu_NoDeed_NoDeed ?eu_NoDeed_NoRow ?eu_NoDeed_NoText ?eu_NoDeed_WaitError ?xga_NoDeed ?xgg_NoDeed ?xhd_NoDeed ?xcl_NoDeed ?xmr_NoDeed ?xko_NoDeed_NoDeed ?xko_NoDeed_NoRow ?xko_NoDeed_NoText ?eu_NoRow_NoDeed ?eu_NoRow_NoRow ?eu_NoRow_NoText ?eu_NoRow_WaitError ?xga_NoRow ?xgg_NoRow ?xhd_NoRow ?xcl_NoRow ?xmr_NoRow ?xko_NoRow_NoDeed ?xko_NoRow_NoRow ?xko_NoRow_NoText ?eu_NoText_NoDeed ?eu_NoText_NoRow ?eu_NoText_NoText ?eu_NoText_WaitError ?xga_NoText ?xgg_NoText ?xhd_NoText ?xno_NoText_row ?xcl_NoText ?xmr_NoText ?xko_NoText_NoDeed ?xko_NoText_NoRow ?xko_NoText_NoText ?eu_WaitError_NoDeed ?eu_WaitError_NoRow ?eu_WaitError_NoText ?eu_WaitError_WaitError ?xga_WaitError ?xgg_WaitError ?xhd_WaitError ?xcl_WaitError ?xmr_WaitError ?xko_WaitError_NoDeed ?xko_WaitError_NoRow ?xko_WaitError_NoText ?xsp ?xtk ?xin_NoText ?xov_NoText ?xsa_NoText ?xa_NoText ?xi_NoText ?xl_NoText ?xc_NoText ?xk_NoText ?e_XNoText ?xq1_WaitError ?xq2_WaitError ?xq3_WaitError ?a_LETTERS ?t_LETTERS ?a_LONGEST ?t_LONGEST ?a_MOST_FIELDS ?t_MOST_FIELDS ?a_FORMS ?l_FORMS ?lo_FORMS ?a_READERS ?l_READERS ?lo_READERS ?a_law_begun ?l_law_begun ?c_law_begun ?k_law_begun ?e_law_begun ?a_law_kinds ?l_law_kinds ?c_law_kinds ?k_law_kinds ?e_law_kinds ?a_law_text ?l_law_text ?c_law_text ?k_law_text ?e_law_text ?a_law_take ?l_law_take ?c_law_take ?k_law_take ?e_law_take ?a_law_number ?l_law_number ?c_law_number ?k_law_number ?e_law_number ?a_law_a_key ?l_law_a_key ?c_law_a_key ?k_law_a_key ?e_law_a_key ?a_law_things ?l_law_things ?c_law_things ?k_law_things ?e_law_things ?a_law_drawn ?l_law_drawn ?c_law_drawn ?k_law_drawn ?e_law_drawn ?a_law_bent ?l_law_bent ?c_law_bent ?k_law_bent ?e_law_bent ?a_law_is_key ?l_law_is_key ?c_law_is_key ?k_law_is_key ?e_law_is_key ?a_law_is_number ?l_law_is_number ?c_law_is_number ?k_law_is_number ?e_law_is_number ?a_law_read_thing ?l_law_read_thing ?c_law_read_thing ?k_law_read_thing ?e_law_read_thing ?a_law_due ?l_law_due ?c_law_due ?k_law_due ?e_law_due ?a_number_in ?l_number_in ?c_number_in ?k_number_in ?e_number_in ?a_is_key ?l_is_key ?c_is_key ?k_is_key ?e_is_key ?a_key_in ?l_key_in ?c_key_in ?k_key_in ?e_key_in ?a_mode_in ?l_mode_in ?c_mode_in ?k_mode_in ?e_mode_in ?a_numbers_in ?l_numbers_in ?c_numbers_in ?k_numbers_in ?e_numbers_in ?a_worth_in ?l_worth_in ?c_worth_in ?k_worth_in ?e_worth_in ?a_pace_in ?l_pace_in ?c_pace_in ?k_pace_in ?e_pace_in ?a_keys_in ?l_keys_in ?c_keys_in ?k_keys_in ?e_keys_in ?a_read_deed ?l_read_deed ?c_read_deed ?k_read_deed ?e_read_deed ?a_law_right ?l_law_right ?c_law_right ?k_law_right ?e_law_right ?a_law ?l_law ?c_law ?k_law ?e_law ?dk_FORMS ?dk_READERS
    (case z_all => k_is)
    (case z_int => k_is)
    (case z_isinstance => k_is)
    (case z_len => k_is)
    (case z_max => k_is)
    (case z_min => k_is)
    (case z_range => k_is)
    (case z_repr => k_is)
    (case z_sorted => k_is)
    (case z_str => k_is)
    (case z_tuple => k_is)
    (case z_zip => k_is)
    (case a_NoDeed => k_is)
    (case ei_NoDeed => k_exc)
    (case ek_NoDeed => k_is)
    (case es_NoDeed => k_is)
    (case et_NoDeed => k_is)
    (case ej_NoDeed => k_is)
    (case a_NoRow => k_is)
    (case ei_NoRow => k_exc)
    (case ek_NoRow => k_is)
    (case es_NoRow => k_is)
    (case et_NoRow => k_is)
    (case ej_NoRow => k_is)
    (case a_NoText => k_is)
    (case ek_NoText => k_is)
    (case es_NoText => k_is)
    (case et_NoText => k_is)
    (case ej_NoText => k_is)
    (case a_WaitError => k_is)
    (case ei_WaitError => k_exc)
    (case ek_WaitError => k_is)
    (case es_WaitError => k_is)
    (case et_WaitError => k_is)
    (case ej_WaitError => k_is)
    (case eu_NoDeed_NoDeed => first | rfl | k_is)
    (case eu_NoDeed_NoRow => first | rfl | k_is)
    (case eu_NoDeed_NoText => first | rfl | k_is)
    (case eu_NoDeed_WaitError => first | rfl | k_is)
    (case xga_NoDeed => k_is)
    (case xgg_NoDeed => k_is)
    (case xhd_NoDeed => k_is)
    (case xcl_NoDeed => k_is)
    (case xmr_NoDeed => k_is)
    (case xko_NoDeed_NoDeed => kit_is)
    (case xko_NoDeed_NoRow => kit_is)
    (case xko_NoDeed_NoText => kit_is)
    (case eu_NoRow_NoDeed => first | rfl | k_is)
    (case eu_NoRow_NoRow => first | rfl | k_is)
    (case eu_NoRow_NoText => first | rfl | k_is)
    (case eu_NoRow_WaitError => first | rfl | k_is)
    (case xga_NoRow => k_is)
    (case xgg_NoRow => k_is)
    (case xhd_NoRow => k_is)
    (case xcl_NoRow => k_is)
    (case xmr_NoRow => k_is)
    (case xko_NoRow_NoDeed => kit_is)
    (case xko_NoRow_NoRow => kit_is)
    (case xko_NoRow_NoText => kit_is)
    (case eu_NoText_NoDeed => first | rfl | k_is)
    (case eu_NoText_NoRow => first | rfl | k_is)
    (case eu_NoText_NoText => first | rfl | k_is)
    (case eu_NoText_WaitError => first | rfl | k_is)
    (case xga_NoText => k_is)
    (case xgg_NoText => k_is)
    (case xhd_NoText => k_is)
    (case xno_NoText_row => k_is)
    (case xcl_NoText => k_is)
    (case xmr_NoText => k_is)
    (case xko_NoText_NoDeed => kit_is)
    (case xko_NoText_NoRow => kit_is)
    (case xko_NoText_NoText => kit_is)
    (case eu_WaitError_NoDeed => first | rfl | k_is)
    (case eu_WaitError_NoRow => first | rfl | k_is)
    (case eu_WaitError_NoText => first | rfl | k_is)
    (case eu_WaitError_WaitError => first | rfl | k_is)
    (case xga_WaitError => k_is)
    (case xgg_WaitError => k_is)
    (case xhd_WaitError => k_is)
    (case xcl_WaitError => k_is)
    (case xmr_WaitError => k_is)
    (case xko_WaitError_NoDeed => kit_is)
    (case xko_WaitError_NoRow => kit_is)
    (case xko_WaitError_NoText => kit_is)
    (case xsp => k_is)
    (case xtk => k_is)
    (case xin_NoText => first | k_is | k_exc | rfl)
    (case xov_NoText => first | k_is | k_exc | rfl)
    (case xsa_NoText => k_is)
    (case xa_NoText => k_is)
    (case xi_NoText => k_is)
    (case xl_NoText => k_is)
    (case xc_NoText => k_is)
    (case xk_NoText => k_is)
    (case e_XNoText => rfl)
    (case xq1_WaitError => k_is)
    (case xq2_WaitError => k_is)
    (case xq3_WaitError => k_is)
    (case a_LETTERS => k_is)
    (case t_LETTERS => exact .str)
    (case a_LONGEST => k_is)
    (case t_LONGEST => exact .int)
    (case a_MOST_FIELDS => k_is)
    (case t_MOST_FIELDS => exact .int)
    (case a_FORMS => k_is)
    (case l_FORMS => k_is)
    (case lo_FORMS => decide)
    (case a_READERS => k_is)
    (case l_READERS => k_is)
    (case lo_READERS => decide)
    (case a_law_begun => k_is)
    (case l_law_begun => k_is)
    (case c_law_begun => k_is)
    (case k_law_begun => k_is)
    (case e_law_begun => rfl)
    (case a_law_kinds => k_is)
    (case l_law_kinds => k_is)
    (case c_law_kinds => k_is)
    (case k_law_kinds => k_is)
    (case e_law_kinds => rfl)
    (case a_law_text => k_is)
    (case l_law_text => k_is)
    (case c_law_text => k_is)
    (case k_law_text => k_is)
    (case e_law_text => rfl)
    (case a_law_take => k_is)
    (case l_law_take => k_is)
    (case c_law_take => k_is)
    (case k_law_take => k_is)
    (case e_law_take => rfl)
    (case a_law_number => k_is)
    (case l_law_number => k_is)
    (case c_law_number => k_is)
    (case k_law_number => k_is)
    (case e_law_number => rfl)
    (case a_law_a_key => k_is)
    (case l_law_a_key => k_is)
    (case c_law_a_key => k_is)
    (case k_law_a_key => k_is)
    (case e_law_a_key => rfl)
    (case a_law_things => k_is)
    (case l_law_things => k_is)
    (case c_law_things => k_is)
    (case k_law_things => k_is)
    (case e_law_things => rfl)
    (case a_law_drawn => k_is)
    (case l_law_drawn => k_is)
    (case c_law_drawn => k_is)
    (case k_law_drawn => k_is)
    (case e_law_drawn => rfl)
    (case a_law_bent => k_is)
    (case l_law_bent => k_is)
    (case c_law_bent => k_is)
    (case k_law_bent => k_is)
    (case e_law_bent => rfl)
    (case a_law_is_key => k_is)
    (case l_law_is_key => k_is)
    (case c_law_is_key => k_is)
    (case k_law_is_key => k_is)
    (case e_law_is_key => rfl)
    (case a_law_is_number => k_is)
    (case l_law_is_number => k_is)
    (case c_law_is_number => k_is)
    (case k_law_is_number => k_is)
    (case e_law_is_number => rfl)
    (case a_law_read_thing => k_is)
    (case l_law_read_thing => k_is)
    (case c_law_read_thing => k_is)
    (case k_law_read_thing => k_is)
    (case e_law_read_thing => rfl)
    (case a_law_due => k_is)
    (case l_law_due => k_is)
    (case c_law_due => k_is)
    (case k_law_due => k_is)
    (case e_law_due => rfl)
    (case a_number_in => k_is)
    (case l_number_in => k_is)
    (case c_number_in => k_is)
    (case k_number_in => k_is)
    (case e_number_in => rfl)
    (case a_is_key => k_is)
    (case l_is_key => k_is)
    (case c_is_key => k_is)
    (case k_is_key => k_is)
    (case e_is_key => rfl)
    (case a_key_in => k_is)
    (case l_key_in => k_is)
    (case c_key_in => k_is)
    (case k_key_in => k_is)
    (case e_key_in => rfl)
    (case a_mode_in => k_is)
    (case l_mode_in => k_is)
    (case c_mode_in => k_is)
    (case k_mode_in => k_is)
    (case e_mode_in => rfl)
    (case a_numbers_in => k_is)
    (case l_numbers_in => k_is)
    (case c_numbers_in => k_is)
    (case k_numbers_in => k_is)
    (case e_numbers_in => rfl)
    (case a_worth_in => k_is)
    (case l_worth_in => k_is)
    (case c_worth_in => k_is)
    (case k_worth_in => k_is)
    (case e_worth_in => rfl)
    (case a_pace_in => k_is)
    (case l_pace_in => k_is)
    (case c_pace_in => k_is)
    (case k_pace_in => k_is)
    (case e_pace_in => rfl)
    (case a_keys_in => k_is)
    (case l_keys_in => k_is)
    (case c_keys_in => k_is)
    (case k_keys_in => k_is)
    (case e_keys_in => rfl)
    (case a_read_deed => k_is)
    (case l_read_deed => k_is)
    (case c_read_deed => k_is)
    (case k_read_deed => k_is)
    (case e_read_deed => rfl)
    (case a_law_right => k_is)
    (case l_law_right => k_is)
    (case c_law_right => k_is)
    (case k_law_right => k_is)
    (case e_law_right => rfl)
    (case a_law => k_is)
    (case l_law => k_is)
    (case c_law => k_is)
    (case k_law => k_is)
    (case e_law => rfl)
    (case dk_FORMS => refine' ⟨⟨_, _, rfl, (.cons rfl (.val (.tup ?l0 ?t0)) (.cons rfl (.val (.tup ?l1 ?t1)) (.cons rfl (.val (.tup ?l2 ?t2)) (.cons rfl (.val (.tup ?l3 ?t3)) (.cons rfl (.val (.tup ?l4 ?t4)) (.cons rfl (.val (.tup ?l5 ?t5)) (.cons rfl (.val (.tup ?l6 ?t6)) (.cons rfl (.val (.tup ?l7 ?t7)) (.cons rfl (.val (.tup ?l8 ?t8)) (.cons rfl (.val (.tup ?l9 ?t9)) (.cons rfl (.val (.tup ?l10 ?t10)) (.cons rfl (.val (.tup ?l11 ?t11)) (.cons rfl (.val (.tup ?l12 ?t12)) (.cons rfl (.val (.tup ?l13 ?t13)) (.cons rfl (.val (.tup ?l14 ?t14)) (.cons rfl (.val (.tup ?l15 ?t15)) (.cons rfl (.val (.tup ?l16 ?t16)) (.cons rfl (.val (.tup ?l17 ?t17)) (.cons rfl (.val (.tup ?l18 ?t18)) (.cons rfl (.val (.tup ?l19 ?t19)) (.cons rfl (.val (.tup ?l20 ?t20)) (.cons rfl (.val (.tup ?l21 ?t21)) (.cons rfl (.val (.tup ?l22 ?t22)) (.cons rfl (.val (.tup ?l23 ?t23)) (.cons rfl (.val (.tup ?l24 ?t24)) (.cons rfl (.val (.tup ?l25 ?t25)) (.cons rfl (.val (.tup ?l26 ?t26)) .nil)))))))))))))))))))))))))))⟩⟩; (case l26 => k_is); (case t26 => exact ⟨⟨_, _, rfl, rfl, DL.million (by decide), .nil⟩⟩); (case l25 => k_is); (case t25 => exact ⟨⟨_, _, rfl, rfl, DL.million (by decide), (.cons .str (.cons .str .nil))⟩⟩); (case l24 => k_is); (case t24 => exact ⟨⟨_, _, rfl, rfl, DL.million (by decide), (.cons .str (.cons .str .nil))⟩⟩); (case l23 => k_is); (case t23 => exact ⟨⟨_, _, rfl, rfl, DL.million (by decide), (.cons .str (.cons .str .nil))⟩⟩); (case l22 => k_is); (case t22 => exact ⟨⟨_, _, rfl, rfl, DL.million (by decide), (.cons .str (.cons .str (.cons .str .nil)))⟩⟩); (case l21 => k_is); (case t21 => exact ⟨⟨_, _, rfl, rfl, DL.million (by decide), (.cons .str (.cons .str .nil))⟩⟩); (case l20 => k_is); (case t20 => exact ⟨⟨_, _, rfl, rfl, DL.million (by decide), (.cons .str .nil)⟩⟩); (case l19 => k_is); (case t19 => exact ⟨⟨_, _, rfl, rfl, DL.million (by decide), (.cons .str .nil)⟩⟩); (case l18 => k_is); (case t18 => exact ⟨⟨_, _, rfl, rfl, DL.million (by decide), (.cons .str .nil)⟩⟩); (case l17 => k_is); (case t17 => exact ⟨⟨_, _, rfl, rfl, DL.million (by decide), (.cons .str .nil)⟩⟩); (case l16 => k_is); (case t16 => exact ⟨⟨_, _, rfl, rfl, DL.million (by decide), (.cons .str .nil)⟩⟩); (case l15 => k_is); (case t15 => exact ⟨⟨_, _, rfl, rfl, DL.million (by decide), (.cons .str .nil)⟩⟩); (case l14 => k_is); (case t14 => exact ⟨⟨_, _, rfl, rfl, DL.million (by decide), (.cons .str (.cons .str (.cons .str .nil)))⟩⟩); (case l13 => k_is); (case t13 => exact ⟨⟨_, _, rfl, rfl, DL.million (by decide), (.cons .str (.cons .str .nil))⟩⟩); (case l12 => k_is); (case t12 => exact ⟨⟨_, _, rfl, rfl, DL.million (by decide), (.cons .str (.cons .str (.cons .str .nil)))⟩⟩); (case l11 => k_is); (case t11 => exact ⟨⟨_, _, rfl, rfl, DL.million (by decide), (.cons .str .nil)⟩⟩); (case l10 => k_is); (case t10 => exact ⟨⟨_, _, rfl, rfl, DL.million (by decide), .nil⟩⟩); (case l9 => k_is); (case t9 => exact ⟨⟨_, _, rfl, rfl, DL.million (by decide), (.cons .str (.cons .str .nil))⟩⟩); (case l8 => k_is); (case t8 => exact ⟨⟨_, _, rfl, rfl, DL.million (by decide), (.cons .str .nil)⟩⟩); (case l7 => k_is); (case t7 => exact ⟨⟨_, _, rfl, rfl, DL.million (by decide), (.cons .str (.cons .str .nil))⟩⟩); (case l6 => k_is); (case t6 => exact ⟨⟨_, _, rfl, rfl, DL.million (by decide), (.cons .str .nil)⟩⟩); (case l5 => k_is); (case t5 => exact ⟨⟨_, _, rfl, rfl, DL.million (by decide), (.cons .str (.cons .str .nil))⟩⟩); (case l4 => k_is); (case t4 => exact ⟨⟨_, _, rfl, rfl, DL.million (by decide), (.cons .str (.cons .str .nil))⟩⟩); (case l3 => k_is); (case t3 => exact ⟨⟨_, _, rfl, rfl, DL.million (by decide), (.cons .str (.cons .str .nil))⟩⟩); (case l2 => k_is); (case t2 => exact ⟨⟨_, _, rfl, rfl, DL.million (by decide), (.cons .str (.cons .str (.cons .str .nil)))⟩⟩); (case l1 => k_is); (case t1 => exact ⟨⟨_, _, rfl, rfl, DL.million (by decide), (.cons .str (.cons .str (.cons .str (.cons .str .nil))))⟩⟩); (case l0 => k_is); (case t0 => exact ⟨⟨_, _, rfl, rfl, DL.million (by decide), (.cons .str .nil)⟩⟩))
    (case dk_READERS => refine' ⟨⟨_, _, rfl, (.cons rfl .fn (.cons rfl .fn (.cons rfl .fn (.cons rfl .fn (.cons rfl .fn (.cons rfl .fn .nil))))))⟩⟩)

