import PyProof.Rows.All
import Wide.All
import OpenK.AllK
import Wide.FinOn
import PyProof.EqAt
import PyProof.EqKinds
import PyProof.TupleCall
import HandS.ForMost
import HandS.Exc
import HandS.TryOnly
import HandS.ExcOwn
import HandS.WordsExc
import HandS.Head2
import KE.KExcInit
import KE.KIsAll
import HandS.HeadHook4
import HandS.Wide
import HandS.TupAny
import HandS.Flow
import HandS.IsInst
import HandS.TupLe
import HandS.Defaults
import HandS.CallSlots
import HandS.DictComp
import HandS.Iter
import HandS.OwnEq
import HandS.More
import HandS.Dict
import HandS.SetKeys
import PyProof.ReprRoads
import PyProof.CallFns
import HandS.RaiseMore
import PyProof.ExcClass
import PyProof.ExcBaseAll.IndexError
import PyProof.ExcBaseAll.LookupError
import PyProof.ExcBaseAll.RuntimeError
import PyProof.ExcBaseAll.ValueError
import PyProof.FactsTree
import HandS.ExcInit
import PyProof.Rows.FactsExc_KeyError
import KE.KExcIs
import HandS.ExcField
import HandS.Deep
import KE.DataFind
import PyProof.ReprText
import PyProof.FitsInt
import PyProof.StrLawsRepr
import KE.DataMinMax
import KE.DatumOrd
import HandS.Text
import HandS.Codes
import OpenK.KOps
import HandS.Records
import PyProof.CallType
import PyProof.Conv_bool
import HandS.MakeKwOnly
import PyProof.Rows.ListMulArg
import PyProof.Rows.SortShell
import PyProof.Rows.SortKeyStr
import PyProof.Rows.StrInSeq
import KE.KSortTup
import KE.KItemsList
import HandS.SortOrd
import HandS.SortRule
import HandS.ListItems
import KE.KEqNest
import HandS.Conv
import HandS.Style
import HandS.Finally
import PyProof.CollectIter
import PyProof.WalksMore
import PyProof.TupleIter
import HandS.Set
import HandS.SetFor
import HandS.StrMore
import HandS.TupMul
import KE.KUnpack
import HandS.DictTup
import HandS.Comp
import HandS.Lambda
import HandS.EndTab
import KE.DataMinKey
import HandS.SortKw
import HandS.SetBool
import HandS.TupSets
import KE.SortData
import KE.SortKeyHeap
import HandS.CallLocal
import PySem.Challenge.RW_stampedwait_k67_histories_looked_at
set_option Elab.async false
set_option linter.all false
set_option maxRecDepth 100000
namespace DL
open PySem PySem.Spec L2
open PyProof.Rows hiding St

/-! ### data: tuples by value, mutable objects by address; kl: a list that never changes -/
inductive D where
  | non | bl (b : Bool) | int (i : Int) | str (x : Str) | ty (n : String) | ref (a : Addr) | tup (ds : List D) | kl (ds : List D) | kc (ds : List D) | exc (C : Addr) (ns : List Str) (ds : List D) | emp | fn (f c : Addr) (q : Str) (u : L2.V) (d : D)

/-! ### the top's facts, read off the heap behind it -/
def mA (K : PySem.W.Frag) (C : Addr) (m : Str) : Addr := match PySem.W.findIn K (.ref C) m with
  | some (some (.ref a)) => a
  | _ => 0
end DL

namespace DL
open PySem PySem.Spec L2
open PyProof.Rows hiding St

inductive MO where
  | lst (xs : List D)
  | dK (kvs : List (Key × D))
  | dT (kvs : List (List Key × D))
  | ins (C : Addr) (fs : List (Str × D))
  | fz (ob : Obj) (w : HO) (u : MO)
  | tab (q : Str)

abbrev HD := Addr → Option MO
def put (H : HD) (a : Addr) (o : MO) : HD := fun b => if b = a then some o else H b
theorem put_same {H : HD} {a : Addr} {o : MO} : put H a o a = some o := if_pos rfl
theorem put_ne {H : HD} {a b : Addr} {o : MO} (h : b ≠ a) : put H a o b = H b := if_neg h
/-- a part of a heap -/
def Le (H H' : HD) : Prop := ∀ a o, H a = some o → H' a = some o
theorem Le.refl (H : HD) : Le H H := fun _ _ h => h
theorem Le.trans {A B C : HD} (x : Le A B) (y : Le B C) : Le A C := fun a o h => y a o (x a o h)
theorem Le.no {H H' : HD} (x : Le H H') {a : Addr} (h : H' a = none) : H a = none := by
  cases q : H a with
  | none => rfl
  | some o => rw [x a o q] at h; cases h
theorem Le.newB {H : HD} {a : Addr} {o : MO} (h : H a = none) : Le H (put H a o) := fun b u e => by
  rw [put_ne (by rintro rfl; rw [h] at e; cases e)]; exact e

/-- an exception object that was caught -/
def ExV (C : Addr) (dd : Option Addr) (a : Addr) : HO := .ext fun h => ∃ (oe : Obj) (vs : Array Value), h.get? a = some oe ∧ Zc (.ref C) dd oe ∧ oe.data = .fields vs
/-- the object of an empty dict that never changes -/
def EmOb (ob : Obj) : Prop := ob.ExactDict ∧ ∃ ep, ob.data = .dict #[] ep
def EmV (ob : Obj) (a : Addr) : HO := .ext fun h => h.get? a = some ob
mutual
def Rp (K : PySem.W.Frag) (H : Hp) : D → V → Prop
  | .non, v => v = .non
  | .bl b, v => v = .bl b
  | .int i, v => v = .int i
  | .str x, v => v = .str x
  | .ty n, v => v = .ty n
  | .ref a, v => v = .ref a
  | .tup ds, v => ∃ a vs, v = .ref a ∧ SqT K H a vs ∧ Rps K H ds vs
  | .kl ds, v => ∃ a vs, v = .ref a ∧ (∃ o, H a = some (.frz o (.lst vs))) ∧ Rps K H ds vs
  | .kc ds, v => ∃ a vs, v = .ref a ∧ ((∃ o, H a = some (.frz o (.lst vs))) ∨ ∃ (o : Obj) (its : Array Value) (n : Nat), K.lookup a = some o ∧ o.cls = .type "list" ∧ o.dict = none ∧ o.data = .seq its n ∧ its.size ≤ sizeLine ∧ Vals vs its.toList) ∧ Rps K H ds vs
  | .exc C ns ds, v => ∃ a dd vs, v = .ref a ∧ H a = some (ExV C dd a) ∧ ns.length = ds.length ∧ ((dd = none ∧ ns = []) ∨ ∃ b, dd = some b ∧ H b = some (.xd (ns.zip vs))) ∧ Rps K H ds vs
  | .emp, v => ∃ a ob, v = .ref a ∧ (a == sysModules) = false ∧ H a = some (EmV ob a) ∧ EmOb ob
  | .fn f c p u d, v => v = .ref f ∧ H c = some (LamX.CodeO c p) ∧ Rp K H d u
def Rps (K : PySem.W.Frag) (H : Hp) : List D → List V → Prop
  | [], vs => vs = []
  | d :: ds, vs => ∃ v r, vs = v :: r ∧ Rp K H d v ∧ Rps K H ds r
end

/-- names (keys) and values -/
def RKV {κ : Type} (K : PySem.W.Frag) (H : Hp) : List (κ × D) → List (κ × V) → Prop
  | [], l => l = []
  | p :: ps, l => ∃ v r, l = (p.1, v) :: r ∧ Rp K H p.2 v ∧ RKV K H ps r

def RO (K : PySem.W.Frag) (H : Hp) : MO → HO → Prop
  | .lst ds, o => ∃ vs, o = .lst vs ∧ Rps K H ds vs
  | .dK kvs, o => ∃ l, o = .dK l ∧ RKV K H kvs l
  | .dT kvs, o => ∃ l, o = .dT l ∧ RKV K H kvs l
  | .ins C fs, o => ∃ dx l, o = .ins C dx l ∧ RKV K H fs l
  | .fz ob w u, o => o = .frz ob w ∧ RO K H u w ∧ (∀ vs, w ≠ .lst vs) ∧ (∀ vs, w ≠ .tup vs)
  | .tab q, o => ∃ ps, o = .tbl ps ∧ TriplesOk ps.toList ∧ ∀ (pos : Pos) (cv : Value), codeAmong pos ps.toList = some cv → ∃ c, cv = .ref c ∧ H c = some (LamX.CodeO c q)

def Sim (K : PySem.W.Frag) (G : HD) (H : Hp) : Prop := ∀ a o, G a = some o → ∃ o', H a = some o' ∧ RO K H o o'
/-- what is not of ours stays -/
def Ext (G : HD) (H : Hp) (G' : HD) (H' : Hp) : Prop := ∀ a o, G a = none → H a = some o → H' a = some o ∧ G' a = none

section
variable {K : PySem.W.Frag} {G G' G1 G2 : HD} {H H' H1 H2 : Hp}
theorem Sim.le (s : Sim K G H) (l : Le G' G) : Sim K G' H := fun a o e => s a o (l a o e)
theorem Sim.no (s : Sim K G H) {a : Addr} (h : H a = none) : G a = none := by
  cases q : G a with
  | none => rfl
  | some o => obtain ⟨o', e, _⟩ := s a o q; rw [h] at e; cases e
theorem Ext.refl : Ext G H G H := fun _ _ g h => ⟨h, g⟩
theorem Ext.trans (x : Ext G H G1 H1) (y : Ext G1 H1 G2 H2) : Ext G H G2 H2 := fun a o g h =>
  let ⟨h1, g1⟩ := x a o g h
  y a o g1 h1
theorem Ext.le (x : Ext G H G1 H1) (l : Le G2 G1) : Ext G H G2 H1 := fun a o g h =>
  let ⟨h1, g1⟩ := x a o g h
  ⟨h1, l.no g1⟩
theorem Ext.of_le (l : Le G' G) : Ext G H G' H := Ext.refl.le l

theorem Sim.tup (s : Sim K G H) {a : Addr} {vs : List V} (h : H a = some (.tup vs)) : G a = none := by
  cases q : G a with
  | none => rfl
  | some o =>
    obtain ⟨o', e, r⟩ := s a o q
    rw [h] at e; cases e
    cases o with
    | lst ds => obtain ⟨_, e, _⟩ := r; cases e
    | dK ds => obtain ⟨_, e, _⟩ := r; cases e
    | dT ds => obtain ⟨_, e, _⟩ := r; cases e
    | ins C fs => obtain ⟨_, _, e, _⟩ := r; cases e
    | fz ob w u => obtain ⟨e, _⟩ := r; cases e
    | tab q => obtain ⟨_, e, _⟩ := r; cases e
theorem Sim.frzT (s : Sim K G H) {a : Addr} {ob : Obj} {vs : List V} (h : H a = some (.frz ob (.tup vs))) : G a = none := by
  cases q : G a with
  | none => rfl
  | some o =>
    obtain ⟨o', e, r⟩ := s a o q
    rw [h] at e; cases e
    cases o with
    | lst ds => obtain ⟨_, e, _⟩ := r; cases e
    | dK ds => obtain ⟨_, e, _⟩ := r; cases e
    | dT ds => obtain ⟨_, e, _⟩ := r; cases e
    | ins C fs => obtain ⟨_, _, e, _⟩ := r; cases e
    | fz ob w u => obtain ⟨e, _, _, z⟩ := r; cases e; exact (z _ rfl).elim
    | tab q => obtain ⟨_, e, _⟩ := r; cases e
theorem Sim.frzL (s : Sim K G H) {a : Addr} {ob : Obj} {vs : List V} (h : H a = some (.frz ob (.lst vs))) : G a = none := by
  cases q : G a with
  | none => rfl
  | some o =>
    obtain ⟨o', e, r⟩ := s a o q
    rw [h] at e; cases e
    cases o with
    | lst ds => obtain ⟨_, e, _⟩ := r; cases e
    | dK ds => obtain ⟨_, e, _⟩ := r; cases e
    | dT ds => obtain ⟨_, e, _⟩ := r; cases e
    | ins C fs => obtain ⟨_, _, e, _⟩ := r; cases e
    | fz ob w u => obtain ⟨e, _, z, _⟩ := r; cases e; exact (z _ rfl).elim
    | tab q => obtain ⟨_, e, _⟩ := r; cases e
theorem Sim.extN (s : Sim K G H) {a : Addr} {φ : Heap → Prop} (h : H a = some (.ext φ)) : G a = none := by
  cases q : G a with
  | none => rfl
  | some o =>
    obtain ⟨o', e, r⟩ := s a o q
    rw [h] at e; cases e
    cases o with
    | lst ds => obtain ⟨_, e, _⟩ := r; cases e
    | dK ds => obtain ⟨_, e, _⟩ := r; cases e
    | dT ds => obtain ⟨_, e, _⟩ := r; cases e
    | ins C fs => obtain ⟨_, _, e, _⟩ := r; cases e
    | fz ob w u => obtain ⟨e, _⟩ := r; cases e
    | tab q => obtain ⟨_, e, _⟩ := r; cases e
theorem Sim.xdN (s : Sim K G H) {a : Addr} {l : List (Str × V)} (h : H a = some (.xd l)) : G a = none := by
  cases q : G a with
  | none => rfl
  | some o =>
    obtain ⟨o', e, r⟩ := s a o q
    rw [h] at e; cases e
    cases o with
    | lst ds => obtain ⟨_, e, _⟩ := r; cases e
    | dK ds => obtain ⟨_, e, _⟩ := r; cases e
    | dT ds => obtain ⟨_, e, _⟩ := r; cases e
    | ins C fs => obtain ⟨_, _, e, _⟩ := r; cases e
    | fz ob w u => obtain ⟨e, _⟩ := r; cases e
    | tab q => obtain ⟨_, e, _⟩ := r; cases e
/-- the same of all but plain lists that are not of ours -/
def ExtL (G : HD) (H : Hp) (G' : HD) (H' : Hp) : Prop := ∀ a o, (∀ l, o ≠ HO.lst l) → G a = none → H a = some o → H' a = some o ∧ G' a = none
theorem Ext.l (x : Ext G H G1 H1) : ExtL G H G1 H1 := fun a o _ g h => x a o g h
theorem nl_tup {vs : List V} : ∀ l, HO.tup vs ≠ .lst l := fun _ z => nomatch z
theorem nl_frz {o : Obj} {u : HO} : ∀ l, HO.frz o u ≠ .lst l := fun _ z => nomatch z
theorem nl_ext {φ : Heap → Prop} : ∀ l, HO.ext φ ≠ .lst l := fun _ z => nomatch z
theorem nl_xd {m : List (Str × V)} : ∀ l, HO.xd m ≠ .lst l := fun _ z => nomatch z
theorem SqT.extL {a : Addr} {vs : List V} (s : Sim K G H) (x : ExtL G H G' H') (h : SqT K H a vs) : SqT K H' a vs := by
  rcases h with (h | ⟨o, h⟩) | h
  · exact .inl (.inl (x a _ nl_tup (s.tup h) h).1)
  · exact .inl (.inr ⟨o, (x a _ nl_frz (s.frzT h) h).1⟩)
  · exact .inr h
mutual
theorem Rp.extL (s : Sim K G H) (x : ExtL G H G' H') : ∀ (d : D) (v : V), Rp K H d v → Rp K H' d v
  | .non, _, h => h
  | .bl _, _, h => h
  | .int _, _, h => h
  | .str _, _, h => h
  | .ty _, _, h => h
  | .ref _, _, h => h
  | .tup ds, v, h => by
    obtain ⟨a, vs, e, t, r⟩ := h
    exact ⟨a, vs, e, SqT.extL s x t, Rps.extL s x ds vs r⟩
  | .kl ds, v, h => by
    obtain ⟨a, vs, e, ⟨o, t⟩, r⟩ := h
    exact ⟨a, vs, e, ⟨o, (x a _ nl_frz (s.frzL t) t).1⟩, Rps.extL s x ds vs r⟩
  | .kc ds, v, h => by
    obtain ⟨a, vs, e, t, r⟩ := h
    refine ⟨a, vs, e, ?_, Rps.extL s x ds vs r⟩
    rcases t with ⟨o, t⟩ | t
    · exact .inl ⟨o, (x a _ nl_frz (s.frzL t) t).1⟩
    · exact .inr t
  | .exc C ns ds, v, h => by
    obtain ⟨a, dd, vs, e, t, hl, q, r⟩ := h
    refine ⟨a, dd, vs, e, (x a _ nl_ext (s.extN t) t).1, hl, ?_, Rps.extL s x ds vs r⟩
    rcases q with q | ⟨b, q1, q2⟩
    · exact .inl q
    · exact .inr ⟨b, q1, (x b _ nl_xd (s.xdN q2) q2).1⟩
  | .fn f c p u d, v, h => ⟨h.1, (x c _ nl_ext (s.extN (φ := _) h.2.1) h.2.1).1, Rp.extL s x d u h.2.2⟩
  | .emp, v, h => by
    obtain ⟨a, ob, e, m, t, q⟩ := h
    exact ⟨a, ob, e, m, (x a _ nl_ext (s.extN t) t).1, q⟩
theorem Rps.extL (s : Sim K G H) (x : ExtL G H G' H') : ∀ (ds : List D) (vs : List V), Rps K H ds vs → Rps K H' ds vs
  | [], _, h => h
  | d :: ds, vs, h => by
    obtain ⟨v, r, e, h1, h2⟩ := h
    exact ⟨v, r, e, Rp.extL s x d v h1, Rps.extL s x ds r h2⟩
end
theorem SqT.ext {a : Addr} {vs : List V} (s : Sim K G H) (x : Ext G H G' H') (h : SqT K H a vs) : SqT K H' a vs := by
  rcases h with (h | ⟨o, h⟩) | h
  · exact .inl (.inl (x a _ (s.tup h) h).1)
  · exact .inl (.inr ⟨o, (x a _ (s.frzT h) h).1⟩)
  · exact .inr h
mutual
theorem Rp.ext (s : Sim K G H) (x : Ext G H G' H') : ∀ (d : D) (v : V), Rp K H d v → Rp K H' d v
  | .non, _, h => h
  | .bl _, _, h => h
  | .int _, _, h => h
  | .str _, _, h => h
  | .ty _, _, h => h
  | .ref _, _, h => h
  | .tup ds, v, h => by
    obtain ⟨a, vs, e, t, r⟩ := h
    exact ⟨a, vs, e, SqT.ext s x t, Rps.ext s x ds vs r⟩
  | .kl ds, v, h => by
    obtain ⟨a, vs, e, ⟨o, t⟩, r⟩ := h
    exact ⟨a, vs, e, ⟨o, (x a _ (s.frzL t) t).1⟩, Rps.ext s x ds vs r⟩
  | .kc ds, v, h => by
    obtain ⟨a, vs, e, t, r⟩ := h
    refine ⟨a, vs, e, ?_, Rps.ext s x ds vs r⟩
    rcases t with ⟨o, t⟩ | t
    · exact .inl ⟨o, (x a _ (s.frzL t) t).1⟩
    · exact .inr t
  | .exc C ns ds, v, h => by
    obtain ⟨a, dd, vs, e, t, hl, q, r⟩ := h
    refine ⟨a, dd, vs, e, (x a _ (s.extN t) t).1, hl, ?_, Rps.ext s x ds vs r⟩
    rcases q with q | ⟨b, q1, q2⟩
    · exact .inl q
    · exact .inr ⟨b, q1, (x b _ (s.xdN q2) q2).1⟩
  | .fn f c p u d, v, h => ⟨h.1, (x c _ (s.extN h.2.1) h.2.1).1, Rp.ext s x d u h.2.2⟩
  | .emp, v, h => by
    obtain ⟨a, ob, e, m, t, q⟩ := h
    exact ⟨a, ob, e, m, (x a _ (s.extN t) t).1, q⟩
theorem Rps.ext (s : Sim K G H) (x : Ext G H G' H') : ∀ (ds : List D) (vs : List V), Rps K H ds vs → Rps K H' ds vs
  | [], _, h => h
  | d :: ds, vs, h => by
    obtain ⟨v, r, e, h1, h2⟩ := h
    exact ⟨v, r, e, Rp.ext s x d v h1, Rps.ext s x ds r h2⟩
end
theorem RKV.ext {κ : Type} (s : Sim K G H) (x : Ext G H G' H') : ∀ (l : List (κ × D)) (m : List (κ × V)), RKV K H l m → RKV K H' l m
  | [], _, h => h
  | p :: ps, m, h => by
    obtain ⟨v, r, e, h1, h2⟩ := h
    exact ⟨v, r, e, h1.ext s x _ _, RKV.ext s x ps r h2⟩
theorem RO.ext (s : Sim K G H) (x : Ext G H G' H') : ∀ (o : MO) (o' : HO), RO K H o o' → RO K H' o o'
  | .lst ds, _, h => let ⟨vs, e, r⟩ := h; ⟨vs, e, r.ext s x _ _⟩
  | .dK _, _, h => let ⟨vs, e, r⟩ := h; ⟨vs, e, r.ext s x _ _⟩
  | .dT _, _, h => let ⟨vs, e, r⟩ := h; ⟨vs, e, r.ext s x _ _⟩
  | .ins _ _, _, h => let ⟨dx, vs, e, r⟩ := h; ⟨dx, vs, e, r.ext s x _ _⟩
  | .fz ob w u, _, h => let ⟨e, r, z⟩ := h; ⟨e, RO.ext s x u w r, z⟩
  | .tab q, _, h => let ⟨ps, e, t, z⟩ := h; ⟨ps, e, t, fun pos cv hc => let ⟨c, e1, e2⟩ := z pos cv hc; ⟨c, e1, (x c _ (s.extN e2) e2).1⟩⟩
/-- a new object that we do not name (a tuple ..) -/
theorem Ext.new {p : Addr} {o : HO} (h : H p = none) (g : G p = none) : Ext G H G (upd H p o) := fun a u ga e =>
  ⟨by rw [upd_ne (by rintro rfl; rw [h] at e; cases e)]; exact e, ga⟩
theorem Sim.newO {p : Addr} {o : HO} (s : Sim K G H) (h : H p = none) : Sim K G (upd H p o) := fun a u e => by
  obtain ⟨o', e1, r⟩ := s a u e
  have hn : a ≠ p := by rintro rfl; rw [h] at e1; cases e1
  exact ⟨o', by rw [upd_ne hn]; exact e1, r.ext s (Ext.new h (s.no h)) _ _⟩
/-- a new object of ours -/
theorem Ext.newM {p : Addr} {o : HO} {m : MO} (h : H p = none) : Ext G H (put G p m) (upd H p o) := fun a u ga e => by
  have hn : a ≠ p := by rintro rfl; rw [h] at e; cases e
  exact ⟨by rw [upd_ne hn]; exact e, by rw [put_ne hn]; exact ga⟩
theorem Sim.newM {p : Addr} {o : HO} {m : MO} (s : Sim K G H) (h : H p = none) (r : RO K H m o) : Sim K (put G p m) (upd H p o) := fun a u e => by
  by_cases hn : a = p
  · subst hn
    rw [put_same] at e; cases e
    exact ⟨o, upd_same, r.ext s (Ext.newM (m := m) (o := o) h) _ _⟩
  · rw [put_ne hn] at e
    obtain ⟨o', e1, r1⟩ := s a u e
    exact ⟨o', by rw [upd_ne hn]; exact e1, r1.ext s (Ext.newM (m := m) (o := o) h) _ _⟩
/-- an object of ours is written -/
theorem Ext.wr {p : Addr} {o : HO} {m m0 : MO} (g : G p = some m0) : Ext G H (put G p m) (upd H p o) := fun a u ga e => by
  have hn : a ≠ p := by rintro rfl; rw [g] at ga; cases ga
  exact ⟨by rw [upd_ne hn]; exact e, by rw [put_ne hn]; exact ga⟩
theorem Sim.wr {p : Addr} {o : HO} {m m0 : MO} (s : Sim K G H) (g : G p = some m0) (r : RO K H m o) : Sim K (put G p m) (upd H p o) := fun a u e => by
  by_cases hn : a = p
  · subst hn
    rw [put_same] at e; cases e
    exact ⟨o, upd_same, r.ext s (Ext.wr (m := m) (o := o) g) _ _⟩
  · rw [put_ne hn] at e
    obtain ⟨o', e1, r1⟩ := s a u e
    exact ⟨o', by rw [upd_ne hn]; exact e1, r1.ext s (Ext.wr (m := m) (o := o) g) _ _⟩
theorem Sim.lst (s : Sim K G H) {a : Addr} {ds : List D} (g : G a = some (.lst ds)) : ∃ vs, H a = some (.lst vs) ∧ Rps K H ds vs := by
  obtain ⟨o', e, vs, rfl, r⟩ := s a _ g
  exact ⟨vs, e, r⟩
theorem Sim.ins (s : Sim K G H) {a C : Addr} {fs : List (Str × D)} (g : G a = some (.ins C fs)) : ∃ dx l, H a = some (.ins C dx l) ∧ RKV K H fs l := by
  obtain ⟨o', e, dx, l, rfl, r⟩ := s a _ g
  exact ⟨dx, l, e, r⟩
theorem Sim.dK (s : Sim K G H) {a : Addr} {l : List (Key × D)} (g : G a = some (.dK l)) : ∃ m, H a = some (.dK m) ∧ RKV K H l m := by
  obtain ⟨o', e, vs, rfl, r⟩ := s a _ g
  exact ⟨vs, e, r⟩
theorem Sim.dT (s : Sim K G H) {a : Addr} {l : List (List Key × D)} (g : G a = some (.dT l)) : ∃ m, H a = some (.dT m) ∧ RKV K H l m := by
  obtain ⟨o', e, vs, rfl, r⟩ := s a _ g
  exact ⟨vs, e, r⟩

/-! lists -/
theorem Rps.length : ∀ {ds : List D} {vs : List V}, Rps K H ds vs → vs.length = ds.length
  | [], _, h => by cases h; rfl
  | d :: ds, _, h => by obtain ⟨v, r, rfl, _, h2⟩ := h; simp [Rps.length h2]
theorem Rps.cons {d : D} {ds : List D} {v : V} {vs : List V} (h : Rp K H d v) (t : Rps K H ds vs) : Rps K H (d :: ds) (v :: vs) := ⟨v, vs, rfl, h, t⟩
theorem Rps.nil : Rps K H [] [] := rfl
theorem Rps.get : ∀ {ds : List D} {vs : List V} {i : Nat} {d : D}, Rps K H ds vs → ds[i]? = some d → ∃ v, vs[i]? = some v ∧ Rp K H d v
  | [], _, _, _, _, e => by simp at e
  | d :: ds, _, 0, _, h, e => by obtain ⟨v, r, rfl, h1, _⟩ := h; cases e; exact ⟨v, rfl, h1⟩
  | d :: ds, _, i + 1, _, h, e => by obtain ⟨v, r, rfl, _, h2⟩ := h; exact Rps.get (i := i) h2 e
theorem Rps.app : ∀ {ds es : List D} {vs ws : List V}, Rps K H ds vs → Rps K H es ws → Rps K H (ds ++ es) (vs ++ ws)
  | [], _, _, _, h, k => by cases h; exact k
  | d :: ds, _, _, _, h, k => by obtain ⟨v, r, rfl, h1, h2⟩ := h; exact ⟨v, _, rfl, h1, Rps.app h2 k⟩
theorem Rps.set : ∀ {ds : List D} {vs : List V} {i : Nat} {d : D} {v : V}, Rps K H ds vs → Rp K H d v → Rps K H (ds.set i d) (vs.set i v)
  | [], _, _, _, _, h, _ => by cases h; exact rfl
  | d :: ds, _, 0, _, _, h, k => by obtain ⟨v, r, rfl, h1, h2⟩ := h; exact ⟨_, r, rfl, k, h2⟩
  | d :: ds, _, i + 1, _, _, h, k => by obtain ⟨v, r, rfl, h1, h2⟩ := h; exact ⟨v, _, rfl, h1, Rps.set (i := i) h2 k⟩
theorem Rps.take : ∀ {ds : List D} {vs : List V} (n : Nat), Rps K H ds vs → Rps K H (ds.take n) (vs.take n)
  | _, _, 0, _ => by simp; exact rfl
  | [], _, n + 1, h => by cases h; exact rfl
  | d :: ds, _, n + 1, h => by obtain ⟨v, r, rfl, h1, h2⟩ := h; exact ⟨v, _, rfl, h1, Rps.take n h2⟩
theorem Rps.drop : ∀ {ds : List D} {vs : List V} (n : Nat), Rps K H ds vs → Rps K H (ds.drop n) (vs.drop n)
  | _, _, 0, h => by simpa using h
  | [], _, n + 1, h => by cases h; exact rfl
  | d :: ds, _, n + 1, h => by obtain ⟨v, r, rfl, h1, h2⟩ := h; exact Rps.drop n h2
theorem Rps.ints : ∀ {ns : List Int} {vs : List V}, Rps K H (ns.map D.int) vs → vs = ns.map V.int
  | [], _, h => h
  | n :: ns, _, h => by obtain ⟨v, r, rfl, h1, h2⟩ := h; cases h1; rw [Rps.ints h2]; rfl
theorem Rps.ofInts : ∀ (ns : List Int), Rps K H (ns.map D.int) (ns.map V.int)
  | [] => rfl
  | n :: ns => ⟨_, _, rfl, rfl, Rps.ofInts ns⟩
theorem Rps.bls : ∀ {ns : List Bool} {vs : List V}, Rps K H (ns.map D.bl) vs → vs = ns.map V.bl
  | [], _, h => h
  | n :: ns, _, h => by obtain ⟨v, r, rfl, h1, h2⟩ := h; cases h1; rw [Rps.bls h2]; rfl
/-! names and values -/
theorem RKV.length {κ : Type} : ∀ {l : List (κ × D)} {m : List (κ × V)}, RKV K H l m → m.length = l.length
  | [], _, h => by cases h; rfl
  | p :: l, _, h => by obtain ⟨v, r, rfl, _, h2⟩ := h; simp [RKV.length h2]
theorem RKV.keys {κ : Type} : ∀ {l : List (κ × D)} {m : List (κ × V)}, RKV K H l m → m.map (·.1) = l.map (·.1)
  | [], _, h => by cases h; rfl
  | p :: l, _, h => by obtain ⟨v, r, rfl, _, h2⟩ := h; simp [RKV.keys h2]
theorem RKV.lookup {f : Str} : ∀ {l : List (Str × D)} {m : List (Str × V)} {d : D}, RKV K H l m → l.lookup f = some d → ∃ v, m.lookup f = some v ∧ Rp K H d v
  | [], _, _, _, e => by simp at e
  | (n, d) :: l, _, _, h, e => by
    obtain ⟨v, r, rfl, h1, h2⟩ := h
    rw [List.lookup_cons] at e ⊢
    show ∃ w, (match f == n with | true => some v | false => List.lookup f r) = some w ∧ _
    cases q : f == n with
    | true => rw [q] at e; cases e; exact ⟨v, rfl, h1⟩
    | false => rw [q] at e; exact RKV.lookup h2 e
end
/-- a field is stored -/
def putD (f : Str) (d : D) : List (Str × D) → List (Str × D)
  | [] => [(f, d)]
  | (n, e) :: r => if n = f then (n, d) :: r else (n, e) :: putD f d r
end DL

namespace DL
open PySem PySem.Spec L2
open PyProof.Rows hiding St

/-! ### readings over data -/
abbrev DSt := List (Option D)
abbrev Post := D → HD → Prop
abbrev DX := Value → List (Str × D) → HD → Prop
abbrev DW := Value → List (Str × D) → DSt → HD → Prop
abbrev TD := DW → DSt → HD → Post → Prop
abbrev TDT := DW → DSt → HD → (Bool → HD → Prop) → Prop
abbrev TDA := DW → DSt → HD → (List D → HD → Prop) → Prop
structure DEnds where
  nx : DSt → HD → Prop
  rt : Post
  bk : DSt → HD → Prop := fun _ _ => False
  ct : DSt → HD → Prop := fun _ _ => False
abbrev TDS := DW → DEnds → DSt → HD → Prop

def RpS (K : PySem.W.Frag) (H : Hp) : DSt → St → Prop
  | [], l => l = []
  | o :: r, l => ∃ w t, l = w :: t ∧ (∀ d, o = some d → ∃ v, w = some v ∧ Rp K H d v) ∧ RpS K H r t
/-- an exception's own fields -/
def XF (K : PySem.W.Frag) (H : Hp) (fs : List (Str × D)) : Option Addr → Prop
  | none => fs = []
  | some a => ∃ l, H a = some (.xd l) ∧ RKV K H fs l
def liftQ (K : PySem.W.Frag) (G : HD) (H : Hp) (Q : Post) : VK := fun v H' => ∃ d G', Rp K H' d v ∧ Sim K G' H' ∧ Ext G H G' H' ∧ Q d G'
def liftB (K : PySem.W.Frag) (G : HD) (H : Hp) (Q : Bool → HD → Prop) : Bool → Hp → Prop := fun b H' => ∃ G', Sim K G' H' ∧ Ext G H G' H' ∧ Q b G'
def liftA (K : PySem.W.Frag) (G : HD) (H : Hp) (Q : List D → HD → Prop) : List V → Hp → Prop := fun vs H' => ∃ ds G', Rps K H' ds vs ∧ Sim K G' H' ∧ Ext G H G' H' ∧ Q ds G'
def liftN (K : PySem.W.Frag) (G : HD) (H : Hp) (Q : DSt → HD → Prop) : St → Hp → Prop := fun t H' => ∃ σ G', RpS K H' σ t ∧ Sim K G' H' ∧ Ext G H G' H' ∧ Q σ G'
def liftW (K : PySem.W.Frag) (G : HD) (H : Hp) (W : DW) : WX := fun c dd t H' => ∃ σ fs G', RpS K H' σ t ∧ XF K H' fs dd ∧ Sim K G' H' ∧ Ext G H G' H' ∧ W c fs σ G'
def liftX (K : PySem.W.Frag) (G : HD) (H : Hp) (E : DX) : XK := fun c dd H' => ∃ fs G', XF K H' fs dd ∧ Sim K G' H' ∧ Ext G H G' H' ∧ E c fs G'
def liftD (K : PySem.W.Frag) (G : HD) (H : Hp) (D : DEnds) : Ends := { nx := liftN K G H D.nx, rt := liftQ K G H D.rt, bk := liftN K G H D.bk, ct := liftN K G H D.ct }

section
variable {K : PySem.W.Frag} {G G' G1 G2 : HD} {H H' H1 H2 : Hp}
theorem RpS.ext (s : Sim K G H) (x : Ext G H G' H') : ∀ (σ : DSt) (t : St), RpS K H σ t → RpS K H' σ t
  | [], _, h => h
  | o :: r, _, h => by
    obtain ⟨w, t, rfl, h1, h2⟩ := h
    refine ⟨w, t, rfl, fun d e => ?_, RpS.ext s x r t h2⟩
    obtain ⟨v, e1, e2⟩ := h1 d e
    exact ⟨v, e1, e2.ext s x _ _⟩
theorem RpS.get : ∀ {σ : DSt} {t : St} {i : Nat} {d : D}, RpS K H σ t → σ[i]? = some (some d) → ∃ v, t[i]? = some (some v) ∧ Rp K H d v
  | [], _, _, _, _, e => by simp at e
  | o :: r, _, 0, d, h, e => by
    obtain ⟨w, t, rfl, h1, _⟩ := h
    have e' : o = some d := by simpa using e
    obtain ⟨v, rfl, r1⟩ := h1 d e'
    exact ⟨v, rfl, r1⟩
  | o :: r, _, i + 1, d, h, e => by
    obtain ⟨w, t, rfl, _, h2⟩ := h
    exact RpS.get (i := i) h2 (by simpa using e)
theorem RpS.set : ∀ {σ : DSt} {t : St} {i : Nat} {d : D} {v : V}, RpS K H σ t → Rp K H d v → RpS K H (σ.set i (some d)) (t.set i (some v))
  | [], _, _, _, _, h, _ => by cases h; exact rfl
  | o :: r, _, 0, d, v, h, k => by
    obtain ⟨w, t, rfl, _, h2⟩ := h
    exact ⟨_, t, rfl, fun e q => ⟨v, rfl, by cases q; exact k⟩, h2⟩
  | o :: r, _, i + 1, d, v, h, k => by
    obtain ⟨w, t, rfl, h1, h2⟩ := h
    exact ⟨w, _, rfl, h1, RpS.set (i := i) h2 k⟩
theorem RpS.drop1 : ∀ {σ : DSt} {t : St} {i : Nat} {w : Option V}, RpS K H σ t → RpS K H (σ.set i none) (t.set i w)
  | [], _, _, _, h => by cases h; exact rfl
  | o :: r, _, 0, _, h => by
    obtain ⟨w, t, rfl, _, h2⟩ := h
    exact ⟨_, t, rfl, (fun e q => by cases q), h2⟩
  | o :: r, _, i + 1, _, h => by
    obtain ⟨w, t, rfl, h1, h2⟩ := h
    exact ⟨w, _, rfl, h1, RpS.drop1 (i := i) h2⟩
theorem RpS.start : ∀ {ds : List D} {vs : List V} (n : Nat), Rps K H ds vs → RpS K H (ds.map some ++ List.replicate n none) (vs.map some ++ List.replicate n none)
  | [], _, 0, h => by cases h; exact rfl
  | [], _, n + 1, h => by
    have ih := RpS.start (ds := []) n h
    cases h
    exact ⟨none, _, rfl, (fun _ q => nomatch q), ih⟩
  | d :: ds, _, n, h => by
    obtain ⟨v, r, rfl, h1, h2⟩ := h
    exact ⟨some v, _, rfl, (fun e q => ⟨v, rfl, by cases q; exact h1⟩), RpS.start n h2⟩

theorem liftQ.of {Q : Post} {d : D} {v : V} (r : Rp K H' d v) (s : Sim K G' H') (x : Ext G H G' H') (q : Q d G') : liftQ K G H Q v H' := ⟨d, G', r, s, x, q⟩
theorem liftQ.up {Q : Post} {v : V} (x : Ext G H G1 H1) (h : liftQ K G1 H1 Q v H2) : liftQ K G H Q v H2 := by
  obtain ⟨d, G', r, s, y, q⟩ := h
  exact ⟨d, G', r, s, x.trans y, q⟩
theorem liftB.up {Q : Bool → HD → Prop} {v : Bool} (x : Ext G H G1 H1) (h : liftB K G1 H1 Q v H2) : liftB K G H Q v H2 := by
  obtain ⟨G', s, y, q⟩ := h
  exact ⟨G', s, x.trans y, q⟩
theorem liftA.up {Q : List D → HD → Prop} {v : List V} (x : Ext G H G1 H1) (h : liftA K G1 H1 Q v H2) : liftA K G H Q v H2 := by
  obtain ⟨d, G', r, s, y, q⟩ := h
  exact ⟨d, G', r, s, x.trans y, q⟩
theorem liftN.up {Q : DSt → HD → Prop} {t : St} (x : Ext G H G1 H1) (h : liftN K G1 H1 Q t H2) : liftN K G H Q t H2 := by
  obtain ⟨d, G', r, s, y, q⟩ := h
  exact ⟨d, G', r, s, x.trans y, q⟩
theorem liftW.up {W : DW} {c : Value} {dd : Option Addr} {t : St} (x : Ext G H G1 H1) (h : liftW K G1 H1 W c dd t H2) : liftW K G H W c dd t H2 := by
  obtain ⟨σ, fs, G', r, f, s, y, q⟩ := h
  exact ⟨σ, fs, G', r, f, s, x.trans y, q⟩
theorem liftX.up {W : DX} {c : Value} {dd : Option Addr} (x : Ext G H G1 H1) (h : liftX K G1 H1 W c dd H2) : liftX K G H W c dd H2 := by
  obtain ⟨fs, G', f, s, y, q⟩ := h
  exact ⟨fs, G', f, s, x.trans y, q⟩
end

/-! ### what an expression, a statement is worth, by the model itself -/
section
variable (X : Cx)
def semE (e : Expr) : TE := fun σ H Q => ∀ (pins : List (Addr × Obj)) (s : Shared), Inv X pins σ H s → wpAny (model X.prog X.w) X.A (eval e X.env) (EP X pins σ Q) X.xe s
def semT (e : Expr) : TT := fun σ H Q => ∀ (pins : List (Addr × Obj)) (s : Shared), Inv X pins σ H s → wpAny (model X.prog X.w) X.A (isTrue e X.env (eval e X.env)) (TP X pins σ Q) X.xe s
def semTw (e : Expr) : TT := fun σ H Q => ∀ (wh : Sem Value) (pins : List (Addr × Obj)) (s : Shared), Inv X pins σ H s → wpAny (model X.prog X.w) X.A (isTrue e X.env wh) (TP X pins σ Q) X.xe s
def semA (es : List Expr) : TA := fun σ H Q => ∀ (pos : Pos) (pins : List (Addr × Obj)) (s : Shared), Inv X pins σ H s → wpAny (model X.prog X.w) X.A (spliced (backTo pos (starEach es X.env))) (AP X pins σ Q) X.xe s
def semS (st : Stmt) : TS := fun D σ H => ∀ (pins : List (Addr × Obj)) (s : Shared), Inv X pins σ H s → wpAny (model X.prog X.w) X.A (exec st X.env) (SP X pins D) X.xe s
def semSs (st : List Stmt) : TS := fun D σ H => ∀ (pins : List (Addr × Obj)) (s : Shared), Inv X pins σ H s → wpAny (model X.prog X.w) X.A (execs st X.env) (SP X pins D) X.xe s
end
section
variable {X : Cx} {e : Expr} {st : Stmt} {sts : List Stmt} {es : List Expr} {σ : St} {H : Hp}
theorem peSem : PE X e (semE X e) := ⟨fun pins s _ _ _ I h => h pins s I⟩
theorem ptSem : PT X e (semT X e) := ⟨fun pins s _ _ _ I h => h pins s I⟩
theorem pwSem : PW X e (semTw X e) := ⟨fun wh pins s _ _ _ I h => h wh pins s I⟩
theorem paSem : PA X es (semA X es) := ⟨fun pos pins s _ _ _ I h => h pos pins s I⟩
theorem psSem : PS X st (semS X st) := ⟨fun pins s _ _ _ I h => h pins s I⟩
theorem pssSem : PSs X sts (semSs X sts) := ⟨fun pins s _ _ _ I h => h pins s I⟩
theorem semE.of {t : TE} {Q : VK} (p : PE X e t) (h : t σ H Q) : semE X e σ H Q := fun pins s I => p.run pins s σ H Q I h
theorem semT.of {t : TT} {Q : Bool → Hp → Prop} (p : PT X e t) (h : t σ H Q) : semT X e σ H Q := fun pins s I => p.run pins s σ H Q I h
theorem semTw.of {t : TT} {Q : Bool → Hp → Prop} (p : PW X e t) (h : t σ H Q) : semTw X e σ H Q := fun wh pins s I => p.run wh pins s σ H Q I h
theorem semA.of {t : TA} {Q : List V → Hp → Prop} (p : PA X es t) (h : t σ H Q) : semA X es σ H Q := fun pos pins s I => p.run pos pins s σ H Q I h
theorem semS.of {t : TS} {D : Ends} (p : PS X st t) (h : t D σ H) : semS X st D σ H := fun pins s I => p.run pins s σ H D I h
theorem semSs.of {t : TS} {D : Ends} (p : PSs X sts t) (h : t D σ H) : semSs X sts D σ H := fun pins s I => p.run pins s σ H D I h
theorem semE.imp {Q Q' : VK} (h : semE X e σ H Q) (q : ∀ v H', Q v H' → Q' v H') : semE X e σ H Q' := fun pins s I =>
  thn (h pins s I) fun _ _ ⟨v, H', I', r, z⟩ => ⟨v, H', I', r, q v H' z⟩
theorem semT.imp {Q Q' : Bool → Hp → Prop} (h : semT X e σ H Q) (q : ∀ v H', Q v H' → Q' v H') : semT X e σ H Q' := fun pins s I =>
  thn (h pins s I) fun b _ ⟨H', I', z⟩ => ⟨H', I', q b H' z⟩
theorem semTw.imp {Q Q' : Bool → Hp → Prop} (h : semTw X e σ H Q) (q : ∀ v H', Q v H' → Q' v H') : semTw X e σ H Q' := fun wh pins s I =>
  thn (h wh pins s I) fun b _ ⟨H', I', z⟩ => ⟨H', I', q b H' z⟩
theorem semA.imp {Q Q' : List V → Hp → Prop} (h : semA X es σ H Q) (q : ∀ v H', Q v H' → Q' v H') : semA X es σ H Q' := fun pos pins s I =>
  thn (h pos pins s I) fun _ _ ⟨v, H', I', r, z⟩ => ⟨v, H', I', r, q v H' z⟩
/-- ends that are implied -/
structure EndsLe (D D' : Ends) : Prop where
  nx : ∀ t H', D.nx t H' → D'.nx t H'
  rt : ∀ v H', D.rt v H' → D'.rt v H'
  bk : ∀ t H', D.bk t H' → D'.bk t H'
  ct : ∀ t H', D.ct t H' → D'.ct t H'
theorem spLe {pins : List (Addr × Obj)} {D D' : Ends} (l : EndsLe D D') (f : Flow) (s' : Shared) (h : SP X pins D f s') : SP X pins D' f s' := by
  cases f with
  | next => obtain ⟨a, b, c, d⟩ := h; exact ⟨a, b, c, l.nx _ _ d⟩
  | brk => obtain ⟨a, b, c, d⟩ := h; exact ⟨a, b, c, l.bk _ _ d⟩
  | cont => obtain ⟨a, b, c, d⟩ := h; exact ⟨a, b, c, l.ct _ _ d⟩
  | ret u => obtain ⟨v, a, b, c, r, d⟩ := h; exact ⟨v, a, b, c, r, l.rt _ _ d⟩
theorem semS.imp {D D' : Ends} (h : semS X st D σ H) (l : EndsLe D D') : semS X st D' σ H := fun pins s I => thn (h pins s I) (spLe l)
theorem semSs.imp {D D' : Ends} (h : semSs X sts D σ H) (l : EndsLe D D') : semSs X sts D' σ H := fun pins s I => thn (h pins s I) (spLe l)
end

/-! ### the judgements -/
structure SR (X : Cx) (G : HD) (H : Hp) (σ : DSt) (t : St) (W : DW) : Prop where
  sim : Sim X.K G H
  slots : RpS X.K H σ t
  takes : Takes X (liftW X.K G H W)
section
variable {X : Cx} {G G1 : HD} {H H1 : Hp} {σ : DSt} {t : St} {W : DW}
theorem SR.ext (r : SR X G H σ t W) (s : Sim X.K G1 H1) (x : Ext G H G1 H1) : SR X G1 H1 σ t W :=
  ⟨s, r.slots.ext r.sim x _ _, r.takes.imp fun _ _ _ _ h => h.up x⟩
theorem SR.slot (r : SR X G H σ t W) {σ' : DSt} {t' : St} (h : RpS X.K H σ' t') : SR X G H σ' t' W := ⟨r.sim, h, r.takes⟩
end
structure DE (X : Cx) (e : Expr) (t : TD) : Prop where
  run : ∀ (G : HD) (H : Hp) (σ : DSt) (τ : St) (W : DW) (Q : Post), SR X G H σ τ W → t W σ G Q → semE X e τ H (liftQ X.K G H Q)
structure DT (X : Cx) (e : Expr) (t : TDT) : Prop where
  run : ∀ (G : HD) (H : Hp) (σ : DSt) (τ : St) (W : DW) (Q : Bool → HD → Prop), SR X G H σ τ W → t W σ G Q → semT X e τ H (liftB X.K G H Q)
structure DTw (X : Cx) (e : Expr) (t : TDT) : Prop where
  run : ∀ (G : HD) (H : Hp) (σ : DSt) (τ : St) (W : DW) (Q : Bool → HD → Prop), SR X G H σ τ W → t W σ G Q → semTw X e τ H (liftB X.K G H Q)
structure DA (X : Cx) (es : List Expr) (t : TDA) : Prop where
  run : ∀ (G : HD) (H : Hp) (σ : DSt) (τ : St) (W : DW) (Q : List D → HD → Prop), SR X G H σ τ W → t W σ G Q → semA X es τ H (liftA X.K G H Q)
structure DS (X : Cx) (st : Stmt) (t : TDS) : Prop where
  run : ∀ (G : HD) (H : Hp) (σ : DSt) (τ : St) (W : DW) (D : DEnds), SR X G H σ τ W → t W D σ G → semS X st (liftD X.K G H D) τ H
structure DSs (X : Cx) (st : List Stmt) (t : TDS) : Prop where
  run : ∀ (G : HD) (H : Hp) (σ : DSt) (τ : St) (W : DW) (D : DEnds), SR X G H σ τ W → t W D σ G → semSs X st (liftD X.K G H D) τ H

section
variable {X : Cx} {a b e : Expr} {ta tb : TD} {es : List Expr} {ts : TDA}
/-- then: the next expression, in the state behind the first -/
theorem DE.then (h : DE X a ta) {G : HD} {H : Hp} {σ : DSt} {τ : St} {W : DW} {R : D → HD → Prop} {Q : VK} (r : SR X G H σ τ W) (q : ta W σ G R)
    (k : ∀ d v G1 H1, SR X G1 H1 σ τ W → Ext G H G1 H1 → Rp X.K H1 d v → R d G1 → Q v H1) : semE X a τ H Q :=
  (h.run G H σ τ W R r q).imp fun v H1 ⟨d, G1, r1, s1, x1, q1⟩ => k d v G1 H1 (r.ext s1 x1) x1 r1 q1
theorem DT.then {t : TDT} (h : DT X a t) {G : HD} {H : Hp} {σ : DSt} {τ : St} {W : DW} {R : Bool → HD → Prop} {Q : Bool → Hp → Prop} (r : SR X G H σ τ W) (q : t W σ G R)
    (k : ∀ d G1 H1, SR X G1 H1 σ τ W → Ext G H G1 H1 → R d G1 → Q d H1) : semT X a τ H Q :=
  (h.run G H σ τ W R r q).imp fun v H1 ⟨G1, s1, x1, q1⟩ => k v G1 H1 (r.ext s1 x1) x1 q1
theorem DTw.then {t : TDT} (h : DTw X a t) {G : HD} {H : Hp} {σ : DSt} {τ : St} {W : DW} {R : Bool → HD → Prop} {Q : Bool → Hp → Prop} (r : SR X G H σ τ W) (q : t W σ G R)
    (k : ∀ d G1 H1, SR X G1 H1 σ τ W → Ext G H G1 H1 → R d G1 → Q d H1) : semTw X a τ H Q :=
  (h.run G H σ τ W R r q).imp fun v H1 ⟨G1, s1, x1, q1⟩ => k v G1 H1 (r.ext s1 x1) x1 q1
theorem DA.then (h : DA X es ts) {G : HD} {H : Hp} {σ : DSt} {τ : St} {W : DW} {R : List D → HD → Prop} {Q : List V → Hp → Prop} (r : SR X G H σ τ W) (q : ts W σ G R)
    (k : ∀ ds vs G1 H1, SR X G1 H1 σ τ W → Ext G H G1 H1 → Rps X.K H1 ds vs → R ds G1 → Q vs H1) : semA X es τ H Q :=
  (h.run G H σ τ W R r q).imp fun v H1 ⟨d, G1, r1, s1, x1, q1⟩ => k d v G1 H1 (r.ext s1 x1) x1 r1 q1

/-! ### names, constants -/
def dVar (i : Nat) : TD := fun _ σ G Q => match σ[i]? with
  | some (some d) => Q d G
  | _ => False
def dC (d : D) : TD := fun _ _ G Q => Q d G
theorem de_var {i : Nat} {x : Str} {pos : Pos} (p : PE X (.Name x pos) (tVar i)) : DE X (.Name x pos) (dVar i) := ⟨fun G H σ τ W Q r h => by
  refine semE.of p ?_
  unfold dVar at h
  split at h
  · rename_i d e
    obtain ⟨v, e1, r1⟩ := r.slots.get e
    exact ⟨v, e1, .of r1 r.sim .refl h⟩
  · exact h.elim⟩
/-- a slot -/
theorem dv (i : Nat) {x : Str} {pos : Pos} (hN : X.N[i]? = some x := by rfl) (hv : Vis X.env.scope x := by first | exact Or.inl rfl | exact Or.inr (Or.inl rfl) | exact Or.inr (Or.inr rfl)) (hd : (x == ("__debug__" : Str)) = false := by decide)
    (hcd : (x == ("__classdict__" : Str)) = false := by decide) : DE X (.Name x pos) (dVar i) := de_var (pe_var hN hv hd hcd)
theorem de_const {v : V} {d : D} (p : PE X e (tC v)) (h : ∀ K H, Rp K H d v) : DE X e (dC d) := ⟨fun G H σ τ W Q r q => semE.of p (.of (h _ _) r.sim .refl q)⟩
theorem de_int {i j pos} : DE X (.Constant (.int i) j pos) (dC (.int i)) := de_const pe_int fun _ _ => rfl
theorem de_bl {i j pos} : DE X (.Constant (.bool i) j pos) (dC (.bl i)) := de_const pe_bl fun _ _ => rfl
theorem de_non {j pos} : DE X (.Constant .none j pos) (dC .non) := de_const pe_non fun _ _ => rfl
theorem de_str {i j pos} : DE X (.Constant (.str i) j pos) (dC (.str i)) := de_const pe_str fun _ _ => rfl
/-- a constant of the module -/
theorem de_glob {x : Str} {d : D} {v : V} {u : Value} {pos : Pos} (hg : Gl X x) (hm : X.mg x = some u) (r : RelV v u) (h : ∀ H, Rp X.K H d v) (hd : (x == ("__debug__" : Str)) = false := by decide) : DE X (.Name x pos) (dC d) :=
  ⟨fun G H σ τ W Q r' q => semE.of (pe_glob hg hm r hd) (.of (h _) r'.sim .refl q)⟩
/-- a built-in type by its name -/
theorem de_bty {x : Str} {n : String} {pos : Pos} (hg : Gl X x) (hm : X.mg x = none) (hv : bootBuiltins x = some (.type n)) (hn : x ≠ "__name__" := by decide) (hd : (x == ("__debug__" : Str)) = false := by decide) : DE X (.Name x pos) (dC (.ty n)) :=
  ⟨fun G H σ τ W Q r' q => semE.of (pe_bltn (v := .ty n) hg hm hv rfl hn hd) (.of (d := .ty n) (show Rp X.K H (.ty n) (.ty n) from rfl) r'.sim .refl q)⟩

/-! ### operators by values -/
/-- a reading of values over data -/
def OpD (K : PySem.W.Frag) (r : R2) (rd : D → D → HD → Post → Prop) : Prop :=
  ∀ (G : HD) (H : Hp) (d e : D) (x y : V) (Q : Post) (Q' : VK), Sim K G H → Rp K H d x → Rp K H e y → (∀ v H', liftQ K G H Q v H' → Q' v H') → rd d e G Q → r x y H Q'
def dOp (rd : D → D → HD → Post → Prop) (ta tb : TD) : TD := fun W σ G Q => ta W σ G fun d G1 => tb W σ G1 fun e G2 => rd d e G2 Q
theorem de_two {r : R2} {rd : D → D → HD → Post → Prop} (hd : OpD X.K r rd) (p : PE X e (tOp r (semE X a) (semE X b))) (ha : DE X a ta) (hb : DE X b tb) : DE X e (dOp rd ta tb) :=
  ⟨fun G H σ τ W Q r0 h => semE.of p (ha.then r0 h fun d x G1 H1 r1 x1 k1 q1 => hb.then r1 q1 fun d2 y G2 H2 r2 x2 k2 q2 =>
    hd G2 H2 d d2 x y Q _ r2.sim (k1.ext r1.sim x2 _ _) k2 (fun _ _ z => z.up (x1.trans x2)) q2)⟩
theorem de_op {op : Operator} {r : R2} {rd : D → D → HD → Post → Prop} {pos : Pos} (ho : OpR X (binaryOp op) r) (hd : OpD X.K r rd) (ha : DE X a ta) (hb : DE X b tb) : DE X (.BinOp a op b pos) (dOp rd ta tb) :=
  de_two hd (pe_op ho peSem peSem) ha hb
theorem de_cmp {op : CmpOp} {r : R2} {rd : D → D → HD → Post → Prop} {pos : Pos} (ho : OpR X (compareOp op) r) (hd : OpD X.K r rd) (ha : DE X a ta) (hb : DE X b tb) (hm : behindInMarks op b = false) : DE X (.Compare a [op] [b] pos) (dOp rd ta tb) :=
  de_two hd (pe_cmpR ho peSem peSem hm) ha hb
theorem de_ix {r : R2} {rd : D → D → HD → Post → Prop} {pos : Pos} (ho : IxR X r) (hd : OpD X.K r rd) (ha : DE X a ta) (hb : DE X b tb) (hs : PlainIx b) : DE X (.Subscript a b pos) (dOp rd ta tb) :=
  de_two hd (pe_ix ho peSem peSem hs) ha hb
def dTest (t : TD) : TDT := fun W σ G Q => t W σ G fun d G1 => match d with
  | .bl k => Q k G1
  | _ => False
theorem dt_cmp {op : CmpOp} {r : R2} {rd : D → D → HD → Post → Prop} {pos : Pos} (ho : OpR X (compareOp op) r) (hd : OpD X.K r rd) (ha : DE X a ta) (hb : DE X b tb) (hm : behindInMarks op b = false) : DT X (.Compare a [op] [b] pos) (dTest (dOp rd ta tb)) :=
  ⟨fun G H σ τ W Q r0 h => semT.of (pt_cmpR ho peSem peSem hm) (ha.then r0 h fun d x G1 H1 r1 x1 k1 q1 => hb.then r1 q1 fun d2 y G2 H2 r2 x2 k2 q2 =>
    hd G2 H2 d d2 x y _ _ r2.sim (k1.ext r1.sim x2 _ _) k2 (fun v H' ⟨d3, G3, k3, s3, x3, q3⟩ => by
      cases d3 with
      | bl k => exact ⟨k, k3, G3, s3, (x1.trans x2).trans x3, q3⟩
      | _ => exact q3.elim) q2)⟩
theorem OpD.or {K : PySem.W.Frag} {r r' : R2} {rd : D → D → HD → Post → Prop} {rd' : D → D → HD → Post → Prop} (h : OpD K r rd) (h' : OpD K r' rd') :
    OpD K (fun x y H Q => r x y H Q ∨ r' x y H Q) (fun d e G Q => rd d e G Q ∨ rd' d e G Q) := fun G H d e x y Q Q' s k1 k2 f q => q.elim (fun z => .inl (h G H d e x y Q Q' s k1 k2 f z)) fun z => .inr (h' G H d e x y Q Q' s k1 k2 f z)
end
end DL

namespace DL
open PySem PySem.Spec L2
open PyProof.Rows hiding St

section
variable {K : PySem.W.Frag} {G : HD} {H : Hp}
/-- a list that is read: one of ours, or one that never changes -/
def asL (G : HD) : D → Option (List D)
  | .kl ds => some ds
  | .kc ds => some ds
  | .ref a => match G a with
    | some (.lst ds) => some ds
    | _ => none
  | _ => none
def asQ (G : HD) : D → Option (List D)
  | .tup ds => some ds
  | d => asL G d
theorem Rp.lst (s : Sim K G H) {d : D} {v : V} {ds : List D} (r : Rp K H d v) (h : asL G d = some ds) : ∃ a vs, v = .ref a ∧ SqL K H a vs ∧ Rps K H ds vs := by
  cases d with
  | kl es =>
    cases h
    obtain ⟨a, vs, rfl, ⟨o, t⟩, q⟩ := r
    exact ⟨a, vs, rfl, .inl (.inr ⟨o, t⟩), q⟩
  | kc es =>
    cases h
    obtain ⟨a, vs, rfl, t, q⟩ := r
    refine ⟨a, vs, rfl, ?_, q⟩
    rcases t with ⟨o, t⟩ | t
    · exact .inl (.inr ⟨o, t⟩)
    · exact .inr t
  | exc _ _ _ => cases h
  | emp => cases h
  | fn _ _ _ _ _ => cases h
  | ref a =>
    cases (show v = .ref a from r)
    simp only [asL] at h
    split at h
    · rename_i es e
      cases h
      obtain ⟨vs, e1, r1⟩ := s.lst e
      exact ⟨a, vs, rfl, .of e1, r1⟩
    · cases h
  | non => cases h
  | bl _ => cases h
  | int _ => cases h
  | str _ => cases h
  | ty _ => cases h
  | tup _ => cases h
theorem Rp.seq (s : Sim K G H) {d : D} {v : V} {ds : List D} (r : Rp K H d v) (h : asQ G d = some ds) : ∃ a vs, v = .ref a ∧ (SqL K H a vs ∨ SqT K H a vs) ∧ Rps K H ds vs := by
  by_cases z : ∃ es, d = .tup es
  · obtain ⟨es, rfl⟩ := z
    cases h
    obtain ⟨a, vs, rfl, t, q⟩ := r
    exact ⟨a, vs, rfl, .inr t, q⟩
  · have h' : asL G d = some ds := by
      cases d with
      | tup es => exact (z ⟨es, rfl⟩).elim
      | _ => exact h
    obtain ⟨a, vs, e, t, q⟩ := r.lst s h'
    exact ⟨a, vs, e, .inl t, q⟩
end
/-- a new list -/
def newL (G : HD) (ds : List D) (Q : Post) : Prop := ∀ p, G p = none → Q (.ref p) (put G p (.lst ds))
theorem newL.fin {K : PySem.W.Frag} {G : HD} {H : Hp} {ds : List D} {vs : List V} {Q : Post} {Q' : VK} (s : Sim K G H) (r : Rps K H ds vs) (f : ∀ v H', liftQ K G H Q v H' → Q' v H') (q : newL G ds Q) :
    ∀ p, H p = none → Q' (.ref p) (upd H p (.lst vs)) := fun p hp =>
  f _ _ (.of (d := .ref p) rfl (s.newM (m := .lst ds) hp ⟨vs, rfl, r⟩) (.newM hp) (q p (s.no hp)))
theorem newT.fin {K : PySem.W.Frag} {G : HD} {H : Hp} {ds : List D} {vs : List V} {Q : Post} {Q' : VK} (s : Sim K G H) (r : Rps K H ds vs) (f : ∀ v H', liftQ K G H Q v H' → Q' v H') (q : Q (.tup ds) G) :
    ∀ p, H p = none → Q' (.ref p) (upd H p (.tup vs)) := fun p hp =>
  f _ _ (.of (d := .tup ds) ⟨p, vs, rfl, .of upd_same, r.ext s (Ext.new hp (s.no hp)) _ _⟩ (s.newO hp) (.new hp (s.no hp)) q)

/-! ### + - * // % ** -/
def dAdd : D → D → HD → Post → Prop := fun d e G Q => match d, e with
  | .int i, .int j => Q (.int (i + j)) G
  | .str x, .str y => x.length + y.length ≤ sizeLine ∧ Q (.str (x ++ y)) G
  | .tup xs, .tup ys => xs.length + ys.length ≤ sizeLine ∧ Q (.tup (xs ++ ys)) G
  | .ref a, .ref b => match G a, G b with
    | some (.lst xs), some (.lst ys) => xs.length + ys.length ≤ sizeLine ∧ newL G (xs ++ ys) Q
    | _, _ => False
  | _, _ => False
def rAddU (K : PySem.W.Frag) : R2 := fun x y H Q => rI0 (fun i j => .int (i + j)) x y H Q ∨ (∃ i j, x = .str i ∧ y = .str j ∧ i.length + j.length ≤ sizeLine ∧ Q (.str (i ++ j)) H) ∨ rCatA K x y H Q ∨ rCat x y H Q
theorem od_add (K : PySem.W.Frag) : OpD K (rAddU K) dAdd := fun G H d e x y Q Q' s k1 k2 f q => by
  unfold dAdd at q
  split at q
  · cases k1; cases k2
    exact .inl ⟨_, _, rfl, rfl, f _ _ (.of (d := .int _) rfl s .refl q)⟩
  · cases k1; cases k2
    exact .inr (.inl ⟨_, _, rfl, rfl, q.1, f _ _ (.of (d := .str _) rfl s .refl q.2)⟩)
  · rename_i xs ys
    obtain ⟨a, vs, rfl, t1, r1⟩ := id k1
    obtain ⟨b, ws, rfl, t2, r2⟩ := id k2
    refine .inr (.inr (.inl ⟨a, b, vs, ws, rfl, rfl, t1, t2, by rw [r1.length, r2.length]; exact q.1, fun e => ?_, fun _ e => ?_, fun _ _ => newT.fin s (r1.app r2) f q.2⟩))
    · subst e
      have e1 : xs = [] := List.eq_nil_of_length_eq_zero (by rw [← r1.length]; rfl)
      subst e1
      exact f _ _ (.of (d := .tup ys) k2 s .refl q.2)
    · subst e
      have e1 : ys = [] := List.eq_nil_of_length_eq_zero (by rw [← r2.length]; rfl)
      subst e1
      exact f _ _ (.of (d := .tup xs) k1 s .refl (by simpa using q.2))
  · split at q
    · rename_i xs ys e1 e2
      cases k1; cases k2
      obtain ⟨vs, g1, r1⟩ := s.lst e1
      obtain ⟨ws, g2, r2⟩ := s.lst e2
      exact .inr (.inr (.inr ⟨_, _, vs, ws, rfl, rfl, g1, g2, by rw [r1.length, r2.length]; exact q.1, newL.fin s (r1.app r2) f q.2⟩))
    · exact q.elim
  · exact q.elim
def dSub : D → D → HD → Post → Prop := fun d e G Q => match d, e with
  | .int i, .int j => Q (.int (i - j)) G
  | _, _ => False
theorem od_int {K : PySem.W.Frag} {C : Int → Int → Prop} {g : Int → Int → V} {gd : Int → Int → D} (hg : ∀ i j K H, Rp K H (gd i j) (g i j)) :
    OpD K (rI C g) (fun d e G Q => match d, e with | .int i, .int j => C i j ∧ Q (gd i j) G | _, _ => False) := fun G H d e x y Q Q' s k1 k2 f q => by
  dsimp only at q
  split at q
  · cases k1; cases k2
    exact ⟨_, _, rfl, rfl, q.1, f _ _ (.of (hg _ _ _ _) s .refl q.2)⟩
  · exact q.elim
theorem od_int0 {K : PySem.W.Frag} {g : Int → Int → V} {gd : Int → Int → D} (hg : ∀ i j K H, Rp K H (gd i j) (g i j)) :
    OpD K (rI0 g) (fun d e G Q => match d, e with | .int i, .int j => Q (gd i j) G | _, _ => False) := fun G H d e x y Q Q' s k1 k2 f q => by
  dsimp only at q
  split at q
  · cases k1; cases k2
    exact ⟨_, _, rfl, rfl, f _ _ (.of (hg _ _ _ _) s .refl q)⟩
  · exact q.elim
theorem od_sub (K : PySem.W.Frag) : OpD K (rI0 fun i j => .int (i - j)) dSub := od_int0 (gd := fun i j => .int (i - j)) fun _ _ _ _ => rfl
def MulOk (i j : Int) : Prop := CMul i j ∨ CMulW i j
def dMul : D → D → HD → Post → Prop := fun d e G Q => match d, e with
  | .int i, .int j => MulOk i j ∧ Q (.int (i * j)) G
  | _, _ => False
def rMulU : R2 := fun x y H Q => rI CMul (fun i j => .int (i * j)) x y H Q ∨ rI CMulW (fun i j => .int (i * j)) x y H Q
theorem od_mul (K : PySem.W.Frag) : OpD K rMulU dMul := fun G H d e x y Q Q' s k1 k2 f q => by
  unfold dMul at q
  split at q
  · cases k1; cases k2
    exact q.1.elim (fun z => .inl ⟨_, _, rfl, rfl, z, f _ _ (.of (d := .int _) rfl s .refl q.2)⟩) fun z => .inr ⟨_, _, rfl, rfl, z, f _ _ (.of (d := .int _) rfl s .refl q.2)⟩
  · exact q.elim
def dDiv : D → D → HD → Post → Prop := fun d e G Q => match d, e with
  | .int i, .int j => CDivW i j ∧ Q (.int (i / j)) G
  | _, _ => False
theorem od_div (K : PySem.W.Frag) : OpD K (rI CDivW fun i j => .int (i / j)) dDiv := od_int (gd := fun i j => .int (i / j)) fun _ _ _ _ => rfl
def dMod : D → D → HD → Post → Prop := fun d e G Q => match d, e with
  | .int i, .int j => 0 < j ∧ Q (.int (i % j)) G
  | _, _ => False
theorem od_mod (K : PySem.W.Frag) : OpD K (rI (fun _ j => 0 < j) fun i j => .int (i % j)) dMod := od_int (gd := fun i j => .int (i % j)) fun _ _ _ _ => rfl
def dPow : D → D → HD → Post → Prop := fun d e G Q => match d, e with
  | .int i, .int j => CPow i j ∧ Q (.int (i ^ j.toNat)) G
  | _, _ => False
theorem od_pow (K : PySem.W.Frag) : OpD K (rI CPow fun i j => .int (i ^ j.toNat)) dPow := od_int (gd := fun i j => .int (i ^ j.toNat)) fun _ _ _ _ => rfl
section
variable {X : Cx} {a b : Expr} {ta tb : TD} {pos : Pos}
theorem de_add (ha : DE X a ta) (hb : DE X b tb) : DE X (.BinOp a .Add b pos) (dOp dAdd ta tb) := de_op (op_add.or (op_add_str.or (op_catA.or op_cat))) (od_add X.K) ha hb
theorem de_sub (ha : DE X a ta) (hb : DE X b tb) : DE X (.BinOp a .Sub b pos) (dOp dSub ta tb) := de_op op_sub (od_sub X.K) ha hb
theorem de_mul (ha : DE X a ta) (hb : DE X b tb) : DE X (.BinOp a .Mult b pos) (dOp dMul ta tb) := de_op (op_mul.or op_mulW) (od_mul X.K) ha hb
theorem de_div (ha : DE X a ta) (hb : DE X b tb) : DE X (.BinOp a .FloorDiv b pos) (dOp dDiv ta tb) := de_op op_fdivW (od_div X.K) ha hb
theorem de_mod (ha : DE X a ta) (hb : DE X b tb) : DE X (.BinOp a .Mod b pos) (dOp dMod ta tb) := de_op op_mod (od_mod X.K) ha hb
theorem de_pow (ha : DE X a ta) (hb : DE X b tb) : DE X (.BinOp a .Pow b pos) (dOp dPow ta tb) := de_op op_pow (od_pow X.K) ha hb
end

/-! ### comparisons -/
def dCmpI (p : Int → Int → Bool) : D → D → HD → Post → Prop := fun d e G Q => match d, e with
  | .int i, .int j => Q (.bl (p i j)) G
  | _, _ => False
theorem od_cmpI (K : PySem.W.Frag) (p : Int → Int → Bool) : OpD K (rI0 fun i j => .bl (p i j)) (dCmpI p) := od_int0 (gd := fun i j => .bl (p i j)) fun _ _ _ _ => rfl
def isNon : D → Bool
  | .non => true
  | _ => false
theorem isNon_of {K : PySem.W.Frag} {H : Hp} {d : D} {v : V} (r : Rp K H d v) : decide (v = .non) = isNon d := by
  cases d with
  | non => cases r; rfl
  | bl _ => cases r; rfl
  | int _ => cases r; rfl
  | str _ => cases r; rfl
  | ty _ => cases r; rfl
  | ref _ => cases r; rfl
  | tup _ => obtain ⟨_, _, rfl, _⟩ := r; rfl
  | kl _ => obtain ⟨_, _, rfl, _⟩ := r; rfl
  | kc _ => obtain ⟨_, _, rfl, _⟩ := r; rfl
  | exc _ _ _ => obtain ⟨_, _, _, rfl, _⟩ := r; rfl
  | emp => obtain ⟨_, _, rfl, _⟩ := r; rfl
  | fn _ _ _ _ _ => obtain ⟨rfl, _⟩ := r; rfl
def dIsN (neg : Bool) : D → D → HD → Post → Prop := fun d e G Q => match e with
  | .non => Q (.bl (if neg then !isNon d else isNon d)) G
  | _ => False
theorem od_isN (K : PySem.W.Frag) : OpD K (fun x y H Q => y = .non ∧ Q (.bl (decide (x = .non))) H) (dIsN false) := fun G H d e x y Q Q' s k1 k2 f q => by
  unfold dIsN at q
  split at q
  · cases k2
    refine ⟨rfl, f _ _ (.of (d := .bl (isNon d)) ?_ s .refl q)⟩
    rw [isNon_of k1]; exact rfl
  · exact q.elim
theorem od_notN (K : PySem.W.Frag) : OpD K (fun x y H Q => y = .non ∧ Q (.bl (!decide (x = .non))) H) (dIsN true) := fun G H d e x y Q Q' s k1 k2 f q => by
  unfold dIsN at q
  split at q
  · cases k2
    refine ⟨rfl, f _ _ (.of (d := .bl (!isNon d)) ?_ s .refl q)⟩
    rw [isNon_of k1]; exact rfl
  · exact q.elim

/-! == and != of data -/
/-- data by value, as the library's PyData; fuel: its depth -/
def pyD : Nat → HD → D → Option PyData
  | 0, _, _ => none
  | n + 1, G, d => match d with
    | .non => some .none
    | .bl b => some (.bool b)
    | .int i => some (.int i)
    | .str x => if PyData.strOk x = true then some (.str x) else none
    | .tup ds => (ds.mapM (pyD n G)).map .tuple
    | .kl ds => (ds.mapM (pyD n G)).map .list
    | .kc ds => (ds.mapM (pyD n G)).map .list
    | .exc _ _ _ => none
    | .emp => none
    | .fn _ _ _ _ _ => none
    | .ref a => match G a with
      | some (.lst ds) => (ds.mapM (pyD n G)).map .list
      | _ => none
    | .ty _ => none
section
variable {K : PySem.W.Frag} {G : HD} {H : Hp}
theorem mapM_cons_some {α β : Type} {f : α → Option β} {a : α} {l : List α} {ys : List β} (h : (a :: l).mapM f = some ys) : ∃ y zs, f a = some y ∧ l.mapM f = some zs ∧ ys = y :: zs := by
  rw [List.mapM_cons] at h
  cases e : f a with
  | none => rw [e] at h; cases h
  | some y =>
    rw [e] at h
    cases e2 : l.mapM f with
    | none => rw [e2] at h; cases h
    | some zs => rw [e2] at h; cases h; exact ⟨y, zs, rfl, rfl, rfl⟩
theorem pyDs_dp {n : Nat} (s : Sim K G H) (ih : ∀ (d : D) (v : V) (p : PyData), pyD n G d = some p → Rp K H d v → Dp K H v p ∧ p.canLay0 = true ∧ p.depth ≤ n) :
    ∀ (ds : List D) (vs : List V) (ps : List PyData), ds.mapM (pyD n G) = some ps → Rps K H ds vs → DpAll K H vs ps ∧ PyData.canLayAll0 ps = true ∧ PyData.depthAll ps ≤ n
  | [], vs, ps, h, r => by
    cases r
    simp only [List.mapM_nil, Option.pure_def, Option.some.injEq] at h
    subst h
    exact ⟨.nil, by simp only [PyData.canLayAll0], by simp only [PyData.depthAll]; exact Nat.zero_le _⟩
  | d :: ds, vs, ps, h, r => by
    obtain ⟨y, zs, e1, e2, rfl⟩ := mapM_cons_some h
    obtain ⟨v, r', rfl, h1, h2⟩ := r
    obtain ⟨a1, a2, a3⟩ := ih d v y e1 h1
    obtain ⟨b1, b2, b3⟩ := pyDs_dp s ih ds r' zs e2 h2
    refine ⟨.cons a1 b1, by simp only [PyData.canLayAll0, a2, b2, Bool.and_self], ?_⟩
    simp only [PyData.depthAll]
    omega
theorem pyD_dp (s : Sim K G H) : ∀ (n : Nat) (d : D) (v : V) (p : PyData), pyD n G d = some p → Rp K H d v → Dp K H v p ∧ p.canLay0 = true ∧ p.depth ≤ n
  | 0, _, _, _, h, _ => by cases h
  | n + 1, d, v, p, h, r => by
    cases d with
    | non => cases h; cases r; exact ⟨.non, by simp only [PyData.canLay0], by simp only [PyData.depth]; omega⟩
    | bl b => cases h; cases r; exact ⟨.bl b, by simp only [PyData.canLay0], by simp only [PyData.depth]; omega⟩
    | int i => cases h; cases r; exact ⟨.int i, by simp only [PyData.canLay0], by simp only [PyData.depth]; omega⟩
    | str x =>
      unfold pyD at h
      simp only at h
      split at h
      · rename_i hx
        cases h; cases r; exact ⟨.str x, by simp only [PyData.canLay0, hx], by simp only [PyData.depth]; omega⟩
      · cases h
    | ty _ => cases h
    | tup ds =>
      unfold pyD at h
      simp only [Option.map_eq_some_iff] at h
      obtain ⟨ps, e, rfl⟩ := h
      obtain ⟨a, vs, rfl, t, r2⟩ := r
      obtain ⟨x1, x2, x3⟩ := pyDs_dp s (pyD_dp s n) ds vs ps e r2
      exact ⟨.tup t x1, by simp only [PyData.canLay0, x2], by simp only [PyData.depth]; omega⟩
    | kl ds =>
      have r0 := r
      unfold pyD at h
      simp only [Option.map_eq_some_iff] at h
      obtain ⟨ps, e, rfl⟩ := h
      obtain ⟨a, vs, rfl, t, r2⟩ := Rp.lst (ds := ds) s r rfl
      obtain ⟨x1, x2, x3⟩ := pyDs_dp s (pyD_dp s n) ds vs ps e r2
      exact ⟨.lst t x1, by simp only [PyData.canLay0, x2], by simp only [PyData.depth]; omega⟩
    | kc ds =>
      have r0 := r
      unfold pyD at h
      simp only [Option.map_eq_some_iff] at h
      obtain ⟨ps, e, rfl⟩ := h
      obtain ⟨a, vs, rfl, t, r2⟩ := Rp.lst (ds := ds) s r rfl
      obtain ⟨x1, x2, x3⟩ := pyDs_dp s (pyD_dp s n) ds vs ps e r2
      exact ⟨.lst t x1, by simp only [PyData.canLay0, x2], by simp only [PyData.depth]; omega⟩
    | exc _ _ _ => cases h
    | emp => cases h
    | fn _ _ _ _ _ => cases h
    | ref a =>
      unfold pyD at h
      simp only at h
      split at h
      · rename_i ds eg
        simp only [Option.map_eq_some_iff] at h
        obtain ⟨ps, e, rfl⟩ := h
        cases r
        obtain ⟨vs, e1, r2⟩ := s.lst eg
        obtain ⟨x1, x2, x3⟩ := pyDs_dp s (pyD_dp s n) ds vs ps e r2
        exact ⟨.lst (.of e1) x1, by simp only [PyData.canLay0, x2], by simp only [PyData.depth]; omega⟩
      · cases h
theorem pyD_shaped {n : Nat} (s : Sim K G H) {d : D} {v : V} {p : PyData} (h : pyD n G d = some p) (hn : n ≤ 64) (r : Rp K H d v) : Dp K H v p ∧ SeqAt.shaped p = true := by
  obtain ⟨a, b, c⟩ := pyD_dp s n d v p h r
  exact ⟨a, by unfold SeqAt.shaped; rw [b, decide_eq_true (Nat.le_trans c hn)]; rfl⟩
end
/-- the answer of == -/
def eqO (G : HD) (d e : D) : Option Bool := match pyD 9 G d, pyD 9 G e with
  | some p, some q => some (PyData.eqv p q)
  | _, _ => none
def dEq (neg : Bool) : D → D → HD → Post → Prop := fun d e G Q => match eqO G d e with
  | some b => Q (.bl (if neg then !b else b)) G
  | none => False
theorem eqO_some {G : HD} {d e : D} {b : Bool} (h : eqO G d e = some b) : ∃ p q, pyD 9 G d = some p ∧ pyD 9 G e = some q ∧ b = PyData.eqv p q := by
  unfold eqO at h
  split at h
  · rename_i p q e1 e2
    cases h
    exact ⟨p, q, e1, e2, rfl⟩
  · cases h
theorem od_eq (K : PySem.W.Frag) : OpD K (rEqD K) (dEq false) := fun G H d e x y Q Q' s k1 k2 f q => by
  unfold dEq at q
  split at q
  · rename_i b hb
    obtain ⟨p1, p2, e1, e2, rfl⟩ := eqO_some hb
    obtain ⟨a1, a2⟩ := pyD_shaped s e1 (by decide) k1
    obtain ⟨b1, b2⟩ := pyD_shaped s e2 (by decide) k2
    exact ⟨p1, p2, a1, b1, a2, b2, f _ _ (.of (d := .bl _) rfl s .refl q)⟩
  · exact q.elim
theorem od_ne (K : PySem.W.Frag) : OpD K (rNeD K) (dEq true) := fun G H d e x y Q Q' s k1 k2 f q => by
  unfold dEq at q
  split at q
  · rename_i b hb
    obtain ⟨p1, p2, e1, e2, rfl⟩ := eqO_some hb
    obtain ⟨a1, a2⟩ := pyD_shaped s e1 (by decide) k1
    obtain ⟨b1, b2⟩ := pyD_shaped s e2 (by decide) k2
    exact ⟨p1, p2, a1, b1, a2, b2, f _ _ (.of (d := .bl _) rfl s .refl q)⟩
  · exact q.elim

/-! ### items -/
theorem Rps.at {K : PySem.W.Frag} {H : Hp} {ds : List D} {vs : List V} {i : Int} {d : D} (r : Rps K H ds vs) (h : atI ds i = some d) : ∃ v, atI vs i = some v ∧ Rp K H d v := by
  unfold atI at h ⊢
  rw [r.length]
  cases e : ixN ds.length i with
  | none => rw [e] at h; cases h
  | some j => rw [e] at h; exact r.get h
def dIx : D → D → HD → Post → Prop := fun d e G Q => match e with
  | .int i => match d with
    | .str z => z.length ≤ sizeLine ∧ match atI z.cps.toList i with
      | some c => Q (.str ⟨#[c]⟩) G
      | none => False
    | _ => match asQ G d with
      | some ds => match atI ds i with
        | some v => Q v G
        | none => False
      | none => False
  | _ => False
theorem od_ix (K : PySem.W.Frag) : OpD K (rIx K) dIx := fun G H d e x y Q Q' s k1 k2 f q => by
  unfold dIx at q
  split at q
  · cases k2
    split at q
    · obtain ⟨hz, q⟩ := q
      split at q
      · rename_i c hc
        cases k1
        exact .inr (.inr ⟨_, _, c, rfl, rfl, hz, hc, f _ _ (.of (d := .str _) rfl s .refl q)⟩)
      · exact q.elim
    · split at q
      · rename_i ds hd
        split at q
        · rename_i v hv
          obtain ⟨a, vs, rfl, t, r⟩ := k1.seq s hd
          obtain ⟨v', h1, h2⟩ := r.at hv
          rcases t with t | t
          · exact .inl ⟨a, vs, _, v', rfl, rfl, t, h1, f _ _ (.of h2 s .refl q)⟩
          · exact .inr (.inl ⟨a, vs, _, v', rfl, rfl, t, h1, f _ _ (.of h2 s .refl q)⟩)
        · exact q.elim
      · exact q.elim
  · exact q.elim
section
variable {X : Cx} {a b : Expr} {ta tb : TD} {pos : Pos}
theorem de_item (ha : DE X a ta) (hb : DE X b tb) (hs : PlainIx b := by intro _ _; rfl) : DE X (.Subscript a b pos) (dOp dIx ta tb) := de_ix ix_seq (od_ix X.K) ha hb hs
end
end DL

namespace DL
open PySem PySem.Spec L2
open PyProof.Rows hiding St

/-! ### argument lists, displays -/
section
variable {X : Cx} {a b e : Expr} {ta tb : TD} {es : List Expr} {ts : TDA} {pos : Pos}
def dNil : TDA := fun _ _ G Q => Q [] G
def dCons (ta : TD) (tr : TDA) : TDA := fun W σ G Q => ta W σ G fun d G1 => tr W σ G1 fun ds G2 => Q (d :: ds) G2
theorem da_nil : DA X [] dNil := ⟨fun G H σ τ W Q r q => semA.of pa_nil ⟨[], G, rfl, r.sim, .refl, q⟩⟩
theorem da_cons (ha : DE X e ta) (hr : DA X es ts) (hs : starEach (e :: es) X.env = (false, eval e X.env) :: starEach es X.env := by rfl) : DA X (e :: es) (dCons ta ts) :=
  ⟨fun G H σ τ W Q r0 h => semA.of (pa_cons peSem paSem hs) (ha.then r0 h fun d v G1 H1 r1 x1 k1 q1 => hr.then r1 q1 fun ds vs G2 H2 r2 x2 k2 q2 =>
    ⟨d :: ds, G2, .cons (k1.ext r1.sim x2 _ _) k2, r2.sim, x1.trans x2, q2⟩)⟩
def dTup (ts : TDA) : TD := fun W σ G Q => ts W σ G fun ds G1 => ds.length ≤ 1000 ∧ Q (.tup ds) G1
def dLst (ts : TDA) : TD := fun W σ G Q => ts W σ G fun ds G1 => ds.length ≤ 1000 ∧ newL G1 ds Q
theorem le1000 {n : Nat} (h : n ≤ 1000) : n ≤ sizeLine := Nat.le_of_lt (small1000 h)
theorem de_tup {x1} (h : DA X es ts) : DE X (.Tuple es x1 pos) (dTup ts) :=
  ⟨fun G H σ τ W Q r0 q => semE.of (pe_tup paSem) (h.then r0 q fun ds vs G1 H1 r1 x1 k1 q1 => ⟨by rw [k1.length]; exact le1000 q1.1, newT.fin r1.sim k1 (fun _ _ z => z.up x1) q1.2⟩)⟩
theorem de_lst (h : DA X es ts) : DE X (.List es pos) (dLst ts) :=
  ⟨fun G H σ τ W Q r0 q => semE.of (pe_lst paSem) (h.then r0 q fun ds vs G1 H1 r1 x1 k1 q1 => ⟨by rw [k1.length]; exact le1000 q1.1, newL.fin r1.sim k1 (fun _ _ z => z.up x1) q1.2⟩)⟩

/-! ### truth -/
def truD (G : HD) : D → Option Bool
  | .non => some false
  | .bl b => some b
  | .int i => some (i != 0)
  | .str x => if x.length ≤ sizeLine then some ((x.length : Int) != 0) else none
  | .tup ds => some (!ds.isEmpty)
  | .kl ds => some (!ds.isEmpty)
  | .kc ds => some (!ds.isEmpty)
  | .exc _ _ _ => none
  | .emp => none
  | .fn _ _ _ _ _ => none
  | .ref a => match G a with
    | some (.lst ds) => some (!ds.isEmpty)
    | some (.dK l) => some (!l.isEmpty)
    | _ => none
  | .ty _ => none
theorem isEmpty_eq {α β : Type} {l : List α} {m : List β} (h : m.length = l.length) : m.isEmpty = l.isEmpty := by
  cases l <;> cases m <;> first | rfl | (simp at h)
theorem truD_ok {K : PySem.W.Frag} {G : HD} {H : Hp} {d : D} {v : V} {b : Bool} (s : Sim K G H) (r : Rp K H d v) (h : truD G d = some b) : TruV K v H b := by
  cases d with
  | non => cases r; cases h; exact rfl
  | bl c => cases r; cases h; exact rfl
  | int i => cases r; cases h; exact rfl
  | str x =>
    cases r
    simp only [truD] at h
    split at h
    · rename_i z; cases h; exact ⟨z, rfl⟩
    · cases h
  | ty _ => cases h
  | tup ds =>
    obtain ⟨a, vs, rfl, t, r2⟩ := r
    cases h
    exact .inr (.inl ⟨vs, t, by rw [isEmpty_eq r2.length]⟩)
  | kl ds =>
    obtain ⟨a, vs, rfl, t, r2⟩ := Rp.lst (ds := ds) s r rfl
    cases h
    exact .inl ⟨vs, t, by rw [isEmpty_eq r2.length]⟩
  | kc ds =>
    obtain ⟨a, vs, rfl, t, r2⟩ := Rp.lst (ds := ds) s r rfl
    cases h
    exact .inl ⟨vs, t, by rw [isEmpty_eq r2.length]⟩
  | exc _ _ _ => cases h
  | emp => cases h
  | fn _ _ _ _ _ => cases h
  | ref a =>
    cases r
    simp only [truD] at h
    split at h
    · rename_i ds e
      cases h
      obtain ⟨vs, e1, r1⟩ := s.lst e
      exact .inl ⟨vs, .of e1, by rw [isEmpty_eq r1.length]⟩
    · rename_i l e
      cases h
      obtain ⟨m, e1, r1⟩ := s.dK e
      exact .inr (.inr ⟨m, e1, by rw [isEmpty_eq r1.length]⟩)
    · cases h
def dTru (t : TD) : TDT := fun W σ G Q => t W σ G fun d G1 => match truD G1 d with
  | some b => Q b G1
  | none => False
theorem dt_tru (ha : DE X a ta) (he : ∀ whole, isTrue a X.env whole = (do let v ← whole; standAt a.pos; holding [v] (truthy v)) := by intro _; rfl) : DT X a (dTru ta) :=
  ⟨fun G H σ τ W Q r0 h => semT.of (pt_truth peSem he) (ha.then r0 h fun d v G1 H1 r1 x1 k1 q1 => by
    try dsimp only at q1
    split at q1
    · rename_i b e
      exact ⟨b, truD_ok r1.sim k1 e, G1, r1.sim, x1, q1⟩
    · exact q1.elim)⟩
def dAnd (t u : TDT) : TDT := fun W σ G Q => t W σ G fun c G1 => if c = true then u W σ G1 Q else Q false G1
def dOr (t u : TDT) : TDT := fun W σ G Q => t W σ G fun c G1 => if c = true then Q true G1 else u W σ G1 Q
def dNot (t : TDT) : TDT := fun W σ G Q => t W σ G fun c G1 => Q (!c) G1
variable {t u : TDT} {rest : List Expr}
theorem dtw_and1 (h : DT X a t) : DTw X (.BoolOp .And [a] pos) t := ⟨fun G H σ τ W Q r q => semTw.of (pw_and1 ptSem) (h.run G H σ τ W Q r q)⟩
theorem dtw_or1 (h : DT X a t) : DTw X (.BoolOp .Or [a] pos) t := ⟨fun G H σ τ W Q r q => semTw.of (pw_or1 ptSem) (h.run G H σ τ W Q r q)⟩
theorem dtw_and (h : DT X a t) (k : DTw X (.BoolOp .And (b :: rest) pos) u) : DTw X (.BoolOp .And (a :: b :: rest) pos) (dAnd t u) :=
  ⟨fun G H σ τ W Q r q => semTw.of (pw_and ptSem pwSem) (h.then r q fun c G1 H1 r1 x1 q1 => by
    cases c with
    | true => exact (k.run G1 H1 σ τ W Q r1 q1).imp fun _ _ z => z.up x1
    | false => exact ⟨G1, r1.sim, x1, q1⟩)⟩
theorem dtw_or (h : DT X a t) (k : DTw X (.BoolOp .Or (b :: rest) pos) u) : DTw X (.BoolOp .Or (a :: b :: rest) pos) (dOr t u) :=
  ⟨fun G H σ τ W Q r q => semTw.of (pw_or ptSem pwSem) (h.then r q fun c G1 H1 r1 x1 q1 => by
    cases c with
    | false => exact (k.run G1 H1 σ τ W Q r1 q1).imp fun _ _ z => z.up x1
    | true => exact ⟨G1, r1.sim, x1, q1⟩)⟩
theorem dt_w (h : DTw X a t) : DT X a t := ⟨fun G H σ τ W Q r q => semT.of pwSem.pt (h.run G H σ τ W Q r q)⟩
theorem dt_not (h : DT X a t) : DT X (.UnaryOp .Not a pos) (dNot t) := ⟨fun G H σ τ W Q r q => semT.of (pt_not ptSem) (h.run G H σ τ W (fun c G' => Q (!c) G') r q)⟩
/-- and, or, not as values -/
def dAndV (ta tb : TD) : TD := fun W σ G Q => ta W σ G fun d G1 => match truD G1 d with
  | some b => if b = true then tb W σ G1 Q else Q d G1
  | none => False
def dOrV (ta tb : TD) : TD := fun W σ G Q => ta W σ G fun d G1 => match truD G1 d with
  | some b => if b = true then Q d G1 else tb W σ G1 Q
  | none => False
def dNotV (ta : TD) : TD := fun W σ G Q => ta W σ G fun d G1 => match truD G1 d with
  | some b => Q (.bl (!b)) G1
  | none => False
theorem de_one {op} (h : DE X a ta) : DE X (.BoolOp op [a] pos) ta := ⟨fun G H σ τ W Q r q => semE.of (pe_one peSem) (h.run G H σ τ W Q r q)⟩
theorem de_and (h : DE X a ta) (k : DE X (.BoolOp .And (b :: rest) pos) tb) : DE X (.BoolOp .And (a :: b :: rest) pos) (dAndV ta tb) :=
  ⟨fun G H σ τ W Q r q => semE.of (pe_andT peSem peSem) (h.then r q fun d v G1 H1 r1 x1 k1 q1 => by
    try dsimp only at q1
    split at q1
    · rename_i c e
      refine ⟨c, truD_ok r1.sim k1 e, ?_⟩
      cases c with
      | true => exact (k.run G1 H1 σ τ W Q r1 q1).imp fun _ _ z => z.up x1
      | false => exact .of k1 r1.sim x1 q1
    · exact q1.elim)⟩
theorem de_or (h : DE X a ta) (k : DE X (.BoolOp .Or (b :: rest) pos) tb) : DE X (.BoolOp .Or (a :: b :: rest) pos) (dOrV ta tb) :=
  ⟨fun G H σ τ W Q r q => semE.of (pe_orT peSem peSem) (h.then r q fun d v G1 H1 r1 x1 k1 q1 => by
    try dsimp only at q1
    split at q1
    · rename_i c e
      refine ⟨c, truD_ok r1.sim k1 e, ?_⟩
      cases c with
      | false => exact (k.run G1 H1 σ τ W Q r1 q1).imp fun _ _ z => z.up x1
      | true => exact .of k1 r1.sim x1 q1
    · exact q1.elim)⟩
theorem de_not (h : DE X a ta) : DE X (.UnaryOp .Not a pos) (dNotV ta) :=
  ⟨fun G H σ τ W Q r q => semE.of (pe_notT peSem) (h.then r q fun d v G1 H1 r1 x1 k1 q1 => by
    try dsimp only at q1
    split at q1
    · rename_i c e
      exact ⟨c, truD_ok r1.sim k1 e, .of (d := .bl (!c)) rfl r1.sim x1 q1⟩
    · exact q1.elim)⟩
def dIf (t : TDT) (ta tb : TD) : TD := fun W σ G Q => t W σ G fun c G1 => if c = true then ta W σ G1 Q else tb W σ G1 Q
def dNeg : D → HD → Post → Prop := fun d G Q => match d with
  | .int i => Q (.int (-i)) G
  | _ => False
def dUn (rd : D → HD → Post → Prop) (ta : TD) : TD := fun W σ G Q => ta W σ G fun d G1 => rd d G1 Q
theorem de_neg (ha : DE X a ta) : DE X (.UnaryOp .USub a pos) (dUn dNeg ta) :=
  ⟨fun G H σ τ W Q r q => semE.of (pe_un un_neg peSem) (ha.then r q fun d v G1 H1 r1 x1 k1 q1 => by
    unfold dNeg at q1
    split at q1
    · cases k1; exact ⟨_, rfl, .of (d := .int _) rfl r1.sim x1 q1⟩
    · exact q1.elim)⟩
end
end DL

namespace DL
open PySem PySem.Spec L2
open PyProof.Rows hiding St

/-! ### comparisons by their rules -/
/-- an operator of two values and its reading over data -/
def CmpR (X : Cx) (op : CmpOp) (rd : D → D → HD → Post → Prop) : Prop := ∃ r, OpR X (compareOp op) r ∧ OpD X.K r rd
def asInts : List D → Option (List Int)
  | [] => some []
  | .int i :: r => (asInts r).map (i :: ·)
  | _ :: _ => none
theorem asInts_eq : ∀ {ds : List D} {ns : List Int}, asInts ds = some ns → ds = ns.map D.int
  | [], _, h => by cases h; rfl
  | .int i :: r, ns, h => by
    simp only [asInts, Option.map_eq_some_iff] at h
    obtain ⟨ms, e, rfl⟩ := h
    rw [asInts_eq e]; rfl
  | .non :: _, _, h => by cases h
  | .bl _ :: _, _, h => by cases h
  | .str _ :: _, _, h => by cases h
  | .ty _ :: _, _, h => by cases h
  | .ref _ :: _, _, h => by cases h
  | .tup _ :: _, _, h => by cases h
  | .kl _ :: _, _, h => by cases h
  | .kc _ :: _, _, h => by cases h
  | .exc _ _ _ :: _, _, h => by cases h
  | .emp :: _, _, h => by cases h
  | .fn _ _ _ _ _ :: _, _, h => by cases h
theorem asInts_map : ∀ ns : List Int, asInts (ns.map D.int) = some ns
  | [] => rfl
  | n :: ns => by show (asInts (ns.map D.int)).map (n :: ·) = _; rw [asInts_map ns]; rfl
def dLtD : D → D → HD → Post → Prop := fun d e G Q => match d, e with
  | .int i, .int j => Q (.bl (decide (i < j))) G
  | .str x, .str y => Q (.bl (decide (x.cps.toList < y.cps.toList))) G
  | .tup xs, .tup ys => match asInts xs, asInts ys with
    | some ns, some ms => Q (.bl (HT.lexLt ns ms)) G
    | _, _ => False
  | _, _ => False
theorem c_lt {X : Cx} (hu : X.A.units + 64 < cLine) : CmpR X .Lt dLtD := ⟨_, op_lt.or (op_lt_str.or (op_ltT (Nat.lt_of_le_of_lt (Nat.le_add_right _ _) hu))), fun G H d e x y Q Q' s k1 k2 f q => by
  unfold dLtD at q
  split at q
  · cases k1; cases k2
    exact .inl ⟨_, _, rfl, rfl, f _ _ (.of (d := .bl _) rfl s .refl q)⟩
  · cases k1; cases k2
    exact .inr (.inl ⟨_, _, rfl, rfl, f _ _ (.of (d := .bl _) rfl s .refl q)⟩)
  · split at q
    · rename_i ns ms e1 e2
      obtain rfl := asInts_eq e1
      obtain rfl := asInts_eq e2
      obtain ⟨a, vs, rfl, t1, r1⟩ := k1
      obtain ⟨b, ws, rfl, t2, r2⟩ := k2
      obtain rfl := r1.ints
      obtain rfl := r2.ints
      exact .inr (.inr ⟨a, b, ns, ms, rfl, rfl, t1, t2, f _ _ (.of (d := .bl _) rfl s .refl q)⟩)
    · exact q.elim
  · exact q.elim⟩
theorem c_le {X : Cx} (hu : X.A.units + 64 < cLine) : CmpR X .LtE (dCmpI fun i j => decide (i ≤ j)) := ⟨_, op_le, od_cmpI X.K _⟩
theorem c_gt {X : Cx} (hu : X.A.units + 64 < cLine) : CmpR X .Gt (dCmpI fun i j => decide (j < i)) := ⟨_, op_gt, od_cmpI X.K _⟩
theorem c_ge {X : Cx} (hu : X.A.units + 64 < cLine) : CmpR X .GtE (dCmpI fun i j => decide (j ≤ i)) := ⟨_, op_ge, od_cmpI X.K _⟩
section
variable {X : Cx} {a b e c : Expr} {ta tb tc : TD} {pos : Pos} {op op' : CmpOp} {rd rd' : D → D → HD → Post → Prop}
theorem de_c1 (h : CmpR X op rd) (ha : DE X a ta) (hb : DE X b tb) (hm : behindInMarks op b = false := by first | exact nobehind _ (by decide) (by decide) | rfl) : DE X (.Compare a [op] [b] pos) (dOp rd ta tb) :=
  let ⟨_, h1, h2⟩ := h; de_cmp h1 h2 ha hb hm
theorem dt_c1 (h : CmpR X op rd) (ha : DE X a ta) (hb : DE X b tb) (hm : behindInMarks op b = false := by first | exact nobehind _ (by decide) (by decide) | rfl) : DT X (.Compare a [op] [b] pos) (dTest (dOp rd ta tb)) :=
  let ⟨_, h1, h2⟩ := h; dt_cmp h1 h2 ha hb hm
/-! chains: the rest of one, behind its first value -/
structure DCh (X : Cx) (ops : List CmpOp) (rs : List Expr) (t : D → TD) : Prop where
  val : ∀ (pos : Pos) (pins : List (Addr × Obj)) (s : Shared) (G : HD) (H : Hp) (σ : DSt) (τ : St) (W : DW) (Q : Post) (d : D) (x : V) (v : Value), SR X G H σ τ W → Inv X pins τ H s → Rp X.K H d x → RelV x v → t d W σ G Q →
    wpAny (model X.prog X.w) X.A (compareChain pos v ops (evalEach rs X.env)) (EP X pins τ (liftQ X.K G H Q)) X.xe s
  test : ∀ (pos : Pos) (pins : List (Addr × Obj)) (s : Shared) (G : HD) (H : Hp) (σ : DSt) (τ : St) (W : DW) (Q : Bool → HD → Prop) (d : D) (x : V) (v : Value), SR X G H σ τ W → Inv X pins τ H s → Rp X.K H d x → RelV x v →
    t d W σ G (fun z G1 => match z with | .bl k => Q k G1 | _ => False) → wpAny (model X.prog X.w) X.A (testChain pos v ops (evalEach rs X.env)) (TP X pins τ (liftB X.K G H Q)) X.xe s
def dLast (rd : D → D → HD → Post → Prop) (tb : TD) : D → TD := fun d W σ G Q => tb W σ G fun e G1 => rd d e G1 fun z G2 => match z with
  | .bl k => Q (.bl k) G2
  | _ => False
def dLink (rd : D → D → HD → Post → Prop) (tb : TD) (t : D → TD) : D → TD := fun d W σ G Q => tb W σ G fun e G1 => rd d e G1 fun z G2 => match z with
  | .bl k => if k = true then t e W σ G2 Q else Q (.bl false) G2
  | _ => False
theorem dch_last (h : CmpR X op rd) (hb : DE X b tb) : DCh X [op] [b] (dLast rd tb) := by
  obtain ⟨r, h1, h2⟩ := h
  refine ⟨fun pos pins s G H σ τ W Q d x v r0 I k0 l0 q => ?_, fun pos pins s G H σ τ W Q d x v r0 I k0 l0 q => ?_⟩
  · show wpAny _ _ (compareChain pos v [op] [eval b X.env]) _ _ _
    refine chain_last (thn ((hb.then (Q := fun y H1 => r x y H1 (liftQ X.K G H Q)) r0 q fun e y G1 H1 r1 x1 k1 q1 => ?_) pins s I) fun u s1 ⟨y, H1, I1, l1, q1⟩ => h1 pins s1 τ H1 x y v u _ I1 l0 l1 q1)
    refine h2 G1 H1 d e x y _ _ r1.sim (k0.ext r0.sim x1 _ _) k1 (fun w H2 ⟨z, G2, k2, s2, x2, q2⟩ => ?_) q1
    cases z with
    | bl k => exact ⟨.bl k, G2, k2, s2, x1.trans x2, q2⟩
    | _ => exact q2.elim
  · show wpAny _ _ (testChain pos v [op] [eval b X.env]) _ _ _
    refine test_last (thn ((hb.then (Q := fun y H1 => r x y H1 (fun w H2 => ∃ k, w = .bl k ∧ liftB X.K G H Q k H2)) r0 q fun e y G1 H1 r1 x1 k1 q1 => ?_) pins s I) fun u s1 ⟨y, H1, I1, l1, q1⟩ =>
      thn (h1 pins s1 τ H1 x y v u _ I1 l0 l1 q1) fun c s2 ⟨w, H2, I2, l2, k, ew, q2⟩ => ?_)
    · refine h2 G1 H1 d e x y _ _ r1.sim (k0.ext r0.sim x1 _ _) k1 (fun w H2 ⟨z, G2, k2, s2, x2, q2⟩ => ?_) q1
      cases z with
      | bl k => exact ⟨k, k2, G2, s2, x1.trans x2, q2⟩
      | _ => exact q2.elim
    · subst ew; cases l2
      exact wpAny_truthy_bool ⟨H2, I2, q2⟩
theorem dch_link {ops : List CmpOp} {rs : List Expr} {t : D → TD} (h : CmpR X op rd) (hb : DE X b tb) (hc : DCh X (op' :: ops) (c :: rs) t) : DCh X (op :: op' :: ops) (b :: c :: rs) (dLink rd tb t) := by
  obtain ⟨r, h1, h2⟩ := h
  refine ⟨fun pos pins s G H σ τ W Q d x v r0 I k0 l0 q => ?_, fun pos pins s G H σ τ W Q d x v r0 I k0 l0 q => ?_⟩
  · show wpAny _ _ (compareChain pos v (op :: op' :: ops) (eval b X.env :: eval c X.env :: evalEach rs X.env)) _ _ _
    refine chain_link (thn ((hb.run G H σ τ W _ r0 q) pins s I) fun u s1 ⟨y, H1, I1, l1, e, G1, k1, sm1, x1, q1⟩ => ?_)
    have r1 := r0.ext sm1 x1
    refine thn (h1 pins s1 τ H1 x y v u (fun w H2 => ∃ k G2, w = .bl k ∧ Sim X.K G2 H2 ∧ Ext G1 H1 G2 H2 ∧ if k = true then t e W σ G2 Q else Q (.bl false) G2) I1 l0 l1
      (h2 G1 H1 d e x y _ _ sm1 (k0.ext r0.sim x1 _ _) k1 (fun w H2 ⟨z, G2, k2, s2, x2, q2⟩ => ?_) q1)) fun cv s2 ⟨w, H2, I2, l2, k, G2, ew, sm2, x2, q2⟩ => ?_
    · subst ew; cases l2
      refine wpAny_truthy_bool ?_
      cases k with
      | false => exact ite_ff ⟨.bl false, H2, I2, rfl, .of (d := .bl false) rfl sm2 (x1.trans x2) q2⟩
      | true => exact ite_tt (thn (hc.val pos pins s2 G2 H2 σ τ W Q e y u (r1.ext sm2 x2) I2 (k1.ext sm1 x2 _ _) l1 q2) fun _ _ ⟨v3, H3, I3, l3, q3⟩ => ⟨v3, H3, I3, l3, q3.up (x1.trans x2)⟩)
    · cases z with
      | bl k => exact ⟨k, G2, k2, s2, x2, q2⟩
      | _ => exact q2.elim
  · show wpAny _ _ (testChain pos v (op :: op' :: ops) (eval b X.env :: eval c X.env :: evalEach rs X.env)) _ _ _
    refine test_link (thn ((hb.run G H σ τ W _ r0 q) pins s I) fun u s1 ⟨y, H1, I1, l1, e, G1, k1, sm1, x1, q1⟩ => ?_)
    have r1 := r0.ext sm1 x1
    refine thn (h1 pins s1 τ H1 x y v u (fun w H2 => ∃ k G2, w = .bl k ∧ Sim X.K G2 H2 ∧ Ext G1 H1 G2 H2 ∧ if k = true then t e W σ G2 (fun z G1 => match z with | .bl k => Q k G1 | _ => False) else Q false G2) I1 l0 l1
      (h2 G1 H1 d e x y _ _ sm1 (k0.ext r0.sim x1 _ _) k1 (fun w H2 ⟨z, G2, k2, s2, x2, q2⟩ => ?_) q1)) fun cv s2 ⟨w, H2, I2, l2, k, G2, ew, sm2, x2, q2⟩ => ?_
    · subst ew; cases l2
      refine wpAny_truthy_bool ?_
      cases k with
      | false => exact ite_ff ⟨H2, I2, G2, sm2, x1.trans x2, q2⟩
      | true => exact ite_tt (thn (hc.test pos pins s2 G2 H2 σ τ W Q e y u (r1.ext sm2 x2) I2 (k1.ext sm1 x2 _ _) l1 q2) fun _ _ ⟨H3, I3, q3⟩ => ⟨H3, I3, q3.up (x1.trans x2)⟩)
    · cases z with
      | bl k => exact ⟨k, G2, k2, s2, x2, q2⟩
      | _ => exact q2.elim
def dChn (ta : TD) (t : D → TD) : TD := fun W σ G Q => ta W σ G fun d G1 => t d W σ G1 Q
def dChnT (ta : TD) (t : D → TD) : TDT := fun W σ G Q => ta W σ G fun d G1 => t d W σ G1 fun z G2 => match z with
  | .bl k => Q k G2
  | _ => False
theorem de_chain {ops : List CmpOp} {rs : List Expr} {t : D → TD} (ha : DE X a ta) (h : DCh X (op :: op' :: ops) (b :: c :: rs) t) (hm : lastMarks (op :: op' :: ops) (b :: c :: rs) = false := by with_unfolding_all rfl) :
    DE X (.Compare a (op :: op' :: ops) (b :: c :: rs) pos) (dChn ta t) := ⟨fun G H σ τ W Q r0 q pins s I => by
  refine Compare_chain (thn ((ha.run G H σ τ W _ r0 q) pins s I) fun u s1 ⟨y, H1, I1, l1, d, G1, k1, sm1, x1, q1⟩ => ?_) hm
  exact thn (h.val pos pins s1 G1 H1 σ τ W Q d y u (r0.ext sm1 x1) I1 k1 l1 q1) fun _ _ ⟨v3, H3, I3, l3, q3⟩ => ⟨v3, H3, I3, l3, q3.up x1⟩⟩
theorem dt_chain {ops : List CmpOp} {rs : List Expr} {t : D → TD} (ha : DE X a ta) (h : DCh X (op :: op' :: ops) (b :: c :: rs) t) (hm : lastMarks (op :: op' :: ops) (b :: c :: rs) = false := by with_unfolding_all rfl) :
    DT X (.Compare a (op :: op' :: ops) (b :: c :: rs) pos) (dChnT ta t) := ⟨fun G H σ τ W Q r0 q pins s I => by
  refine isTrue_chain (thn ((ha.run G H σ τ W _ r0 q) pins s I) fun u s1 ⟨y, H1, I1, l1, d, G1, k1, sm1, x1, q1⟩ => ?_) hm
  exact thn (h.test pos pins s1 G1 H1 σ τ W Q d y u (r0.ext sm1 x1) I1 k1 l1 q1) fun _ _ ⟨H3, I3, q3⟩ => ⟨H3, I3, q3.up x1⟩⟩
end

/-! ### statements -/
section
variable {X : Cx} {a b e : Expr} {ta tb : TD} {pos : Pos} {st : Stmt} {sts ss1 ss2 : List Stmt} {t u : TDS}
def sNext : TDS := fun _ D σ G => D.nx σ G
def sSeq (t u : TDS) : TDS := fun W D σ G => t W { D with nx := fun σ' G' => u W D σ' G' } σ G
theorem dss_nil : DSs X [] sNext := ⟨fun G H σ τ W D r q => semSs.of pss_nil ⟨σ, G, r.slots, r.sim, .refl, q⟩⟩
theorem endsUp {K : PySem.W.Frag} {G G1 : HD} {H H1 : Hp} {D : DEnds} (x : Ext G H G1 H1) : EndsLe (liftD K G1 H1 D) (liftD K G H D) := ⟨fun _ _ h => h.up x, fun _ _ h => h.up x, fun _ _ h => h.up x, fun _ _ h => h.up x⟩
theorem dss_cons (h : DS X st t) (k : DSs X sts u) : DSs X (st :: sts) (sSeq t u) := ⟨fun G H σ τ W D r q => semSs.of (pss_cons psSem pssSem)
  ((h.run G H σ τ W _ r q).imp ⟨fun τ' H' ⟨σ', G', k1, s1, x1, q1⟩ => (k.run G' H' σ' τ' W D ⟨s1, k1, r.takes.imp fun _ _ _ _ z => z.up x1⟩ q1).imp (endsUp x1), fun _ _ z => z, fun _ _ z => z, fun _ _ z => z⟩)⟩
theorem dss_one (h : DS X st t) : DSs X [st] t := ⟨fun G H σ τ W D r q => semSs.of (pss_one psSem) (h.run G H σ τ W D r q)⟩
def sBrk : TDS := fun _ D σ G => D.bk σ G
def sCont : TDS := fun _ D σ G => D.ct σ G
def sDrop (te : TD) : TDS := fun W D σ G => te W σ G fun _ G1 => D.nx σ G1
theorem ds_expr (he : DE X e ta) (hs : swapsWith e none pos.line X.env = pure false := by rfl) : DS X (.Expr e pos) (sDrop ta) :=
  ⟨fun G H σ τ W D r q => semS.of (ps_expr peSem hs) (he.then r q fun d v G1 H1 r1 x1 k1 q1 => ⟨σ, G1, r1.slots, r1.sim, x1, q1⟩)⟩
def sRet (te : TD) : TDS := fun W D σ G => te W σ G D.rt
theorem ds_ret (he : DE X e ta) : DS X (.Return (some e) pos) (sRet ta) := ⟨fun G H σ τ W D r q => semS.of (ps_ret peSem) (he.run G H σ τ W D.rt r q)⟩
def sRetN : TDS := fun _ D _ G => D.rt .non G
def sIf (c : TDT) (t u : TDS) : TDS := fun W D σ G => c W σ G fun b G1 => if b = true then t W D σ G1 else u W D σ G1
theorem ds_if {c : Expr} {tc : TDT} (hc : DT X c tc) (h1 : DSs X ss1 t) (h2 : DSs X ss2 u) : DS X (.If c ss1 ss2 pos) (sIf tc t u) :=
  ⟨fun G H σ τ W D r q => semS.of (ps_if ptSem pssSem pssSem) (hc.then r q fun b G1 H1 r1 x1 q1 => by
    cases b with
    | true => exact (h1.run G1 H1 σ τ W D r1 q1).imp (endsUp x1)
    | false => exact (h2.run G1 H1 σ τ W D r1 q1).imp (endsUp x1))⟩
/-! targets: a name, or names of a tuple -/
def sSet (i : Nat) (te : TD) : TDS := fun W D σ G => te W σ G fun d G1 => D.nx (σ.set i (some d)) G1
theorem ds_set {i : Nat} {x : Str} {pos' : Pos} (he : DE X e ta) (hN : X.N.Nodup) (hi : X.N[i]? = some x := by rfl) (hx : Loc X.env.scope x := by first | exact Or.inl rfl | exact Or.inr rfl) (hs : swapsWith e (some (.Name x pos')) pos.line X.env = pure false := by rfl) (hf : X.fn x = true ∨ X.env.scope.names.lookup x = some .local := by first | exact .inl rfl | exact .inr rfl | assumption) :
    DS X (.Assign [.Name x pos'] e pos) (sSet i ta) :=
  ⟨fun G H σ τ W D r q => semS.of (ps_set hN hi hx peSem hs hf) (he.then r q fun d v G1 H1 r1 x1 k1 q1 => ⟨_, G1, r1.slots.set k1, r1.sim, x1, q1⟩)⟩
def setAll : List Nat → List D → DSt → DSt
  | i :: is, d :: ds, σ => setAll is ds (σ.set i (some d))
  | _, _, σ => σ
def sUnp (is : List Nat) (te : TD) : TDS := fun W D σ G => te W σ G fun d G1 => match d with
  | .tup ds => ds.length = is.length ∧ D.nx (setAll is ds σ) G1
  | _ => False
/-- the names of a tuple target, by their slots -/
inductive Slots (X : Cx) : List Expr → List Nat → TGs → Prop where
  | nil : Slots X [] [] gNil
  | cons {x : Str} {pos : Pos} {i : Nat} {es : List Expr} {is : List Nat} {g : TGs} (h : PG X (.Name x pos) (gName i)) (r : Slots X es is g) (hs : (assignEach (.Name x pos :: es) X.env).map (·.2) = assign (.Name x pos) X.env :: (assignEach es X.env).map (·.2)) : Slots X (.Name x pos :: es) (i :: is) (gCons (gName i) g)
theorem Slots.pgs {es : List Expr} {is : List Nat} {g : TGs} (s : Slots X es is g) : PGs X es g := by
  induction s with
  | nil => exact pgs_nil
  | cons h _ hs ih => exact pgs_cons h ih hs
theorem Slots.run {es : List Expr} {is : List Nat} {g : TGs} (s : Slots X es is g) {K : PySem.W.Frag} {H : Hp} {Q : St → Hp → Prop} : ∀ {ds : List D} {vs : List V} {σ : DSt} {τ : St}, Rps K H ds vs → ds.length = is.length → RpS K H σ τ → (∀ τ', RpS K H (setAll is ds σ) τ' → Q τ' H) → g vs τ H Q := by
  induction s with
  | nil =>
    intro ds vs σ τ r hl k q
    have e : ds = [] := List.eq_nil_of_length_eq_zero hl
    subst e
    cases r
    exact ⟨rfl, q τ k⟩
  | cons h _ hs ih =>
    intro ds vs σ τ r hl k q
    cases ds with
    | nil => cases hl
    | cons d ds =>
      obtain ⟨v, vr, rfl, r1, r2⟩ := r
      exact ⟨v, vr, rfl, ih r2 (Nat.succ.inj hl) (k.set r1) q⟩
theorem Slots.one (hN : X.N.Nodup) {x : Str} {pos : Pos} (i : Nat) {es : List Expr} {is : List Nat} {g : TGs} (r : Slots X es is g) (hi : X.N[i]? = some x := by rfl) (hx : Loc X.env.scope x := by first | exact Or.inl rfl | exact Or.inr rfl) (hf : X.fn x = true ∨ X.env.scope.names.lookup x = some .local := by first | exact .inl rfl | exact .inr rfl | assumption)
    (hs : (assignEach (.Name x pos :: es) X.env).map (·.2) = assign (.Name x pos) X.env :: (assignEach es X.env).map (·.2) := by rfl) : Slots X (.Name x pos :: es) (i :: is) (gCons (gName i) g) := .cons (pg_name hN hi hx hf) r hs
theorem ds_unp {es : List Expr} {is : List Nat} {g : TGs} {k : Nat} {pos' : Pos} (he : DE X e ta) (hc : X.calm = true) (s : Slots X es is g) (hn : (assignEach es X.env).length = is.length := by rfl) (hst : (assignEach es X.env).findIdx? (·.1) = none := by rfl)
    (hs : swapsWithSole [.Tuple es k pos'] e pos.line X.env = pure false := by rfl) (hw : swappedStores [.Tuple es k pos'] e X.env = pure none := by rfl) (h1 : (assignEach [.Tuple es k pos'] X.env).map (·.2) = [assign (.Tuple es k pos') X.env] := by rfl) :
    DS X (.Assign [.Tuple es k pos'] e pos) (sUnp is ta) :=
  ⟨fun G H σ τ W D r q => semS.of (ps_asg peSem (pg_tup hc s.pgs hn hst) hs hw h1) (he.then r q fun d v G1 H1 r1 x1 k1 q1 => by
    try dsimp only at q1
    split at q1
    · rename_i ds
      obtain ⟨a, vs, rfl, t, rr⟩ := k1
      exact ⟨a, vs, rfl, t, rr.length.trans q1.1, s.run rr q1.1 r1.slots fun τ' z => ⟨_, G1, z, r1.sim, x1, q1.2⟩⟩
    · exact q1.elim)⟩
/-- a, b = x, y -/
def sPar (i j : Nat) (ts : TDA) : TDS := fun W D σ G => ts W σ G fun ds G1 => match ds with
  | [d, e] => D.nx ((σ.set i (some d)).set j (some e)) G1
  | _ => False
end
end DL

namespace DL
open PySem PySem.Spec L2
open PyProof.Rows hiding St

/-! ### fields -/
def AttrOk (K : PySem.W.Frag) (C : Addr) (f : Str) : Prop := Cls K C ∧ NoAttr K C f
section
variable {X : Cx} {a b e o : Expr} {ta tb : TD} {pos pos' : Pos} {f : Str} {ok : Addr → Str → Prop}
def dFld (ok : Addr → Str → Prop) (f : Str) (ta : TD) : TD := fun W σ G Q => ta W σ G fun d G1 => match d with
  | .ref a => match G1 a with
    | some (.ins C fs) => ok C f ∧ match fs.lookup f with
      | some v => Q v G1
      | none => False
    | _ => False
  | _ => False
theorem RKV.put {K : PySem.W.Frag} {H : Hp} {f : Str} {d : D} {v : V} (k : Rp K H d v) : ∀ {l : List (Str × D)} {m : List (Str × V)}, RKV K H l m → RKV K H (putD f d l) (putF f v m)
  | [], _, h => by cases h; exact ⟨v, [], rfl, k, rfl⟩
  | (n, e) :: l, _, h => by
    obtain ⟨w, r, rfl, h1, h2⟩ := h
    show RKV K H (if n = f then (n, d) :: l else (n, e) :: putD f d l) (if n = f then (n, v) :: r else (n, w) :: putF f v r)
    by_cases z : n = f
    · rw [if_pos z, if_pos z]; exact ⟨v, r, rfl, k, h2⟩
    · rw [if_neg z, if_neg z]; exact ⟨w, _, rfl, h1, RKV.put k h2⟩
def sFldD (ok : Addr → Str → Prop) (f : Str) (to tv : TD) : TDS := fun W D σ G => tv W σ G fun v G1 => to W σ G1 fun d G2 => match d with
  | .ref a => match G2 a with
    | some (.ins C fs) => ok C f ∧ fs.length < 1000 ∧ D.nx σ (put G2 a (.ins C (putD f v fs)))
    | _ => False
  | _ => False
end

/-! ### defs: promises over data -/
abbrev SpD := List D → HD → Post → DX → Prop
/-- what may be forgotten at a def's end -/
def fg (Q : Post) : Post := fun d G => ∃ G0, Le G0 G ∧ Q d G0
def fgX (E : DX) : DX := fun c fs G => ∃ G0, Le G0 G ∧ E c fs G0
def liftSp (K : PySem.W.Frag) (n : Nat) (sp : SpD) : Sp := fun vs H Q E => vs.length = n ∧ ∃ ds G Qd Ed, Rps K H ds vs ∧ Sim K G H ∧ sp ds G Qd Ed ∧ (∀ v H', liftQ K G H Qd v H' → Q v H') ∧ (∀ c dd H', liftX K G H Ed c dd H' → E c dd H')
/-- a def's body, read from its arguments -/
def wpf (n m : Nat) (t : TDS) : SpD := fun ds G Q E => ds.length = n ∧ t (fun c fs _ G' => fgX E c fs G') { nx := fun _ G' => fg Q .non G', rt := fg Q } (ds.map some ++ List.replicate m none) G
/-- room for k calls, and no repr under way -/
structure RoomG (k : Nat) (A : Around) : Prop extends Room k A where
  gd : A.guards = some []
theorem RoomG.mono {j k : Nat} {A : Around} (r : RoomG k A) (h : j ≤ k) : RoomG j A := ⟨r.toRoom.mono h, r.gd⟩
theorem RoomG.units {k : Nat} {A : Around} (r : RoomG k A) : A.units + 64 < cLine := r.toRoom.units
theorem RoomG.deeper {k : Nat} {A : Around} (r : RoomG (k + 1) A) (env : Env) : RoomG k (A.deeper env) := ⟨r.toRoom.deeper env, r.gd⟩
theorem RoomG.in1 {k : Nat} {A : Around} (r : RoomG (k + 1) A) : RoomG k A.in1 := ⟨r.toRoom.in1, r.gd⟩
/-- a def's promise, kept where no repr is under way -/
structure FnG (P : Program) (w : World) (K : PySem.W.Frag) (mg : Str → Option Value) (base : Heap) (k : Nat) (f : Addr) (fd : FuncData) (ps : List Str) (sp : Sp) : Prop where
  len : ∀ vs H Q E, sp vs H Q E → vs.length = ps.length
  run : ∀ (A : Around) (outer : List Env) (s : Shared) (H : Hp) (args : Args) (us : List Value) (vs : List V) (Q : VK) (E : XK), RoomG k A → Env0 P w K mg base A outer s H →
    BindsTo s fd args (ps.zip us) → Vals vs us → sp vs H Q E → codeAny (model P w) A (.call (.ref f) args) (CR (L2.CX P w) outer P w H s Q E) s
section
variable {P : Program} {w : World} {K : PySem.W.Frag} {mg : Str → Option Value} {base : Heap} {k : Nat} {f : Addr} {fd : FuncData} {ps : List Str} {sp sp' : Sp}
theorem FnG.imp (F : FnG P w K mg base k f fd ps sp) (i : ∀ vs H Q E, sp' vs H Q E → sp vs H Q E) : FnG P w K mg base k f fd ps sp' :=
  ⟨fun _ _ _ _ q => F.len _ _ _ _ (i _ _ _ _ q), fun A o s H args us vs Q E r e b v q => F.run A o s H args us vs Q E r e b v (i _ _ _ _ q)⟩
theorem FnG.mono {j : Nat} (F : FnG P w K mg base k f fd ps sp) (h : k ≤ j) : FnG P w K mg base j f fd ps sp :=
  ⟨F.len, fun A o s H args us vs Q E r => F.run A o s H args us vs Q E (r.mono h)⟩
theorem fnG_of {N : List Str} {x qual : Str} {pa : Arguments} {bd : List Stmt} {sc : Scope} {dvs : List V} {kws : List (Str × V)} (F : L2.FunD K x qual pa bd sc dvs kws f fd) (S : FnScope N ps sc) (len : ∀ vs H Q E, sp vs H Q E → vs.length = ps.length)
    (hb : ∀ (cdv : Value) (A : Around) (outer : List Env) (s : Shared) (H : Hp) (vs : List V) (Q : VK) (E : XK), RoomG k (A.deeper (envOfC qual sc s.heap.objs.size f cdv)) → sp vs H Q E →
      ∃ t, PSs (cxOf (L2.CX P w) P w K mg base N qual sc f cdv A outer s H E) bd t ∧ t { nx := fun _ H' => Q .non H', rt := Q } (L2.start N vs) H) : FnG P w K mg base (k + 1) f fd ps sp := by
  obtain ⟨oc, od, dV, kV, doc, pm, an, cdv, ct, osl, rfl, lk, hcd, hD, hK⟩ := F.ex
  refine ⟨len, ?_⟩
  intro A outer s H args us vs Q E room e0 bind rv hsp
  have stay : ∀ b o, base.get? b = some o → s.heap.get? b = some o := fun b o e => (e0.bs b o e).1
  have kin := e0.mod.kin.keeps stay
  have par : ∀ z ∈ ps.zip us, sc.names.lookup z.1 = some .local ∨ (sc.names.lookup z.1 = some .cell ∧ ((cellsFrom (s.heap.objs.size + 1) sc.names []).lookup z.1).isSome = true) := by
    intro z hz
    exact (S.par z.1 (List.of_mem_zip (a := z.1) (b := z.2) hz).1).imp id fun q => ⟨q, PySem.W.cellsFrom_some _ _ _ (.inl q)⟩
  refine codeAny_call_function room.toRoom.depth (kin _ _ lk) rfl S.co S.gen rfl (PySem.W.codeRec_of kin hcd) (bind _ _ _ _ (wpAny_newFunctionEnv_cells S.kind par fun env ee s1 fresh => ?_))
  subst ee
  obtain ⟨t, pt, q⟩ := hb cdv A outer s H vs Q E (room.deeper _) hsp
  have inv := inv_start (CX := L2.CX P w) (E := E) (N := N) S room.hd e0 (len _ _ _ _ hsp) rv fresh
  refine ⟨(e0.mod.nolimit.keeps stay).keeps fresh.toInCall.keep, codeAny_func (wpAny_mono (pt.run [] s1 (L2.start N vs) H _ inv q) (fun fl s2 h => ?_) fun _ _ z => z)⟩
  match fl, h with
  | .ret u, ⟨v, _, H2, J, r2, q2⟩ => exact ⟨v, H2, J.os, J.bare, J.base, J.hok, r2, q2⟩
  | .next, ⟨_, H2, J, q2⟩ => exact ⟨V.non, H2, J.os, J.bare, J.base, J.hok, rfl, q2⟩
  | .brk, ⟨_, _, _, z⟩ => exact z.elim
  | .cont, ⟨_, _, _, z⟩ => exact z.elim
end
abbrev FnK (P : Program) (w : World) (K : PySem.W.Frag) (mg : Str → Option Value) (base : Heap) (k : Nat) (f : Addr) (fd : FuncData) (ps : List Str) (sp : SpD) : Prop := FnG P w K mg base k f fd ps (liftSp K ps.length sp)
theorem FnK.imp {P : Program} {w : World} {K : PySem.W.Frag} {mg : Str → Option Value} {base : Heap} {k : Nat} {f : Addr} {fd : FuncData} {ps : List Str} {sp sp' : SpD} (h : FnK P w K mg base k f fd ps sp) (i : ∀ ds G Q E, sp' ds G Q E → sp ds G Q E) : FnK P w K mg base k f fd ps sp' :=
  FnG.imp h fun vs H Q E ⟨l, ds, G, Qd, Ed, r, s, q, z1, z2⟩ => ⟨l, ds, G, Qd, Ed, r, s, i _ _ _ _ q, z1, z2⟩
section
variable {P : Program} {w : World} {K : PySem.W.Frag} {mg : Str → Option Value} {base : Heap} {x qual : Str} {params : Arguments} {body : List Stmt} {scope : Scope} {dvs : List V} {kws : List (Str × V)} {f : Addr} {fd : FuncData}
/-- a def: its body's reading is its promise -/
theorem fnd {N ps : List Str} {k n m : Nat} {t : TDS} (F : L2.FunD K x qual params body scope dvs kws f fd) (S : FnScope N ps scope) (hn : ps.length = n) (hm : N.length - n = m)
    (hb : ∀ (cdv : Value) (A : Around) (outer : List Env) (s : Shared) (H : Hp) (E : XK), RoomG k (A.deeper (envOfC qual scope s.heap.objs.size f cdv)) → DSs (cxOf (L2.CX P w) P w K mg base N qual scope f cdv A outer s H E) body t) : FnK P w K mg base (k + 1) f fd ps (wpf n m t) := by
  subst hn hm
  refine fnG_of F S (fun vs H Q E h => h.1) fun cdv A outer s H vs Q E hr h => ?_
  obtain ⟨hl, ds, G, Qd, Ed, rr, sm, ⟨hl2, q⟩, z1, z2⟩ := h
  refine ⟨semSs _ body, pssSem, ?_⟩
  have tk : Takes (cxOf (L2.CX P w) P w K mg base N qual scope f cdv A outer s H E) (fun c d _ H' => E c d H') := takes_of rfl rfl rfl rfl
  have st : RpS K H (ds.map some ++ List.replicate (N.length - ps.length) none) (L2.start N vs) := by
    unfold L2.start
    rw [hl]
    exact RpS.start _ rr
  refine ((hb cdv A outer s H E hr).run G H _ _ _ _ ⟨sm, st, tk.imp fun c dd τ H' hw => ?_⟩ q).imp ⟨fun τ' H' hh => ?_, fun v H' hh => ?_, fun _ _ hh => ?_, fun _ _ hh => ?_⟩
  · obtain ⟨σ', fs, G', k1, xf, s1, x1, G0, l0, q0⟩ := hw
    exact z2 c dd H' ⟨fs, G0, xf, s1.le l0, x1.le l0, q0⟩
  · obtain ⟨σ', G', k1, s1, x1, G0, l0, q0⟩ := hh
    exact z1 _ _ ⟨.non, G0, rfl, s1.le l0, x1.le l0, q0⟩
  · obtain ⟨d, G', k1, s1, x1, G0, l0, q0⟩ := hh
    exact z1 _ _ ⟨d, G0, k1, s1.le l0, x1.le l0, q0⟩
  · obtain ⟨_, _, _, _, _, q0⟩ := hh
    exact q0.elim
  · obtain ⟨_, _, _, _, _, q0⟩ := hh
    exact q0.elim
end

/-! ### calls of them -/
section
variable {X : Cx} {k n : Nat} {f C : Addr} {fd : FuncData} {ps ks : List Str} {sp : SpD} {x m : Str} {p pos apos : Pos} {e o : Expr} {es : List Expr} {ta : TD} {ts tk : TDA} {dvs : List V} {dds : List D} {ds : List Value}
/-- the exceptions of a callee, wished for here -/
theorem passK {G : HD} {H : Hp} {σ : DSt} {τ : St} {W : DW} (r : SR X G H σ τ W) : PassesAt (L2.CX X.prog X.w) X τ (liftX X.K G H fun c fs G' => W c fs σ G') := fun pins H0 s e s' I c =>
  r.takes e s' (XE.of_call I (W := liftW X.K G H W) (fun c dd H' ⟨fs, G', xf, s1, x1, q⟩ => ⟨σ, fs, G', r.slots.ext r.sim x1 _ _, xf, s1, x1, q⟩) c)
/-- the callee runs -/
theorem runK {pins : List (Addr × Obj)} {s : Shared} {G : HD} {H : Hp} {σ : DSt} {τ : St} {W : DW} {Q : Post} {us : List Value} {vs : List V} {es : List D} {args : Args} (F : FnK X.prog X.w X.K X.mg X.base k f fd ps sp) (hr : RoomG k X.A) (hb : BindsTo s fd args (ps.zip us))
    (r : SR X G H σ τ W) (I : Inv X pins τ H s) (rv : Vals vs us) (rd : Rps X.K H es vs) (hl : vs.length = ps.length) (h : sp es G Q fun c fs G' => W c fs σ G') :
    codeAny (model X.prog X.w) X.A (.call (.ref f) args) (fun z s' => match z with | .ok (.ret u) => EP X pins τ (liftQ X.K G H Q) u s' | .ok _ => False | .error e => X.xe e s') s := by
  refine codeAny_mono (F.run X.A X.stack s H args us vs (liftQ X.K G H Q) (liftX X.K G H fun c fs G' => W c fs σ G') hr I.env0 hb rv ⟨hl, es, G, Q, _, rd, r.sim, h, fun _ _ z => z, fun _ _ _ z => z⟩) fun z s' hq => ?_
  cases z with
  | error e => exact passK r pins H s e s' I hq
  | ok fl =>
    cases fl with
    | ret u => exact I.after hq
    | next => exact False.elim hq
    | brk => exact False.elim hq
    | cont => exact False.elim hq
def dCall (sp : SpD) (dds : List D) (ts : TDA) : TD := fun W σ G Q => ts W σ G fun ds G1 => sp (ds ++ dds) G1 Q fun c fs G' => W c fs σ G'
/-- what is bound beside the written arguments: values of the written part -/
structure Dfl (K : PySem.W.Frag) (dds : List D) (dvs : List V) : Prop where
  rel : ∀ H, Rps K H dds dvs
theorem Dfl.nil {K : PySem.W.Frag} : Dfl K [] [] := ⟨fun _ => rfl⟩
theorem runC {pins : List (Addr × Obj)} {s : Shared} {G : HD} {H : Hp} {σ : DSt} {τ : St} {W : DW} {Q : Post} {us : List Value} {vs : List V} {es : List D} (F : FnK X.prog X.w X.K X.mg X.base k f fd ps sp) (hr : RoomG k X.A) (hb : Binds X.K fd ps ds) (hd : Vals dvs ds) (hdd : Dfl X.K dds dvs)
    (r : SR X G H σ τ W) (I : Inv X pins τ H s) (rv : Vals vs us) (rd : Rps X.K H es vs) (hl : es.length + dds.length = ps.length) (h : sp (es ++ dds) G Q fun c fs G' => W c fs σ G') : wpAny (model X.prog X.w) X.A (call (.ref f) us) (EP X pins τ (liftQ X.K G H Q)) X.xe s := by
  have r2 := rv.append hd
  have r3 : Rps X.K H (es ++ dds) (vs ++ dvs) := rd.app (hdd.rel H)
  have l3 : (vs ++ dvs).length = ps.length := by rw [r3.length, List.length_append, hl]
  exact wpAny_call (codeAny_mono (runK F hr (hb s us I.kIn (by rw [← r2.length]; exact l3)) r I r2 r3 l3 h) fun z s' hq => by
    cases z with
    | error e => exact hq
    | ok fl => cases fl <;> first | exact hq | exact False.elim hq)
theorem de_call (F : FnK X.prog X.w X.K X.mg X.base k f fd ps sp) (hr : RoomG k X.A) (hm : X.mg x = some (.ref f)) (hk : PySem.W.keepIn X.K (.ref f) = true) (hb : Binds X.K fd ps ds) (hd : Vals dvs ds) (hdd : Dfl X.K dds dvs) (ha : DA X (e :: es) ts)
    (hl : ∀ ds G E Q, sp ds G E Q → ds.length = ps.length) (hg : Gl X x := by rfl) (hdb : (x == ("__debug__" : Str)) = false := by decide) (he : starEach (e :: es) X.env = (false, eval e X.env) :: starEach es X.env := by rfl) (hpl : (backTo pos (starEach es X.env)).any (·.1) = false := by rfl) :
    DE X (.Call (.Name x p) (e :: es) [] pos) (dCall sp dds ts) := ⟨fun G H σ τ W Q r q pins s I => by
  refine wpAny_Call_Name_kw (ld_glob I hg hm ?_ hdb)
  refine PySem.W.callWith_K (h₀ := X.base) I.ok.mod.kin hk (thn ((ha.run G H σ τ W _ r q) pos pins s I) fun us s1 ⟨vs, H1, I1, rv, es', G1, k1, sm1, x1, q1⟩ => ⟨I1.kIn, ?_⟩) he hpl
  exact thn (runC F hr hb hd hdd (r.ext sm1 x1) I1 rv k1 (by have := hl _ _ _ _ q1; rwa [List.length_append] at this) q1) fun _ _ ⟨v, H2, I2, l2, q2⟩ => ⟨v, H2, I2, l2, q2.up x1⟩⟩
theorem de_call0 (F : FnK X.prog X.w X.K X.mg X.base k f fd ps sp) (hr : RoomG k X.A) (hm : X.mg x = some (.ref f)) (hk : PySem.W.keepIn X.K (.ref f) = true) (hb : Binds X.K fd ps ds) (hd : Vals dvs ds) (hdd : Dfl X.K dds dvs)
    (hl : ∀ ds G E Q, sp ds G E Q → ds.length = ps.length) (hg : Gl X x := by rfl) (hdb : (x == ("__debug__" : Str)) = false := by decide) :
    DE X (.Call (.Name x p) [] [] pos) (dCall sp dds dNil) := ⟨fun G H σ τ W Q r q pins s I => by
  refine wpAny_Call_Name_kw (ld_glob I hg hm ?_ hdb)
  exact PySem.W.callWith_K0 I.kIn hk (runC (us := []) (vs := []) (es := []) F hr hb hd hdd r I .nil rfl (by have := hl _ _ _ _ q; rwa [List.length_append] at this) q)⟩
theorem wpf_len {n m : Nat} {t : TDS} : ∀ ds G E Q, wpf n m t ds G E Q → ds.length = n := fun _ _ _ _ h => h.1

/-! ### methods -/
/-- a method of the class at C, by its promise -/
structure MethK (X : Cx) (k : Nat) (m : Str) (C : Addr) (sp : SpD) (dds : List D) : Prop where
  ex : ∃ (f : Addr) (fd : FuncData) (ps : List Str) (dvs : List V) (ds : List Value), Cls X.K C ∧ Meth X.K C m f ∧ FnK X.prog X.w X.K X.mg X.base k f fd ps sp ∧ Binds X.K fd ps ds ∧ Vals dvs ds ∧ Dfl X.K dds dvs ∧ ∀ ds G E Q, sp ds G E Q → ds.length = ps.length
/-- o.m(..): tab: the classes that may have it -/
def dMeth (tab : List (Addr × SpD)) (m : Str) (dds : List D) (ta : TD) (ts : TDA) : TD := fun W σ G Q => ta W σ G fun d G1 => match d with
  | .ref a => match G1 a with
    | some (.ins C fs) => fs.lookup m = none ∧ ∃ q ∈ tab, q.1 = C ∧ ts W σ G1 fun ds G2 => q.2 (.ref a :: (ds ++ dds)) G2 Q fun c fs G' => W c fs σ G'
    | _ => False
  | _ => False
/-! ### a new instance -/
def dMake (C : Addr) (sp : SpD) (dds : List D) (ts : TDA) : TD := fun W σ G Q => ts W σ G fun ds G1 => ∀ p, G1 p = none → sp (.ref p :: (ds ++ dds)) (put G1 p (.ins C [])) (fun d G2 => match d with | .non => Q (.ref p) G2 | _ => False) fun c fs G' => W c fs σ G'
end
end DL

namespace DL
open PySem PySem.Spec L2
open PyProof.Rows hiding St

section
variable {X : Cx} {k n : Nat} {f C : Addr} {fd : FuncData} {ps ks : List Str} {sp : SpD} {x m : Str} {p pos apos : Pos} {e o : Expr} {es : List Expr} {ta : TD} {ts tk : TDA} {dvs : List V} {dds : List D} {ds : List Value}
end

/-! ### what a loop walks: items that stand fixed, while ok holds -/
structure ItD where
  xs : List D
  ok : HD → Prop
structure ItRel (K : PySem.W.Frag) (G1 : HD) (H1 : Hp) (I : ItD) (J : It) : Prop where
  go : ∀ i G H, Sim K G H → ExtL G1 H1 G H → I.ok G → i < I.xs.length → J.go i H
  yld : ∀ i G H x H', Sim K G H → ExtL G1 H1 G H → I.ok G → i < I.xs.length → J.yld i H x H' → ∃ d, I.xs[i]? = some d ∧ Rp K H' d x ∧ Sim K G H' ∧ Ext G H G H'
  stop : ∀ i G H, Sim K G H → ExtL G1 H1 G H → I.ok G → I.xs.length ≤ i → J.stop i H
abbrev TDI := DW → DSt → HD → (ItD → HD → Prop) → Prop
structure DI (X : Cx) (tg iter : Expr) (wi : TI) (ti : TDI) : Prop where
  pi : PI X tg iter wi
  run : ∀ (G : HD) (H : Hp) (σ : DSt) (τ : St) (W : DW) (R : ItD → HD → Prop) (R' : It → Hp → Prop), SR X G H σ τ W → ti W σ G R →
    (∀ I J G1 H1, Sim X.K G1 H1 → Ext G H G1 H1 → ItRel X.K G1 H1 I J → R I G1 → R' J H1) → wi τ H R'
section
variable {X : Cx} {tg l a b : Expr} {tl ta tb : TD} {pos p : Pos}
/-- a list or a tuple -/
def iSeq (K : PySem.W.Frag) (te : TE) : TI := fun σ H R => te σ H fun x H1 => ∃ a, x = .ref a ∧ ((∃ xs, SqL K H1 a xs ∧ R (Itl K a) H1) ∨ ∃ xs, SqT K H1 a xs ∧ R (Itt K a) H1)
theorem pi_seq {te : TE} (he : PE X l te) : PI X tg l (iSeq X.K te) := by
  refine ⟨fun pins s0 σ H R J h => thn (he.run pins s0 σ H _ J h) fun v s1 hv => ?_⟩
  obtain ⟨x, H1, I1, r1, a, rfl, q1⟩ := hv
  cases r1
  rcases q1 with ⟨xs, hq, q⟩ | ⟨xs, hq, q⟩
  · obtain ⟨its, rv, pl, hz⟩ := I1.list hq
    refine wpAny_pyIter_list pl.isList ⟨s1.heap.objs.size, [s1.heap.objs.size], _, _, H1, rfl, I1.kept (t' := s1.toks) fun b o ho => Heap.get?_push_of_some _ ho, turn_list a _, ⟨_, Heap.get?_push_size _ rfl, rfl, rfl⟩, fun b hb => ?_, q⟩
    obtain rfl : b = s1.heap.objs.size := by simpa using hb
    exact I1.fpOk (Nat.le_refl _) (I1.hok.fresh (Nat.le_refl _))
  · obtain ⟨its, rv, pl, hz⟩ := I1.tuple hq
    refine wpAny_pyIter_tuple (show s1.heap.IsTuple a its.toArray from pl) ⟨s1.heap.objs.size, [s1.heap.objs.size], _, _, H1, rfl, I1.kept (t' := s1.toks) fun b o ho => Heap.get?_push_of_some _ ho, turn_tuple a _, ⟨_, Heap.get?_push_size _ rfl, rfl, rfl⟩, fun b hb => ?_, q⟩
    obtain rfl : b = s1.heap.objs.size := by simpa using hb
    exact I1.fpOk (Nat.le_refl _) (I1.hok.fresh (Nat.le_refl _))
def jSeq (tl : TD) : TDI := fun W σ G R => tl W σ G fun d G1 => match d with
  | .tup ds => R ⟨ds, fun _ => True⟩ G1
  | .kl ds => R ⟨ds, fun _ => True⟩ G1
  | .kc ds => R ⟨ds, fun _ => True⟩ G1
  | .ref a => match G1 a with
    | some (.lst ds) => R ⟨ds, fun G => G a = some (.lst ds)⟩ G1
    | _ => False
  | _ => False
theorem di_seq (hl : DE X l tl) : DI X tg l (iSeq X.K (semE X l)) (jSeq tl) :=
  ⟨pi_seq peSem, fun G H σ τ W R R' r q fin => hl.then r q fun d v G1 H1 r1 x1 k1 q1 => by
    try dsimp only at q1
    split at q1
    · rename_i ds
      obtain ⟨a, vs, rfl, t, rr⟩ := k1
      refine ⟨a, rfl, .inr ⟨vs, t, fin _ _ G1 H1 r1.sim x1 ⟨fun i G2 H2 s2 x2 _ hi => ?_, fun i G2 H2 x H3 s2 x2 _ hi hy => ?_, fun i G2 H2 s2 x2 _ hi => ?_⟩ q1⟩⟩
      · exact ⟨vs, vs[i]'(by rw [rr.length]; exact hi), SqT.extL r1.sim x2 t, by simp⟩
      · obtain ⟨rfl, hy⟩ := hy
        have e1 := hy vs (SqT.extL r1.sim x2 t)
        obtain ⟨v', e2, e3⟩ := rr.get (i := i) (d := ds[i]) (by simp)
        rw [e1] at e2; cases e2
        exact ⟨ds[i], by simp, e3.extL r1.sim x2 _ _, s2, .refl⟩
      · exact ⟨vs, SqT.extL r1.sim x2 t, by rw [rr.length]; exact hi⟩
    · rename_i ds
      obtain ⟨a, vs, rfl, ⟨o, t⟩, rr⟩ := id k1
      have sq : ∀ {G2 H2}, ExtL G1 H1 G2 H2 → SqL X.K H2 a vs := fun {G2 H2} x2 => by
        exact .inl (.inr ⟨o, (x2 a _ nl_frz (r1.sim.frzL t) t).1⟩)
      refine ⟨a, rfl, .inl ⟨vs, sq Ext.refl.l, fin _ _ G1 H1 r1.sim x1 ⟨fun i G2 H2 s2 x2 _ hi => ?_, fun i G2 H2 x H3 s2 x2 _ hi hy => ?_, fun i G2 H2 s2 x2 _ hi => ?_⟩ q1⟩⟩
      · exact ⟨vs, vs[i]'(by rw [rr.length]; exact hi), sq x2, by simp⟩
      · obtain ⟨rfl, hy⟩ := hy
        have e1 := hy vs (sq x2)
        obtain ⟨v', e2, e3⟩ := rr.get (i := i) (d := ds[i]) (by simp)
        rw [e1] at e2; cases e2
        exact ⟨ds[i], by simp, e3.extL r1.sim x2 _ _, s2, .refl⟩
      · exact ⟨vs, sq x2, by rw [rr.length]; exact hi⟩
    · rename_i ds
      obtain ⟨a, vs, rfl, t, rr⟩ := id k1
      have sq : ∀ {G2 H2}, ExtL G1 H1 G2 H2 → SqL X.K H2 a vs := fun {G2 H2} x2 => by
        rcases t with ⟨o, t⟩ | t
        · exact .inl (.inr ⟨o, (x2 a _ nl_frz (r1.sim.frzL t) t).1⟩)
        · exact .inr t
      refine ⟨a, rfl, .inl ⟨vs, sq Ext.refl.l, fin _ _ G1 H1 r1.sim x1 ⟨fun i G2 H2 s2 x2 _ hi => ?_, fun i G2 H2 x H3 s2 x2 _ hi hy => ?_, fun i G2 H2 s2 x2 _ hi => ?_⟩ q1⟩⟩
      · exact ⟨vs, vs[i]'(by rw [rr.length]; exact hi), sq x2, by simp⟩
      · obtain ⟨rfl, hy⟩ := hy
        have e1 := hy vs (sq x2)
        obtain ⟨v', e2, e3⟩ := rr.get (i := i) (d := ds[i]) (by simp)
        rw [e1] at e2; cases e2
        exact ⟨ds[i], by simp, e3.extL r1.sim x2 _ _, s2, .refl⟩
      · exact ⟨vs, sq x2, by rw [rr.length]; exact hi⟩
    · rename_i a
      cases k1
      split at q1
      · rename_i ds eg
        obtain ⟨vs, e1, rr⟩ := r1.sim.lst eg
        refine ⟨a, rfl, .inl ⟨vs, .of e1, fin _ _ G1 H1 r1.sim x1 ⟨fun i G2 H2 s2 x2 hok hi => ?_, fun i G2 H2 x H3 s2 x2 hok hi hy => ?_, fun i G2 H2 s2 x2 hok hi => ?_⟩ q1⟩⟩
        · obtain ⟨ws, e2, r2⟩ := s2.lst hok
          exact ⟨ws, ws[i]'(by rw [r2.length]; exact hi), .of e2, by simp⟩
        · obtain ⟨ws, e2, r2⟩ := s2.lst hok
          obtain ⟨rfl, hy⟩ := hy
          have e3 := hy ws (.of e2)
          obtain ⟨v', e4, e5⟩ := r2.get (i := i) (d := ds[i]) (by simp)
          rw [e3] at e4; cases e4
          exact ⟨ds[i], by simp, e5, s2, .refl⟩
        · obtain ⟨ws, e2, r2⟩ := s2.lst hok
          exact ⟨ws, .of e2, by rw [r2.length]; exact hi⟩
      · exact q1.elim
    · exact q1.elim⟩
end

/-! ### range -/
section
variable {X : Cx} {tg a b : Expr} {ts : TDA} {pos p : Pos}
def intsD (lo : Int) (n : Nat) : List D := (List.range n).map fun i => .int (lo + (i : Nat))
theorem ints_get {lo : Int} {n i : Nat} (h : i < n) : (intsD lo n)[i]? = some (.int (lo + (i : Nat))) := by
  unfold intsD
  rw [List.getElem?_map, List.getElem?_range h]; rfl
theorem ints_len {lo : Int} {n : Nat} : (intsD lo n).length = n := by unfold intsD; rw [List.length_map, List.length_range]
theorem itr_rel {K : PySem.W.Frag} {G1 : HD} {H1 : Hp} (lo : Int) (n : Nat) : ItRel K G1 H1 ⟨intsD lo n, fun _ => True⟩ (Itr lo n) :=
  ⟨fun i G H s x _ hi => by rw [ints_len] at hi; exact hi, fun i G H x H' s _ _ hi hy => by
    obtain ⟨rfl, rfl⟩ := hy
    rw [ints_len] at hi
    exact ⟨_, ints_get hi, rfl, s, .refl⟩, fun i G H s x _ hi => by rw [ints_len] at hi; exact hi⟩
def jRng1 (ts : TDA) : TDI := fun W σ G R => ts W σ G fun ds G1 => match ds with
  | [.int j] => j < 2 ^ 62 ∧ -(2 ^ 62) ≤ j ∧ R ⟨intsD 0 j.toNat, fun _ => True⟩ G1
  | _ => False
theorem di_range1 (hm : X.mg "range" = none) (ha : DA X [a] ts) (hg : Gl X "range" := by rfl) (hs : starEach [a] X.env = [(false, eval a X.env)] := by rfl) : DI X tg (.Call (.Name "range" p) [a] [] pos) (iRng1 (semA X [a])) (jRng1 ts) :=
  ⟨pi_range1 hg hm paSem hs, fun G H σ τ W R R' r q fin => ha.then r q fun ds vs G1 H1 r1 x1 k1 q1 => by
    try dsimp only at q1
    split at q1
    · rename_i j
      obtain ⟨v, t, rfl, h1, h2⟩ := k1
      cases h1; cases h2
      exact ⟨j, rfl, q1.2.1, q1.1, fin _ _ G1 H1 r1.sim x1 (itr_rel 0 j.toNat) q1.2.2⟩
    · exact q1.elim⟩
def jRng2 (ts : TDA) : TDI := fun W σ G R => ts W σ G fun ds G1 => match ds with
  | [.int i, .int j] => (-(2 ^ 62) ≤ i ∧ i < 2 ^ 62 ∧ -(2 ^ 62) ≤ j ∧ j < 2 ^ 62) ∧ R ⟨intsD i (j - i).toNat, fun _ => True⟩ G1
  | _ => False
end

/-! ### targets of loops -/
inductive Tgt where
  | one (i : Nat) | many (is : List Nat) | nest (i : Nat) (js : List Nat)
def Tgt.slots : Tgt → List Nat
  | .one i => [i]
  | .many is => is
  | .nest i js => i :: js
def Tgt.put : Tgt → D → DSt → (DSt → Prop) → Prop
  | .one i, d, σ, k => k (σ.set i (some d))
  | .many is, d, σ, k => match d with
    | .tup ds => ds.length = is.length ∧ k (setAll is ds σ)
    | _ => False
  | .nest i js, d, σ, k => match d with
    | .tup [d0, .tup ds] => ds.length = js.length ∧ k (setAll js ds (σ.set i (some d0)))
    | _ => False
theorem wipe_at {τ : L2.St} {j : Nat} : ∀ {vs : List Nat}, (wipe τ vs)[j]? = if j ∈ vs then (if j < τ.length then some none else none) else τ[j]?
  | [] => by simp [wipe]
  | v :: vs => by
    unfold wipe
    by_cases h : v = j
    · subst h
      by_cases hl : v < τ.length
      · rw [List.getElem?_set_self (by rw [wipe_length]; exact hl)]; simp [hl]
      · rw [List.getElem?_eq_none (by rw [List.length_set, wipe_length]; omega)]; simp [hl]
    · rw [List.getElem?_set_ne h, wipe_at (vs := vs)]
      have : (j ∈ v :: vs) ↔ j ∈ vs := by simp [Ne.symm h]
      simp only [this]
theorem wipe_set {τ : L2.St} {i : Nat} {w : Option V} {vs : List Nat} (h : i ∈ vs) : wipe (τ.set i w) vs = wipe τ vs := by
  apply List.ext_getElem?
  intro j
  rw [wipe_at, wipe_at, List.length_set]
  by_cases e : i = j
  · subst e; rw [if_pos h, if_pos h]
  · rw [List.getElem?_set_ne e]
theorem wipe_wipe {τ : L2.St} {vs : List Nat} : wipe (wipe τ vs) vs = wipe τ vs := by
  apply List.ext_getElem?
  intro j
  rw [wipe_at, wipe_length, wipe_at]
  by_cases e : j ∈ vs
  · rw [if_pos e, if_pos e]
  · simp only [if_neg e]
structure TgRun (K : PySem.W.Frag) (t : Tgt) (g : TG) : Prop where
  run : ∀ (H : Hp) (σ : DSt) (τ : L2.St) (d : D) (v : V) (k : DSt → Prop) (Q : L2.St → Hp → Prop), RpS K H σ τ → Rp K H d v → t.put d σ k → (∀ σ' τ', RpS K H σ' τ' → k σ' → (∀ vs, (∀ i ∈ t.slots, i ∈ vs) → wipe τ' vs = wipe τ vs) → Q τ' H) → g v τ H Q
structure TgOk (X : Cx) (tg : Expr) (t : Tgt) (g : TG) : Prop where
  pg : PG X tg g
  rn : TgRun X.K t g
theorem tr_one {K : PySem.W.Frag} {i : Nat} : TgRun K (.one i) (gName i) := ⟨fun H σ τ d v k Q r rd hk q => q _ _ (r.set rd) hk fun vs h => wipe_set (h i (by simp [Tgt.slots]))⟩
section
variable {X : Cx} {pos : Pos}
theorem tg_one {x : Str} (hN : X.N.Nodup) (i : Nat) (hi : X.N[i]? = some x := by rfl) (hx : Loc X.env.scope x := by first | exact Or.inl rfl | exact Or.inr rfl) (hf : X.fn x = true ∨ X.env.scope.names.lookup x = some .local := by first | exact .inl rfl | exact .inr rfl | assumption) : TgOk X (.Name x pos) (.one i) (gName i) :=
  ⟨pg_name hN hi hx hf, tr_one⟩
theorem Slots.run2 {es : List Expr} {is : List Nat} {g : TGs} (s : Slots X es is g) {K : PySem.W.Frag} {H : Hp} {Q : L2.St → Hp → Prop} : ∀ {ds : List D} {vs : List V} {σ : DSt} {τ : L2.St}, Rps K H ds vs → ds.length = is.length → RpS K H σ τ → (∀ τ', RpS K H (setAll is ds σ) τ' → (∀ ws, (∀ i ∈ is, i ∈ ws) → wipe τ' ws = wipe τ ws) → Q τ' H) → g vs τ H Q := by
  induction s with
  | nil =>
    intro ds vs σ τ r hl k q
    obtain rfl : ds = [] := List.eq_nil_of_length_eq_zero hl
    cases r
    exact ⟨rfl, q τ k fun _ _ => rfl⟩
  | cons h _ hs ih =>
    intro ds vs σ τ r hl k q
    cases ds with
    | nil => cases hl
    | cons d ds =>
      obtain ⟨v, vr, rfl, r1, r2⟩ := r
      exact ⟨v, vr, rfl, ih r2 (Nat.succ.inj hl) (k.set r1) fun τ' k' hw => q τ' k' fun ws hi => (hw ws fun i hm => hi i (List.mem_cons_of_mem _ hm)).trans (wipe_set (hi _ List.mem_cons_self))⟩
theorem tg_many {es : List Expr} {is : List Nat} {g : TGs} {kk : Nat} (hc : X.calm = true) (s : Slots X es is g) (hn : (assignEach es X.env).length = is.length := by rfl) (hst : (assignEach es X.env).findIdx? (·.1) = none := by rfl) : TgOk X (.Tuple es kk pos) (.many is) (gTup X.K is.length g) :=
  ⟨pg_tup hc s.pgs hn hst, ⟨fun H σ τ d v k Q r rd hk q => by
    simp only [Tgt.put] at hk
    split at hk
    · obtain ⟨a, vs, rfl, t, rr⟩ := rd
      exact ⟨a, vs, rfl, t, rr.length.trans hk.1, s.run2 rr hk.1 r fun τ' k' hw => q _ τ' k' hk.2 hw⟩
    · exact hk.elim⟩⟩
end

/-! ### for -/
def forD (ok : HD → Prop) (step : D → (DSt → HD → Prop) → DSt → HD → Prop) (fin : DSt → HD → Prop) : List D → DSt → HD → Prop
  | [] => fun σ G => ∃ G0, Le G0 G ∧ ok G0 ∧ fin σ G0
  | x :: xs => fun σ G => ∃ G0, Le G0 G ∧ ok G0 ∧ step x (forD ok step fin xs) σ G0
def sFor (ti : TDI) (t : Tgt) (tb : TDS) : TDS := fun W D σ G => ti W σ G fun I G1 => forD I.ok (fun d k σ' G' => t.put d σ' fun σ2 => tb W { D with nx := k, ct := k, bk := D.nx } σ2 G') D.nx I.xs σ G1
theorem drop_get {α : Type} {l : List α} {i : Nat} {x : α} (h : l[i]? = some x) : l.drop i = x :: l.drop (i + 1) := by
  obtain ⟨h1, h2⟩ := List.getElem?_eq_some_iff.mp h
  rw [← h2]
  exact List.drop_eq_getElem_cons h1
theorem ds_for {X : Cx} {tg iter : Expr} {body : List Stmt} {wi : TI} {ti : TDI} {t : Tgt} {g : TG} {tb : TDS} {pos : Pos} (hp : PassesOwn (model X.prog X.w) X.A X.env X.xe) (hc : X.calm = true) (hi : DI X tg iter wi ti) (hg : TgOk X tg t g) (hb : DSs X body tb)
    (hs : ∀ x, foldedSetIterable iter X.env x = pure x := by intro _; rfl) : DS X (.For tg iter body [] pos) (sFor ti t tb) := ⟨fun G H σ τ W D r q => semS.of (ps_for hp hc hi.pi hg.pg pssSem hs) (hi.run G H σ τ W _ _ r q fun I J G1 H1 s1 x1 rel q1 => by
  have r1 := r.ext s1 x1
  refine ⟨fun i m τ' H' => ∃ σ' G', RpS X.K H' σ' τ' ∧ Sim X.K G' H' ∧ Ext G1 H1 G' H' ∧ m = I.xs.length - i ∧ i ≤ I.xs.length ∧ forD I.ok (fun d k σ' G' => t.put d σ' fun σ2 => tb W { D with nx := k, ct := k, bk := D.nx } σ2 G') D.nx (I.xs.drop i) σ' G',
    ⟨_, σ, G1, r1.slots, s1, .refl, rfl, Nat.zero_le _, by rw [List.drop_zero]; exact q1⟩, ?_⟩
  rintro i m τ' H' ⟨σ', G', k', s', x', rfl, hle, q'⟩
  by_cases hlt : i < I.xs.length
  · have hx : I.xs[i]? = some I.xs[i] := by simp [hlt]
    rw [drop_get hx] at q'
    obtain ⟨G0, l0, ok0, q0⟩ := q'
    have s0 := s'.le l0
    have x0 : Ext G1 H1 G0 H' := x'.le l0
    refine .inr ⟨rel.go i G0 H' s0 x0.l ok0 hlt, fun τ2 H2 => ∃ σ2 G2, RpS X.K H2 σ2 τ2 ∧ Sim X.K G2 H2 ∧ Ext G1 H1 G2 H2 ∧ forD I.ok (fun d k σ' G' => t.put d σ' fun σ2 => tb W { D with nx := k, ct := k, bk := D.nx } σ2 G') D.nx (I.xs.drop (i + 1)) σ2 G2,
      fun τ2 H2 ⟨σ2, G2, a1, a2, a3, a4⟩ => ⟨_, by omega, σ2, G2, a1, a2, a3, rfl, hlt, a4⟩, fun v H2 hy => ?_⟩
    obtain ⟨d, e1, e2, e3, e4⟩ := rel.yld i G0 H' v H2 s0 x0.l ok0 hlt hy
    rw [hx] at e1; cases e1
    refine hg.rn.run H2 σ' τ' _ v _ _ (k'.ext s0 e4 _ _) e2 q0 fun σ2 τ2 k2 q2 _ => ?_
    have x2 := x0.trans e4
    have rr : SR X G0 H2 σ2 τ2 W := ⟨e3, k2, r1.takes.imp fun _ _ _ _ z => z.up x2⟩
    exact (hb.run G0 H2 σ2 τ2 W _ rr q2).imp ⟨fun τ3 H3 ⟨σ3, G3, b1, b2, b3, b4⟩ => ⟨σ3, G3, b1, b2, x2.trans b3, b4⟩, fun v H3 z => z.up (x1.trans x2), fun τ3 H3 z => z.up (x1.trans x2), fun τ3 H3 ⟨σ3, G3, b1, b2, b3, b4⟩ => ⟨σ3, G3, b1, b2, x2.trans b3, b4⟩⟩
  · have e : I.xs.drop i = [] := List.drop_eq_nil_of_le (by omega)
    rw [e] at q'
    obtain ⟨G0, l0, ok0, q0⟩ := q'
    exact .inl ⟨rel.stop i G0 H' (s'.le l0) (x'.le l0).l ok0 (by omega), σ', G0, k', s'.le l0, (x1.trans x').le l0, q0⟩)⟩

/-! ### while -/
def whD (test : DSt → HD → (Bool → HD → Prop) → Prop) (body : (DSt → HD → Prop) → DSt → HD → Prop) (fin : DSt → HD → Prop) : Nat → DSt → HD → Prop
  | 0 => fun _ _ => False
  | n + 1 => fun σ G => ∃ G0, Le G0 G ∧ test σ G0 fun b G1 => if b = true then body (whD test body fin n) σ G1 else fin σ G1
def sWhile (tc : TDT) (tb : TDS) : TDS := fun W D σ G => ∃ n, whD (fun σ' G' k => tc W σ' G' k) (fun k σ' G' => tb W { D with nx := k, ct := k, bk := D.nx } σ' G') D.nx n σ G
end DL

namespace DL
open PySem PySem.Spec L2
open PyProof.Rows hiding St

/-! ### list comprehensions -/
section
variable (X : Cx)
def semTs (ifs : List Expr) : TT := fun σ H Q => ∀ (pins : List (Addr × Obj)) (s : Shared), Inv X pins σ H s →
  wpAny (model X.prog X.w) X.A (forIn ifs true fun c r => if r = true then do let ok ← isTrue c X.env (eval c X.env); pure (ForInStep.yield ok) else pure (ForInStep.yield r)) (TP X pins σ Q) X.xe s
end
/-- a clause's tests -/
structure DTs (X : Cx) (ifs : List Expr) (t : TDT) : Prop where
  run : ∀ (G : HD) (H : Hp) (σ : DSt) (τ : L2.St) (W : DW) (Q : Bool → HD → Prop), SR X G H σ τ W → t W σ G Q → semTs X ifs τ H (liftB X.K G H Q)
def dYes : TDT := fun _ _ G Q => Q true G
section
variable {X : Cx} {c : Expr} {cs : List Expr} {t u : TDT}
theorem dts_nil : DTs X [] dYes := ⟨fun G H σ τ W Q r q pins s I => pts_nil.run pins s τ H _ I ⟨G, r.sim, .refl, q⟩⟩
theorem tests_skip {env : Env} {prog : Program} {w : World} {A : Around} {Q : Bool → Shared → Prop} {E : Value → Shared → Prop} {s : Shared} : ∀ {ifs : List Expr}, Q false s →
    wpAny (model prog w) A (forIn ifs false fun c r => if r = true then do let ok ← isTrue c env (eval c env); pure (ForInStep.yield ok) else pure (ForInStep.yield r)) Q E s
  | [], h => wpAny_pure h
  | c :: cs, h => by
    simp only [List.forIn_cons, Bool.false_eq_true, if_false]
    exact wpAny_bind (wpAny_pure (tests_skip (ifs := cs) h))
theorem dts_cons (h : DT X c t) (k : DTs X cs u) : DTs X (c :: cs) (dAnd t u) := ⟨fun G H σ τ W Q r q pins s I => by
  simp only [List.forIn_cons, if_true]
  refine wpAny_bind (wpAny_bind (thn ((h.run G H σ τ W _ r q) pins s I) fun b s1 ⟨H1, I1, G1, sm1, x1, q1⟩ => wpAny_pure ?_))
  cases b with
  | true => exact thn (k.run G1 H1 σ τ W Q (r.ext sm1 x1) q1 pins s1 I1) fun b2 s2 ⟨H2, I2, z⟩ => ⟨H2, I2, z.up x1⟩
  | false => exact tests_skip ⟨H1, I1, G1, sm1, x1, q1⟩⟩
theorem dts_one (h : DT X c t) : DTs X [c] t := ⟨fun G H σ τ W Q r q pins s I => (pts_one ptSem).run pins s τ H _ I (h.run G H σ τ W Q r q)⟩
end

section
variable {K : PySem.W.Frag} {G : HD} {H : Hp}
/-- a list that is not of ours grows -/
theorem SqT.aside {p : Addr} {l : List V} {o' : HO} (hp : H p = some (.lst l)) {a : Addr} {vs : List V} (h : SqT K H a vs) : SqT K (upd H p o') a vs := by
  rcases h with (h | ⟨o, h⟩) | h
  · exact .inl (.inl (by rw [upd_ne (by rintro rfl; rw [hp] at h; cases h)]; exact h))
  · exact .inl (.inr ⟨o, by rw [upd_ne (by rintro rfl; rw [hp] at h; cases h)]; exact h⟩)
  · exact .inr h
mutual
theorem Rp.aside {p : Addr} {l : List V} {o' : HO} (hp : H p = some (.lst l)) : ∀ (d : D) (v : V), Rp K H d v → Rp K (upd H p o') d v
  | .non, _, h => h
  | .bl _, _, h => h
  | .int _, _, h => h
  | .str _, _, h => h
  | .ty _, _, h => h
  | .ref _, _, h => h
  | .tup ds, v, h => by
    obtain ⟨a, vs, e, t, r⟩ := h
    exact ⟨a, vs, e, SqT.aside hp t, Rps.aside hp ds vs r⟩
  | .kl ds, v, h => by
    obtain ⟨a, vs, e, ⟨o, t⟩, r⟩ := h
    exact ⟨a, vs, e, ⟨o, by rw [upd_ne (by rintro rfl; rw [hp] at t; cases t)]; exact t⟩, Rps.aside hp ds vs r⟩
  | .kc ds, v, h => by
    obtain ⟨a, vs, e, t, r⟩ := h
    refine ⟨a, vs, e, ?_, Rps.aside hp ds vs r⟩
    rcases t with ⟨o, t⟩ | t
    · exact .inl ⟨o, by rw [upd_ne (by rintro rfl; rw [hp] at t; cases t)]; exact t⟩
    · exact .inr t
  | .exc C ns ds, v, h => by
    obtain ⟨a, dd, vs, e, t, hl, q, r⟩ := h
    refine ⟨a, dd, vs, e, by rw [upd_ne (by rintro rfl; rw [hp] at t; cases t)]; exact t, hl, ?_, Rps.aside hp ds vs r⟩
    rcases q with q | ⟨b, q1, q2⟩
    · exact .inl q
    · exact .inr ⟨b, q1, by rw [upd_ne (by rintro rfl; rw [hp] at q2; cases q2)]; exact q2⟩
  | .fn f c p u d, v, h => ⟨h.1, by rw [upd_ne (by rintro rfl; have z := h.2.1; rw [hp] at z; unfold LamX.CodeO at z; cases z)]; exact h.2.1, Rp.aside hp d u h.2.2⟩
  | .emp, v, h => by
    obtain ⟨a, ob, e, m, t, q⟩ := h
    exact ⟨a, ob, e, m, by rw [upd_ne (by rintro rfl; rw [hp] at t; cases t)]; exact t, q⟩
theorem Rps.aside {p : Addr} {l : List V} {o' : HO} (hp : H p = some (.lst l)) : ∀ (ds : List D) (vs : List V), Rps K H ds vs → Rps K (upd H p o') ds vs
  | [], _, h => h
  | d :: ds, vs, h => by
    obtain ⟨v, r, e, h1, h2⟩ := h
    exact ⟨v, r, e, Rp.aside hp d v h1, Rps.aside hp ds r h2⟩
end
theorem RKV.aside {κ : Type} {p : Addr} {l : List V} {o1 : HO} (hp : H p = some (.lst l)) : ∀ (a : List (κ × D)) (m : List (κ × V)), RKV K H a m → RKV K (upd H p o1) a m
  | [], _, h => h
  | q :: a, m, h => by
    obtain ⟨v, r, e, h1, h2⟩ := h
    exact ⟨v, r, e, h1.aside hp _ _, RKV.aside hp a r h2⟩
theorem RO.aside {p : Addr} {l : List V} {o1 : HO} (hp : H p = some (.lst l)) : ∀ (o : MO) (o' : HO), RO K H o o' → RO K (upd H p o1) o o'
  | .lst ds, _, h => let ⟨vs, e, r⟩ := h; ⟨vs, e, r.aside hp _ _⟩
  | .dK _, _, h => let ⟨vs, e, r⟩ := h; ⟨vs, e, r.aside hp _ _⟩
  | .dT _, _, h => let ⟨vs, e, r⟩ := h; ⟨vs, e, r.aside hp _ _⟩
  | .ins _ _, _, h => let ⟨dx, vs, e, r⟩ := h; ⟨dx, vs, e, r.aside hp _ _⟩
  | .fz ob w u, _, h => let ⟨e, r, z⟩ := h; ⟨e, RO.aside hp u w r, z⟩
  | .tab q, _, h => let ⟨ps, e, t, z⟩ := h; ⟨ps, e, t, fun pos cv hc => let ⟨c, e1, e2⟩ := z pos cv hc; ⟨c, e1, by rw [upd_ne (by rintro rfl; rw [hp] at e2; unfold LamX.CodeO at e2; cases e2)]; exact e2⟩⟩
theorem Sim.aside (s : Sim K G H) {p : Addr} {l : List V} {o1 : HO} (hp : H p = some (.lst l)) (hg : G p = none) : Sim K G (upd H p o1) := fun a o e => by
  obtain ⟨o', e1, r⟩ := s a o e
  have hn : a ≠ p := by rintro rfl; rw [hg] at e; cases e
  exact ⟨o', by rw [upd_ne hn]; exact e1, r.aside hp _ _⟩
theorem RpS.aside {p : Addr} {l : List V} {o1 : HO} (hp : H p = some (.lst l)) : ∀ (σ : DSt) (t : L2.St), RpS K H σ t → RpS K (upd H p o1) σ t
  | [], _, h => h
  | o :: r, _, h => by
    obtain ⟨w, t, rfl, h1, h2⟩ := h
    refine ⟨w, t, rfl, fun d e => ?_, RpS.aside hp r t h2⟩
    obtain ⟨v, e1, e2⟩ := h1 d e
    exact ⟨v, e1, e2.aside hp _ _⟩
end
def dwipe (σ : DSt) : List Nat → DSt
  | [] => σ
  | v :: vs => (dwipe σ vs).set v none
theorem RpS.wipe {K : PySem.W.Frag} {H : Hp} {σ : DSt} {τ : L2.St} (h : RpS K H σ τ) : ∀ vs : List Nat, RpS K H (dwipe σ vs) (L2.wipe τ vs)
  | [] => h
  | v :: vs => (RpS.wipe h vs).drop1
abbrev W0 : DW := fun _ _ _ _ => False
def lcD (ok : HD → Prop) (step : D → (D → HD → Prop) → (HD → Prop) → HD → Prop) (fin : List D → HD → Prop) : List D → List D → HD → Prop
  | [], acc => fun G => ∃ G0, Le G0 G ∧ ok G0 ∧ fin acc G0
  | x :: xs, acc => fun G => ∃ G0, Le G0 G ∧ ok G0 ∧ step x (fun y G' => lcD ok step fin xs (acc ++ [y]) G') (fun G' => lcD ok step fin xs acc G') G0
def dLcG (fin : List D → HD → Prop) (ti : TDI) (t : Tgt) (dt : TDT) (te : TD) (vs : List Nat) (W : DW) (σ : DSt) (G : HD) : Prop := ti W σ G fun I G1 => I.xs.length ≤ 1000000 ∧
  lcD I.ok (fun d ky kn G' => t.put d (dwipe σ vs) fun σ2 => dt W0 σ2 G' fun b G2 => if b = true then te W0 σ2 G2 ky else kn G2) fin I.xs [] G1
def dLc (ti : TDI) (t : Tgt) (dt : TDT) (te : TD) (vs : List Nat) : TD := fun W σ G Q => dLcG (fun acc G2 => newL G2 acc Q) ti t dt te vs W σ G
/-- the same, the list by value -/
def dLcV (ti : TDI) (t : Tgt) (dt : TDT) (te : TD) (vs : List Nat) : TD := fun W σ G Q => dLcG (fun acc G2 => Q (.kl acc) G2) ti t dt te vs W σ G
section
variable {X : Cx} {elt tg iter : Expr} {ifs : List Expr} {scope : Scope} {own : List (Str × Nat)} {pos : Pos} {wi : TI} {ti : TDI} {t : Tgt} {g : TG} {dt : TDT} {te : TD}
theorem million {n : Nat} (h : n ≤ 1000000) : n ≤ sizeLine := by rw [sizeLine_eq]; omega
/-- the loop of a block, shown once for values and for stores -/
theorem lc_run (hi : DI X tg iter wi ti) (hg : TgRun X.K t g)
    (hsl : ∀ i ∈ t.slots, i ∈ own.map (·.2))
    {tt : TT} {teV : TE}
    (htt : ∀ (G : HD) (H : Hp) (σ : DSt) (τ : L2.St) (Q : Bool → HD → Prop) (Q' : Bool → Hp → Prop), Sim X.K G H → RpS X.K H σ τ → dt W0 σ G Q → (∀ b H', liftB X.K G H Q b H' → Q' b H') → tt τ H Q')
    (hte : ∀ (G : HD) (H : Hp) (σ : DSt) (τ : L2.St) (Q : Post) (Q' : VK), Sim X.K G H → RpS X.K H σ τ → te W0 σ G Q → (∀ v H', liftQ X.K G H Q v H' → Q' v H') → teV τ H Q')
    {G : HD} {H : Hp} {σ : DSt} {τ : L2.St} {W : DW} {F : List D → HD → Prop} {Q' : VK} (r : SR X G H σ τ W) (q : dLcG F ti t dt te (own.map (·.2)) W σ G)
    (fin : ∀ D0 acc accV G0 H', (∀ a o, G a = none → H a = some o → a ≠ D0) → Sim X.K G0 H' → Ext G H G0 H' → H' D0 = some (.lst accV) → G0 D0 = none → Rps X.K H' acc accV → F acc G0 → Q' (.ref D0) H') : tLc wi g tt teV (own.map (·.2)) τ H Q' := by
  refine hi.run G H σ τ W _ _ r q fun I J G1 H1 s1 x1 rel q1 D0 hD => ?_
  obtain ⟨hz, q1⟩ := q1
  have r1 := r.ext s1 x1
  have n0 := s1.no hD
  refine ⟨fun i m H' => ∃ G' acc accV, H' D0 = some (.lst accV) ∧ G' D0 = none ∧ Rps X.K H' acc accV ∧ acc.length ≤ i ∧ Sim X.K G' H' ∧ Ext G1 H1 G' H' ∧ m = I.xs.length - i ∧ i ≤ I.xs.length ∧
      lcD I.ok (fun d ky kn G' => t.put d (dwipe σ (own.map (·.2))) fun σ2 => dt W0 σ2 G' fun b G2 => if b = true then te W0 σ2 G2 ky else kn G2) F (I.xs.drop i) acc G',
    ⟨_, G1, [], [], upd_same, n0, rfl, Nat.zero_le _, s1.newO hD, .new hD n0, rfl, Nat.zero_le _, by rw [List.drop_zero]; exact q1⟩, ?_⟩
  rintro i m H' ⟨G', acc, accV, hl, hn, ra, hle0, s', x', rfl, hle, q'⟩
  by_cases hlt : i < I.xs.length
  · have hx : I.xs[i]? = some I.xs[i] := by simp [hlt]
    rw [drop_get hx] at q'
    obtain ⟨G0, l0, ok0, q0⟩ := q'
    have s0 := s'.le l0
    have x0 : Ext G1 H1 G0 H' := x'.le l0
    have e0 : Ext G' H' G0 H' := .of_le l0
    refine .inr ⟨rel.go i G0 H' s0 x0.l ok0 hlt, fun H2 => ∃ G2 acc2 accV2, H2 D0 = some (.lst accV2) ∧ G2 D0 = none ∧ Rps X.K H2 acc2 accV2 ∧ acc2.length ≤ i + 1 ∧ Sim X.K G2 H2 ∧ Ext G1 H1 G2 H2 ∧
        lcD I.ok (fun d ky kn G' => t.put d (dwipe σ (own.map (·.2))) fun σ2 => dt W0 σ2 G' fun b G2 => if b = true then te W0 σ2 G2 ky else kn G2) F (I.xs.drop (i + 1)) acc2 G2,
      fun H2 ⟨G2, a2, v2, b1, b2, b3, b4, b5, b6, b7⟩ => ⟨_, by omega, G2, a2, v2, b1, b2, b3, b4, b5, b6, rfl, hlt, b7⟩, fun v H2 hy => ?_⟩
    obtain ⟨d, e1, e2, e3, e4⟩ := rel.yld i G0 H' v H2 s0 x0.l ok0 hlt hy
    rw [hx] at e1; cases e1
    have x2 := x0.trans e4
    have slots2 : RpS X.K H2 (dwipe σ (own.map (·.2))) (L2.wipe τ (own.map (·.2))) := (r1.slots.ext s1 x2 _ _).wipe _
    refine hg.run H2 _ _ _ v _ _ slots2 e2 q0 fun σ2 τ2 k2 q2 hw => ⟨(hw _ hsl).trans wipe_wipe, ?_⟩
    have n1 : G0 D0 = none := l0.no hn
    obtain ⟨hl2, n2⟩ := e4 D0 _ n1 hl
    have ra2 : Rps X.K H2 acc accV := ra.ext s' (e0.trans e4) _ _
    refine htt G0 H2 σ2 τ2 _ _ e3 k2 q2 fun b H3 ⟨G3, s3, x3, q3⟩ => ?_
    obtain ⟨hl3, n3⟩ := x3 D0 _ n2 hl2
    have ra3 : Rps X.K H3 acc accV := ra2.ext e3 x3 _ _
    cases b with
    | true =>
      refine hte G3 H3 σ2 τ2 _ _ s3 (k2.ext e3 x3 _ _) q3 fun y H4 ⟨dy, G4, ry, s4, x4, q4⟩ => ?_
      obtain ⟨hl4, n4⟩ := x4 D0 _ n3 hl3
      have ra4 : Rps X.K H4 acc accV := ra3.ext s3 x4 _ _
      refine ⟨accV, hl4, ?_, G4, acc ++ [dy], accV ++ [y], upd_same, n4, (ra4.app (.cons ry .nil)).aside hl4 _ _, by simp; omega, s4.aside hl4 n4, fun a o ga ha => ?_, q4⟩
      · rw [ra4.length]
        have := million hz
        omega
      · obtain ⟨h5, g5⟩ := ((x2.trans x3).trans x4) a o ga ha
        have hne : a ≠ D0 := by rintro rfl; rw [hD] at ha; cases ha
        exact ⟨by rw [upd_ne hne]; exact h5, g5⟩
    | false => exact ⟨G3, acc, accV, hl3, n3, ra3, by omega, s3, x2.trans x3, q3⟩
  · have e : I.xs.drop i = [] := List.drop_eq_nil_of_le (by omega)
    rw [e] at q'
    obtain ⟨G0, l0, ok0, q0⟩ := q'
    have s0 := s'.le l0
    have n1 : G0 D0 = none := l0.no hn
    have h0 : ∀ a o, G a = none → H a = some o → a ≠ D0 := fun a o ga ha e => by
      obtain ⟨h6, _⟩ := x1 a o ga ha
      rw [e, hD] at h6; cases h6
    exact .inl ⟨rel.stop i G0 H' s0 (x'.le l0).l ok0 (by omega), fin D0 acc accV G0 H' h0 s0 (x1.trans (x'.le l0)) hl n1 (ra.ext s' (.of_le l0) _ _) q0⟩

end

/-- what a new list may still become: a value that never changes -/
def liftF (K : PySem.W.Frag) (G : HD) (H : Hp) (Q : Post) : VK := fun v H' => liftQ K G H Q v H' ∨ ∃ p vs, v = .ref p ∧ H' p = some (.lst vs) ∧ ∀ ob, liftQ K G H Q (.ref p) (upd H' p (.frz ob (.lst vs)))
theorem liftF.of {K : PySem.W.Frag} {G G' : HD} {H H' : Hp} {Q : Post} {d : D} {v : V} (r : Rp K H' d v) (s : Sim K G' H') (x : Ext G H G' H') (q : Q d G') : liftF K G H Q v H' := .inl ⟨d, G', r, s, x, q⟩
theorem liftF.up {K : PySem.W.Frag} {G G1 : HD} {H H1 H2 : Hp} {Q : Post} {v : V} (x : Ext G H G1 H1) (h : liftF K G1 H1 Q v H2) : liftF K G H Q v H2 :=
  h.elim (fun z => .inl (z.up x)) fun ⟨p, vs, e, hp, q⟩ => .inr ⟨p, vs, e, hp, fun ob => (q ob).up x⟩
theorem semE.frz {X : Cx} {e : Expr} {τ : L2.St} {G : HD} {H H0 : Hp} {Q : Post} (h : semE X e τ H (liftF X.K G H0 Q)) : semE X e τ H (liftQ X.K G H0 Q) := fun pins s I =>
  thn (h pins s I) fun u s1 ⟨v, H1, I1, r, q⟩ => by
    rcases q with q | ⟨p, vs, rfl, hp, q⟩
    · exact ⟨v, H1, I1, r, q⟩
    · obtain ⟨od, I2⟩ := I1.lock hp trivial
      exact ⟨.ref p, _, I2, r, q od⟩
theorem finV {K : PySem.W.Frag} {G : HD} {H : Hp} {Q : Post} {Q' : VK} (f : ∀ v H', liftF K G H Q v H' → Q' v H') : ∀ D0 acc accV G0 H', (∀ a o, G a = none → H a = some o → a ≠ D0) → Sim K G0 H' → Ext G H G0 H' → H' D0 = some (.lst accV) → G0 D0 = none → Rps K H' acc accV → Q (.kl acc) G0 → Q' (.ref D0) H' :=
  fun D0 acc accV G0 H' h0 s0 x0 hl n1 ra q0 => f _ _ (.inr ⟨D0, accV, rfl, hl, fun ob => ⟨.kl acc, G0, ⟨D0, accV, rfl, ⟨ob, upd_same⟩, ra.aside hl _ _⟩, s0.aside hl n1, fun a o ga ha => by
      obtain ⟨h5, g5⟩ := x0 a o ga ha
      exact ⟨by rw [upd_ne (h0 a o ga ha)]; exact h5, g5⟩, q0⟩⟩)
theorem newV.fin {K : PySem.W.Frag} {G : HD} {H : Hp} {ds : List D} {vs : List V} {Q : Post} {Q' : VK} (s : Sim K G H) (r : Rps K H ds vs) (f : ∀ v H', liftF K G H Q v H' → Q' v H') (q : Q (.kl ds) G) :
    ∀ p, H p = none → Q' (.ref p) (upd H p (.lst vs)) := fun p hp => f _ _ (.inr ⟨p, vs, rfl, upd_same, fun ob => by
  rw [upd_upd]
  exact .of (d := .kl ds) ⟨p, vs, rfl, ⟨ob, upd_same⟩, r.ext s (Ext.new hp (s.no hp)) _ _⟩ (s.newO hp) (.new hp (s.no hp)) q⟩)
def gOf : List Nat → TGs
  | [] => gNil
  | i :: is => gCons (gName i) (gOf is)
theorem gOf_run {K : PySem.W.Frag} {H : Hp} {Q : L2.St → Hp → Prop} : ∀ {is : List Nat} {ds : List D} {vs : List V} {σ : DSt} {τ : L2.St}, Rps K H ds vs → ds.length = is.length → RpS K H σ τ → (∀ τ', RpS K H (setAll is ds σ) τ' → (∀ ws, (∀ i ∈ is, i ∈ ws) → L2.wipe τ' ws = L2.wipe τ ws) → Q τ' H) → gOf is vs τ H Q
  | [], ds, vs, σ, τ, r, hl, k, q => by
    obtain rfl : ds = [] := List.eq_nil_of_length_eq_zero hl
    cases r
    exact ⟨rfl, q τ k fun _ _ => rfl⟩
  | i :: is, [], vs, σ, τ, r, hl, k, q => by cases hl
  | i :: is, d :: ds, vs, σ, τ, r, hl, k, q => by
    obtain ⟨v, vr, rfl, r1, r2⟩ := r
    exact ⟨v, vr, rfl, gOf_run r2 (Nat.succ.inj hl) (k.set r1) fun τ' k' hw => q τ' k' fun ws hi => (hw ws fun j hm => hi j (List.mem_cons_of_mem _ hm)).trans (wipe_set (hi _ List.mem_cons_self))⟩
theorem tr_many {K : PySem.W.Frag} {is : List Nat} : TgRun K (.many is) (gTup K is.length (gOf is)) := ⟨fun H σ τ d v k Q r rd hk q => by
  simp only [Tgt.put] at hk
  split at hk
  · obtain ⟨a, vs, rfl, t, rr⟩ := rd
    exact ⟨a, vs, rfl, t, rr.length.trans hk.1, gOf_run rr hk.1 r fun τ' k' hw => q _ τ' k' hk.2 hw⟩
  · exact hk.elim⟩
theorem takes_w0 {X : Cx} {G : HD} {H : Hp} : Takes X (liftW X.K G H W0) := fun _ _ ⟨_, _, _, _, _, _, _, _, _, _, _, _, _, _, _, _, ⟨_, _, _, _, _, _, _, z⟩⟩ => z.elim
section
variable {X : Cx} {elt tg iter : Expr} {ifs : List Expr} {scope : Scope} {own : List (Str × Nat)} {pos : Pos} {wi : TI} {ti : TDI} {t : Tgt} {g : TG} {dt : TDT} {te : TD}
/-- the block's context -/
abbrev BlkDE (X : Cx) (scope : Scope) (e : Expr) (te : TD) : Prop := ∀ (s : Shared) (H : Hp) (C : Addr) (cl : List (Str × Addr)) (fp : List Addr), DE (X.blk s H scope (compEnvC scope cl C X.env) fp) e te
abbrev BlkDTs (X : Cx) (scope : Scope) (es : List Expr) (dt : TDT) : Prop := ∀ (s : Shared) (H : Hp) (C : Addr) (cl : List (Str × Addr)) (fp : List Addr), DTs (X.blk s H scope (compEnvC scope cl C X.env) fp) es dt
abbrev BlkPG (X : Cx) (scope : Scope) (e : Expr) (g : TG) : Prop := ∀ (s : Shared) (H : Hp) (C : Addr) (cl : List (Str × Addr)) (fp : List Addr), PG (X.blk s H scope (compEnvC scope cl C X.env) fp) e g
def blkT (X : Cx) (scope : Scope) (ifs : List Expr) : TT := fun τ H Q => ∀ (s : Shared) (H0 : Hp) (C : Addr) (cl : List (Str × Addr)) (fp : List Addr), semTs (X.blk s H0 scope (compEnvC scope cl C X.env) fp) ifs τ H Q
def blkE (X : Cx) (scope : Scope) (e : Expr) : TE := fun τ H Q => ∀ (s : Shared) (H0 : Hp) (C : Addr) (cl : List (Str × Addr)) (fp : List Addr), semE (X.blk s H0 scope (compEnvC scope cl C X.env) fp) e τ H Q
theorem blk_pts (s : Shared) (H : Hp) (C : Addr) (cl : List (Str × Addr)) (fp : List Addr) : PTs (X.blk s H scope (compEnvC scope cl C X.env) fp) ifs (blkT X scope ifs) := ⟨fun pins s1 _ _ _ I h => h s H C cl fp pins s1 I⟩
theorem blk_pe (s : Shared) (H : Hp) (C : Addr) (cl : List (Str × Addr)) (fp : List Addr) : PE (X.blk s H scope (compEnvC scope cl C X.env) fp) elt (blkE X scope elt) := ⟨fun pins s1 _ _ _ I h => h s H C cl fp pins s1 I⟩
theorem lc_sem (hi : DI X tg iter wi ti) (hgr : TgRun X.K t g) (hsl : ∀ i ∈ t.slots, i ∈ own.map (·.2)) (ht : BlkDTs X scope ifs dt) (he : BlkDE X scope elt te) {G : HD} {H : Hp} {σ : DSt} {τ : L2.St} {W : DW} {F : List D → HD → Prop} (r : SR X G H σ τ W) (q : dLcG F ti t dt te (own.map (·.2)) W σ G)
    {Q' : VK} (fin : ∀ D0 acc accV G0 H', (∀ a o, G a = none → H a = some o → a ≠ D0) → Sim X.K G0 H' → Ext G H G0 H' → H' D0 = some (.lst accV) → G0 D0 = none → Rps X.K H' acc accV → F acc G0 → Q' (.ref D0) H') : tLc wi g (blkT X scope ifs) (blkE X scope elt) (own.map (·.2)) τ H Q' :=
  lc_run hi hgr hsl (fun G H σ τ Q Q' s k q f s0 H0 C cl fp pins s1 I => thn ((ht s0 H0 C cl fp).run G H σ τ W0 Q ⟨s, k, takes_w0⟩ q pins s1 I) fun b s2 ⟨H2, I2, z⟩ => ⟨H2, I2, f b H2 z⟩)
    (fun G H σ τ Q Q' s k q f s0 H0 C cl fp => ((he s0 H0 C cl fp).run G H σ τ W0 Q ⟨s, k, takes_w0⟩ q).imp f) r q fin
theorem de_lcV (hc : X.calm = true) (hN : X.N.Nodup) (hi : DI X tg iter wi ti) (ok : BlkOk X.N X.env.scope scope own) (hg : BlkPG X scope tg g) (hgr : TgRun X.K t g) (hsl : ∀ i ∈ t.slots, i ∈ own.map (·.2)) (ht : BlkDTs X scope ifs dt) (he : BlkDE X scope elt te)
    (hs : ∀ x, foldedSetIterable iter X.env x = pure x := by intro _; rfl) : DE X (.ListComp elt [⟨tg, iter, ifs, 0⟩] scope pos) (dLcV ti t dt te (own.map (·.2))) :=
  ⟨fun G H σ τ W Q r q => semE.frz (semE.of (pe_lc hc hN hi.pi ok hg blk_pts blk_pe hs) (lc_sem hi hgr hsl ht he r q (finV fun _ _ z => z)))⟩
/-- .. at the end of a statement -/
def liftNF (K : PySem.W.Frag) (G : HD) (H : Hp) (Q : DSt → HD → Prop) : L2.St → Hp → Prop := fun t H' => liftN K G H Q t H' ∨ ∃ p vs, H' p = some (.lst vs) ∧ ∀ ob, liftN K G H Q t (upd H' p (.frz ob (.lst vs)))
theorem semS.frz {st : Stmt} {G : HD} {τ : L2.St} {H : Hp} {D : DEnds} (h : semS X st { liftD X.K G H D with nx := liftNF X.K G H D.nx } τ H) : semS X st (liftD X.K G H D) τ H := fun pins s I =>
  thn (h pins s I) fun f s1 q => by
    cases f with
    | next =>
      obtain ⟨τ1, H1, I1, q⟩ := q
      rcases q with q | ⟨p, vs, hp, q⟩
      · exact ⟨τ1, H1, I1, q⟩
      · obtain ⟨od, I2⟩ := I1.lock hp trivial
        exact ⟨τ1, _, I2, q od⟩
    | brk => exact q
    | cont => exact q
    | ret u => exact q
theorem ds_setLcV {i : Nat} {y : Str} {py spos : Pos} (hc : X.calm = true) (hN : X.N.Nodup) (hy : X.N[i]? = some y) (hyl : X.env.scope.names.lookup y = some .local) (hsw : swapsWith (.ListComp elt [⟨tg, iter, ifs, 0⟩] scope pos) (some (.Name y py)) spos.line X.env = pure true)
    (hi : DI X tg iter wi ti) (ok : BlkOk X.N X.env.scope scope own) (hg : BlkPG X scope tg g) (hgr : TgRun X.K t g) (hsl : ∀ i ∈ t.slots, i ∈ own.map (·.2)) (ht : BlkDTs X scope ifs dt) (he : BlkDE X scope elt te)
    (hs : ∀ x, foldedSetIterable iter X.env x = pure x := by intro _; rfl) : DS X (.Assign [.Name y py] (.ListComp elt [⟨tg, iter, ifs, 0⟩] scope pos) spos) (sSet i (dLcV ti t dt te (own.map (·.2)))) :=
  ⟨fun G H σ τ W D r q => semS.frz (semS.of (ps_setLc hc hN hy hyl hsw hi.pi ok hg blk_pts blk_pe hs) (lc_sem hi hgr hsl ht he r q (finV (K := X.K) (G := G) (H := H) (Q := fun d G1 => D.nx (σ.set i (some d)) G1) (Q' := fun v H' => gName i v τ H' (liftNF X.K G H D.nx)) fun v H' z => by
    rcases z with ⟨d, G', k, s, x, q'⟩ | ⟨p, vs, rfl, hp, z⟩
    · exact .inl ⟨_, G', (r.slots.ext r.sim x _ _).set k, s, x, q'⟩
    · exact .inr ⟨p, vs, hp, fun ob => by
        obtain ⟨d, G', k, s, x, q'⟩ := z ob
        exact ⟨_, G', (r.slots.ext r.sim x _ _).set k, s, x, q'⟩⟩)))⟩
end
end DL

namespace DL
open PySem PySem.Spec L2
open PyProof.Rows hiding St

/-! ### calls of built-ins -/
def CallD (K : PySem.W.Frag) (r : List V → Hp → VK → Prop) (rd : List D → HD → Post → Prop) : Prop :=
  ∀ (G : HD) (H : Hp) (ds : List D) (vs : List V) (Q : Post) (Q' : VK), Sim K G H → Rps K H ds vs → (∀ v H', liftQ K G H Q v H' → Q' v H') → rd ds G Q → r vs H Q'
theorem CallR.or {X : Cx} {f : Value} {r r' : List V → Hp → VK → Prop} (h : CallR X f r) (h' : CallR X f r') : CallR X f (fun xs H Q => r xs H Q ∨ r' xs H Q) := by
  intro pins s σ H xs us Q I rv q
  exact q.elim (h pins s σ H xs us Q I rv) (h' pins s σ H xs us Q I rv)
def dCB (rd : List D → HD → Post → Prop) (ts : TDA) : TD := fun W σ G Q => ts W σ G fun ds G1 => rd ds G1 Q
section
variable {X : Cx} {x : Str} {p pos : Pos} {e : Expr} {es : List Expr} {ts : TDA} {id T : String} {r : List V → Hp → VK → Prop} {rd : List D → HD → Post → Prop}
theorem de_cb (hc : CallR X (.builtin id) r) (hd : CallD X.K r rd) (hm : X.mg x = none) (hv : bootBuiltins x = some (.builtin id)) (ha : DA X (e :: es) ts) (hg : Gl X x := by rfl) (hn : x ≠ "__name__" := by decide) (hdb : (x == ("__debug__" : Str)) = false := by decide)
    (he : starEach (e :: es) X.env = (false, eval e X.env) :: starEach es X.env := by rfl) (hpl : (backTo pos (starEach es X.env)).any (·.1) = false := by rfl) : DE X (.Call (.Name x p) (e :: es) [] pos) (dCB rd ts) :=
  ⟨fun G H σ τ W Q r0 q => semE.of (pe_callB hc hg hm hv paSem hn hdb he hpl) (ha.then r0 q fun ds vs G1 H1 r1 x1 k1 q1 => hd G1 H1 ds vs Q _ r1.sim k1 (fun _ _ z => z.up x1) q1)⟩
theorem de_ct (hc : CallR X (.type T) r) (hd : CallD X.K r rd) (hm : X.mg x = none) (hv : bootBuiltins x = some (.type T)) (ha : DA X (e :: es) ts) (hg : Gl X x := by rfl) (hn : x ≠ "__name__" := by decide) (hdb : (x == ("__debug__" : Str)) = false := by decide)
    (he : starEach (e :: es) X.env = (false, eval e X.env) :: starEach es X.env := by rfl) (hpl : (backTo pos (starEach es X.env)).any (·.1) = false := by rfl) : DE X (.Call (.Name x p) (e :: es) [] pos) (dCB rd ts) :=
  ⟨fun G H σ τ W Q r0 q => semE.of (pe_callTy hc hg hm hv paSem hn hdb he hpl) (ha.then r0 q fun ds vs G1 H1 r1 x1 k1 q1 => hd G1 H1 ds vs Q _ r1.sim k1 (fun _ _ z => z.up x1) q1)⟩
end
theorem one_of {K : PySem.W.Frag} {H : Hp} {d : D} {vs : List V} (h : Rps K H [d] vs) : ∃ v, vs = [v] ∧ Rp K H d v := by
  obtain ⟨v, r, rfl, h1, h2⟩ := h
  cases h2
  exact ⟨v, rfl, h1⟩
theorem two_of {K : PySem.W.Frag} {H : Hp} {d e : D} {vs : List V} (h : Rps K H [d, e] vs) : ∃ v w, vs = [v, w] ∧ Rp K H d v ∧ Rp K H e w := by
  obtain ⟨v, r, rfl, h1, h2⟩ := h
  obtain ⟨w, rfl, h3⟩ := one_of h2
  exact ⟨v, w, rfl, h1, h3⟩

def lenD (G : HD) : D → Option Nat
  | .str x => if x.length ≤ sizeLine then some x.length else none
  | .tup ds => some ds.length
  | .kl ds => some ds.length
  | .kc ds => some ds.length
  | .ref a => match G a with
    | some (.lst ds) => some ds.length
    | some (.dK l) => some l.length
    | _ => none
  | _ => none
def rLen : List D → HD → Post → Prop := fun ds G Q => match ds with
  | [d] => match lenD G d with
    | some n => Q (.int n) G
    | none => False
  | _ => False
theorem cd_len (K : PySem.W.Frag) : CallD K (fun xs H Q => (∃ x n, xs = [x] ∧ LenV K x H n ∧ Q (.int n) H) ∨ (∃ a kvs, xs = [V.ref a] ∧ H a = some (.dK kvs) ∧ Q (.int kvs.length) H)) rLen := fun G H ds vs Q Q' s k f q => by
  unfold rLen at q
  split at q
  · rename_i d
    obtain ⟨v, rfl, kd⟩ := one_of k
    split at q
    · rename_i n hn
      have fin : Q' (.int n) H := f _ _ (.of (d := .int n) rfl s .refl q)
      cases d with
      | str x =>
        cases kd
        simp only [lenD] at hn
        split at hn
        · rename_i z; cases hn; exact .inl ⟨_, _, rfl, ⟨z, rfl⟩, fin⟩
        · cases hn
      | tup es =>
        obtain ⟨a, ws, rfl, t, r⟩ := kd
        cases hn
        exact .inl ⟨_, _, rfl, .inr ⟨ws, t, r.length.symm⟩, fin⟩
      | kl es =>
        obtain ⟨a, ws, rfl, t, r⟩ := Rp.lst (ds := es) s kd rfl
        cases hn
        exact .inl ⟨_, _, rfl, .inl ⟨ws, t, r.length.symm⟩, fin⟩
      | kc es =>
        obtain ⟨a, ws, rfl, t, r⟩ := Rp.lst (ds := es) s kd rfl
        cases hn
        exact .inl ⟨_, _, rfl, .inl ⟨ws, t, r.length.symm⟩, fin⟩
      | exc _ _ _ => cases hn
      | emp => cases hn
      | fn _ _ _ _ _ => cases hn
      | ref a =>
        cases kd
        simp only [lenD] at hn
        split at hn
        · rename_i es eg
          cases hn
          obtain ⟨ws, e1, r⟩ := s.lst eg
          exact .inl ⟨_, _, rfl, .inl ⟨ws, .of e1, r.length.symm⟩, fin⟩
        · rename_i l eg
          cases hn
          obtain ⟨m, e1, r⟩ := s.dK eg
          exact .inr ⟨a, m, rfl, e1, by rw [r.length]; exact fin⟩
        · cases hn
      | non => cases hn
      | bl _ => cases hn
      | int _ => cases hn
      | ty _ => cases hn
    · exact q.elim
  · exact q.elim
/-- max, min of two ints -/
def rMax2 : List D → HD → Post → Prop := fun ds G Q => match ds with
  | [.int i, .int j] => Q (.int (if j > i then j else i)) G
  | [d] => match asL G d with
    | some es => match asInts es with
      | some ns => 0 < ns.length ∧ ∀ m, m ∈ ns → (∀ y, y ∈ ns → y ≤ m) → Q (.int m) G
      | none => False
    | none => False
  | _ => False
def rMin2 : List D → HD → Post → Prop := fun ds G Q => match ds with
  | [.int i, .int j] => Q (.int (if j < i then j else i)) G
  | [d] => match asL G d with
    | some es => match asInts es with
      | some ns => 0 < ns.length ∧ ∀ m, m ∈ ns → (∀ y, y ∈ ns → m ≤ y) → Q (.int m) G
      | none => False
    | none => False
  | _ => False
theorem intsL {K : PySem.W.Frag} {G : HD} {H : Hp} {d : D} {v : V} {es : List D} {ns : List Int} (s : Sim K G H) (k : Rp K H d v) (h : asL G d = some es) (h2 : asInts es = some ns) : ∃ a, v = .ref a ∧ SqL K H a (ns.map V.int) := by
  obtain ⟨a, vs, rfl, t, r⟩ := k.lst s h
  obtain rfl := asInts_eq h2
  obtain rfl := r.ints
  exact ⟨a, rfl, t⟩
theorem cd_max (K : PySem.W.Frag) : CallD K (fun xs H Q => (∃ i j, xs = [.int i, .int j] ∧ Q (.int (if j > i then j else i)) H) ∨ L2.rMax K xs H Q) rMax2 := fun G H ds vs Q Q' s k f q => by
  unfold rMax2 at q
  split at q
  · obtain ⟨v, w, rfl, h1, h2⟩ := two_of k
    cases h1; cases h2
    exact .inl ⟨_, _, rfl, f _ _ (.of (d := .int _) rfl s .refl q)⟩
  · obtain ⟨v, rfl, kd⟩ := one_of k
    split at q
    · rename_i es e1
      split at q
      · rename_i ns e2
        obtain ⟨a, rfl, t⟩ := intsL s kd e1 e2
        exact .inr ⟨a, ns, rfl, t, q.1, fun m h1 h2 => f _ _ (.of (d := .int m) rfl s .refl (q.2 m h1 h2))⟩
      · exact q.elim
    · exact q.elim
  · exact q.elim
theorem cd_min (K : PySem.W.Frag) : CallD K (fun xs H Q => (∃ i j, xs = [.int i, .int j] ∧ Q (.int (if j < i then j else i)) H) ∨ L2.rMin K xs H Q) rMin2 := fun G H ds vs Q Q' s k f q => by
  unfold rMin2 at q
  split at q
  · obtain ⟨v, w, rfl, h1, h2⟩ := two_of k
    cases h1; cases h2
    exact .inl ⟨_, _, rfl, f _ _ (.of (d := .int _) rfl s .refl q)⟩
  · obtain ⟨v, rfl, kd⟩ := one_of k
    split at q
    · rename_i es e1
      split at q
      · rename_i ns e2
        obtain ⟨a, rfl, t⟩ := intsL s kd e1 e2
        exact .inr ⟨a, ns, rfl, t, q.1, fun m h1 h2 => f _ _ (.of (d := .int m) rfl s .refl (q.2 m h1 h2))⟩
      · exact q.elim
    · exact q.elim
  · exact q.elim
def rAbs : List D → HD → Post → Prop := fun ds G Q => match ds with
  | [.int i] => Q (.int (if i < 0 then -i else i)) G
  | _ => False
def rInt : List D → HD → Post → Prop := fun ds G Q => match ds with
  | [.int i] => Q (.int i) G
  | [.bl b] => Q (.int (if b then 1 else 0)) G
  | _ => False
theorem cd_int (K : PySem.W.Frag) : CallD K (fun xs H Q => (∃ i, xs = [.int i] ∧ Q (.int i) H) ∨ ∃ k, xs = [.bl k] ∧ Q (.int (if k then 1 else 0)) H) rInt := fun G H ds vs Q Q' s k f q => by
  unfold rInt at q
  split at q
  · obtain ⟨v, rfl, kd⟩ := one_of k
    cases kd
    exact .inl ⟨_, rfl, f _ _ (.of (d := .int _) rfl s .refl q)⟩
  · obtain ⟨v, rfl, kd⟩ := one_of k
    cases kd
    exact .inr ⟨_, rfl, f _ _ (.of (d := .int _) rfl s .refl q)⟩
  · exact q.elim
def rTuple : List D → HD → Post → Prop := fun ds G Q => match ds with
  | [d] => match asQ G d with
    | some es => Q (.tup es) G
    | none => False
  | _ => False
theorem cd_tuple (K : PySem.W.Frag) : CallD K (fun xs H Q => ∃ p ys, xs = [.ref p] ∧ ((SqL K H p ys ∧ ∀ l, H l = none → Q (.ref l) (upd H l (.tup ys))) ∨ (SqT K H p ys ∧ Q (.ref p) H))) rTuple := fun G H ds vs Q Q' s k f q => by
  unfold rTuple at q
  split at q
  · obtain ⟨v, rfl, kd⟩ := one_of k
    split at q
    · rename_i es e1
      obtain ⟨a, ws, rfl, t, r⟩ := kd.seq s e1
      rcases t with t | t
      · exact ⟨a, ws, rfl, .inl ⟨t, newT.fin s r f q⟩⟩
      · exact ⟨a, ws, rfl, .inr ⟨t, f _ _ (.of (d := .tup es) ⟨a, ws, rfl, t, r⟩ s .refl q)⟩⟩
    · exact q.elim
  · exact q.elim
def asBls : List D → Option (List Bool)
  | [] => some []
  | .bl i :: r => (asBls r).map (i :: ·)
  | _ :: _ => none
theorem asBls_eq : ∀ {ds : List D} {ns : List Bool}, asBls ds = some ns → ds = ns.map D.bl
  | [], _, h => by cases h; rfl
  | .bl i :: r, ns, h => by
    simp only [asBls, Option.map_eq_some_iff] at h
    obtain ⟨ms, e, rfl⟩ := h
    rw [asBls_eq e]; rfl
  | .non :: _, _, h => by cases h
  | .int _ :: _, _, h => by cases h
  | .str _ :: _, _, h => by cases h
  | .ty _ :: _, _, h => by cases h
  | .ref _ :: _, _, h => by cases h
  | .tup _ :: _, _, h => by cases h
  | .kl _ :: _, _, h => by cases h
  | .kc _ :: _, _, h => by cases h
  | .exc _ _ _ :: _, _, h => by cases h
  | .emp :: _, _, h => by cases h
  | .fn _ _ _ _ _ :: _, _, h => by cases h
theorem asBls_map : ∀ ns : List Bool, asBls (ns.map D.bl) = some ns
  | [] => rfl
  | n :: ns => by show (asBls (ns.map D.bl)).map (n :: ·) = _; rw [asBls_map ns]; rfl
def rAllD (p : List Bool → Bool) : List D → HD → Post → Prop := fun ds G Q => match ds with
  | [d] => match asL G d with
    | some es => match asBls es with
      | some bs => Q (.bl (p bs)) G
      | none => False
    | none => False
  | _ => False
theorem cd_all (K : PySem.W.Frag) : CallD K (L2.rAll K) (rAllD fun bs => bs.all id) := fun G H ds vs Q Q' s k f q => by
  unfold rAllD at q
  split at q
  · obtain ⟨v, rfl, kd⟩ := one_of k
    split at q
    · rename_i es e1
      split at q
      · rename_i ns e2
        obtain ⟨a, vs, rfl, t, r⟩ := kd.lst s e1
        obtain rfl := asBls_eq e2
        obtain rfl := r.bls
        exact ⟨a, ns, rfl, t, f _ _ (.of (d := .bl _) rfl s .refl q)⟩
      · exact q.elim
    · exact q.elim
  · exact q.elim

/-! isinstance -/
/-- a datum's type: a built-in one by its name, or an own class -/
def tyD (G : HD) : D → Option (String ⊕ Addr)
  | .non => some (.inl "NoneType")
  | .bl _ => some (.inl "bool")
  | .int _ => some (.inl "int")
  | .str _ => some (.inl "str")
  | .tup _ => some (.inl "tuple")
  | .kl _ => some (.inl "list")
  | .kc _ => some (.inl "list")
  | .exc _ _ _ => none
  | .emp => none
  | .fn _ _ _ _ _ => none
  | .ty _ => none
  | .ref a => match G a with
    | some (.lst _) => some (.inl "list")
    | some (.dK _) => some (.inl "dict")
    | some (.dT _) => some (.inl "dict")
    | some (.ins C _) => some (.inr C)
    | _ => none
def tyV2 : String ⊕ Addr → Value
  | .inl n => .type n
  | .inr C => .ref C
/-- isinstance between built-in types -/
def isiB (a b : String) : Option Bool :=
  if a ∈ ["NoneType", "bool", "int", "str", "tuple", "list", "dict"] ∧ b ∈ ["bool", "int", "str", "tuple", "list", "dict"] then some (a == b || (a == "bool" && b == "int")) else none
theorem isiB_ok {a b : String} {r : Bool} (h : isiB a b = some r) : kitB a b = some r := by
  unfold isiB at h
  split at h
  · rename_i z
    obtain ⟨z1, z2⟩ := z
    cases h
    simp only [List.mem_cons, List.not_mem_nil, or_false] at z1 z2
    rcases z1 with rfl | rfl | rfl | rfl | rfl | rfl | rfl <;> rcases z2 with rfl | rfl | rfl | rfl | rfl | rfl <;> decide +kernel
  · cases h
/-- what an own class must have, to be asked for -/
def InsOk (K : PySem.W.Frag) (C : Addr) : Prop := Cls K C ∧ PySem.W.findIn K (.ref C) "__class__" = some (some (.builtin "object.__class__")) ∧
  PySem.W.specialIn K (.builtin "object.__class__") "__get__" = some (some (.builtin "getset_descriptor.__get__")) ∧ PySem.W.takesIn K (.builtin "object.__class__") = some true ∧ PySem.W.mroIn K C (.type "object") = some true
def InsO (K : PySem.W.Frag) : String ⊕ Addr → Prop
  | .inl _ => True
  | .inr C => InsOk K C
/-- ic a c b: a thing of the type a is (b) an instance of c -/
def IsiOk (K : PySem.W.Frag) (a c : String ⊕ Addr) (b : Bool) : Prop := InsO K a ∧ PySem.W.kitOne K (tyV2 a) (tyV2 c) = some b
def rIsiD (ic : String ⊕ Addr → String ⊕ Addr → Bool → Prop) : List D → HD → Post → Prop := fun ds G Q => match ds with
  | [d, .ty n] => match tyD G d with
    | some (.inl a) => match isiB a n with
      | some b => Q (.bl b) G
      | none => False
    | some (.inr C) => ∃ b, ic (.inr C) (.inl n) b ∧ Q (.bl b) G
    | none => False
  | [d, .ref c] => match tyD G d with
    | some t => ∃ b, ic t (.inr c) b ∧ Q (.bl b) G
    | none => False
  | _ => False
theorem tyD_ok {K : PySem.W.Frag} {G : HD} {H : Hp} {d : D} {v : V} {t : String ⊕ Addr} (s : Sim K G H) (k : Rp K H d v) (h : tyD G d = some t) (hi : InsO K t) : TyX K H v (tyV2 t) := by
  cases d with
  | non => cases h; cases k; exact .base .non
  | bl b => cases h; cases k; exact .base (.bl b)
  | int b => cases h; cases k; exact .base (.int b)
  | str b => cases h; cases k; exact .base (.str b)
  | ty _ => cases h
  | tup ds =>
    cases h
    obtain ⟨a, vs, rfl, t, r⟩ := k
    rcases t with (t | ⟨o, t⟩) | ⟨o, its, n, t1, t2, _⟩
    · exact .base (.tup t)
    · exact .fTuple t
    · exact .kTuple t1 t2
  | kl ds =>
    cases h
    obtain ⟨a, vs, rfl, ⟨o, t⟩, r⟩ := k
    exact .base (.frz t)
  | kc ds =>
    cases h
    obtain ⟨a, vs, rfl, t, r⟩ := k
    rcases t with ⟨o, t⟩ | ⟨o, its, n, t1, t2, _⟩
    · exact .base (.frz t)
    · exact .kList t1 t2
  | exc _ _ _ => cases h
  | emp => cases h
  | fn _ _ _ _ _ => cases h
  | ref a =>
    cases k
    simp only [tyD] at h
    split at h
    · rename_i ds e
      cases h
      obtain ⟨vs, e1, _⟩ := s.lst e
      exact .base (.lst e1)
    · rename_i ds e
      cases h
      obtain ⟨vs, e1, _⟩ := s.dK e
      exact .base (.dK e1)
    · rename_i ds e
      cases h
      obtain ⟨vs, e1, _⟩ := s.dT e
      exact .base (.dT e1)
    · rename_i C fs e
      cases h
      obtain ⟨dx, l, e1, _⟩ := s.ins e
      obtain ⟨h1, h2, h3, h4, h5⟩ := hi
      exact .base (.ins e1 h1 h2 h3 h4 h5)
    · cases h
theorem cd_isi {K : PySem.W.Frag} {ic : String ⊕ Addr → String ⊕ Addr → Bool → Prop} (hic : ∀ a c b, ic a c b → IsiOk K a c b) : CallD K (rIsi K) (rIsiD ic) := fun G H ds vs Q Q' s k f q => by
  unfold rIsiD at q
  split at q
  · rename_i d n
    obtain ⟨v, w, rfl, h1, h2⟩ := two_of k
    cases h2
    split at q
    · rename_i a e
      split at q
      · rename_i b hb
        exact ⟨v, .ty n, _, _, b, rfl, .ty n, tyD_ok s h1 e trivial, kit_ty (isiB_ok hb), f _ _ (.of (d := .bl b) rfl s .refl q)⟩
      · exact q.elim
    · rename_i C e
      obtain ⟨b, hb, q⟩ := q
      obtain ⟨z1, z2⟩ := hic _ _ _ hb
      exact ⟨v, .ty n, _, _, b, rfl, .ty n, tyD_ok s h1 e z1, z2, f _ _ (.of (d := .bl b) rfl s .refl q)⟩
    · exact q.elim
  · rename_i d c
    obtain ⟨v, w, rfl, h1, h2⟩ := two_of k
    cases h2
    split at q
    · rename_i t e
      obtain ⟨b, hb, q⟩ := q
      obtain ⟨z1, z2⟩ := hic _ _ _ hb
      exact ⟨v, .ref c, _, _, b, rfl, .own c, tyD_ok s h1 e z1, z2, f _ _ (.of (d := .bl b) rfl s .refl q)⟩
    · exact q.elim
  · exact q.elim

/-! o[i] = e, a list -/
def rSetD : D → D → D → HD → (HD → Prop) → Prop := fun o i v G Q => match o, i with
  | .ref a, .int k => match G a with
    | some (.lst xs) => match ixN xs.length k with
      | some j => Q (put G a (.lst (xs.set j v)))
      | none => False
    | _ => False
  | _, _ => False
def sSub (to ti te : TD) (rd : D → D → D → HD → (HD → Prop) → Prop) : TDS := fun W D σ G => te W σ G fun v G1 => to W σ G1 fun o G2 => ti W σ G2 fun i G3 => rd o i v G3 fun G4 => D.nx σ G4
section
variable {X : Cx} {o i e : Expr} {to ti te : TD} {pos pos' : Pos}
def SetD (K : PySem.W.Frag) (r : TSet) (rd : D → D → D → HD → (HD → Prop) → Prop) : Prop :=
  ∀ (G : HD) (H : Hp) (o i v : D) (x y z : V) (Q : HD → Prop) (Q' : Hp → Prop), Sim K G H → Rp K H o x → Rp K H i y → Rp K H v z → (∀ G' H', Sim K G' H' → Ext G H G' H' → Q G' → Q' H') → rd o i v G Q → r x y z H Q'
theorem sd_list (K : PySem.W.Frag) : SetD K rSetL rSetD := fun G H o i v x y z Q Q' s k1 k2 k3 f q => by
  unfold rSetD at q
  split at q
  · rename_i a k
    cases k1; cases k2
    split at q
    · rename_i xs e
      split at q
      · rename_i j hj
        obtain ⟨vs, e1, r⟩ := s.lst e
        exact ⟨a, vs, k, j, rfl, rfl, e1, by rw [r.length]; exact hj, f _ _ (s.wr (m := .lst (xs.set j v)) (o := .lst (vs.set j z)) e ⟨_, rfl, r.set k3⟩) (.wr e) q⟩
      · exact q.elim
    · exact q.elim
  · exact q.elim
theorem ds_sub {r : TSet} {rd : D → D → D → HD → (HD → Prop) → Prop} (hp : PSet X r) (hd : SetD X.K r rd) (ho : DE X o to) (hi : DE X i ti) (he : DE X e te)
    (ha : ∀ v, assign (.Subscript o i pos') X.env v = (do
      let ov ← holding [v] (eval o X.env)
      let iv ← holding [v, ov] (eval i X.env)
      standAt pos'
      holding [v, ov, iv] (setItem ov iv v)
      release [v, ov, iv] []) := by intro _; rfl)
    (hs : swapsWithSole [.Subscript o i pos'] e pos.line X.env = pure false := by rfl) (hw : swappedStores [.Subscript o i pos'] e X.env = pure none := by rfl) (h1 : (assignEach [.Subscript o i pos'] X.env).map (·.2) = [assign (.Subscript o i pos') X.env] := by rfl) :
    DS X (.Assign [.Subscript o i pos'] e pos) (sSub to ti te rd) :=
  ⟨fun G H σ τ W D r0 q => semS.of (ps_asg peSem (pg_sub peSem peSem hp ha) hs hw h1) (he.then r0 q fun v z G1 H1 r1 x1 k1 q1 => ho.then r1 q1 fun d x G2 H2 r2 x2 k2 q2 => hi.then r2 q2 fun c y G3 H3 r3 x3 k3 q3 =>
    hd G3 H3 d c v x y z _ _ r3.sim (k2.ext r2.sim x3 _ _) k3 (k1.ext r1.sim (x2.trans x3) _ _) (fun G4 H4 s4 x4 q4 => ⟨σ, G4, r3.slots.ext r3.sim x4 _ _, s4, ((x1.trans x2).trans x3).trans x4, q4⟩) q3)⟩
end

/-! x += e, o.f += e -/
def dCmpA (g : Int → Int → Int) : D → D → HD → Post → Prop := fun d e G Q => match d, e with
  | .int i, .int j => Q (.int (g i j)) G
  | _, _ => False
def sFldG (ok : Addr → Str → Prop) (f : Str) (g : Int → Int → Int) (to tv : TD) : TDS := fun W D σ G => to W σ G fun d G1 => match d with
  | .ref a => match G1 a with
    | some (.ins C fs) => ok C f ∧ match fs.lookup f with
      | some (.int i) => tv W σ G1 fun v G2 => match v with
        | .int j => match G2 a with
          | some (.ins C2 fs2) => C2 = C ∧ fs2.length < 1000 ∧ D.nx σ (put G2 a (.ins C2 (putD f (.int (g i j)) fs2)))
          | _ => False
        | _ => False
      | _ => False
    | _ => False
  | _ => False
def sAug (i : Nat) (rd : D → D → HD → Post → Prop) (te : TD) : TDS := fun W D σ G => match σ[i]? with
  | some (some d) => te W σ G fun e G1 => rd d e G1 fun z G2 => D.nx (σ.set i (some z)) G2
  | _ => False
section
variable {X : Cx} {e o : Expr} {te to : TD} {pos pos' : Pos}
end
end DL

namespace DL
open PySem PySem.Spec L2
open PyProof.Rows hiding St

/-! ### bundles: a def of the module, a method, a class to be made, as callers want them -/
structure DefK (P : Program) (w : World) (K : PySem.W.Frag) (mg : Str → Option Value) (base : Heap) (k : Nat) (x : Str) (sp : SpD) (dds : List D) : Prop where
  ex : ∃ (f : Addr) (fd : FuncData) (ps : List Str) (dvs : List V) (ds : List Value), FnK P w K mg base k f fd ps sp ∧ mg x = some (.ref f) ∧ PySem.W.keepIn K (.ref f) = true ∧ Binds K fd ps ds ∧ Vals dvs ds ∧ Dfl K dds dvs ∧ ∀ ds G E Q, sp ds G E Q → ds.length = ps.length
structure MetK (P : Program) (w : World) (K : PySem.W.Frag) (mg : Str → Option Value) (base : Heap) (k : Nat) (m : Str) (C : Addr) (sp : SpD) (dds : List D) : Prop where
  ex : ∃ (f : Addr) (fd : FuncData) (ps : List Str) (dvs : List V) (ds : List Value), Cls K C ∧ Meth K C m f ∧ FnK P w K mg base k f fd ps sp ∧ Binds K fd ps ds ∧ Vals dvs ds ∧ Dfl K dds dvs ∧ ∀ ds G E Q, sp ds G E Q → ds.length = ps.length
structure MakK (P : Program) (w : World) (K : PySem.W.Frag) (mg : Str → Option Value) (base : Heap) (k : Nat) (x : Str) (C : Addr) (sp : SpD) (dds : List D) : Prop where
  ex : ∃ (f : Addr) (fd : FuncData) (ps : List Str) (dvs : List V) (ds : List Value), Mk K C f ∧ FnK P w K mg base k f fd ps sp ∧ mg x = some (.ref C) ∧ Binds K fd ps ds ∧ Vals dvs ds ∧ Dfl K dds dvs ∧ ∀ ds G E Q, sp ds G E Q → ds.length = ps.length
section
variable {X : Cx} {k j : Nat} {C : Addr} {sp : SpD} {x m : Str} {p pos apos : Pos} {e o : Expr} {es : List Expr} {ta : TD} {ts : TDA} {dds : List D}
theorem dk_call (F : DefK X.prog X.w X.K X.mg X.base k x sp dds) (hr : RoomG j X.A) (ha : DA X (e :: es) ts) (hj : k ≤ j := by decide) (hg : Gl X x := by rfl) (hdb : (x == ("__debug__" : Str)) = false := by decide) (he : starEach (e :: es) X.env = (false, eval e X.env) :: starEach es X.env := by rfl) (hpl : (backTo pos (starEach es X.env)).any (·.1) = false := by rfl) :
    DE X (.Call (.Name x p) (e :: es) [] pos) (dCall sp dds ts) := by
  obtain ⟨f, fd, ps, dvs, ds, h1, h2, h3, h4, h5, h6, h7⟩ := F.ex
  exact de_call h1 (hr.mono hj) h2 h3 h4 h5 h6 ha h7 hg hdb he hpl
theorem dk_call0 (F : DefK X.prog X.w X.K X.mg X.base k x sp dds) (hr : RoomG j X.A) (hj : k ≤ j := by decide) (hg : Gl X x := by rfl) (hdb : (x == ("__debug__" : Str)) = false := by decide) :
    DE X (.Call (.Name x p) [] [] pos) (dCall sp dds dNil) := by
  obtain ⟨f, fd, ps, dvs, ds, h1, h2, h3, h4, h5, h6, h7⟩ := F.ex
  exact de_call0 h1 (hr.mono hj) h2 h3 h4 h5 h6 h7 hg hdb
theorem MetK.to {q : Addr × SpD} (F : MetK X.prog X.w X.K X.mg X.base k m q.1 q.2 dds) (hj : k ≤ j) : MethK X j m q.1 q.2 dds := by
  obtain ⟨f, fd, ps, dvs, ds, h1, h2, h3, h4, h5, h6, h7⟩ := F.ex
  exact ⟨f, fd, ps, dvs, ds, h1, h2, h3.mono hj, h4, h5, h6, h7⟩
/-- the classes that have the method -/
inductive Mets (X : Cx) (j : Nat) (m : Str) (dds : List D) : List (Addr × SpD) → Prop where
  | nil : Mets X j m dds []
  | cons {q : Addr × SpD} {l : List (Addr × SpD)} (h : MethK X j m q.1 q.2 dds) (t : Mets X j m dds l) : Mets X j m dds (q :: l)
theorem Mets.all {l : List (Addr × SpD)} (h : Mets X j m dds l) : ∀ q ∈ l, MethK X j m q.1 q.2 dds := by
  induction h with
  | nil => intro q hq; cases hq
  | cons h _ ih =>
    intro q hq
    rcases List.mem_cons.mp hq with rfl | hq
    · exact h
    · exact ih q hq
end

/-! ### built-ins in short -/
section
variable {X : Cx} {p pos : Pos} {e : Expr} {es : List Expr} {ts : TDA}
theorem bc_len (hm : X.mg "len" = none) (ha : DA X [e] ts) (hg : Gl X "len" := by rfl) (he : starEach [e] X.env = (false, eval e X.env) :: starEach [] X.env := by rfl) : DE X (.Call (.Name "len" p) [e] [] pos) (dCB rLen ts) := de_cb (CallR.or call_len call_lenD) (cd_len X.K) hm boot_len ha hg (by decide) (by decide) he (by rfl)
theorem bc_max (hc : X.calm = true) (hm : X.mg "max" = none) (ha : DA X (e :: es) ts) (hg : Gl X "max" := by rfl) (he : starEach (e :: es) X.env = (false, eval e X.env) :: starEach es X.env := by rfl) (hpl : (backTo pos (starEach es X.env)).any (·.1) = false := by rfl) : DE X (.Call (.Name "max" p) (e :: es) [] pos) (dCB rMax2 ts) := de_cb (CallR.or (call_max2 hc) (cr_max hc)) (cd_max X.K) hm boot_max ha hg (by decide) (by decide) he hpl
theorem bc_min (hc : X.calm = true) (hm : X.mg "min" = none) (ha : DA X (e :: es) ts) (hg : Gl X "min" := by rfl) (he : starEach (e :: es) X.env = (false, eval e X.env) :: starEach es X.env := by rfl) (hpl : (backTo pos (starEach es X.env)).any (·.1) = false := by rfl) : DE X (.Call (.Name "min" p) (e :: es) [] pos) (dCB rMin2 ts) := de_cb (CallR.or (call_min2 hc) (cr_min hc)) (cd_min X.K) hm boot_min ha hg (by decide) (by decide) he hpl
theorem bc_all (hc : X.calm = true) (hm : X.mg "all" = none) (ha : DA X [e] ts) (hg : Gl X "all" := by rfl) (he : starEach [e] X.env = (false, eval e X.env) :: starEach [] X.env := by rfl) : DE X (.Call (.Name "all" p) [e] [] pos) (dCB (rAllD fun bs => bs.all id) ts) := de_cb (cr_all hc) (cd_all X.K) hm boot_all ha hg (by decide) (by decide) he (by rfl)
theorem bc_int (hm : X.mg "int" = none) (ha : DA X [e] ts) (hg : Gl X "int" := by rfl) (he : starEach [e] X.env = (false, eval e X.env) :: starEach [] X.env := by rfl) : DE X (.Call (.Name "int" p) [e] [] pos) (dCB rInt ts) := de_ct call_int1 (cd_int X.K) hm (by decide +kernel) ha hg (by decide) (by decide) he (by rfl)
theorem bc_tuple (hm : X.mg "tuple" = none) (ha : DA X [e] ts) (hg : Gl X "tuple" := by rfl) (he : starEach [e] X.env = (false, eval e X.env) :: starEach [] X.env := by rfl) : DE X (.Call (.Name "tuple" p) [e] [] pos) (dCB rTuple ts) := de_ct call_tuple_of (cd_tuple X.K) hm (by decide +kernel) ha hg (by decide) (by decide) he (by rfl)
end

/-! ### slices -/
abbrev TDO := DW → DSt → HD → (Option Int → HD → Prop) → Prop
section
variable (X : Cx)
def semO (e : Option Expr) : TO := fun σ H Q => ∀ (pins : List (Addr × Obj)) (s : Shared), Inv X pins σ H s → wpAny (model X.prog X.w) X.A (evalPart e X.env) (fun u s' => ∃ o H', Inv X pins σ H' s' ∧ IsPart u o ∧ Q o H') X.xe s
end
structure DO (X : Cx) (e : Option Expr) (t : TDO) : Prop where
  run : ∀ (G : HD) (H : Hp) (σ : DSt) (τ : L2.St) (W : DW) (R : Option Int → HD → Prop) (Q : Option Int → Hp → Prop), SR X G H σ τ W → t W σ G R → (∀ o G1 H1, SR X G1 H1 σ τ W → Ext G H G1 H1 → R o G1 → Q o H1) → semO X e τ H Q
def oNone : TDO := fun _ _ G Q => Q none G
def oSome (te : TD) : TDO := fun W σ G Q => te W σ G fun d G1 => match d with
  | .int i => Q (some i) G1
  | _ => False
def cutD (xs : List D) (lo hi : Option Int) : List D := (xs.drop (HT.sIx xs.length 0 lo)).take (HT.sIx xs.length xs.length hi - HT.sIx xs.length 0 lo)
def rSliceD : D → Option Int → Option Int → HD → Post → Prop := fun d lo hi G Q => match d with
  | .tup xs => Q (.tup (cutD xs lo hi)) G
  | .str z => z.length ≤ sizeLine ∧ Q (.str (cutS z lo hi)) G
  | d => match asL G d with
    | some xs => newL G (cutD xs lo hi) Q
    | none => False
def dSlice (te : TD) (tl th : TDO) : TD := fun W σ G Q => te W σ G fun d G1 => tl W σ G1 fun lo G2 => th W σ G2 fun hi G3 => rSliceD d lo hi G3 Q
theorem Rps.cut {K : PySem.W.Frag} {H : Hp} {ds : List D} {vs : List V} (r : Rps K H ds vs) (lo hi : Option Int) : Rps K H (cutD ds lo hi) (cutV vs lo hi) := by
  unfold cutD cutV
  rw [r.length]
  exact (r.drop _).take _
section
variable {X : Cx} {e : Expr} {te : TD} {lo hi : Option Expr} {tl th : TDO} {p2 pos : Pos}
theorem do_none : DO X none oNone := ⟨fun G H σ τ W R Q r q f pins s I => po_none.run pins s τ H Q I (f _ _ _ r .refl q)⟩
theorem do_some (h : DE X e te) : DO X (some e) (oSome te) := ⟨fun G H σ τ W R Q r q f pins s I => (po_some peSem).run pins s τ H Q I (h.then r q fun d v G1 H1 r1 x1 k1 q1 => by
  try dsimp only at q1
  split at q1
  · cases k1; exact ⟨_, rfl, f _ _ _ r1 x1 q1⟩
  · exact q1.elim)⟩
theorem poSem {e : Option Expr} : PO X e (semO X e) := ⟨fun pins s _ _ _ I h => h pins s I⟩
def rSlU (K : PySem.W.Frag) : V → Option Int → Option Int → Hp → VK → Prop := fun x lo hi H Q => rSlL K x lo hi H Q ∨ rSlA K x lo hi H Q ∨ rSlS x lo hi H Q
end

/-! ### the law's own call -/
end DL

namespace DL
open PySem PySem.Spec L2
open PyProof.Rows hiding St
/-! ### what the top holds, told by values -/
inductive ScaF : Value → D → Prop where
  | non : ScaF .none .non
  | bl {b : Bool} : ScaF (.bool b) (.bl b)
  | int {i : Int} {t : Tok} : ScaF (.int i t) (.int i)
  | str {x : Str} {t : Tok} : ScaF (.str x t) (.str x)
inductive ScasF : List Value → List D → Prop where
  | nil : ScasF [] []
  | cons {u : Value} {d : D} {us : List Value} {ds : List D} (h : ScaF u d) (t : ScasF us ds) : ScasF (u :: us) (d :: ds)
theorem ScaF.to {K : PySem.W.Frag} {u : Value} {d : D} (h : ScaF u d) : ∃ v, RelV v u ∧ ∀ H, Rp K H d v := by
  cases h with
  | non => exact ⟨.non, rfl, fun _ => rfl⟩
  | bl => exact ⟨.bl _, rfl, fun _ => rfl⟩
  | int => exact ⟨.int _, ⟨_, rfl⟩, fun _ => rfl⟩
  | str => exact ⟨.str _, ⟨_, rfl⟩, fun _ => rfl⟩
theorem ScasF.to {K : PySem.W.Frag} {us : List Value} {ds : List D} (h : ScasF us ds) : ∃ vs, Vals vs us ∧ ∀ H, Rps K H ds vs := by
  induction h with
  | nil => exact ⟨[], .nil, fun _ => rfl⟩
  | cons h _ ih =>
    obtain ⟨v, r, p⟩ := h.to (K := K)
    obtain ⟨vs, rs, ps⟩ := ih
    exact ⟨v :: vs, .cons r rs, fun H => ⟨v, vs, rfl, p H, ps H⟩⟩
def ConstF (K : PySem.W.Frag) (mg : Str → Option Value) (x : Str) (d : D) : Prop := ∃ (v : V) (u : Value), mg x = some u ∧ RelV v u ∧ ∀ H, Rp K H d v
theorem ScaF.cf {K : PySem.W.Frag} {mg : Str → Option Value} {x : Str} {u : Value} {d : D} (h : ScaF u d) (m : mg x = some u) : ConstF K mg x d :=
  let ⟨v, r, p⟩ := h.to (K := K)
  ⟨v, u, m, r, p⟩
theorem ConstF.de {X : Cx} {x : Str} {d : D} {pos : Pos} (h : ConstF X.K X.mg x d) (hg : Gl X x) (hd : (x == ("__debug__" : Str)) = false := by decide) : DE X (.Name x pos) (dC d) :=
  let ⟨_, _, m, r, p⟩ := h
  de_glob hg m r p hd
/-- a tuple of the top -/
structure TupF (K : PySem.W.Frag) (o : Obj) (ds : List D) : Prop where
  ex : ∃ (its : Array Value) (n : Nat), o.cls = .type "tuple" ∧ o.data = .seq its n ∧ its.size ≤ sizeLine ∧ ScasF its.toList ds
theorem TupF.rp {K : PySem.W.Frag} {o : Obj} {ds : List D} {a : Addr} (h : TupF K o ds) (l : K.lookup a = some o) : ∀ H, Rp K H (.tup ds) (.ref a) := fun H =>
  let ⟨its, n, h1, h2, h3, h4⟩ := h.ex
  let ⟨vs, r, p⟩ := h4.to (K := K)
  ⟨a, vs, rfl, .inr ⟨o, its, n, l, h1, h2, h3, r⟩, p H⟩
inductive ValF (K : PySem.W.Frag) : Value → D → Prop where
  | sca {u : Value} {d : D} (h : ScaF u d) : ValF K u d
  | tup {a : Addr} {o : Obj} {ds : List D} (l : K.lookup a = some o) (t : TupF K o ds) : ValF K (.ref a) (.tup ds)
inductive ValsF (K : PySem.W.Frag) : List Value → List D → Prop where
  | nil : ValsF K [] []
  | cons {u : Value} {d : D} {us : List Value} {ds : List D} (h : ValF K u d) (t : ValsF K us ds) : ValsF K (u :: us) (d :: ds)
theorem ValF.to {K : PySem.W.Frag} {u : Value} {d : D} (h : ValF K u d) : ∃ v, RelV v u ∧ ∀ H, Rp K H d v := by
  cases h with
  | sca h => exact h.to
  | tup l t => exact ⟨.ref _, rfl, t.rp l⟩
theorem ValsF.to {K : PySem.W.Frag} {us : List Value} {ds : List D} (h : ValsF K us ds) : ∃ vs, Vals vs us ∧ ∀ H, Rps K H ds vs := by
  induction h with
  | nil => exact ⟨[], .nil, fun _ => rfl⟩
  | cons h _ ih =>
    obtain ⟨v, r, p⟩ := h.to
    obtain ⟨vs, rs, ps⟩ := ih
    exact ⟨v :: vs, .cons r rs, fun H => ⟨v, vs, rfl, p H, ps H⟩⟩
/-- a def of the top, a method -/
def DefF (K : PySem.W.Frag) (mg : Str → Option Value) (x : Str) (st : Stmt) (dds : List D) : Prop := ∃ (f : Addr) (fd : FuncData) (dvs : List V), Dfl K dds dvs ∧ L2.FunD K x x (defArgs st) (defBody st) (defScope st) dvs [] f fd ∧ mg x = some (.ref f)
theorem Dfl.drop {K : PySem.W.Frag} {dds : List D} {dvs : List V} (h : Dfl K dds dvs) (j : Nat) : Dfl K (dds.drop j) (dvs.drop j) := ⟨fun H => (h.rel H).drop j⟩
section
variable {K : PySem.W.Frag} {x qual : Str} {pa : Arguments} {bd : List Stmt} {sc : Scope} {f T : Addr} {oc kV dc pm cd ct : Value} {od an : Option Addr} {sl : Array (Option Value)} {o : Obj} {ds : List D}
theorem fun_nd (l : K.lookup f = some ⟨oc, od, .func (PySem.W.fnOf x qual pa bd sc .none kV dc pm an cd ct), sl⟩) (c : PySem.W.codeIn K cd qual = true) (k : PySem.W.keepIn K (.ref f) = true) :
    ∃ dvs : List V, Dfl K [] dvs ∧ L2.FunD K x qual pa bd sc dvs [] f (PySem.W.fnOf x qual pa bd sc .none kV dc pm an cd ct) :=
  ⟨[], .nil, ⟨⟨oc, od, .none, kV, dc, pm, an, cd, ct, sl, rfl, l, c, .inl ⟨rfl, rfl⟩, .inl rfl⟩, k⟩⟩
/-- a def's defaults -/
structure DflF (K : PySem.W.Frag) (o : Obj) (ds : List D) : Prop where mk0 ::
  ex : ∃ (its : List Value) (n : Nat), o.data = .seq its.toArray n ∧ ValsF K its ds ∧ ds ≠ []
end
end DL

namespace DL
open PySem PySem.Spec L2
open PyProof.Rows hiding St
/-! ### for the plain laws -/
theorem fg_in {Q : Post} {d : D} {G : HD} (h : Q d G) : fg Q d G := ⟨G, Le.refl _, h⟩
theorem fg_le {Q : Post} {d : D} {G G0 : HD} (l : Le G0 G) (h : Q d G0) : fg Q d G := ⟨G0, l, h⟩
theorem newL_in {G : HD} {ds : List D} {Q : Post} (h : ∀ (p : Addr) (G' : HD), G p = none → G' = put G p (.lst ds) → G' p = some (.lst ds) → Le G G' → (∀ b, b ≠ p → G' b = G b) → Q (.ref p) G') : newL G ds Q :=
  fun p hp => h p _ hp rfl put_same (Le.newB hp) fun _ hb => put_ne hb
/-- a loop keeps I -/
theorem forD_inv {ok : HD → Prop} {step : D → (DSt → HD → Prop) → DSt → HD → Prop} {fin : DSt → HD → Prop} (I : List D → DSt → HD → Prop) (hok : ∀ l σ G, I l σ G → ok G)
    (hs : ∀ x l k σ G, I (x :: l) σ G → (∀ σ' G', I l σ' G' → k σ' G') → step x k σ G) (hf : ∀ σ G, I [] σ G → fin σ G) : ∀ (l : List D) (σ : DSt) (G : HD), I l σ G → forD ok step fin l σ G
  | [], σ, G, h => ⟨G, Le.refl _, hok _ _ _ h, hf _ _ h⟩
  | x :: l, σ, G, h => ⟨G, Le.refl _, hok _ _ _ h, hs x l _ σ G h fun σ' G' h' => forD_inv I hok hs hf l σ' G' h'⟩
/-- a loop over n ints from lo -/
theorem forR_inv {ok : HD → Prop} {step : D → (DSt → HD → Prop) → DSt → HD → Prop} {fin : DSt → HD → Prop} (I : Nat → DSt → HD → Prop) {lo : Int} {n : Nat} (hok : ∀ G, ok G)
    (hs : ∀ i k σ G, i < n → I i σ G → (∀ σ' G', I (i + 1) σ' G' → k σ' G') → step (.int (lo + (i : Nat))) k σ G) (hf : ∀ σ G, I n σ G → fin σ G) {σ : DSt} {G : HD} (h : I 0 σ G) : forD ok step fin (intsD lo n) σ G := by
  refine forD_inv (fun l σ G => ∃ i, i ≤ n ∧ l = (intsD lo n).drop i ∧ I i σ G) (fun _ _ G _ => hok G) (fun x l k σ G ⟨i, hi, e, h⟩ hk => ?_) (fun σ G ⟨i, hi, e, h⟩ => ?_) _ _ _ ⟨0, Nat.zero_le _, rfl, h⟩
  · by_cases hin : i < n
    · rw [drop_get (ints_get hin)] at e
      injection e with e1 e2
      subst e1
      exact hs i k σ G hin h fun σ' G' h' => hk σ' G' ⟨i + 1, hin, e2, h'⟩
    · rw [List.drop_eq_nil_of_le (by rw [ints_len]; omega)] at e; cases e
  · have : i = n := by
      have := congrArg List.length e
      rw [List.length_drop, ints_len] at this
      simp at this; omega
    subst this; exact hf _ _ h
theorem ixN_nat {n k : Nat} (h : k < n) : ixN n (k : Int) = some k := by
  unfold ixN
  rw [if_pos (by omega), if_pos (by omega)]; rfl
theorem atI_nat {α : Type} {l : List α} {k : Nat} {x : α} (h : l[k]? = some x) : atI l (k : Int) = some x := by
  unfold atI
  rw [ixN_nat (List.getElem?_eq_some_iff.mp h).1]; exact h
theorem atI0 {α : Type} {x : α} {l : List α} : atI (x :: l) 0 = some x := atI_nat (k := 0) rfl
theorem atI1 {α : Type} {x y : α} {l : List α} : atI (x :: y :: l) 1 = some y := atI_nat (k := 1) rfl
theorem atI2 {α : Type} {x y z : α} {l : List α} : atI (x :: y :: z :: l) 2 = some z := atI_nat (k := 2) rfl
theorem atI3 {α : Type} {x y z u : α} {l : List α} : atI (x :: y :: z :: u :: l) 3 = some u := atI_nat (k := 3) rfl
theorem atI4 {α : Type} {x y z u v : α} {l : List α} : atI (x :: y :: z :: u :: v :: l) 4 = some v := atI_nat (k := 4) rfl
theorem ixN3a : ixN 3 0 = some 0 := rfl
theorem ixN3b : ixN 3 1 = some 1 := rfl
theorem ixN3c : ixN 3 2 = some 2 := rfl
theorem eqO_int {G : HD} {i j : Int} : eqO G (.int i) (.int j) = some (decide (i = j)) := by
  simp only [eqO, pyD]
  congr 1
/-! sizes -/
theorem mul_l {i j : Int} (h1 : -(2 ^ 64) < i) (h2 : i < 2 ^ 64) : MulOk i j := .inl (.inl ⟨h1, h2⟩)
theorem mul_r {i j : Int} (h1 : -(2 ^ 64) < j) (h2 : j < 2 ^ 64) : MulOk i j := .inl (.inr ⟨h1, h2⟩)
theorem div_s {i j : Int} (h : 0 < j) (h1 : j < 2 ^ 64) : CDivW i j := wide_div (b := 64) h (by omega) (by omega) (by omega)
end DL

namespace DL
open PySem PySem.Spec L2
open PyProof.Rows hiding St
/-! ### readings at known data (for simp) -/
section
variable {G : HD} {Q : Post} {i j : Int} {a : Addr} {ds xs ys : List D} {b : Bool} {x y : Str} {d : D} {p : Int → Int → Bool} {W : DW} {σ : DSt} {E : DEnds}
def optP (o : Option D) (G : HD) (Q : Post) : Prop := match o with
  | some v => Q v G
  | none => False
theorem r_opt {v : D} : optP (some v) G Q = Q v G := propext ⟨fun h => h, fun h => h⟩
def pickD (o : Option (List D)) (i : Int) (G : HD) (Q : Post) : Prop := match o with
  | some ds => optP (atI ds i) G Q
  | none => False
theorem r_pick : pickD (some ds) i G Q = optP (atI ds i) G Q := propext ⟨fun h => h, fun h => h⟩
theorem r_add : dAdd (.int i) (.int j) G Q = Q (.int (i + j)) G := propext ⟨fun h => h, fun h => h⟩
theorem r_addT : dAdd (.tup xs) (.tup ys) G Q = (xs.length + ys.length ≤ sizeLine ∧ Q (.tup (xs ++ ys)) G) := propext ⟨fun h => h, fun h => h⟩
def addL (u v : Option MO) (G : HD) (Q : Post) : Prop := match u, v with
  | some (.lst xs), some (.lst ys) => xs.length + ys.length ≤ sizeLine ∧ newL G (xs ++ ys) Q
  | _, _ => False
theorem r_addR {c : Addr} : dAdd (.ref a) (.ref c) G Q = addL (G a) (G c) G Q := propext ⟨fun h => h, fun h => h⟩
theorem r_addL : addL (some (.lst xs)) (some (.lst ys)) G Q = (xs.length + ys.length ≤ sizeLine ∧ newL G (xs ++ ys) Q) := propext ⟨fun h => h, fun h => h⟩
theorem r_sub : dSub (.int i) (.int j) G Q = Q (.int (i - j)) G := propext ⟨fun h => h, fun h => h⟩
theorem r_mul : dMul (.int i) (.int j) G Q = (MulOk i j ∧ Q (.int (i * j)) G) := propext ⟨fun h => h, fun h => h⟩
theorem r_div : dDiv (.int i) (.int j) G Q = (CDivW i j ∧ Q (.int (i / j)) G) := propext ⟨fun h => h, fun h => h⟩
theorem r_mod : dMod (.int i) (.int j) G Q = (0 < j ∧ Q (.int (i % j)) G) := propext ⟨fun h => h, fun h => h⟩
theorem r_pow : dPow (.int i) (.int j) G Q = (CPow i j ∧ Q (.int (i ^ j.toNat)) G) := propext ⟨fun h => h, fun h => h⟩
theorem r_cmp : dCmpI p (.int i) (.int j) G Q = Q (.bl (p i j)) G := propext ⟨fun h => h, fun h => h⟩
theorem r_lt : dLtD (.int i) (.int j) G Q = Q (.bl (decide (i < j))) G := propext ⟨fun h => h, fun h => h⟩
theorem r_neg : dNeg (.int i) G Q = Q (.int (-i)) G := propext ⟨fun h => h, fun h => h⟩
theorem r_isN {n : Bool} : dIsN n d .non G Q = Q (.bl (if n then !isNon d else isNon d)) G := propext ⟨fun h => h, fun h => h⟩
theorem r_isNr : isNon (.ref a) = false := rfl
theorem r_isNi : isNon (.int i) = false := rfl
theorem r_isNn : isNon .non = true := rfl
theorem r_isNt : isNon (.tup xs) = false := rfl
theorem r_eqI {n : Bool} : dEq n (.int i) (.int j) G Q = Q (.bl (if n then !decide (i = j) else decide (i = j))) G := by simp only [dEq, eqO_int]
theorem r_ixP : (match asQ G d with | some ds => (match atI ds i with | some v => Q v G | none => False) | none => False) = pickD (asQ G d) i G Q := propext ⟨fun h => h, fun h => h⟩
theorem r_ixT : dIx (.tup xs) (.int i) G Q = pickD (some xs) i G Q := r_ixP (d := .tup xs)
theorem r_ixK : dIx (.kl xs) (.int i) G Q = pickD (some xs) i G Q := r_ixP (d := .kl xs)
theorem r_ixC : dIx (.kc xs) (.int i) G Q = pickD (some xs) i G Q := r_ixP (d := .kc xs)
def lstOf : Option MO → Option (List D)
  | some (.lst ds) => some ds
  | _ => none
theorem r_lstOf : lstOf (some (.lst xs)) = some xs := rfl
theorem asL_ref : asL G (.ref a) = lstOf (G a) := by
  simp only [asL]; unfold lstOf; cases G a with
  | none => rfl
  | some o => cases o <;> rfl
theorem r_ixR : dIx (.ref a) (.int i) G Q = pickD (lstOf (G a)) i G Q := (r_ixP (d := .ref a)).trans (by rw [show asQ G (.ref a) = asL G (.ref a) from rfl, asL_ref])
theorem r_truB : truD G (.bl b) = some b := rfl
theorem r_truI : truD G (.int i) = some (i != 0) := rfl
theorem r_truT : truD G (.tup xs) = some (!xs.isEmpty) := rfl
theorem r_truN : truD G .non = some false := rfl
def truO : Option MO → Option Bool
  | some (.lst ds) => some (!ds.isEmpty)
  | some (.dK l) => some (!l.isEmpty)
  | _ => none
theorem r_truR : truD G (.ref a) = truO (G a) := by
  simp only [truD]; unfold truO; cases G a with
  | none => rfl
  | some o => cases o <;> rfl
theorem r_truL : truO (some (.lst xs)) = some (!xs.isEmpty) := rfl
theorem r_max : rMax2 [.int i, .int j] G Q = Q (.int (if j > i then j else i)) G := propext ⟨fun h => h, fun h => h⟩
theorem r_min : rMin2 [.int i, .int j] G Q = Q (.int (if j < i then j else i)) G := propext ⟨fun h => h, fun h => h⟩
theorem r_intB : rInt [.bl b] G Q = Q (.int (if b then 1 else 0)) G := propext ⟨fun h => h, fun h => h⟩
theorem r_intI : rInt [.int i] G Q = Q (.int i) G := propext ⟨fun h => h, fun h => h⟩
theorem r_abs : rAbs [.int i] G Q = Q (.int (if i < 0 then -i else i)) G := propext ⟨fun h => h, fun h => h⟩
theorem r_lenT : rLen [.tup xs] G Q = Q (.int xs.length) G := propext ⟨fun h => h, fun h => h⟩
theorem r_lenK : rLen [.kl xs] G Q = Q (.int xs.length) G := propext ⟨fun h => h, fun h => h⟩
theorem r_lenC : rLen [.kc xs] G Q = Q (.int xs.length) G := propext ⟨fun h => h, fun h => h⟩
def lenO : Option MO → Option Nat
  | some (.lst ds) => some ds.length
  | some (.dK l) => some l.length
  | _ => none
def lenP (o : Option Nat) (G : HD) (Q : Post) : Prop := match o with
  | some n => Q (.int n) G
  | none => False
theorem r_lenR : rLen [.ref a] G Q = lenP (lenO (G a)) G Q := by
  simp only [rLen, lenD]; unfold lenP lenO; cases G a with
  | none => rfl
  | some o => cases o <;> rfl
theorem r_lenL : lenP (lenO (some (.lst xs))) G Q = Q (.int xs.length) G := propext ⟨fun h => h, fun h => h⟩
def natP (o : Option Nat) (Q : Nat → Prop) : Prop := match o with
  | some n => Q n
  | none => False
theorem r_nat {Q : Nat → Prop} {n : Nat} : natP (some n) Q = Q n := propext ⟨fun h => h, fun h => h⟩
def setP (o : Option MO) (a : Addr) (i : Int) (v : D) (G : HD) (Q : HD → Prop) : Prop := match o with
  | some (.lst xs) => natP (ixN xs.length i) fun j => Q (put G a (.lst (xs.set j v)))
  | _ => False
theorem r_set {Q : HD → Prop} {v : D} : rSetD (.ref a) (.int i) v G Q = setP (G a) a i v G Q := propext ⟨fun h => h, fun h => h⟩
theorem r_setL {Q : HD → Prop} {v : D} : setP (some (.lst xs)) a i v G Q = natP (ixN xs.length i) fun j => Q (put G a (.lst (xs.set j v))) := propext ⟨fun h => h, fun h => h⟩
theorem r_isI {ic : String ⊕ Addr → String ⊕ Addr → Bool → Prop} : rIsiD ic [.int i, .ty "int"] G Q = Q (.bl true) G := propext ⟨fun h => h, fun h => h⟩
theorem r_isB {ic : String ⊕ Addr → String ⊕ Addr → Bool → Prop} : rIsiD ic [.int i, .ty "bool"] G Q = Q (.bl false) G := propext ⟨fun h => h, fun h => h⟩
theorem r_isT {ic : String ⊕ Addr → String ⊕ Addr → Bool → Prop} : rIsiD ic [.tup xs, .ty "tuple"] G Q = Q (.bl true) G := propext ⟨fun h => h, fun h => h⟩
end
section
variable {G : HD} {Q : Post} {a : Addr} {ds : List D} {lo hi : Option Int}
theorem r_sliT : rSliceD (.tup ds) lo hi G Q = Q (.tup (cutD ds lo hi)) G := propext ⟨fun h => h, fun h => h⟩
theorem r_sliK : rSliceD (.kl ds) lo hi G Q = newL G (cutD ds lo hi) Q := propext ⟨fun h => h, fun h => h⟩
theorem r_sliC : rSliceD (.kc ds) lo hi G Q = newL G (cutD ds lo hi) Q := propext ⟨fun h => h, fun h => h⟩
def sliP (o : Option (List D)) (lo hi : Option Int) (G : HD) (Q : Post) : Prop := match o with
  | some xs => newL G (cutD xs lo hi) Q
  | none => False
theorem r_sliR : rSliceD (.ref a) lo hi G Q = sliP (lstOf (G a)) lo hi G Q := by
  rw [← asL_ref]; rfl
theorem r_sliL : sliP (some ds) lo hi G Q = newL G (cutD ds lo hi) Q := propext ⟨fun h => h, fun h => h⟩
end
/-- an instance at a -/
def fldP (o : Option MO) (ok : Addr → Str → Prop) (f : Str) (G : HD) (Q : Post) : Prop := match o with
  | some (.ins C fs) => ok C f ∧ optP (fs.lookup f) G Q
  | _ => False
def fldD (ok : Addr → Str → Prop) (f : Str) (d : D) (G : HD) (Q : Post) : Prop := match d with
  | .ref a => fldP (G a) ok f G Q
  | _ => False
section
variable {G : HD} {Q : Post} {a C : Addr} {ok : Addr → Str → Prop} {f m : Str} {fs : List (Str × D)} {v : D}
theorem r_fld {ta : TD} {W : DW} {σ : DSt} : dFld ok f ta W σ G Q = ta W σ G fun d G1 => fldD ok f d G1 Q := propext ⟨fun h => h, fun h => h⟩
theorem r_fldR : fldD ok f (.ref a) G Q = fldP (G a) ok f G Q := propext ⟨fun h => h, fun h => h⟩
theorem r_fldI : fldP (some (.ins C fs)) ok f G Q = (ok C f ∧ optP (fs.lookup f) G Q) := propext ⟨fun h => h, fun h => h⟩
end
/-- the store of a field -/
def sfdP (o : Option MO) (ok : Addr → Str → Prop) (f : Str) (a : Addr) (v : D) (G : HD) (Q : HD → Prop) : Prop := match o with
  | some (.ins C fs) => ok C f ∧ fs.length < 1000 ∧ Q (put G a (.ins C (putD f v fs)))
  | _ => False
def sfdD (ok : Addr → Str → Prop) (f : Str) (d v : D) (G : HD) (Q : HD → Prop) : Prop := match d with
  | .ref a => sfdP (G a) ok f a v G Q
  | _ => False
section
variable {G : HD} {Q : HD → Prop} {a C : Addr} {ok : Addr → Str → Prop} {f m : Str} {fs : List (Str × D)} {v : D}
theorem r_sfd {to tv : TD} {W : DW} {D : DEnds} {σ : DSt} : sFldD ok f to tv W D σ G = tv W σ G fun v G1 => to W σ G1 fun d G2 => sfdD ok f d v G2 fun G3 => D.nx σ G3 := propext ⟨fun h => h, fun h => h⟩
theorem r_sfdR : sfdD ok f (.ref a) v G Q = sfdP (G a) ok f a v G Q := propext ⟨fun h => h, fun h => h⟩
theorem r_sfdI : sfdP (some (.ins C fs)) ok f a v G Q = (ok C f ∧ fs.length < 1000 ∧ Q (put G a (.ins C (putD f v fs)))) := propext ⟨fun h => h, fun h => h⟩
end
/-- a method's call -/
def metP (o : Option MO) (tab : List (Addr × SpD)) (m : Str) (k : SpD → Prop) : Prop := match o with
  | some (.ins C fs) => fs.lookup m = none ∧ ∃ q ∈ tab, q.1 = C ∧ k q.2
  | _ => False
def metD (tab : List (Addr × SpD)) (m : Str) (d : D) (G : HD) (k : SpD → Prop) : Prop := match d with
  | .ref a => metP (G a) tab m k
  | _ => False
section
variable {G : HD} {Q : Post} {a C : Addr} {m : Str} {tab : List (Addr × SpD)} {dds : List D} {fs : List (Str × D)} {k : SpD → Prop} {sp : SpD}
theorem r_met {ta : TD} {ts : TDA} {W : DW} {σ : DSt} : dMeth tab m dds ta ts W σ G Q = ta W σ G fun d G1 => metD tab m d G1 fun sp => ts W σ G1 fun ds G2 => sp (d :: (ds ++ dds)) G2 Q fun c fs G' => W c fs σ G' := by
  unfold dMeth
  congr 1
  funext d G1
  cases d <;> rfl
theorem r_metR : metD tab m (.ref a) G k = metP (G a) tab m k := propext ⟨fun h => h, fun h => h⟩
theorem r_metI : metP (some (.ins C fs)) tab m k = (fs.lookup m = none ∧ ∃ q ∈ tab, q.1 = C ∧ k q.2) := propext ⟨fun h => h, fun h => h⟩
theorem r_met1 : metP (some (.ins C fs)) [(C, sp)] m k = (fs.lookup m = none ∧ k sp) := by
  rw [r_metI]
  apply propext; constructor
  · rintro ⟨h, q, hq, h1, h2⟩
    rw [List.mem_singleton] at hq; subst hq; exact ⟨h, h2⟩
  · rintro ⟨h, h2⟩; exact ⟨h, _, List.mem_singleton.mpr rfl, rfl, h2⟩
end
/-- a field changed by +=, -= -/
def augP (ok : Addr → Str → Prop) (f : Str) (g : Int → Int → Int) (d : D) (tv : HD → Post → Prop) (G1 : HD) (k : HD → Prop) : Prop := match d with
  | .ref a => match G1 a with
    | some (.ins C fs) => ok C f ∧ match fs.lookup f with
      | some (.int i) => tv G1 fun v G2 => match v with
        | .int j => match G2 a with
          | some (.ins C2 fs2) => C2 = C ∧ fs2.length < 1000 ∧ k (put G2 a (.ins C2 (putD f (.int (g i j)) fs2)))
          | _ => False
        | _ => False
      | _ => False
    | _ => False
  | _ => False
/-! ### readings' own choices, behind names -/
def varP (o : Option (Option D)) (G : HD) (Q : Post) : Prop := match o with
  | some (some d) => Q d G
  | _ => False
def blP (d : D) (k : Bool → Prop) : Prop := match d with
  | .bl b => k b
  | _ => False
def boolP (o : Option Bool) (k : Bool → Prop) : Prop := match o with
  | some b => k b
  | none => False
def unpP (d : D) (n : Nat) (k : List D → Prop) : Prop := match d with
  | .tup ds => ds.length = n ∧ k ds
  | _ => False
def parP (ds : List D) (k : D → D → Prop) : Prop := match ds with
  | [d, e] => k d e
  | _ => False
section
variable {G : HD} {Q : Post} {W : DW} {σ : DSt} {i j : Nat} {d : D} {b : Bool} {k : Bool → Prop} {D : DEnds} {ta tb : TD} {rd : DL.D → DL.D → HD → Post → Prop} {QB : Bool → HD → Prop} {t : DL.D → TD} {ts : TDA}
theorem r_var : dVar i W σ G Q = varP σ[i]? G Q := propext ⟨fun h => h, fun h => h⟩
theorem r_varS : varP (some (some d)) G Q = Q d G := propext ⟨fun h => h, fun h => h⟩
theorem r_blP : blP (.bl b) k = k b := propext ⟨fun h => h, fun h => h⟩
theorem r_boolP : boolP (some b) k = k b := propext ⟨fun h => h, fun h => h⟩
theorem r_unpP {n : Nat} {ds : List DL.D} {k : List DL.D → Prop} : unpP (.tup ds) n k = (ds.length = n ∧ k ds) := propext ⟨fun h => h, fun h => h⟩
theorem r_parP {e : DL.D} {k : DL.D → DL.D → Prop} : parP [d, e] k = k d e := propext ⟨fun h => h, fun h => h⟩
theorem r_test : dTest ta W σ G QB = ta W σ G fun d G1 => blP d fun b => QB b G1 := propext ⟨fun h => h, fun h => h⟩
theorem r_tru : dTru ta W σ G QB = ta W σ G fun d G1 => boolP (truD G1 d) fun b => QB b G1 := propext ⟨fun h => h, fun h => h⟩
theorem r_andV : dAndV ta tb W σ G Q = ta W σ G fun d G1 => boolP (truD G1 d) fun b => if b = true then tb W σ G1 Q else Q d G1 := propext ⟨fun h => h, fun h => h⟩
theorem r_orV : dOrV ta tb W σ G Q = ta W σ G fun d G1 => boolP (truD G1 d) fun b => if b = true then Q d G1 else tb W σ G1 Q := propext ⟨fun h => h, fun h => h⟩
theorem r_notV : dNotV ta W σ G Q = ta W σ G fun d G1 => boolP (truD G1 d) fun b => Q (.bl (!b)) G1 := propext ⟨fun h => h, fun h => h⟩
theorem r_last : dLast rd tb d W σ G Q = tb W σ G fun e G1 => rd d e G1 fun z G2 => blP z fun b => Q (.bl b) G2 := propext ⟨fun h => h, fun h => h⟩
theorem r_link : dLink rd tb t d W σ G Q = tb W σ G fun e G1 => rd d e G1 fun z G2 => blP z fun b => if b = true then t e W σ G2 Q else Q (.bl false) G2 := propext ⟨fun h => h, fun h => h⟩
theorem r_chn : dChn ta t W σ G Q = ta W σ G fun d G1 => t d W σ G1 Q := propext ⟨fun h => h, fun h => h⟩
theorem r_chnT : dChnT ta t W σ G QB = ta W σ G fun d G1 => t d W σ G1 fun z G2 => blP z fun b => QB b G2 := propext ⟨fun h => h, fun h => h⟩
theorem r_unp' {is : List Nat} : sUnp is ta W D σ G = ta W σ G fun d G1 => unpP d is.length fun ds => D.nx (setAll is ds σ) G1 := propext ⟨fun h => h, fun h => h⟩
theorem r_par : sPar i j ts W D σ G = ts W σ G fun ds G1 => parP ds fun d e => D.nx ((σ.set i (some d)).set j (some e)) G1 := by
  unfold sPar
  congr 1
theorem r_set0 : setAll [] [] σ = σ := rfl
theorem r_set1 {is : List Nat} {ds : List DL.D} : setAll (i :: is) (d :: ds) σ = setAll is ds (σ.set i (some d)) := rfl
/-! the frames of statements and values -/
theorem q_seq {t u : TDS} : sSeq t u W D σ G = t W { D with nx := fun σ' G' => u W D σ' G' } σ G := propext ⟨fun h => h, fun h => h⟩
theorem q_set : sSet i ta W D σ G = ta W σ G fun d G1 => D.nx (σ.set i (some d)) G1 := propext ⟨fun h => h, fun h => h⟩
theorem q_ret : sRet ta W D σ G = ta W σ G D.rt := propext ⟨fun h => h, fun h => h⟩
theorem q_retN : sRetN W D σ G = D.rt .non G := propext ⟨fun h => h, fun h => h⟩
theorem q_drop : sDrop ta W D σ G = ta W σ G fun _ G1 => D.nx σ G1 := propext ⟨fun h => h, fun h => h⟩
theorem q_if {c : TDT} {t u : TDS} : sIf c t u W D σ G = c W σ G fun b G1 => if b = true then t W D σ G1 else u W D σ G1 := propext ⟨fun h => h, fun h => h⟩
theorem q_next : sNext W D σ G = D.nx σ G := propext ⟨fun h => h, fun h => h⟩
theorem q_brk : sBrk W D σ G = D.bk σ G := propext ⟨fun h => h, fun h => h⟩
theorem q_cont : sCont W D σ G = D.ct σ G := propext ⟨fun h => h, fun h => h⟩
theorem q_op {u : TD} : dOp rd ta u W σ G Q = ta W σ G fun d G1 => u W σ G1 fun e G2 => rd d e G2 Q := propext ⟨fun h => h, fun h => h⟩
theorem q_un {r1 : DL.D → HD → Post → Prop} : dUn r1 ta W σ G Q = ta W σ G fun d G1 => r1 d G1 Q := propext ⟨fun h => h, fun h => h⟩
theorem q_c : dC d W σ G Q = Q d G := propext ⟨fun h => h, fun h => h⟩
theorem q_cons {R : List DL.D → HD → Prop} : dCons ta ts W σ G R = ta W σ G fun d G1 => ts W σ G1 fun ds G2 => R (d :: ds) G2 := propext ⟨fun h => h, fun h => h⟩
theorem q_nil {R : List DL.D → HD → Prop} : dNil W σ G R = R [] G := propext ⟨fun h => h, fun h => h⟩
theorem q_cb {r : List DL.D → HD → Post → Prop} : dCB r ts W σ G Q = ts W σ G fun ds G1 => r ds G1 Q := propext ⟨fun h => h, fun h => h⟩
theorem q_tup : dTup ts W σ G Q = ts W σ G fun ds G1 => ds.length ≤ 1000 ∧ Q (.tup ds) G1 := propext ⟨fun h => h, fun h => h⟩
theorem q_lst : dLst ts W σ G Q = ts W σ G fun ds G1 => ds.length ≤ 1000 ∧ newL G1 ds Q := propext ⟨fun h => h, fun h => h⟩
theorem q_call {sp : SpD} {dds : List DL.D} : dCall sp dds ts W σ G Q = ts W σ G fun ds G1 => sp (ds ++ dds) G1 Q fun c fs G' => W c fs σ G' := propext ⟨fun h => h, fun h => h⟩
theorem q_sub {to ti te : TD} {r : DL.D → DL.D → DL.D → HD → (HD → Prop) → Prop} : sSub to ti te r W D σ G = te W σ G fun v G1 => to W σ G1 fun o G2 => ti W σ G2 fun i G3 => r o i v G3 fun G4 => D.nx σ G4 := propext ⟨fun h => h, fun h => h⟩
theorem q_not {c : TDT} : dNot c W σ G QB = c W σ G fun b G1 => QB (!b) G1 := propext ⟨fun h => h, fun h => h⟩
theorem q_and {c u : TDT} : dAnd c u W σ G QB = c W σ G fun b G1 => if b = true then u W σ G1 QB else QB false G1 := propext ⟨fun h => h, fun h => h⟩
theorem q_or {c u : TDT} : dOr c u W σ G QB = c W σ G fun b G1 => if b = true then QB true G1 else u W σ G1 QB := propext ⟨fun h => h, fun h => h⟩
theorem q_for {ti : TDI} {tg : Tgt} {u : TDS} : sFor ti tg u W D σ G = ti W σ G fun I G1 => forD I.ok (fun d k σ' G' => tg.put d σ' fun σ2 => u W { D with nx := k, ct := k, bk := D.nx } σ2 G') D.nx I.xs σ G1 := propext ⟨fun h => h, fun h => h⟩
def rng1P (ds : List DL.D) (k : Int → Prop) : Prop := match ds with
  | [.int j] => j < 2 ^ 62 ∧ -(2 ^ 62) ≤ j ∧ k j
  | _ => False
theorem r_rng1P {j : Int} {k : Int → Prop} : rng1P [.int j] k = (j < 2 ^ 62 ∧ -(2 ^ 62) ≤ j ∧ k j) := propext ⟨fun h => h, fun h => h⟩
theorem q_rng1 {R : ItD → HD → Prop} : jRng1 ts W σ G R = ts W σ G fun ds G1 => rng1P ds fun j => R ⟨intsD 0 j.toNat, fun _ => True⟩ G1 := propext ⟨fun h => h, fun h => h⟩
theorem q_if' {c : TDT} : dIf c ta tb W σ G Q = c W σ G fun b G1 => if b = true then ta W σ G1 Q else tb W σ G1 Q := propext ⟨fun h => h, fun h => h⟩
theorem q_put1 {k : DSt → Prop} : (Tgt.one i).put d σ k = k (σ.set i (some d)) := propext ⟨fun h => h, fun h => h⟩
theorem q_putN {is : List Nat} {ds : List DL.D} {k : DSt → Prop} : (Tgt.many is).put (.tup ds) σ k = (ds.length = is.length ∧ k (setAll is ds σ)) := propext ⟨fun h => h, fun h => h⟩
theorem q_slice {tl th : TDO} : dSlice ta tl th W σ G Q = ta W σ G fun d G1 => tl W σ G1 fun lo G2 => th W σ G2 fun hi G3 => rSliceD d lo hi G3 Q := propext ⟨fun h => h, fun h => h⟩
def intP (d : DL.D) (k : Int → Prop) : Prop := match d with
  | .int i => k i
  | _ => False
theorem r_intP {i : Int} {k : Int → Prop} : intP (.int i) k = k i := propext ⟨fun h => h, fun h => h⟩
theorem q_some {R : Option Int → HD → Prop} : oSome ta W σ G R = ta W σ G fun d G1 => intP d fun i => R (some i) G1 := propext ⟨fun h => h, fun h => h⟩
theorem q_none {R : Option Int → HD → Prop} : oNone W σ G R = R none G := propext ⟨fun h => h, fun h => h⟩
theorem q_wpf {n m : Nat} {t : TDS} {ds : List DL.D} {E : DX} : wpf n m t ds G Q E = (ds.length = n ∧ t (fun c fs _ G' => fgX E c fs G') { nx := fun _ G' => fg Q .non G', rt := fg Q } (ds.map some ++ List.replicate m none) G) := propext ⟨fun h => h, fun h => h⟩
end
end DL

namespace DL
open PySem PySem.Spec L2
open PyProof.Rows hiding St
theorem eqO_t2 {G : HD} {a b c d : Int} : eqO G (.tup [.int a, .int b]) (.tup [.int c, .int d]) = some (decide (a = c) && decide (b = d)) := by
  simp only [eqO, pyD, List.mapM_cons, List.mapM_nil]
  simp [PyData.eqv, PyData.eqvAll]
  rfl
theorem r_eqT2 {G : HD} {Q : Post} {a b c d : Int} {n : Bool} : dEq n (.tup [.int a, .int b]) (.tup [.int c, .int d]) G Q = Q (.bl (if n then !(decide (a = c) && decide (b = d)) else (decide (a = c) && decide (b = d)))) G := by simp only [dEq, eqO_t2]
/-- made anew: None must come of __init__ -/
def nonP (k : HD → Prop) : Post := fun d G => match d with
  | .non => k G
  | _ => False
theorem r_nonP {k : HD → Prop} {G : HD} : nonP k .non G = k G := propext ⟨fun h => h, fun h => h⟩
def makP (C : Addr) (sp : SpD) (ds : List D) (G : HD) (Q : Post) (E : DX) : Prop := ∀ p, G p = none → sp (.ref p :: ds) (put G p (.ins C [])) (nonP fun G2 => Q (.ref p) G2) E
theorem q_make {C : Addr} {sp : SpD} {dds : List D} {ts : TDA} {W : DW} {σ : DSt} {G : HD} {Q : Post} : dMake C sp dds ts W σ G Q = ts W σ G fun ds G1 => makP C sp (ds ++ dds) G1 Q fun c fs G' => W c fs σ G' := by
  unfold dMake makP
  congr 1
theorem q_fldg {ok : Addr → Str → Prop} {f : Str} {g : Int → Int → Int} {to tv : TD} {W : DW} {E : DEnds} {σ : DSt} {G : HD} : sFldG ok f g to tv W E σ G = to W σ G fun d G1 => augP ok f g d (fun G2 Q => tv W σ G2 Q) G1 fun G3 => E.nx σ G3 := by
  unfold sFldG augP
  congr 1
/-- what stands beside a stays -/
def LeX (a : Addr) (G G' : HD) : Prop := ∀ b o, b ≠ a → G b = some o → G' b = some o
theorem LeX.refl {a : Addr} {G : HD} : LeX a G G := fun _ _ _ h => h
theorem LeX.trans {a : Addr} {A B C : HD} (x : LeX a A B) (y : LeX a B C) : LeX a A C := fun b o n h => y b o n (x b o n h)
theorem LeX.put {a : Addr} {G : HD} {o : MO} : LeX a G (put G a o) := fun b u n h => (put_ne n).trans h
theorem LeX.of {a : Addr} {A B : HD} (x : Le A B) : LeX a A B := fun b o _ h => x b o h
theorem ixN2a : ixN 2 0 = some 0 := rfl
theorem ixN2b : ixN 2 1 = some 1 := rfl
theorem ixN1a : ixN 1 0 = some 0 := rfl
/-! Euclid -/
end DL

namespace DN
open PySem PySem.Spec PyProof.Rows PySem.SeqAt
section
variable {M : Model} {prog : Program} {w : World} {A : Around} {E : Value → Shared → Prop} {s : Shared} {K : PySem.W.Frag} {x y C f : Addr} {ox : Obj} {od : Option Obj}
end
end DN
namespace DL
open PySem PySem.Spec L2
open PyProof.Rows hiding St
section
variable {X : Cx} {k j : Nat} {C : Addr} {sp : SpD}
/-- below the body of X, no repr under way -/
structure SubG (X : Cx) (k : Nat) (A : Around) : Prop where
  room : RoomG k A
  fr : A.frames = X.A.frames
/-- what an own == tells -/
def ownP (neg : Bool) (Q : Post) : Post := fun d G => match d with
  | .bl r => Q (.bl (if neg then !r else r)) G
  | _ => False
end
/-! ### what is gone through -/
def seqO (o : Option MO) (a : Addr) (G : HD) (R : ItD → HD → Prop) : Prop := match o with
  | some (.lst ds) => R ⟨ds, fun G => G a = some (.lst ds)⟩ G
  | _ => False
def seqP (d : D) (G : HD) (R : ItD → HD → Prop) : Prop := match d with
  | .tup ds => R ⟨ds, fun _ => True⟩ G
  | .kl ds => R ⟨ds, fun _ => True⟩ G
  | .kc ds => R ⟨ds, fun _ => True⟩ G
  | .ref a => seqO (G a) a G R
  | _ => False
section
variable {G : HD} {a : Addr} {ds : List D} {R : ItD → HD → Prop} {W : DW} {σ : DSt} {tl : TD}
theorem q_jseq : jSeq tl W σ G R = tl W σ G fun d G1 => seqP d G1 R := by
  unfold jSeq seqP
  congr 1
theorem r_seqT : seqP (.tup ds) G R = R ⟨ds, fun _ => True⟩ G := propext ⟨fun h => h, fun h => h⟩
theorem r_seqK : seqP (.kl ds) G R = R ⟨ds, fun _ => True⟩ G := propext ⟨fun h => h, fun h => h⟩
theorem r_seqC : seqP (.kc ds) G R = R ⟨ds, fun _ => True⟩ G := propext ⟨fun h => h, fun h => h⟩
theorem r_seqR : seqP (.ref a) G R = seqO (G a) a G R := propext ⟨fun h => h, fun h => h⟩
theorem r_seqL : seqO (some (.lst ds)) a G R = R ⟨ds, fun G => G a = some (.lst ds)⟩ G := propext ⟨fun h => h, fun h => h⟩
theorem q_yes {Q : Bool → HD → Prop} : dYes W σ G Q = Q true G := propext ⟨fun h => h, fun h => h⟩
theorem q_lc {ti : TDI} {t : Tgt} {dt : TDT} {te : TD} {vs : List Nat} {Q : Post} : dLc ti t dt te vs W σ G Q = ti W σ G fun I G1 => I.xs.length ≤ 1000000 ∧ lcD I.ok (fun d ky kn G' => t.put d (dwipe σ vs) fun σ2 => dt W0 σ2 G' fun b G2 => if b = true then te W0 σ2 G2 ky else kn G2) (fun acc G2 => newL G2 acc Q) I.xs [] G1 := propext ⟨fun h => h, fun h => h⟩
theorem r_ownP {n b : Bool} {Q : Post} : ownP n Q (.bl b) G = Q (.bl (if n then !b else b)) G := propext ⟨fun h => h, fun h => h⟩
end
end DL

namespace DL
open PySem PySem.Spec L2
open PyProof.Rows hiding St
/-! ### raise X('text') -/
/-- an own class without __init__ whose instances are raised -/
structure RaiseF (K : PySem.W.Frag) (mg : Str → Option Value) (x : Str) (C : Addr) : Prop where
  ex : ∃ (bmB : List Value) (B newId initId : String), ExcBaseFacts B newId initId bmB ∧ PySem.W.excIn K C bmB newId = true
  mgC : mg x = some (.ref C)
  kp : PySem.W.keepIn K (.ref C) = true
  sub : PySem.W.subIn K (.ref C) (.type "BaseException") = some true
  ty : PySem.W.typeIn K (.ref C) = some (.type "type")
def sRaise (c : Value) : TDS := fun W _ σ G => W c [] σ G
/-! ### try: .. except X: .. -/
/-! ### xs.append(e) -/
def appO (o : Option MO) (a : Addr) (d : D) (G : HD) (Q : Post) : Prop := match o with
  | some (.lst xs) => xs.length < 1000000 ∧ Q .non (put G a (.lst (xs ++ [d])))
  | _ => False
def appP (o d : D) (G : HD) (Q : Post) : Prop := match o with
  | .ref a => appO (G a) a d G Q
  | _ => False
def lstP (o : D) (G : HD) (k : Prop) : Prop := match o with
  | .ref a => (∃ xs, G a = some (.lst xs)) ∧ k
  | _ => False
def dApp (to : TD) (ts : TDA) : TD := fun W σ G Q => to W σ G fun o G1 => lstP o G1 (ts W σ G1 fun ds G2 => match ds with
  | [d] => appP o d G2 Q
  | _ => False)
theorem de_app {X : Cx} {o e : Expr} {to : TD} {ts : TDA} {apos cpos : Pos} (ho : DE X o to) (ha : DA X [e] ts)
    (hbase : attributeBase o "append" X.env (eval o X.env) = eval o X.env := by rfl)
    (hfew : ((backTo cpos (starEach [e] X.env)).all (fun x => !x.1) && (backToKw cpos (keywordEach [] X.env)).all (fun x => x.1.isSome)
      && decide (([e] : List Expr).length + ([] : List Keyword).length + (if ([] : List Keyword).isEmpty then 0 else 1) < 30)) = true := by rfl)
    (hline : (apos.endLine == cpos.line) = true := by rfl) (hs : starEach [e] X.env = (false, eval e X.env) :: starEach [] X.env := by rfl) (hplain : (backTo cpos (starEach [] X.env)).any (·.1) = false := by rfl) :
    DE X (.Call (.Attribute o "append" apos) [e] [] cpos) (dApp to ts) := ⟨fun G H σ τ W Q r q => by
  refine semE.of (pe_bm PySem.F.plainAttrs_list PySem.F.slot_list_append PySem.F.type_list_append mt_append peSem paSem hbase hfew hline hs hplain) ?_
  refine ho.then r q fun d v G1 H1 r1 x1 k1 q1 => ?_
  unfold lstP at q1
  split at q1
  · rename_i a
    obtain ⟨⟨xs, hx⟩, q2⟩ := q1
    cases k1
    obtain ⟨o', e1, vs, rfl, rr⟩ := r1.sim _ _ hx
    refine ⟨.inl ⟨rfl, vs, SqL.of e1⟩, ha.then r1 q2 fun ds us G2 H2 r2 x2 k2 q3 => ?_⟩
    try dsimp only at q3
    split at q3
    · rename_i d
      obtain ⟨w, rfl, kd⟩ := one_of k2
      unfold appP appO at q3
      try dsimp only at q3
      split at q3
      · rename_i ys hy
        obtain ⟨h1, q4⟩ := q3
        obtain ⟨o2, e2, ws, rfl, rr2⟩ := r2.sim _ _ hy
        have hlen : ws.length < sizeLine := by
          rw [rr2.length, sizeLine_eq]; omega
        refine ⟨a, ws, w, rfl, rfl, e2, hlen, ?_⟩
        exact .of (d := .non) rfl (r2.sim.wr (m := .lst (ys ++ [d])) (o := .lst (ws ++ [w])) hy ⟨_, rfl, rr2.app (show Rps X.K H2 [d] [w] from ⟨w, [], rfl, kd, rfl⟩)⟩) ((x1.trans x2).trans (.wr hy)) q4
      · exact q3.elim
    · exact q3.elim
  · exact q1.elim⟩
/-! ### f(k = v, ..), all by names -/
section
variable (X : Cx)
def semK (kws : List Keyword) : TA := fun σ H Q => ∀ (pos : Pos) (pins : List (Addr × Obj)) (s : Shared), Inv X pins σ H s → wpAny (model X.prog X.w) X.A (evalAll ((backToKw pos (keywordEach kws X.env)).map (·.2))) (AP X pins σ Q) X.xe s
end
structure DKw (X : Cx) (kws : List Keyword) (t : TDA) : Prop where
  run : ∀ (G : HD) (H : Hp) (σ : DSt) (τ : L2.St) (W : DW) (Q : List D → HD → Prop), SR X G H σ τ W → t W σ G Q → semK X kws τ H (liftA X.K G H Q)
section
variable {X : Cx} {e : Expr} {te : TD} {t : TDA} {kws : List Keyword} {nm : Option Str} {kpos : Pos}
end
end DL

namespace DL
open PySem PySem.Spec L2
open PyProof.Rows hiding St
/-- a def called by the names of its two parameters, the second one first -/
structure SwpK (P : Program) (w : World) (K : PySem.W.Frag) (mg : Str → Option Value) (base : Heap) (k : Nat) (x : Str) (sp : SpD) (a b : Str) : Prop where
  ex : ∃ (f : Addr) (fd : FuncData), FnK P w K mg base k f fd [a, b] sp ∧ mg x = some (.ref f) ∧ PySem.W.keepIn K (.ref f) = true ∧
    ∀ (s : Shared) (u v : Value), BindsTo s fd ⟨[], [(b, u), (a, v)]⟩ [(a, v), (b, u)]
/-- {} -/
def dDic : TD := fun _ _ G Q => ∀ p, G p = none → Q (.ref p) (put G p (.dK []))
end DL

namespace DL
open PySem PySem.Spec L2
open PyProof.Rows hiding St
/-! ### is, is not: of None, of truths -/
def dIsX (neg : Bool) : D → D → HD → Post → Prop := fun d e G Q => match d, e with
  | .bl a, .bl b => Q (.bl (if neg then !decide (a = b) else decide (a = b))) G
  | d, e => dIsN neg d e G Q
theorem od_isX {X : Cx} : OpD X.K (fun x y H Q => (y = .non ∧ Q (.bl (decide (x = .non))) H) ∨ ∃ a b, x = .bl a ∧ y = .bl b ∧ Q (.bl (decide (a = b))) H) (dIsX false) := fun G H d e x y Q Q' s k1 k2 f q => by
  unfold dIsX at q
  split at q
  · cases k1; cases k2
    exact .inr ⟨_, _, rfl, rfl, f _ _ (.of (d := .bl _) rfl s .refl q)⟩
  · exact .inl (od_isN X.K G H d e x y Q Q' s k1 k2 f q)
theorem od_isXn {X : Cx} {r : R2} (h : OpD X.K r (dIsN true)) : OpD X.K (fun x y H Q => r x y H Q ∨ ∃ a b, x = .bl a ∧ y = .bl b ∧ Q (.bl (!decide (a = b))) H) (dIsX true) := fun G H d e x y Q Q' s k1 k2 f q => by
  unfold dIsX at q
  split at q
  · cases k1; cases k2
    exact .inr ⟨_, _, rfl, rfl, f _ _ (.of (d := .bl _) rfl s .refl q)⟩
  · exact .inl (h G H d e x y Q Q' s k1 k2 f q)
theorem c_isX {X : Cx} (hu : X.A.units + 64 < cLine) : CmpR X .Is (dIsX false) := ⟨_, op_isN.or op_is_bl, od_isX⟩
theorem c_isnotX {X : Cx} (hu : X.A.units + 64 < cLine) : CmpR X .IsNot (dIsX true) := ⟨_, op_notN.or op_isnot_bl, od_isXn (od_notN X.K)⟩
theorem r_isXB {neg a b : Bool} {G : HD} {Q : Post} : dIsX neg (.bl a) (.bl b) G Q = Q (.bl (if neg then !decide (a = b) else decide (a = b))) G := propext ⟨fun h => h, fun h => h⟩
theorem r_isXN {neg : Bool} {d : D} {G : HD} {Q : Post} : dIsX neg d .non G Q = Q (.bl (if neg then !isNon d else isNon d)) G := by
  unfold dIsX
  split
  · rename_i z; cases z
  · exact r_isN
end DL

namespace DL
open PySem PySem.Spec L2
open PyProof.Rows hiding St
/-! ### dicts with keys that are ints, texts -/
def kD : D → Option Key
  | .int i => some (.inl i)
  | .str x => some (.inr x)
  | _ => none
theorem kD_rp {K : PySem.W.Frag} {H : Hp} {d : D} {k : Key} {v : V} (h : kD d = some k) (r : Rp K H d v) : v = kV k := by
  cases d with
  | int i => cases h; cases r; rfl
  | str x => cases h; cases r; rfl
  | _ => cases h
def valD : List (Key × D) → Key → Option D
  | [], _ => none
  | p :: r, k => if p.1 = k then some p.2 else valD r k
def hasD (l : List (Key × D)) (k : Key) : Bool := l.any fun p => decide (p.1 = k)
def putKD (l : List (Key × D)) (k : Key) (d : D) : List (Key × D) := if hasD l k = true then l.map (fun p => if p.1 = k then (p.1, d) else p) else l ++ [(k, d)]
section
variable {K : PySem.W.Frag} {H : Hp} {k : Key}
theorem RKV.val : ∀ {l : List (Key × D)} {m : List (Key × V)}, RKV K H l m → (valD l k = none ∧ valV m k = none) ∨ ∃ d v, valD l k = some d ∧ valV m k = some v ∧ Rp K H d v
  | [], _, h => by cases h; exact .inl ⟨rfl, rfl⟩
  | p :: r, _, h => by
    obtain ⟨v, t, rfl, h1, h2⟩ := h
    by_cases e : p.1 = k
    · exact .inr ⟨p.2, v, if_pos e, valV_pos e, h1⟩
    · have e1 : valD (p :: r) k = valD r k := if_neg e
      have e2 : valV ((p.1, v) :: t) k = valV t k := valV_neg e
      rw [e1, e2]
      exact RKV.val h2
theorem RKV.has : ∀ {l : List (Key × D)} {m : List (Key × V)}, RKV K H l m → (m.any fun p => decide (p.1 = k)) = hasD l k
  | [], _, h => by cases h; rfl
  | p :: r, _, h => by
    obtain ⟨v, t, rfl, h1, h2⟩ := h
    show (decide (p.1 = k) || t.any _) = (decide (p.1 = k) || hasD r k)
    rw [RKV.has h2]
theorem RKV.len : ∀ {l : List (Key × D)} {m : List (Key × V)}, RKV K H l m → m.length = l.length
  | [], _, h => by cases h; rfl
  | p :: r, _, h => by
    obtain ⟨v, t, rfl, h1, h2⟩ := h
    show t.length + 1 = r.length + 1
    rw [RKV.len h2]
theorem RKV.over {d : D} {v : V} (q : Rp K H d v) : ∀ {l : List (Key × D)} {m : List (Key × V)}, RKV K H l m → RKV K H (l.map fun p => if p.1 = k then (p.1, d) else p) (m.map fun p => if p.1 = k then (p.1, v) else p)
  | [], _, h => by cases h; exact rfl
  | p :: r, _, h => by
    obtain ⟨w, t, rfl, h1, h2⟩ := h
    simp only [List.map_cons]
    by_cases e : p.1 = k
    · rw [if_pos e, if_pos e]
      exact ⟨v, _, rfl, q, RKV.over q h2⟩
    · rw [if_neg e, if_neg e]
      exact ⟨w, _, rfl, h1, RKV.over q h2⟩
theorem RKV.more {d : D} {v : V} (q : Rp K H d v) : ∀ {l : List (Key × D)} {m : List (Key × V)}, RKV K H l m → RKV K H (l ++ [(k, d)]) (m ++ [(k, v)])
  | [], _, h => by cases h; exact ⟨v, [], rfl, q, rfl⟩
  | p :: r, _, h => by
    obtain ⟨w, t, rfl, h1, h2⟩ := h
    exact ⟨w, _, rfl, h1, RKV.more q h2⟩
theorem RKV.putK2 {d : D} {v : V} {l : List (Key × D)} {m : List (Key × V)} (h : RKV K H l m) (q : Rp K H d v) : RKV K H (putKD l k d) (putK m k v) := by
  unfold putKD putK
  rw [h.has]
  split
  · exact h.over q
  · exact h.more q
end
/-- d[k] -/
def dkO (o : Option MO) (k : Option Key) (G : HD) (Q : Post) : Prop := match o, k with
  | some (.dK l), some k => optP (valD l k) G Q
  | some (.fz _ (.dK _) (.dK l)), some k => optP (valD l k) G Q
  | _, _ => False
def dkP (o k : D) (G : HD) (Q : Post) : Prop := match o with
  | .ref a => dkO (G a) (kD k) G Q
  | _ => False
def dDGet (td tk : TD) : TD := fun W σ G Q => td W σ G fun o G1 => tk W σ G1 fun k G2 => dkP o k G2 Q
/-- k in d -/
def inO (neg : Bool) (o : Option MO) (k : Option Key) (G : HD) (Q : Post) : Prop := match o, k with
  | some (.dK l), some k => Q (.bl (if neg then !(valD l k).isSome else (valD l k).isSome)) G
  | some (.fz _ (.dK _) (.dK l)), some k => Q (.bl (if neg then !(valD l k).isSome else (valD l k).isSome)) G
  | _, _ => False
def inP (neg : Bool) (k o : D) (G : HD) (Q : Post) : Prop := match o with
  | .ref a => inO neg (G a) (kD k) G Q
  | _ => False
/-- d[k] = v -/
def dpO (o : Option MO) (a : Addr) (k : Option Key) (v : D) (G : HD) (Q : HD → Prop) : Prop := match o, k with
  | some (.dK l), some k => l.length < 1000000 ∧ Q (put G a (.dK (putKD l k v)))
  | _, _ => False
def dpP (o k v : D) (G : HD) (Q : HD → Prop) : Prop := match o with
  | .ref a => dpO (G a) a (kD k) v G Q
  | _ => False
def sDict (td tk tv : TD) : TDS := fun W E σ G => tv W σ G fun v G1 => td W σ G1 fun o G2 => tk W σ G2 fun k G3 => dpP o k v G3 fun G4 => E.nx σ G4
section
variable {X : Cx} {o i e : Expr} {td tk tv : TD} {pos pos2 : Pos}
theorem fz_at0 {K : PySem.W.Frag} {G2 : HD} {H2 : Hp} {a : Addr} {ob : Obj} {m : List (Key × V)} {l : List (Key × D)} (s2 : Sim K G2 H2) (h2 : G2 a = some (.fz ob (.dK m) (.dK l))) : L2.Rd H2 a (.dK m) ∧ RKV K H2 l m := by
  obtain ⟨o, e1, e2, e3, _⟩ := s2 _ _ h2
  subst e2
  obtain ⟨m', e4, e5⟩ := e3
  cases e4
  exact ⟨.inr ⟨_, e1⟩, e5⟩
theorem dk_at {G : HD} {H : Hp} {od kd : D} {x y : V} {Q : Post} (s : Sim X.K G H) (r1 : Rp X.K H od x) (r2 : Rp X.K H kd y) (q : dkP od kd G Q) : ∃ a l m k, x = .ref a ∧ y = kV k ∧ L2.Rd H a (.dK m) ∧ RKV X.K H l m ∧ optP (valD l k) G Q := by
  unfold dkP at q
  split at q
  · rename_i a
    cases r1
    unfold dkO at q
    split at q
    · rename_i l k e1 e2
      obtain ⟨m, h1, h2⟩ := s.dK e1
      exact ⟨a, l, m, k, rfl, kD_rp e2 r2, .of h1, h2, q⟩
    · rename_i l k e1 e2
      obtain ⟨h1, h2⟩ := fz_at0 s e1
      exact ⟨a, l, _, k, rfl, kD_rp e2 r2, h1, h2, q⟩
    · exact q.elim
  · exact q.elim
theorem de_dget (hu : X.A.units + 64 < cLine) (ho : DE X o td) (hi : DE X i tk) (hs : NoSl i := by intro _ _; rfl) : DE X (.Subscript o i pos) (dDGet td tk) := ⟨fun G H σ τ W Q r q =>
  semE.of (pe_dget (by omega) peSem peSem hs) (ho.then r q fun d x G1 H1 r1 x1 k1 q1 => hi.then r1 q1 fun kd y G2 H2 r2 x2 k2 q2 => by
    obtain ⟨a, l, m, k, rfl, rfl, e2, e3, q3⟩ := dk_at r2.sim (k1.ext r1.sim x2 _ _) k2 q2
    rcases e3.val (k := k) with ⟨z, _⟩ | ⟨d2, v2, z1, z2, z3⟩
    · rw [z] at q3; exact q3.elim
    · rw [z1] at q3
      refine ⟨a, v2, rfl, ?_, .of z3 r2.sim (x1.trans x2) q3⟩
      rw [← z2]
      exact .inl ⟨m, k, e2, rfl, rfl⟩)⟩
theorem in_at {neg : Bool} {G : HD} {H : Hp} {od kd : D} {x y : V} {Q : Post} (s : Sim X.K G H) (r1 : Rp X.K H od x) (r2 : Rp X.K H kd y) (q : inP neg kd od G Q) : ∃ a l m k, x = .ref a ∧ y = kV k ∧ L2.Rd H a (.dK m) ∧ RKV X.K H l m ∧ Q (.bl (if neg then !(valD l k).isSome else (valD l k).isSome)) G := by
  unfold inP at q
  split at q
  · rename_i a
    cases r1
    unfold inO at q
    split at q
    · rename_i l k e1 e2
      obtain ⟨m, h1, h2⟩ := s.dK e1
      exact ⟨a, l, m, k, rfl, kD_rp e2 r2, .of h1, h2, q⟩
    · rename_i l k e1 e2
      obtain ⟨h1, h2⟩ := fz_at0 s e1
      exact ⟨a, l, _, k, rfl, kD_rp e2 r2, h1, h2, q⟩
    · exact q.elim
  · exact q.elim
theorem val_is {K : PySem.W.Frag} {H : Hp} {k : Key} {l : List (Key × D)} {m : List (Key × V)} (h : RKV K H l m) : (valV m k).isSome = (valD l k).isSome := by
  rcases h.val (k := k) with ⟨z, y⟩ | ⟨d2, v2, z1, z2, z3⟩
  · rw [z, y]; rfl
  · rw [z1, z2]; rfl
theorem c_din (hu : X.A.units + 64 < cLine) : CmpR X .In (fun k o G Q => inP false k o G Q) := ⟨fun x y H Q => ∃ a o, y = .ref a ∧ DGet H a x o ∧ Q (.bl o.isSome) H, fun pins s σ H x y v u Q I rx ry h => by
  obtain ⟨a, o, rfl, g, q⟩ := h
  cases ry
  exact d_in (by omega) I g rx fun s3 I3 => ⟨.bl o.isSome, H, I3, rfl, q⟩, fun G H d e x y Q Q' s k1 k2 f q => by
  obtain ⟨a, l, m, k, rfl, rfl, e2, e3, q3⟩ := in_at s k2 k1 q
  refine ⟨a, _, rfl, .inl ⟨m, k, e2, rfl, rfl⟩, ?_⟩
  rw [val_is e3]
  exact f _ _ (.of (d := .bl _) rfl s .refl q3)⟩
end
end DL

namespace DL
open PySem PySem.Spec L2
open PyProof.Rows hiding St
/-! ### d.get(k), d.get(k, z), d.pop(k, z) -/
def dictP (o : D) (G : HD) (k : Prop) : Prop := match o with
  | .ref a => (∃ l, G a = some (.dK l)) ∧ k
  | _ => False
def getO (o : Option MO) (k : Option Key) (z : D) (G : HD) (Q : Post) : Prop := match o, k with
  | some (.dK l), some k => Q ((valD l k).getD z) G
  | _, _ => False
def getP (o k z : D) (G : HD) (Q : Post) : Prop := match o with
  | .ref a => getO (G a) (kD k) z G Q
  | _ => False
def dGet1 (td tk : TD) : TD := fun W σ G Q => td W σ G fun o G1 => dictP o G1 (tk W σ G1 fun k G2 => getP o k .non G2 Q)
def dGet2 (td tk tz : TD) : TD := fun W σ G Q => td W σ G fun o G1 => dictP o G1 (tk W σ G1 fun k G2 => tz W σ G2 fun z G3 => getP o k z G3 Q)
def dropKD (l : List (Key × D)) (k : Key) : List (Key × D) := l.filter fun p => decide (p.1 ≠ k)
def popO (o : Option MO) (a : Addr) (k : Option Key) (z : D) (G : HD) (Q : Post) : Prop := match o, k with
  | some (.dK l), some k => (∀ v, valD l k = some v → Q v (put G a (.dK (dropKD l k)))) ∧ (valD l k = none → Q z G)
  | _, _ => False
def popP (o k z : D) (G : HD) (Q : Post) : Prop := match o with
  | .ref a => popO (G a) a (kD k) z G Q
  | _ => False
def dPop2 (td tk tz : TD) : TD := fun W σ G Q => td W σ G fun o G1 => dictP o G1 (tk W σ G1 fun k G2 => tz W σ G2 fun z G3 => popP o k z G3 Q)
section
variable {K : PySem.W.Frag} {H : Hp} {k : Key}
theorem RKV.getD {l : List (Key × D)} {m : List (Key × V)} {d : D} {v : V} (h : RKV K H l m) (r : Rp K H d v) : Rp K H ((valD l k).getD d) ((valV m k).getD v) := by
  rcases h.val (k := k) with ⟨z, y⟩ | ⟨d2, v2, z1, z2, z3⟩
  · rw [z, y]; exact r
  · rw [z1, z2]; exact z3
theorem RKV.drop : ∀ {l : List (Key × D)} {m : List (Key × V)}, RKV K H l m → RKV K H (dropKD l k) (dropK m k)
  | [], _, h => by cases h; exact rfl
  | p :: r, _, h => by
    obtain ⟨v, t, rfl, h1, h2⟩ := h
    unfold dropKD dropK
    by_cases e : p.1 = k
    · rw [List.filter_cons_of_neg (by simp [e]), List.filter_cons_of_neg (by simp [e])]
      exact RKV.drop h2
    · rw [List.filter_cons_of_pos (by simp [e]), List.filter_cons_of_pos (by simp [e])]
      exact ⟨v, _, rfl, h1, RKV.drop h2⟩
end
section
variable {X : Cx} {o e f : Expr} {td tk tz : TD} {apos cpos : Pos}
end
end DL

namespace DL
open PySem PySem.Spec L2
open PyProof.Rows hiding St
/-! ### sorted(ints) -/
end DL

namespace DL
open PySem PySem.Spec L2
open PyProof.Rows hiding St
/-! ### d.setdefault(k, z) -/
def sdfO (o : Option MO) (a : Addr) (k : Option Key) (z : D) (G : HD) (Q : Post) : Prop := match o, k with
  | some (.dK l), some k => l.length < 1000000 ∧ (∀ v, valD l k = some v → Q v G) ∧ (valD l k = none → Q z (put G a (.dK (putKD l k z))))
  | _, _ => False
def sdfP (o k z : D) (G : HD) (Q : Post) : Prop := match o with
  | .ref a => sdfO (G a) a (kD k) z G Q
  | _ => False
def dSetd (td tk tz : TD) : TD := fun W σ G Q => td W σ G fun o G1 => dictP o G1 (tk W σ G1 fun k G2 => tz W σ G2 fun z G3 => sdfP o k z G3 Q)
end DL

namespace DL
open PySem PySem.Spec L2
open PyProof.Rows hiding St
/-! ### a dict that stands still while a statement runs -/
section
variable {K : PySem.W.Frag} {G G' : HD} {H H' : Hp} {d : Addr} {ob : Obj} {m : List (Key × V)} {l : List (Key × D)}
end
end DL

namespace DL
open PySem PySem.Spec L2
open PyProof.Rows hiding St
/-! ### for k, v in d.items(), the dict standing still -/
def kDi : Key → D
  | .inl i => .int i
  | .inr x => .str x
def pairD (p : Key × D) : D := .tup [kDi p.1, p.2]
def jItems (td : TD) : TDI := fun W σ G R => td W σ G fun o G1 => match o with
  | .ref a => match G1 a with
    | some (.fz ob (.dK m) (.dK l)) => R ⟨l.map pairD, fun G => G a = some (.fz ob (.dK m) (.dK l))⟩ G1
    | _ => False
  | _ => False
end DL

namespace DL
open PySem PySem.Spec L2
open PyProof.Rows hiding St
end DL

namespace DL
open PySem PySem.Spec L2
open PyProof.Rows hiding St
/-! ### lists by value -/
def OpDF (K : PySem.W.Frag) (r : R2) (rd : D → D → HD → Post → Prop) : Prop :=
  ∀ (G : HD) (H : Hp) (d e : D) (x y : V) (Q : Post) (Q' : VK), Sim K G H → Rp K H d x → Rp K H e y → (∀ v H', liftF K G H Q v H' → Q' v H') → rd d e G Q → r x y H Q'
theorem OpD.F {K : PySem.W.Frag} {r : R2} {rd : D → D → HD → Post → Prop} (h : OpD K r rd) : OpDF K r rd := fun G H d e x y Q Q' s k1 k2 f q => h G H d e x y Q Q' s k1 k2 (fun v H' z => f v H' (.inl z)) q
section
variable {X : Cx} {a b e : Expr} {ta tb te : TD} {es : List Expr} {ts : TDA} {pos : Pos}
theorem de_opF {op : Operator} {r : R2} {rd : D → D → HD → Post → Prop} (ho : OpR X (binaryOp op) r) (hd : OpDF X.K r rd) (ha : DE X a ta) (hb : DE X b tb) : DE X (.BinOp a op b pos) (dOp rd ta tb) :=
  ⟨fun G H σ τ W Q r0 h => semE.frz (semE.of (pe_op ho peSem peSem) (ha.then r0 h fun d x G1 H1 r1 x1 k1 q1 => hb.then r1 q1 fun d2 y G2 H2 r2 x2 k2 q2 =>
    hd G2 H2 d d2 x y Q _ r2.sim (k1.ext r1.sim x2 _ _) k2 (fun _ _ z => z.up (x1.trans x2)) q2))⟩
def dLstV (ts : TDA) : TD := fun W σ G Q => ts W σ G fun ds G1 => ds.length ≤ 1000 ∧ Q (.kl ds) G1
theorem de_lstV (h : DA X es ts) : DE X (.List es pos) (dLstV ts) :=
  ⟨fun G H σ τ W Q r0 q => semE.frz (semE.of (pe_lst paSem) (h.then r0 q fun ds vs G1 H1 r1 x1 k1 q1 => ⟨by rw [k1.length]; exact le1000 q1.1, newV.fin r1.sim k1 (fun _ _ z => z.up x1) q1.2⟩))⟩
/-! + of lists -/
/-- a list that is ours, or stands still -/
def asW (G : HD) : D → Option (List D)
  | .kl ds => some ds
  | .ref a => lstOf (G a)
  | _ => none
theorem lstOf_some {o : Option MO} {ds : List D} (h : lstOf o = some ds) : o = some (.lst ds) := by
  unfold lstOf at h
  split at h
  · cases h; rfl
  · cases h
theorem Rp.wr {K : PySem.W.Frag} {G : HD} {H : Hp} {d : D} {v : V} {ds : List D} (s : Sim K G H) (r : Rp K H d v) (h : asW G d = some ds) : ∃ a vs, v = .ref a ∧ L2.Rd H a (.lst vs) ∧ Rps K H ds vs := by
  cases d with
  | kl es =>
    cases h
    obtain ⟨a, vs, rfl, ⟨o, t⟩, q⟩ := r
    exact ⟨a, vs, rfl, .inr ⟨o, t⟩, q⟩
  | ref a =>
    cases (show v = .ref a from r)
    obtain ⟨vs, e1, r1⟩ := s.lst (lstOf_some h)
    exact ⟨a, vs, rfl, .inl e1, r1⟩
  | _ => cases h
def rCatL : R2 := fun x y H Q => ∃ l b xs zs, x = .ref l ∧ y = .ref b ∧ L2.Rd H l (.lst xs) ∧ L2.Rd H b (.lst zs) ∧ xs.length + zs.length ≤ sizeLine ∧ ∀ p, H p = none → Q (.ref p) (upd H p (.lst (xs ++ zs)))
theorem op_catL : OpR X (binaryOp .Add) rCatL := by
  intro pins s σ H x y v u Q I rx ry ⟨l, b, xs, zs, ex, ey, hx, hy, hz, q⟩
  subst ex; subst ey
  cases rx; cases ry
  obtain ⟨_, i1, n1, v1, e1⟩ := hx.ok I.hok
  obtain ⟨_, i2, n2, v2, e2⟩ := hy.ok I.hok
  have l1 := v1.length
  have l2 := v2.length
  refine PySem.P.add_list e1 e2 ?_ (by simp only [List.size_toArray]; omega)
  rw [show i1.toArray ++ i2.toArray = (i1 ++ i2).toArray by simp]
  exact ⟨.ref _, _, I.lnew (t' := s.toks) (v1.append v2) (by rw [List.length_append]; omega), rfl, q _ I.fresh⟩
def dAddV : D → D → HD → Post → Prop := fun d e G Q => match asW G d, asW G e with
  | some xs, some ys => xs.length + ys.length ≤ sizeLine ∧ Q (.kl (xs ++ ys)) G
  | _, _ => dAdd d e G Q
theorem od_addV (K : PySem.W.Frag) : OpDF K (fun x y H Q => rAddU K x y H Q ∨ rCatL x y H Q) dAddV := fun G H d e x y Q Q' s k1 k2 f q => by
  unfold dAddV at q
  split at q
  · rename_i xs ys e1 e2
    obtain ⟨a, vs, rfl, t1, r1⟩ := k1.wr s e1
    obtain ⟨b, ws, rfl, t2, r2⟩ := k2.wr s e2
    exact .inr ⟨a, b, vs, ws, rfl, rfl, t1, t2, by rw [r1.length, r2.length]; exact q.1, newV.fin s (r1.app r2) f q.2⟩
  · exact .inl ((od_add K).F G H d e x y Q Q' s k1 k2 f q)
theorem de_addV (ha : DE X a ta) (hb : DE X b tb) : DE X (.BinOp a .Add b pos) (dOp dAddV ta tb) := de_opF (op := .Add) ((op_add.or (op_add_str.or (op_catA.or op_cat))).or op_catL) (od_addV X.K) ha hb
/-! slices -/
def rSliceV : D → Option Int → Option Int → HD → Post → Prop := fun d lo hi G Q => match asL G d with
  | some xs => Q (.kl (cutD xs lo hi)) G
  | none => rSliceD d lo hi G Q
def dSliceV (te : TD) (tl th : TDO) : TD := fun W σ G Q => te W σ G fun d G1 => tl W σ G1 fun lo G2 => th W σ G2 fun hi G3 => rSliceV d lo hi G3 Q
theorem de_sliceV {lo hi : Option Expr} {tl th : TDO} {p2 : Pos} (he : DE X e te) (hl : DO X lo tl) (hh : DO X hi th) : DE X (.Subscript e (.Slice lo hi none p2) pos) (dSliceV te tl th) :=
  ⟨fun G H σ τ W Q r q => semE.frz (semE.of (pe_slice (r := rSlU X.K) (sl_list.or (sl_tupA.or sl_str)) peSem poSem poSem) (he.then r q fun d x G1 H1 r1 x1 k1 q1 => hl.run G1 H1 σ τ W _ _ r1 q1 fun l G2 H2 r2 x2 q2 => hh.run G2 H2 σ τ W _ _ r2 q2 fun h G3 H3 r3 x3 q3 => by
    have k3 := k1.ext r1.sim (x2.trans x3) _ _
    have xx := (x1.trans x2).trans x3
    unfold rSliceV at q3
    split at q3
    · rename_i xs e1
      obtain ⟨a, vs, rfl, t, rr⟩ := k3.lst r3.sim e1
      exact .inl ⟨a, vs, rfl, t, newV.fin r3.sim (rr.cut l h) (fun _ _ z => z.up xx) q3⟩
    · rename_i e0
      unfold rSliceD at q3
      split at q3
      · obtain ⟨a, vs, rfl, t, rr⟩ := id k3
        refine .inr (.inl ⟨a, vs, rfl, t, fun hw => ?_, fun _ => newT.fin r3.sim (rr.cut l h) (fun _ _ z => .inl (z.up xx)) q3⟩)
        rename_i xs
        have e1 : cutD xs l h = xs := by
          unfold cutD
          rw [rr.length] at hw
          rw [hw.1, hw.2]
          simp
        rw [e1] at q3
        exact .of (d := .tup xs) k3 r3.sim xx q3
      · cases k3
        exact .inr (.inr ⟨_, rfl, q3.1, .of (d := .str _) rfl r3.sim xx q3.2⟩)
      · split at q3
        · rename_i xs e1
          rw [e0] at e1; cases e1
        · exact q3.elim))⟩
/-! list(x) -/
def rListV : List D → HD → Post → Prop := fun ds G Q => match ds with
  | [d] => match asQ G d with
    | some es => Q (.kl es) G
    | none => False
  | _ => False
/-! a list that is made over to stand still -/
def delG (G : HD) (p : Addr) : HD := fun b => if b = p then none else G b
def frzO (o : Option MO) (p : Addr) (G : HD) (Q : Post) : Prop := match o with
  | some (.lst ds) => Q (.kl ds) (delG G p)
  | _ => Q (.ref p) G
def frzP (Q : Post) : Post := fun d G => match d with
  | .ref p => frzO (G p) p G Q
  | d => Q d G
def dFrz (t : TD) : TD := fun W σ G Q => t W σ G (frzP Q)
theorem delG_le {G : HD} {p : Addr} : Le (delG G p) G := fun a o h => by
  unfold delG at h
  split at h
  · cases h
  · exact h
theorem liftF.frz {K : PySem.W.Frag} {G : HD} {H : Hp} {Q : Post} {v : V} {H' : Hp} (h : liftQ K G H (frzP Q) v H') : liftF K G H Q v H' := by
  obtain ⟨d, G', r, s, x, q⟩ := h
  unfold frzP at q
  split at q
  · rename_i p
    cases r
    unfold frzO at q
    split at q
    · rename_i ds e
      obtain ⟨vs, e1, r1⟩ := s.lst e
      refine .inr ⟨p, vs, rfl, e1, fun ob => ⟨.kl ds, delG G' p, ⟨p, vs, rfl, ⟨ob, upd_same⟩, r1.aside e1 _ _⟩, (s.le delG_le).aside e1 (if_pos rfl), fun a o ga ha => ?_, q⟩⟩
      obtain ⟨h1, g1⟩ := x a o ga ha
      have hne : a ≠ p := by rintro rfl; rw [g1] at e; cases e
      exact ⟨by rw [upd_ne hne]; exact h1, (if_neg hne).trans g1⟩
    · exact .inl ⟨.ref p, G', rfl, s, x, q⟩
  · exact .inl ⟨_, G', r, s, x, q⟩
theorem de_frz (h : DE X e te) : DE X e (dFrz te) := ⟨fun G H σ τ W Q r q => semE.frz ((h.run G H σ τ W _ r q).imp fun _ _ z => liftF.frz z)⟩
end
/-! for simp -/
section
variable {G : HD} {Q : Post} {a b : Addr} {xs ys ds : List D} {lo hi : Option Int} {i j : Int} {W : DW} {σ : DSt} {ta : TD} {ts : TDA} {tl th : TDO} {x y : Str}
theorem q_lstV : dLstV ts W σ G Q = ts W σ G fun ds G1 => ds.length ≤ 1000 ∧ Q (.kl ds) G1 := propext ⟨fun h => h, fun h => h⟩
theorem q_sliceV : dSliceV ta tl th W σ G Q = ta W σ G fun d G1 => tl W σ G1 fun lo G2 => th W σ G2 fun hi G3 => rSliceV d lo hi G3 Q := propext ⟨fun h => h, fun h => h⟩
theorem q_frz : dFrz ta W σ G Q = ta W σ G (frzP Q) := propext ⟨fun h => h, fun h => h⟩
theorem r_frzR : frzP Q (.ref a) G = frzO (G a) a G Q := propext ⟨fun h => h, fun h => h⟩
theorem r_frzL : frzO (some (.lst ds)) a G Q = Q (.kl ds) (delG G a) := propext ⟨fun h => h, fun h => h⟩
theorem r_frzT : frzP Q (.tup ds) G = Q (.tup ds) G := propext ⟨fun h => h, fun h => h⟩
theorem r_frzK : frzP Q (.kl ds) G = Q (.kl ds) G := propext ⟨fun h => h, fun h => h⟩
theorem r_frzN : frzP Q .non G = Q .non G := propext ⟨fun h => h, fun h => h⟩
theorem r_addVI : dAddV (.int i) (.int j) G Q = Q (.int (i + j)) G := propext ⟨fun h => h, fun h => h⟩
theorem r_addVT : dAddV (.tup xs) (.tup ys) G Q = (xs.length + ys.length ≤ sizeLine ∧ Q (.tup (xs ++ ys)) G) := propext ⟨fun h => h, fun h => h⟩
theorem r_addVK : dAddV (.kl xs) (.kl ys) G Q = (xs.length + ys.length ≤ sizeLine ∧ Q (.kl (xs ++ ys)) G) := propext ⟨fun h => h, fun h => h⟩
def addVO (u : Option (List D)) (v : Option (List D)) (G : HD) (Q : Post) : Prop := match u, v with
  | some xs, some ys => xs.length + ys.length ≤ sizeLine ∧ Q (.kl (xs ++ ys)) G
  | _, _ => False
theorem r_addVO : addVO (some xs) (some ys) G Q = (xs.length + ys.length ≤ sizeLine ∧ Q (.kl (xs ++ ys)) G) := propext ⟨fun h => h, fun h => h⟩
theorem r_sliVK : rSliceV (.kl ds) lo hi G Q = Q (.kl (cutD ds lo hi)) G := propext ⟨fun h => h, fun h => h⟩
theorem r_sliVC : rSliceV (.kc ds) lo hi G Q = Q (.kl (cutD ds lo hi)) G := propext ⟨fun h => h, fun h => h⟩
theorem r_sliVT : rSliceV (.tup ds) lo hi G Q = Q (.tup (cutD ds lo hi)) G := propext ⟨fun h => h, fun h => h⟩
def sliVO (o : Option (List D)) (lo hi : Option Int) (G : HD) (Q : Post) : Prop := match o with
  | some xs => Q (.kl (cutD xs lo hi)) G
  | none => False
theorem r_sliVR : rSliceV (.ref a) lo hi G Q = sliVO (lstOf (G a)) lo hi G Q := by
  unfold rSliceV sliVO
  rw [asL_ref]
  cases hh : lstOf (G a) with
  | some xs => rfl
  | none =>
    show rSliceD (.ref a) lo hi G Q = False
    rw [r_sliR, hh]; rfl
theorem r_sliVL : sliVO (some ds) lo hi G Q = Q (.kl (cutD ds lo hi)) G := propext ⟨fun h => h, fun h => h⟩
theorem r_listVK : rListV [.kl ds] G Q = Q (.kl ds) G := propext ⟨fun h => h, fun h => h⟩
theorem r_listVC : rListV [.kc ds] G Q = Q (.kl ds) G := propext ⟨fun h => h, fun h => h⟩
theorem r_listVT : rListV [.tup ds] G Q = Q (.kl ds) G := propext ⟨fun h => h, fun h => h⟩
theorem r_truK : truD G (.kl xs) = some (!xs.isEmpty) := rfl
theorem r_lcV {ti : TDI} {t : Tgt} {dt : TDT} {te : TD} {vs : List Nat} : dLcV ti t dt te vs W σ G Q = ti W σ G fun I G1 => I.xs.length ≤ 1000000 ∧ lcD I.ok (fun d ky kn G' => t.put d (dwipe σ vs) fun σ2 => dt W0 σ2 G' fun b G2 => if b = true then te W0 σ2 G2 ky else kn G2) (fun acc G2 => Q (.kl acc) G2) I.xs [] G1 := propext ⟨fun h => h, fun h => h⟩
end
end DL

namespace DL
open PySem PySem.Spec L2
open PyProof.Rows hiding St
/-! ### the law's call, where no repr is under way -/
section
variable {P : Program} {w : World} {K : PySem.W.Frag} {mg mb : Str → Option Value} {k : Nat} {fa a : Addr} {fd : FuncData} {x : Str} {sp : Sp} {s1 : Shared} {vs : List Value} {ns : List Int}
/-- what a tracks, at most the script -/
structure Trk (P : Program) (w : World) (K : PySem.W.Frag) (s1 : Shared) (a : Addr) (H : Hp) : Prop where
  hok : HOk P w H s1.heap
  only : ∀ b, H b = none ∨ (b = a ∧ K.lookup b = none ∧ ∃ o xs, H b = some (.frz o (.lst xs)))
theorem Trk.shown {H : Hp} (t : Trk P w K s1 a H) {b : Addr} {o : Obj} (e : s1.heap.get? b = some o) (h : b ≠ a ∨ (K.lookup b).isSome = true) : (hidT s1.heap H).get? b = some o := by
  refine hidT_get e ?_
  rcases t.only b with z | ⟨z1, z2, _⟩
  · exact z
  · rcases h with h | h
    · exact absurd z1 h
    · rw [z2] at h; cases h
end
end DL

namespace DL
open PySem PySem.Spec L2
open PyProof.Rows hiding St
/-! ### repr of data -/
def rRep0 (K : PySem.W.Frag) : List V → Hp → VK → Prop := fun xs H Q => ∃ v p, xs = [v] ∧ Dp K H v p ∧ p.canLay0 = true ∧ p.depth ≤ 9 ∧ p.showable = true ∧ p.shown.length ≤ sizeLine ∧ Q (.str p.shown) H
theorem call_rep0 {X : Cx} (hg : X.A.guards = some []) (hu : X.A.units + 64 < cLine) : CallR X (.builtin "repr") (rRep0 X.K) := by
  intro pins s σ H xs us Q I rv ⟨v, p, e, hd, hc, hdp, hs, hz, q⟩
  subst e
  obtain ⟨u, eu, ru⟩ := vals1 rv
  subst eu
  have big : ∀ {a : Addr} {as : List Addr}, Reads s.heap (.ref a) p as → wpAny (model X.prog X.w) X.A (call (.builtin "repr") [.ref a]) (EP X pins σ Q) X.xe s := fun hr =>
    repr_of_reads' hr hs (PyData.noDict_hsm (PyData.hasDict_of_canLay p hc)) hg (by omega) (fun _ _ e => e) (fun h' u tk k => ⟨.str p.shown, H, I.kept (t' := tk) k, ⟨u, rfl⟩, q⟩) hz
  obtain ⟨as, hr⟩ := Dp.reads I p v u hd ru
  cases hr with
  | none => exact PySem.P.repr_of_none ⟨.str _, H, I.tok _, ⟨_, rfl⟩, q⟩
  | bool b => exact PySem.P.repr_of_bool ⟨.str _, H, I.tok _, ⟨_, rfl⟩, q⟩
  | int i t => exact PySem.P.repr_of_int (of_decide_eq_true hs) ⟨.str _, H, I.tok _, ⟨_, rfl⟩, q⟩
  | str x t => exact PySem.P.repr_of_str ⟨.str _, H, I.tok _, ⟨_, rfl⟩, q⟩ hz
  | list h1 h2 h3 h4 => exact big (.list h1 h2 h3 h4)
  | tuple h1 h2 h3 h4 => exact big (.tuple h1 h2 h3 h4)
  | dict _ _ _ _ _ => cases hd
/-- repr of an empty dict -/
theorem call_repE {X : Cx} (hg : X.A.guards = some []) (hu : X.A.units + 64 < cLine) : CallR X (.builtin "repr") (fun xs H Q => ∃ a, xs = [.ref a] ∧ H a = some (.dK []) ∧ Q (.str (PyData.dict []).shown) H) := by
  intro pins s σ H xs us Q I rv ⟨a, e, ha, q⟩
  subst e
  obtain ⟨u, eu, ru⟩ := vals1 rv
  subst eu
  obtain rfl : u = .ref a := ru
  obtain ⟨_, hm, vs, kv, o, es, ep, ho, hx, hd, r⟩ := I.hok a _ ha
  cases kv
  have e0 : es.toList = [] := List.eq_nil_of_length_eq_zero (by have := r.2.1.length; simpa using this)
  have hc : o.cls = .type "dict" := hx.1
  have hr : Reads s.heap (.ref a) (.dict []) (a :: [] ++ []) := .dict ho hc hd (by rw [e0]; exact .nil) (by rw [e0]; exact .nil)
  refine repr_of_reads' hr (by decide) (fun _ => ?_) hg (by simp only [PyData.depth, PyData.depthKv]; omega) (fun _ _ e => e) (fun h' u tk k => ⟨.str _, H, I.kept (t' := tk) k, ⟨u, rfl⟩, q⟩) (by decide)
  intro z
  have z' : sysModules = a := by simpa using z
  subst z'
  exact absurd hm (by decide)
/-- data as repr shows it -/
def repO (G : HD) (d : D) : Option PyData := match pyD 9 G d with
  | some p => some p
  | none => match d with
    | .ref a => match G a with
      | some (.dK []) => some (.dict [])
      | _ => none
    | _ => none
def rReprO (o : Option PyData) (G : HD) (Q : Post) : Prop := match o with
  | some p => p.showable = true ∧ p.shown.length ≤ sizeLine ∧ Q (.str p.shown) G
  | none => False
def rReprD : List D → HD → Post → Prop := fun ds G Q => match ds with
  | [d] => rReprO (repO G d) G Q
  | _ => False
theorem cd_repr (K : PySem.W.Frag) : CallD K (fun xs H Q => rRep0 K xs H Q ∨ ∃ a, xs = [.ref a] ∧ H a = some (.dK []) ∧ Q (.str (PyData.dict []).shown) H) rReprD := fun G H ds vs Q Q' s k f q => by
  unfold rReprD at q
  split at q
  · rename_i d
    obtain ⟨v, rfl, kd⟩ := one_of k
    unfold repO at q
    split at q
    · rename_i p hp
      obtain ⟨q1, q2, q3⟩ := q
      obtain ⟨h1, h2, h3⟩ := pyD_dp s 9 d v p hp kd
      exact .inl ⟨v, p, rfl, h1, h2, h3, q1, q2, f _ _ (.of (d := .str _) rfl s .refl q3)⟩
    · split at q
      · rename_i a _
        cases kd
        split at q
        · rename_i e
          obtain ⟨m, e1, r1⟩ := s.dK e
          cases r1
          exact .inr ⟨a, rfl, e1, f _ _ (.of (d := .str _) rfl s .refl q.2.2)⟩
        · exact q.elim
      · exact q.elim
  · exact q.elim
/-! == and != of texts of any length -/
end DL

namespace DL
open PySem PySem.Spec L2
open PyProof.Rows hiding St
/-! ### data that is no object of the heap -/
def pureD : Nat → D → Bool
  | 0, _ => false
  | n + 1, d => match d with
    | .non => true
    | .bl _ => true
    | .int _ => true
    | .str x => PyData.strOk x
    | .tup ds => ds.all (pureD n)
    | .kl ds => ds.all (pureD n)
    | .kc ds => ds.all (pureD n)
    | _ => false
def toPy : Nat → D → PyData
  | 0, _ => .none
  | n + 1, d => match d with
    | .bl b => .bool b
    | .int i => .int i
    | .str x => .str x
    | .tup ds => .tuple (ds.map (toPy n))
    | .kl ds => .list (ds.map (toPy n))
    | .kc ds => .list (ds.map (toPy n))
    | .emp => .dict []
    | _ => .none
theorem mapM_map {G : HD} {n : Nat} (ih : ∀ d, pureD n d = true → pyD n G d = some (toPy n d)) : ∀ {ds : List D}, ds.all (pureD n) = true → ds.mapM (pyD n G) = some (ds.map (toPy n))
  | [], _ => rfl
  | d :: ds, h => by
    rw [List.all_cons, Bool.and_eq_true] at h
    rw [List.mapM_cons, ih d h.1, mapM_map ih h.2]
    rfl
theorem pyD_pure {G : HD} : ∀ (n : Nat) (d : D), pureD n d = true → pyD n G d = some (toPy n d)
  | 0, _, h => by cases h
  | n + 1, d, h => by
    unfold pureD at h
    unfold pyD toPy
    cases d with
    | non => rfl
    | bl _ => rfl
    | int _ => rfl
    | str x => simp only at h ⊢; rw [if_pos h]
    | tup ds => simp only at h ⊢; rw [mapM_map (pyD_pure n) h]; rfl
    | kl ds => simp only at h ⊢; rw [mapM_map (pyD_pure n) h]; rfl
    | kc ds => simp only at h ⊢; rw [mapM_map (pyD_pure n) h]; rfl
    | ty _ => cases h
    | ref _ => cases h
    | exc _ _ _ => cases h
    | emp => cases h
    | fn _ _ _ _ _ => cases h
/-- == of two data -/
def eqvD (d e : D) : Bool := PyData.eqv (toPy 9 d) (toPy 9 e)
theorem eqO_pure {G : HD} {d e : D} (h1 : pureD 9 d = true) (h2 : pureD 9 e = true) : eqO G d e = some (eqvD d e) := by
  unfold eqO
  rw [pyD_pure 9 d h1, pyD_pure 9 e h2]
  rfl
/-- == with texts of any length -/
def dEqX (neg : Bool) : D → D → HD → Post → Prop := fun d e G Q => match d, e with
  | .str x, .str y => Q (.bl (if neg then !decide (x = y) else decide (x = y))) G
  | d, e => dEq neg d e G Q
theorem od_eqX (K : PySem.W.Frag) : OpD K (fun x y H Q => rEqD K x y H Q ∨ rEq x y H Q) (dEqX false) := fun G H d e x y Q Q' s k1 k2 f q => by
  unfold dEqX at q
  split at q
  · cases k1; cases k2
    refine .inr ⟨rfl, f _ _ ?_⟩
    have := liftQ.of (K := K) (G := G) (G' := G) (H := H) (H' := H) (Q := Q) (d := .bl _) (v := .bl _) rfl s .refl q
    simpa using this
  · exact .inl (od_eq K G H d e x y Q Q' s k1 k2 f q)
theorem od_neX (K : PySem.W.Frag) : OpD K (fun x y H Q => rNeD K x y H Q ∨ rNe x y H Q) (dEqX true) := fun G H d e x y Q Q' s k1 k2 f q => by
  unfold dEqX at q
  split at q
  · cases k1; cases k2
    refine .inr ⟨rfl, f _ _ ?_⟩
    have := liftQ.of (K := K) (G := G) (G' := G) (H := H) (H' := H) (Q := Q) (d := .bl _) (v := .bl _) rfl s .refl q
    simpa using this
  · exact .inl (od_ne K G H d e x y Q Q' s k1 k2 f q)
theorem c_eqX {X : Cx} (hu : X.A.units + 64 < cLine) : CmpR X .Eq (dEqX false) := ⟨_, (op_eqD hu).or op_eq, od_eqX X.K⟩
theorem c_neX {X : Cx} (hu : X.A.units + 64 < cLine) : CmpR X .NotEq (dEqX true) := ⟨_, (op_neD hu).or op_ne, od_neX X.K⟩
section
variable {G : HD} {Q : Post} {i j : Int} {x y : Str} {n : Bool} {d e : D} {xs ys : List D} {a b : Addr}
theorem r_eqXS : dEqX n (.str x) (.str y) G Q = Q (.bl (if n then !decide (x = y) else decide (x = y))) G := propext ⟨fun h => h, fun h => h⟩
theorem r_eqXI : dEqX n (.int i) (.int j) G Q = Q (.bl (if n then !decide (i = j) else decide (i = j))) G := (r_eqI (n := n) (i := i) (j := j) (G := G) (Q := Q) ▸ rfl : dEqX n (.int i) (.int j) G Q = _)
theorem i_eqX (h1 : pureD 9 d = true) (h2 : pureD 9 e = true) (q : Q (.bl (if n then !eqvD d e else eqvD d e)) G) : dEqX n d e G Q := by
  unfold dEqX
  split
  · rename_i x y
    have e1 : eqvD (.str x) (.str y) = decide (x = y) := by
      unfold eqvD toPy
      simp only [PyData.eqv]
      by_cases h : x = y
      · simp [h]
      · simp [h]
    rw [e1] at q
    exact q
  · unfold dEq
    rw [eqO_pure h1 h2]
    exact q
theorem r_eqXT2 {p q r s : Int} : dEqX n (.tup [.int p, .int q]) (.tup [.int r, .int s]) G Q = Q (.bl (if n then !(decide (p = r) && decide (q = s)) else (decide (p = r) && decide (q = s)))) G := r_eqT2
/-- repr of such data -/
theorem i_repr (h : pureD 9 d = true) (h1 : (toPy 9 d).showable = true) (h2 : (toPy 9 d).shown.length ≤ sizeLine) (q : Q (.str (toPy 9 d).shown) G) : rReprD [d] G Q := by
  have e : repO G d = some (toPy 9 d) := by
    unfold repO
    rw [pyD_pure 9 d h]
  show rReprO (repO G d) G Q
  rw [e]
  exact ⟨h1, h2, q⟩
end
end DL

namespace DL
open PySem PySem.Spec L2
open PyProof.Rows hiding St
section
variable {X : Cx} {p pos : Pos} {e : Expr} {ts : TDA}
/-! str(int), str(text) -/
def rStrD : List D → HD → Post → Prop := fun ds G Q => match ds with
  | [.int i] => i.natAbs.log2 < 1920 ∧ Q (.str (toString i)) G
  | [.str x] => Q (.str x) G
  | _ => False
theorem r_strI {G : HD} {Q : Post} {i : Int} : rStrD [.int i] G Q = (i.natAbs.log2 < 1920 ∧ Q (.str (toString i)) G) := propext ⟨fun h => h, fun h => h⟩
end
/-- a block behind an if: its reading is not opened by itself -/
def sSeqJ (t u : TDS) : TDS := sSeq t u
theorem dss_consJ {X : Cx} {st : Stmt} {sts : List Stmt} {t u : TDS} (h : DS X st t) (k : DSs X sts u) : DSs X (st :: sts) (sSeqJ t u) := dss_cons h k
theorem q_seqJ {t u : TDS} {W : DW} {E : DEnds} {σ : DSt} {G : HD} : sSeqJ t u W E σ G = t W { E with nx := fun σ' G' => u W E σ' G' } σ G := q_seq
/-! ### for the plain laws: places that change, picks, powers of ten -/
def Fr (A : List Addr) (G G' : HD) : Prop := ∀ b o, b ∉ A → G b = some o → G' b = some o
theorem Fr.refl {A : List Addr} {G : HD} : Fr A G G := fun _ _ _ h => h
theorem Fr.trans {A : List Addr} {X Y Z : HD} (x : Fr A X Y) (y : Fr A Y Z) : Fr A X Z := fun b o n h => y b o n (x b o n h)
theorem Fr.mono {A B : List Addr} {X Y : HD} (x : Fr A X Y) (h : ∀ a, a ∈ A → a ∈ B) : Fr B X Y := fun b o n h' => x b o (fun z => n (h b z)) h'
theorem Fr.le {A : List Addr} {X Y : HD} (x : Le X Y) : Fr A X Y := fun b o _ h => x b o h
theorem Fr.put {A : List Addr} {a : Addr} {G : HD} {o : MO} (h : a ∈ A) : Fr A G (put G a o) := fun b u n e => (put_ne (by rintro rfl; exact n h)).trans e
theorem cp2 : CPow 10 2 = True := propext ⟨fun _ => trivial, fun _ => ⟨by omega, by omega, by omega⟩⟩
theorem pw2 : (10 : Int) ^ (2 : Int).toNat = 100 := by decide
theorem cp3 : CPow 10 3 = True := propext ⟨fun _ => trivial, fun _ => ⟨by omega, by omega, by omega⟩⟩
theorem pw3 : (10 : Int) ^ (3 : Int).toNat = 1000 := by decide
theorem cp4 : CPow 10 4 = True := propext ⟨fun _ => trivial, fun _ => ⟨by omega, by omega, by omega⟩⟩
theorem pw4 : (10 : Int) ^ (4 : Int).toNat = 10000 := by decide
theorem cp5 : CPow 10 5 = True := propext ⟨fun _ => trivial, fun _ => ⟨by omega, by omega, by omega⟩⟩
theorem pw5 : (10 : Int) ^ (5 : Int).toNat = 100000 := by decide
theorem cp6 : CPow 10 6 = True := propext ⟨fun _ => trivial, fun _ => ⟨by omega, by omega, by omega⟩⟩
theorem pw6 : (10 : Int) ^ (6 : Int).toNat = 1000000 := by decide
theorem cp7 : CPow 10 7 = True := propext ⟨fun _ => trivial, fun _ => ⟨by omega, by omega, by omega⟩⟩
theorem pw7 : (10 : Int) ^ (7 : Int).toNat = 10000000 := by decide
theorem cp8 : CPow 10 8 = True := propext ⟨fun _ => trivial, fun _ => ⟨by omega, by omega, by omega⟩⟩
theorem pw8 : (10 : Int) ^ (8 : Int).toNat = 100000000 := by decide
theorem cp9 : CPow 10 9 = True := propext ⟨fun _ => trivial, fun _ => ⟨by omega, by omega, by omega⟩⟩
theorem pw9 : (10 : Int) ^ (9 : Int).toNat = 1000000000 := by decide
theorem cp10 : CPow 10 10 = True := propext ⟨fun _ => trivial, fun _ => ⟨by omega, by omega, by omega⟩⟩
theorem pw10 : (10 : Int) ^ (10 : Int).toNat = 10000000000 := by decide
theorem cp12 : CPow 10 12 = True := propext ⟨fun _ => trivial, fun _ => ⟨by omega, by omega, by omega⟩⟩
theorem pw12 : (10 : Int) ^ (12 : Int).toNat = 1000000000000 := by decide
theorem cp15 : CPow 10 15 = True := propext ⟨fun _ => trivial, fun _ => ⟨by omega, by omega, by omega⟩⟩
theorem pw15 : (10 : Int) ^ (15 : Int).toNat = 1000000000000000 := by decide
theorem cp18 : CPow 10 18 = True := propext ⟨fun _ => trivial, fun _ => ⟨by omega, by omega, by omega⟩⟩
theorem pw18 : (10 : Int) ^ (18 : Int).toNat = 1000000000000000000 := by decide
theorem cp20 : CPow 10 20 = True := propext ⟨fun _ => trivial, fun _ => ⟨by omega, by omega, by omega⟩⟩
theorem pw20 : (10 : Int) ^ (20 : Int).toNat = 100000000000000000000 := by decide
theorem cp24 : CPow 10 24 = True := propext ⟨fun _ => trivial, fun _ => ⟨by omega, by omega, by omega⟩⟩
theorem pw24 : (10 : Int) ^ (24 : Int).toNat = 1000000000000000000000000 := by decide
theorem cp28 : CPow 10 28 = True := propext ⟨fun _ => trivial, fun _ => ⟨by omega, by omega, by omega⟩⟩
theorem pw28 : (10 : Int) ^ (28 : Int).toNat = 10000000000000000000000000000 := by decide
theorem cp29 : CPow 10 29 = True := propext ⟨fun _ => trivial, fun _ => ⟨by omega, by omega, by omega⟩⟩
theorem pw29 : (10 : Int) ^ (29 : Int).toNat = 100000000000000000000000000000 := by decide
theorem cp30 : CPow 10 30 = True := propext ⟨fun _ => trivial, fun _ => ⟨by omega, by omega, by omega⟩⟩
theorem pw30 : (10 : Int) ^ (30 : Int).toNat = 1000000000000000000000000000000 := by decide
end DL

namespace DX
open PySem PySem.Spec PySem.W PySem.Calls PySem.HandSPX
/-! ### what a built-in class gives to own ones over it whose __init__ is their own -/
/-- making of one, up to its own __init__; and the class's __init__ on it -/
structure XBase (newId initId : String) (tl : List Value) : Prop where
  call : ∀ {prog : Program} {w : World} {A : Around} {R : Result → Shared → Prop} {s : Shared} {nm q : PySem.Str} {C N : Addr} {bs bm : List Value} {hdct : Bool} {sn : List PySem.Str} {sub : List Value} {ab : Bool} {col : Option Bool} {dd : Option Addr}
      {k0 k1 k2 k3 k5 : Option Value} {us : List Value} {fI : Addr}, (∀ T : String, bm.contains (.type T) = tl.contains (.type T)) → s.heap.get? C = some (excClassObj nm q C N bs bm hdct sn sub ab col dd k0 k1 k2 k3 k5 newId) →
    W.Looks (model prog w) s.heap (typeLookup (.ref C) "__init__") (some (.ref fI)) → (∀ o, W.Looks (model prog w) s.heap (bindSpecial (.ref fI) o) (.ref fI, [o])) → us.length ≤ sizeLine →
    codeAny (model prog w) (A.under (.builtin "type.__call__" ⟨.ref C :: us, []⟩)) (.call (.ref fI) ⟨.ref (s.heap.objs.size + 1) :: us, []⟩) (W.InitBack (s.heap.objs.size + 1) R) { s with heap := (s.heap.push (W.kdv_tup us)).push (excO C s.heap.objs.size) } →
    codeAny (model prog w) A (.call (.ref C) ⟨us, []⟩) R s
  init : ∀ {prog : Program} {w : World} {A : Around} {R : Result → Shared → Prop} {s : Shared} {nm q : PySem.Str} {C N : Addr} {bs bm : List Value} {hdct : Bool} {sn : List PySem.Str} {sub : List Value} {ab : Bool} {col : Option Bool} {dd : Option Addr}
      {k0 k1 k2 k3 k5 : Option Value} {us : List Value} {e t0 : Addr}, (∀ T : String, bm.contains (.type T) = tl.contains (.type T)) → s.heap.get? C = some (excClassObj nm q C N bs bm hdct sn sub ab col dd k0 k1 k2 k3 k5 newId) →
    s.heap.get? e = some (excO C t0) → us.length ≤ sizeLine →
    (∀ h' t1, (∀ b o, b ≠ e → s.heap.get? b = some o → h'.get? b = some o) → h'.get? e = some (excO C t1) → R (.ok (.ret .none)) { s with heap := h' }) →
    codeAny (model prog w) A (.call (.builtin initId) ⟨.ref e :: us, []⟩) R s
theorem XBase.of {B newId initId : String} {tl : List Value} (F : ExcBaseFacts B newId initId tl) : XBase newId initId tl :=
  ⟨fun {_ _ _ _ s _ _ _ _ _ _ _ _ _ _ _ _ _ _ _ _ _ _ _} hT hC hi hb hl hq => by obtain ⟨hp, g, d, t, os⟩ := s; exact call_own F hT hC hi hb hl hq,
   fun {_ _ _ _ s _ _ _ _ _ _ _ _ _ _ _ _ _ _ _ _ _ _ _ _} hT hC he hl hq => by obtain ⟨hp, g, d, t, os⟩ := s; exact init_base F hT hC he hl hq⟩
/-! ### .. where __new__ is another class's (KeyError has LookupError's) -/
section
variable {prog : Program} {w : World} {A : Around} {E : Value → Shared → Prop} {R : Result → Shared → Prop} {hp : Heap} {g : Array GenState} {d : Drawn} {t : Nat} {os : OsState}
variable {nm q : PySem.Str} {C N : Addr} {bs bm tL : List Value} {hdct : Bool} {sn : List PySem.Str} {sub : List Value} {ab : Bool} {col : Option Bool} {dd : Option Addr} {k0 k1 k2 k3 k5 : Option Value} {L B newId iL initId : String}
end
end DX
/-! ### exceptions with an own __init__ that calls its base's -/
namespace DX
open PySem PySem.Spec PySem.W PySem.Calls PyProof.Rows PySem.HandSPX
section
open Builtin Builtin.ObjectAttr
variable {prog : Program} {w : World} {A : Around} {R : Result → Shared → Prop} {hp : Heap} {g : Array GenState} {d : Drawn} {t : Nat} {os : OsState}
variable {K : Frag} {name : PySem.Str} {tk : Tok} {v : Value} {x C dx : Addr} {fv : Array Value} {cd : ClassData} {B : String} {bmB : List Value}
end
/-- what the written part says of such a class -/
structure OexB (K : Frag) (B newId : String) (bmB : List Value) (C : Addr) : Prop where
  ini : excInitIn K C bmB newId = true
  over : excOver K C bmB = true
  hd : hasDictIn K C = true
  sa : findIn K (.ref C) "__setattr__" = some (some (.builtin "object.__setattr__"))
  sf : StoreFacts B bmB "object.__setattr__" "object"
theorem OexB.cd {K : Frag} {B newId : String} {bmB : List Value} {C : Addr} (T : OexB K B newId bmB C) : ∃ cd, clsIn K C = some cd ∧ cd.hasDict = true := by
  obtain ⟨cd, h1, h2⟩ := any_some T.hd
  exact ⟨cd, h1, h2⟩
end DX
namespace DL
open PySem PySem.Spec L2 DX
open PyProof.Rows hiding St
section
variable {X : Cx} {pins : List (Addr × Obj)} {σ : L2.St} {H : Hp} {s : Shared} {a C dx : Addr} {f : Str} {y : V} {u : Value} {fs : List (Str × V)} {Q : Unit → Shared → Prop} {E : Value → Shared → Prop} {A : Around} {B newId : String} {bmB : List Value}
end
end DL

namespace DL
open PySem PySem.Spec L2 DX
open PyProof.Rows hiding St
/-! ### __init__ of such a class -/
/-- how the base's __init__ is reached: by a built-in class's name, or an own class's -/
structure BaseI (K : PySem.W.Frag) (mg : Str → Option Value) (b : Str) (initId : String) : Prop where
  ex : (∃ T : String, mg b = none ∧ bootBuiltins b = some (.type T) ∧ b ≠ "__name__" ∧ typeOf (.type T) = pure (.type "type") ∧ Manifest.isStub T = false ∧ PySem.W.findCls K (.type T) (.type "type") "__init__" = some (.val (.builtin initId))) ∨
    ∃ W, mg b = some (.ref W) ∧ PySem.W.specialIn K (.ref W) "__getattribute__" = some (some (.builtin "type.__getattribute__")) ∧ PySem.W.readsIn K W (.type "type") = true ∧ PySem.W.findCls K (.ref W) (.type "type") "__init__" = some (.val (.builtin initId))
section
variable {X : Cx} {o e : Expr} {es : List Expr} {to te : TE} {ta : TA} {f b : Str} {p p' p1 p2 pos : Pos} {B newId initId : String} {bmB : List Value} {C : Addr}
end
/-- what __init__ keeps: the fields, the last one first -/
def spI (C : Addr) (fs : List Str) : Sp := fun vs H Q _ => ∃ (a : Addr) (ws : List V), vs = .ref a :: ws ∧ ws.length = fs.length ∧ H a = some (exo a C none) ∧
  ∀ dx, H dx = none → dx ≠ a → Q .non (upd (upd H dx (exd dx (fs.zip ws).reverse)) a (exo a C (some dx)))
section
variable {P : Program} {w : World} {K : PySem.W.Frag} {mg : Str → Option Value} {base : Heap} {fI : Addr} {fd : FuncData} {qual f g m : Str} {pa : Arguments} {bd : List Stmt} {sc : Scope} {C : Addr}
end
/-! ### raise X(e, ..) -/
/-- such a class, as it is raised -/
structure RaiseI (P : Program) (w : World) (K : PySem.W.Frag) (mg : Str → Option Value) (base : Heap) (k : Nat) (x : Str) (C : Addr) (fs : List Str) : Prop where
  ex : ∃ (B newId initId : String) (bmB : List Value) (fI : Addr) (fd : FuncData), OexB K B newId bmB C ∧ DX.XBase newId initId bmB ∧ PySem.W.findIn K (.ref C) "__init__" = some (some (.ref fI)) ∧ PySem.W.isFn K (.ref fI) = true ∧
    FnG P w K mg base k fI fd ("self" :: fs) (spI C fs) ∧ Binds K fd ("self" :: fs) []
  mgC : mg x = some (.ref C)
  kp : PySem.W.keepIn K (.ref C) = true
  sub : PySem.W.subIn K (.ref C) (.type "BaseException") = some true
  ty : PySem.W.typeIn K (.ref C) = some (.type "type")
end DL

namespace DL
open PySem PySem.Spec L2 DX
open PyProof.Rows hiding St
/-! ### try: .. except X as n: .., the exception tracked -/
section
variable {X : Cx} {pins : List (Addr × Obj)} {σ : L2.St} {H : Hp} {s sI : Shared} {a C : Addr} {oe : Obj} {d : Option Addr} {vs : Array Value}
end
/-- names of classes, as a tuple has them -/
inductive NamesL (X : Cx) : List Value → List Expr → Prop
  | nil : NamesL X [] []
  | cons {x : Str} {c : Value} {np : Pos} {cs : List Value} {es : List Expr} (hc : Names X x c) (hb : ∃ u v, PySem.W.exmOne X.K u c = some v) (r : NamesL X cs es) : NamesL X (c :: cs) (.Name x np :: es)
inductive Hds (X : Cx) : List ExceptHandler → List (Value × Option Nat × TS) → Prop
  | nil : Hds X [] []
  | one {x : Str} {c : Value} {ts : TS} {b0 : Stmt} {suite : List Stmt} {np hp : Pos} {hs : List ExceptHandler} {l : List (Value × Option Nat × TS)} (hc : Names X x c) (hsu : ∀ (a : Addr) (pn : List (Addr × Obj)), PSs (X.suite a pn) (b0 :: suite) ts) (r : Hds X hs l) :
      Hds X (.ExceptHandler (some (.Name x np)) none (b0 :: suite) hp :: hs) ((c, none, ts) :: l)
  | as_ {x n : Str} {i : Nat} {c : Value} {ts : TS} {b0 : Stmt} {suite : List Stmt} {np hp : Pos} {hs : List ExceptHandler} {l : List (Value × Option Nat × TS)} (hc : Names X x c) (hi : X.N[i]? = some n) (hl : X.env.kindOf n = some .local) (hsu : ∀ (a : Addr) (pn : List (Addr × Obj)), PSs (X.suite a pn) (b0 :: suite) ts)
      (r : Hds X hs l) : Hds X (.ExceptHandler (some (.Name x np)) (some n) (b0 :: suite) hp :: hs) ((c, some i, ts) :: l)
  | tas_ {n : Str} {i : Nat} {cs : List Value} {es : List Expr} {ts : TS} {b0 : Stmt} {suite : List Stmt} {kk : Nat} {tp hp : Pos} {hs : List ExceptHandler} {l : List (Value × Option Nat × TS)} (hx : NamesL X cs es) (hz : cs.length ≤ 100) (hi : X.N[i]? = some n) (hl : X.env.kindOf n = some .local) (hsu : ∀ (a : Addr) (pn : List (Addr × Obj)), PSs (X.suite a pn) (b0 :: suite) ts)
      (r : Hds X hs l) : Hds X (.ExceptHandler (some (.Tuple es kk tp)) (some n) (b0 :: suite) hp :: hs) (cs.map (fun c => (c, some i, ts)) ++ l)
section
variable {X : Cx} {pins : List (Addr × Obj)} {σ : L2.St} {H : Hp} {a : Addr} {B : Heap} {sI s1 : Shared} {cls : Value} {d : Option Addr} {D : Ends} {Wout : WX}
/-- an exception that is looked at by the clauses -/
structure Caught (X : Cx) (pins : List (Addr × Obj)) (σ : L2.St) (H : Hp) (a : Addr) (B : Heap) (sI s1 : Shared) (cls : Value) (d : Option Addr) : Prop where
  J : Inv X pins σ H sI
  nb : ∀ b o, sI.heap.get? b = some o → b ∉ frs X.stack → B.get? b = some o
  up : sI.heap.UpToSlots s1.heap
  fl : HandSPX.FlyingZ B (X.env :: X.outer) a (Zc cls d) s1.heap
  na : H a = none
  os : s1.os = sI.os
  ag : AllBare s1.gens
theorem Caught.off (c : Caught X pins σ H a B sI s1 cls d) : a ∉ frs (X.env :: X.outer) := fun hm => by
  obtain ⟨oe, vs, he, hz, hd⟩ := c.fl.there
  obtain ⟨_, o', e', hnf⟩ := c.fl.2.2.1.mem hm
  rw [he] at e'; cases e'
  exact hnf _ hd
theorem Caught.new (c : Caught X pins σ H a B sI s1 cls d) (hs : X.stack = X.env :: X.outer) : sI.heap.get? a = none := by
  cases e : sI.heap.get? a with
  | none => rfl
  | some o =>
    have z := c.nb a o e (hs ▸ c.off)
    rw [c.fl.2.1] at z; cases z
theorem Caught.inv (c : Caught X pins σ H a B sI s1 cls d) : Inv X pins σ H s1 := c.J.landed c.nb c.fl.1 c.up c.os c.ag
theorem Caught.on {h4 : Heap} (c : Caught X pins σ H a B sI s1 cls d) (f : HandSPX.FlyingZ B (X.env :: X.outer) a (Zc cls d) h4) (u : s1.heap.UpToSlots h4) : Caught X pins σ H a B sI { s1 with heap := h4 } cls d := ⟨c.J, c.nb, c.up.trans u, f, c.na, c.os, c.ag⟩
section
variable {M : Model} {A : Around} {E : Value → Shared → Prop}
end
end
end DL

namespace DL
open PySem PySem.Spec L2 DX
open PyProof.Rows hiding St
/-! ### exceptions with fields, over data -/
theorem RKV.split {K : PySem.W.Frag} {H : Hp} : ∀ {fs : List (Str × D)} {l : List (Str × V)}, RKV K H fs l → ∃ vs, l = (fs.map (·.1)).zip vs ∧ Rps K H (fs.map (·.2)) vs
  | [], _, h => by cases h; exact ⟨[], rfl, rfl⟩
  | p :: fs, _, h => by
    obtain ⟨v, r, rfl, h1, h2⟩ := h
    obtain ⟨vs, rfl, h3⟩ := RKV.split h2
    exact ⟨v :: vs, rfl, v, vs, rfl, h1, h3⟩
theorem RKV.zip {K : PySem.W.Frag} {H : Hp} : ∀ {ns : List Str} {ds : List D} {vs : List V}, Rps K H ds vs → RKV K H (ns.zip ds) (ns.zip vs)
  | [], ds, vs, _ => by simp; exact rfl
  | n :: ns, [], vs, h => by cases h; simp; exact rfl
  | n :: ns, d :: ds, vs, h => by obtain ⟨v, r, rfl, h1, h2⟩ := h; exact ⟨v, _, rfl, h1, RKV.zip h2⟩
/-- raise X(e, ..), X with an own __init__ -/
def sRaiseX (C : Addr) (fs : List Str) (ts : TDA) : TDS := fun W _ σ G => ts W σ G fun ds G1 => ds.length = fs.length ∧ W (.ref C) (fs.zip ds).reverse σ G1
/-! try -/
def dEndsAs : Option Nat → DEnds → DEnds
  | none, D => D
  | some i, D => { nx := fun σ G => D.nx (σ.set i none) G, rt := D.rt, bk := fun σ G => D.bk (σ.set i none) G, ct := fun σ G => D.ct (σ.set i none) G }
def dSetAs : Option Nat → D → DSt → DSt
  | none, _, σ => σ
  | some i, d, σ => σ.set i (some d)
def dwH (xm : Value → Value → Bool → Prop) (W : DW) (D : DEnds) : List (Value × Option Nat × TDS) → DW
  | [] => W
  | (c, oi, ts) :: r => fun cls fs σ G => ∃ b, xm c cls b ∧ (b = true → ∃ C, cls = .ref C ∧ ts W0 (dEndsAs oi D) (dSetAs oi (.exc C (fs.map (·.1)) (fs.map (·.2))) σ) G) ∧ (b = false → dwH xm W D r cls fs σ G)
def sTryH (xm : Value → Value → Bool → Prop) (tb : TDS) (hs : List (Value × Option Nat × TDS)) : TDS := fun W D σ G => tb (dwH xm W D hs) D σ G
/-- the clauses -/
inductive DHds (X : Cx) : List ExceptHandler → List (Value × Option Nat × TDS) → Prop
  | nil : DHds X [] []
  | one {x : Str} {c : Value} {ts : TDS} {b0 : Stmt} {suite : List Stmt} {np hp : Pos} {hs : List ExceptHandler} {l : List (Value × Option Nat × TDS)} (hc : Names X x c) (hsu : ∀ (a : Addr) (pn : List (Addr × Obj)), DSs (X.suite a pn) (b0 :: suite) ts) (r : DHds X hs l) :
      DHds X (.ExceptHandler (some (.Name x np)) none (b0 :: suite) hp :: hs) ((c, none, ts) :: l)
  | as_ {x n : Str} (i : Nat) {c : Value} {ts : TDS} {b0 : Stmt} {suite : List Stmt} {np hp : Pos} {hs : List ExceptHandler} {l : List (Value × Option Nat × TDS)} (hc : Names X x c) (hi : X.N[i]? = some n) (hl : X.env.kindOf n = some .local) (hsu : ∀ (a : Addr) (pn : List (Addr × Obj)), DSs (X.suite a pn) (b0 :: suite) ts)
      (r : DHds X hs l) : DHds X (.ExceptHandler (some (.Name x np)) (some n) (b0 :: suite) hp :: hs) ((c, some i, ts) :: l)
  | tas_ {n : Str} (i : Nat) {cs : List Value} {es : List Expr} {ts : TDS} {b0 : Stmt} {suite : List Stmt} {kk : Nat} {tp hp : Pos} {hs : List ExceptHandler} {l : List (Value × Option Nat × TDS)} (hx : NamesL X cs es) (hz : cs.length ≤ 100) (hi : X.N[i]? = some n) (hl : X.env.kindOf n = some .local) (hsu : ∀ (a : Addr) (pn : List (Addr × Obj)), DSs (X.suite a pn) (b0 :: suite) ts)
      (r : DHds X hs l) : DHds X (.ExceptHandler (some (.Tuple es kk tp)) (some n) (b0 :: suite) hp :: hs) (cs.map (fun c => (c, some i, ts)) ++ l)
/-! e.f, isinstance(e, X) -/
/-- such an exception stands in the heap -/
theorem exc_at {X : Cx} {pins : List (Addr × Obj)} {τ : L2.St} {H : Hp} {s : Shared} {a C : Addr} {dd : Option Addr} {l : List (Str × V)} (I : Inv X pins τ H s) (ha : H a = some (ExV C dd a)) (hd : dd = none ∨ ∃ b, dd = some b ∧ H b = some (.xd l)) :
    ∃ (oe : Obj) (od : Option Obj), PySem.W.InstAt s.heap a oe C od ∧ ∀ b, dd = some b → ∃ o mA, od = some o ∧ s.heap.Ns1 b mA ∧ s.heap.get? b = some o ∧ ∀ f, RelO (l.lookup f) (mA f) := by
  obtain ⟨⟨oe, vs, he, hz, hf⟩, _, _⟩ := I.hok a _ ha
  have nc : PySem.W.notCls oe := by unfold PySem.W.notCls; rw [hf] <;> rfl
  rcases hd with rfl | ⟨b, rfl, hb⟩
  · exact ⟨oe, none, ⟨he, hz.1, nc, by rw [hz.2]; trivial⟩, fun b e => nomatch e⟩
  · obtain ⟨mA, hns, hr⟩ := I.hok b _ hb
    obtain ⟨o, es, ep, eo, rest⟩ := id hns
    exact ⟨oe, some o, ⟨he, hz.1, nc, by rw [hz.2]; exact eo⟩, fun b' e => by cases e; exact ⟨o, mA, rfl, hns, eo, hr⟩⟩
def xfldP (xf : Addr → Str → Prop) (f : Str) (d : D) (G : HD) (Q : Post) : Prop := match d with
  | .exc C ns ds => xf C f ∧ optP ((ns.zip ds).lookup f) G Q
  | _ => False
def dXFld (xf : Addr → Str → Prop) (f : Str) (ta : TD) : TD := fun W σ G Q => ta W σ G fun d G1 => xfldP xf f d G1 Q
/-- what isinstance asks of the class -/
def EcOk (K : PySem.W.Frag) (C : Addr) (c : Value) (b : Bool) : Prop := (XfC K C ∧ PySem.W.findIn K (.ref C) "__class__" = some (some (.builtin "object.__class__")) ∧ PySem.W.specialIn K (.builtin "object.__class__") "__get__" = some (some (.builtin "getset_descriptor.__get__")) ∧
  PySem.W.takesIn K (.builtin "object.__class__") = some true ∧ PySem.W.mroIn K C (.type "object") = some true) ∧ PySem.W.kitOne K (.ref C) c = some b
def rIsiX (ic : String ⊕ Addr → String ⊕ Addr → Bool → Prop) (ec : Addr → Value → Bool → Prop) : List D → HD → Post → Prop := fun ds G Q => match ds with
  | [.exc C _ _, .ty n] => ∃ b, ec C (.type n) b ∧ Q (.bl b) G
  | [.exc C _ _, .ref c] => ∃ b, ec C (.ref c) b ∧ Q (.bl b) G
  | ds => rIsiD ic ds G Q
def rIsV (K : PySem.W.Frag) : List V → Hp → VK → Prop := fun xs H Q => ∃ (a C : Addr) (dd : Option Addr) (l : List (Str × V)) (c : V) (cv : Value) (b : Bool), xs = [.ref a, c] ∧ H a = some (ExV C dd a) ∧ (dd = none ∨ ∃ b, dd = some b ∧ H b = some (.xd l)) ∧ (∀ u, RelV c u → u = cv) ∧ EcOk K C cv b ∧ Q (.bl b) H
theorem call_isV {X : Cx} : CallR X (.builtin "isinstance") (rIsV X.K) := by
  intro pins s σ H xs us Q I r ⟨a, C, dd, l, c, cv, b, ex, ha, hd, hcv, ⟨⟨T, h1, h2, h3, h4⟩, hk⟩, q⟩
  subst ex
  obtain ⟨u1, u2, rfl, ra, rc⟩ := vals2 r
  obtain rfl : u1 = Value.ref a := ra
  obtain rfl := hcv _ rc
  obtain ⟨oe, od, J, _⟩ := exc_at I ha hd
  have hcl : (PySem.W.clsIn X.K C).isSome = true := by
    obtain ⟨cd, hc, _⟩ := PySem.W.any_some T.hdC
    rw [hc]; rfl
  exact PySem.W.kia_one (PySem.W.kitx_exc hcl T.ga T.gg T.exC h1 h2 h3 h4) I.kIn J hk (fun z => nomatch z) fun tk => ⟨.bl b, H, I.kept (t' := tk) fun _ _ z => z, rfl, q⟩
theorem exc_rp {K : PySem.W.Frag} {H : Hp} {C : Addr} {ns : List Str} {ds : List D} {v : V} (r : Rp K H (.exc C ns ds) v) : ∃ a dd l, v = .ref a ∧ H a = some (ExV C dd a) ∧ (dd = none ∨ ∃ b, dd = some b ∧ H b = some (.xd l)) := by
  obtain ⟨a, dd, vs, e, h, _, q, _⟩ := r
  exact ⟨a, dd, _, e, h, q.imp (·.1) id⟩
theorem cd_isiX {K : PySem.W.Frag} {ic : String ⊕ Addr → String ⊕ Addr → Bool → Prop} {ec : Addr → Value → Bool → Prop} (hic : ∀ a c b, ic a c b → IsiOk K a c b) (hec : ∀ C c b, ec C c b → EcOk K C c b) : CallD K (fun xs H Q => rIsi K xs H Q ∨ rIsV K xs H Q) (rIsiX ic ec) := fun G H ds vs Q Q' s k f q => by
  unfold rIsiX at q
  split at q
  · obtain ⟨b, hb, q⟩ := q
    obtain ⟨v, w, rfl, k1, k2⟩ := two_of k
    cases k2
    obtain ⟨a, dd, l, rfl, h1, h2⟩ := exc_rp k1
    exact .inr ⟨a, _, dd, l, _, _, b, rfl, h1, h2, fun u e => e, hec _ _ _ hb, f _ _ (.of (d := .bl b) rfl s .refl q)⟩
  · obtain ⟨b, hb, q⟩ := q
    obtain ⟨v, w, rfl, k1, k2⟩ := two_of k
    cases k2
    obtain ⟨a, dd, l, rfl, h1, h2⟩ := exc_rp k1
    exact .inr ⟨a, _, dd, l, _, _, b, rfl, h1, h2, fun u e => e, hec _ _ _ hb, f _ _ (.of (d := .bl b) rfl s .refl q)⟩
  · exact .inl (cd_isi hic G H ds vs Q Q' s k f q)
end DL

namespace DL
open PySem PySem.Spec L2
open PyProof.Rows hiding St
/-! ### exceptions, for the plain laws -/
section
variable {xm : Value → Value → Bool → Prop} {tb ts : TDS} {hs r : List (Value × Option Nat × TDS)} {W : DW} {E : DEnds} {σ : DSt} {G : HD} {C : Addr} {fs ns : List Str} {ta : TDA} {te : TD} {xf : Addr → Str → Prop} {f : Str} {Q : Post} {ds : List D} {c cls : Value} {oi : Option Nat} {i : Nat} {d : D} {k : HD → Prop}
theorem q_tryH : sTryH xm tb hs W E σ G = tb (dwH xm W E hs) E σ G := propext ⟨fun h => h, fun h => h⟩
theorem q_raise0 {c : Value} : sRaise c W E σ G = W c [] σ G := propext ⟨fun h => h, fun h => h⟩
theorem q_raiseX : sRaiseX C fs ta W E σ G = ta W σ G fun ds G1 => ds.length = fs.length ∧ W (.ref C) (fs.zip ds).reverse σ G1 := propext ⟨fun h => h, fun h => h⟩
theorem q_xfld : dXFld xf f te W σ G Q = te W σ G fun d G1 => xfldP xf f d G1 Q := propext ⟨fun h => h, fun h => h⟩
theorem r_xfld : xfldP xf f (.exc C ns ds) G Q = (xf C f ∧ optP ((ns.zip ds).lookup f) G Q) := propext ⟨fun h => h, fun h => h⟩
theorem q_setAs : dSetAs (some i) d σ = σ.set i (some d) := rfl
theorem q_setAs0 : dSetAs none d σ = σ := rfl
theorem q_endsAs0 : dEndsAs none E = E := rfl
theorem q_endsNx {σ' : DSt} {G' : HD} : (dEndsAs (some i) E).nx σ' G' = E.nx (σ'.set i none) G' := rfl
theorem q_endsRt : (dEndsAs (some i) E).rt = E.rt := rfl
theorem q_endsBk {σ' : DSt} {G' : HD} : (dEndsAs (some i) E).bk σ' G' = E.bk (σ'.set i none) G' := rfl
theorem q_endsCt {σ' : DSt} {G' : HD} : (dEndsAs (some i) E).ct σ' G' = E.ct (σ'.set i none) G' := rfl
theorem r_isNx {ds : List D} : isNon (.exc C ns ds) = false := rfl
end
end DL

namespace DL
open PySem PySem.Spec L2
open PyProof.Rows hiding St
/-! ### an empty dict that never changes -/
def dEmp : TD := fun _ _ G Q => Q .emp G
/-- isinstance of it -/
def rIsiE (ic : String ⊕ Addr → String ⊕ Addr → Bool → Prop) (ec : Addr → Value → Bool → Prop) : List D → HD → Post → Prop := fun ds G Q => match ds with
  | [.emp, .ty n] => match isiB "dict" n with
    | some b => Q (.bl b) G
    | none => False
  | [.emp, .ref c] => ∃ b, ic (.inl "dict") (.inr c) b ∧ Q (.bl b) G
  | ds => rIsiX ic ec ds G Q
def rIsE (K : PySem.W.Frag) : List V → Hp → VK → Prop := fun xs H Q => ∃ (a : Addr) (ob : Obj) (c : V) (cv : Value) (b : Bool), xs = [.ref a, c] ∧ H a = some (EmV ob a) ∧ EmOb ob ∧ (∀ u, RelV c u → u = cv) ∧ PySem.W.kitOne K (.type "dict") cv = some b ∧ Q (.bl b) H
theorem call_isE {X : Cx} : CallR X (.builtin "isinstance") (rIsE X.K) := by
  intro pins s σ H xs us Q I r ⟨a, ob, c, cv, b, ex, ha, ho, hcv, hk, q⟩
  subst ex
  obtain ⟨u1, u2, rfl, ra, rc⟩ := vals2 r
  obtain rfl : u1 = Value.ref a := ra
  obtain rfl := hcv _ rc
  obtain ⟨h1, _, _⟩ := I.hok a _ ha
  exact PySem.W.kia_one (PySem.W.kitx_dict) I.kIn ⟨ob, h1, ho.1.1⟩ hk (fun z => nomatch z) fun tk => ⟨.bl b, H, I.kept (t' := tk) fun _ _ z => z, rfl, q⟩
theorem cd_isiE {K : PySem.W.Frag} {ic : String ⊕ Addr → String ⊕ Addr → Bool → Prop} {ec : Addr → Value → Bool → Prop} (hic : ∀ a c b, ic a c b → IsiOk K a c b) (hec : ∀ C c b, ec C c b → EcOk K C c b) : CallD K (fun xs H Q => (rIsi K xs H Q ∨ rIsV K xs H Q) ∨ rIsE K xs H Q) (rIsiE ic ec) := fun G H ds vs Q Q' s k f q => by
  unfold rIsiE at q
  split at q
  · rename_i n
    split at q
    · rename_i b hb
      obtain ⟨v, w, rfl, k1, k2⟩ := two_of k
      cases k2
      obtain ⟨a, ob, rfl, _, h1, h2⟩ := k1
      exact .inr ⟨a, ob, _, _, b, rfl, h1, h2, fun u e => e, isiB_ok hb, f _ _ (.of (d := .bl b) rfl s .refl q)⟩
    · exact q.elim
  · obtain ⟨b, hb, q⟩ := q
    obtain ⟨v, w, rfl, k1, k2⟩ := two_of k
    cases k2
    obtain ⟨a, ob, rfl, _, h1, h2⟩ := k1
    exact .inr ⟨a, ob, _, _, b, rfl, h1, h2, fun u e => e, (hic _ _ _ hb).2, f _ _ (.of (d := .bl b) rfl s .refl q)⟩
  · exact .inl (cd_isiX hic hec G H ds vs Q Q' s k f q)
theorem bc_isiE {X : Cx} {ic : String ⊕ Addr → String ⊕ Addr → Bool → Prop} {ec : Addr → Value → Bool → Prop} {p pos : Pos} {e e2 : Expr} {ts : TDA} (hic : ∀ a c b, ic a c b → IsiOk X.K a c b) (hec : ∀ C c b, ec C c b → EcOk X.K C c b) (hm : X.mg "isinstance" = none) (ha : DA X [e, e2] ts) (hg : Gl X "isinstance" := by rfl)
    (he : starEach [e, e2] X.env = (false, eval e X.env) :: starEach [e2] X.env := by rfl) (hpl : (backTo pos (starEach [e2] X.env)).any (·.1) = false := by rfl) : DE X (.Call (.Name "isinstance" p) [e, e2] [] pos) (dCB (rIsiE ic ec) ts) :=
  de_cb (CallR.or (CallR.or call_isi call_isV) call_isE) (cd_isiE hic hec) hm (by decide +kernel) ha hg (by decide) (by decide) he hpl
/-! ### xs.count(e), xs.index(e) -/
def dMt1 (p : Option PyData → Option PyData → HD → Post → Prop) (to : TD) (ts : TDA) : TD := fun W σ G Q => to W σ G fun o G1 => (∃ l, asL G1 o = some l) ∧ (ts W σ G1 fun ds G2 => match ds with
  | [d] => p (pyD 9 G2 o) (pyD 9 G2 d) G2 Q
  | _ => False)

section
variable {X : Cx} {o e : Expr} {to : TD} {ts : TDA} {apos cpos : Pos}
end
end DL

namespace DL
open PySem PySem.Spec L2
open PyProof.Rows hiding St
/-! ### repr of tuples with an empty dict within -/
def pureE : Nat → D → Bool
  | 0, _ => false
  | n + 1, d => match d with
    | .non => true
    | .bl _ => true
    | .int _ => true
    | .str _ => true
    | .tup ds => ds.all (pureE n)
    | .emp => true
    | _ => false
theorem toPy_depthAll {n : Nat} (ih : ∀ d, (toPy n d).depth ≤ n) : ∀ ds : List D, PyData.depthAll (ds.map (toPy n)) ≤ n
  | [] => by simp only [List.map_nil, PyData.depthAll]; omega
  | d :: ds => by
    have h1 := ih d
    have h2 := toPy_depthAll ih ds
    simp only [List.map_cons, PyData.depthAll]; omega
theorem toPy_depth : ∀ (n : Nat) (d : D), (toPy n d).depth ≤ n
  | 0, d => by unfold toPy; simp only [PyData.depth]; omega
  | n + 1, d => by
    unfold toPy
    cases d with
    | tup ds => have := toPy_depthAll (toPy_depth n) ds; simp only [PyData.depth]; omega
    | kl ds => have := toPy_depthAll (toPy_depth n) ds; simp only [PyData.depth]; omega
    | kc ds => have := toPy_depthAll (toPy_depth n) ds; simp only [PyData.depth]; omega
    | emp => simp only [PyData.depth, PyData.depthKv]; omega
    | _ => simp only [PyData.depth]; omega
section
variable {X : Cx} {pins : List (Addr × Obj)} {σ : L2.St} {H : Hp} {s : Shared}
mutual
theorem Rp.readsE (I : Inv X pins σ H s) : ∀ (n : Nat) (d : D) (v : V) (u : Value), pureE n d = true → Rp X.K H d v → RelV v u → ∃ as, Reads s.heap u (toPy n d) as ∧ sysModules ∉ as
  | 0, _, _, _, h, _, _ => by cases h
  | n + 1, .non, _, _, _, r, e => by cases r; cases e; exact ⟨_, .none, by simp⟩
  | n + 1, .bl b, _, _, _, r, e => by cases r; cases e; exact ⟨_, .bool b, by simp⟩
  | n + 1, .int b, _, _, _, r, e => by cases r; obtain ⟨t, rfl⟩ := e; exact ⟨_, .int b t, by simp⟩
  | n + 1, .str b, _, _, _, r, e => by cases r; obtain ⟨t, rfl⟩ := e; exact ⟨_, .str b t, by simp⟩
  | n + 1, .tup ds, v, u, h, r, e => by
    obtain ⟨a, vs, rfl, t, rr⟩ := r
    obtain rfl : u = .ref a := e
    obtain ⟨its, rv, ⟨o, ho, hc, m, hd⟩, _⟩ := I.tuple t
    obtain ⟨as, h1, h2⟩ := Rps.readsE I n ds vs its (by unfold pureE at h; exact h) rr rv
    exact ⟨as, .tuple ho hc hd h1, h2⟩
  | n + 1, .emp, v, u, h, r, e => by
    obtain ⟨a, ob, rfl, m, t, ⟨c, _, _⟩, ep, hd⟩ := r
    obtain rfl : u = .ref a := e
    obtain ⟨h1, _, _⟩ := I.hok a _ t
    refine ⟨a :: [] ++ [], .dict h1 c hd .nil .nil, fun z => ?_⟩
    have z' : sysModules = a := by simpa using z
    subst z'
    exact absurd m (by decide)
  | n + 1, .ty _, _, _, h, _, _ => by cases h
  | n + 1, .fn _ _ _ _ _, _, _, h, _, _ => by cases h
  | n + 1, .ref _, _, _, h, _, _ => by cases h
  | n + 1, .kl _, _, _, h, _, _ => by cases h
  | n + 1, .kc _, _, _, h, _, _ => by cases h
  | n + 1, .exc _ _ _, _, _, h, _, _ => by cases h
theorem Rps.readsE (I : Inv X pins σ H s) : ∀ (n : Nat) (ds : List D) (vs : List V) (us : List Value), ds.all (pureE n) = true → Rps X.K H ds vs → Vals vs us → ∃ as, ReadsAll s.heap us (ds.map (toPy n)) as ∧ sysModules ∉ as
  | n, [], _, _, _, r, e => by cases r; cases e; exact ⟨_, .nil, by simp⟩
  | n, d :: ds, _, _, h, r, e => by
    obtain ⟨v, vs, rfl, r1, r2⟩ := r
    rw [List.all_cons, Bool.and_eq_true] at h
    cases e with
    | cons e1 e2 =>
      obtain ⟨as, h1, h2⟩ := Rp.readsE I n d _ _ h.1 r1 e1
      obtain ⟨bs, h3, h4⟩ := Rps.readsE I n ds _ _ h.2 r2 e2
      exact ⟨as ++ bs, .cons h1 h3, fun z => (List.mem_append.mp z).elim h2 h4⟩
end
end
def rRepE (K : PySem.W.Frag) : List V → Hp → VK → Prop := fun xs H Q => ∃ v d a, xs = [v] ∧ v = .ref a ∧ pureE 9 d = true ∧ Rp K H d v ∧ (toPy 9 d).showable = true ∧ (toPy 9 d).shown.length ≤ sizeLine ∧ Q (.str (toPy 9 d).shown) H
theorem call_repT {X : Cx} (hg : X.A.guards = some []) (hu : X.A.units + 64 < cLine) : CallR X (.builtin "repr") (rRepE X.K) := by
  intro pins s σ H xs us Q I rv ⟨v, d, a, e, ev, hp, rp, hs, hz, q⟩
  subst e
  obtain ⟨u, eu, ru⟩ := vals1 rv
  subst eu
  subst ev
  obtain ⟨as, hr, hm⟩ := Rp.readsE I 9 d _ u hp rp ru
  obtain rfl : u = .ref a := ru
  have hd := toPy_depth 9 d
  exact repr_of_reads' hr hs (fun _ => hm) hg (by omega) (fun _ _ e => e) (fun h' u tk k => ⟨.str _, H, I.kept (t' := tk) k, ⟨u, rfl⟩, q⟩) hz
def isBox : D → Bool
  | .tup _ => true
  | .emp => true
  | _ => false
def rReprX : List D → HD → Post → Prop := fun ds G Q => match ds with
  | [d] => (pureE 9 d = true ∧ isBox d = true ∧ (toPy 9 d).showable = true ∧ (toPy 9 d).shown.length ≤ sizeLine ∧ Q (.str (toPy 9 d).shown) G) ∨ rReprD [d] G Q
  | _ => False
theorem cd_reprX (K : PySem.W.Frag) : CallD K (fun xs H Q => (rRep0 K xs H Q ∨ ∃ a, xs = [.ref a] ∧ H a = some (.dK []) ∧ Q (.str (PyData.dict []).shown) H) ∨ rRepE K xs H Q) rReprX := fun G H ds vs Q Q' s k f q => by
  unfold rReprX at q
  split at q
  · rename_i d
    rcases q with ⟨h1, h2, h3, h4, q⟩ | q
    · obtain ⟨v, rfl, kd⟩ := one_of k
      have : ∃ a, v = .ref a := by
        cases d with
        | tup _ => obtain ⟨a, _, e, _⟩ := kd; exact ⟨a, e⟩
        | emp => obtain ⟨a, _, e, _⟩ := kd; exact ⟨a, e⟩
        | _ => cases h2
      obtain ⟨a, e⟩ := this
      exact .inr ⟨v, d, a, rfl, e, h1, kd, h3, h4, f _ _ (.of (d := .str _) rfl s .refl q)⟩
    · exact .inl (cd_repr K G H [d] vs Q Q' s k f q)
  · exact q.elim
theorem i_reprX {d : D} {G : HD} {Q : Post} (h : pureD 9 d = true ∨ (pureE 9 d = true ∧ isBox d = true)) (h1 : (toPy 9 d).showable = true) (h2 : (toPy 9 d).shown.length ≤ sizeLine) (q : Q (.str (toPy 9 d).shown) G) : rReprX [d] G Q := by
  rcases h with h | h
  · exact .inr (i_repr h h1 h2 q)
  · exact .inl ⟨h.1, h.2, h1, h2, q⟩
/-! for the plain laws -/
section
variable {G : HD} {Q : Post} {n : String} {c : Addr} {ic : String ⊕ Addr → String ⊕ Addr → Bool → Prop} {ec : Addr → Value → Bool → Prop} {C : Addr} {ns : List Str} {ds : List D} {i : Int} {x : Str} {b : Bool} {xs : List D} {te : TD} {ts : TDA} {W : DW} {σ : DSt}
theorem q_emp : dEmp W σ G Q = Q .emp G := propext ⟨fun h => h, fun h => h⟩
theorem q_mt1 {p : Option PyData → Option PyData → HD → Post → Prop} : dMt1 p te ts W σ G Q = te W σ G fun o G1 => (∃ l, asL G1 o = some l) ∧ (ts W σ G1 fun ds G2 => match ds with
  | [d] => p (pyD 9 G2 o) (pyD 9 G2 d) G2 Q
  | _ => False) := propext ⟨fun h => h, fun h => h⟩
theorem r_isiEB : rIsiE ic ec [.emp, .ty "int"] G Q = Q (.bl false) G := propext ⟨fun h => h, fun h => h⟩
theorem r_isiEb : rIsiE ic ec [.emp, .ty "bool"] G Q = Q (.bl false) G := propext ⟨fun h => h, fun h => h⟩
theorem r_isiEt : rIsiE ic ec [.emp, .ty "tuple"] G Q = Q (.bl false) G := propext ⟨fun h => h, fun h => h⟩
theorem r_isiEs : rIsiE ic ec [.emp, .ty "str"] G Q = Q (.bl false) G := propext ⟨fun h => h, fun h => h⟩
theorem r_isiEl : rIsiE ic ec [.emp, .ty "list"] G Q = Q (.bl false) G := propext ⟨fun h => h, fun h => h⟩
theorem r_isiEd : rIsiE ic ec [.emp, .ty "dict"] G Q = Q (.bl true) G := propext ⟨fun h => h, fun h => h⟩
theorem r_isiER : rIsiE ic ec [.emp, .ref c] G Q = ∃ b, ic (.inl "dict") (.inr c) b ∧ Q (.bl b) G := propext ⟨fun h => h, fun h => h⟩
variable {t : D}
theorem r_isE_non : rIsiE ic ec [.non, t] G Q = rIsiD ic [.non, t] G Q := propext ⟨fun h => h, fun h => h⟩
theorem r_isX_non : rIsiX ic ec [.non, t] G Q = rIsiD ic [.non, t] G Q := propext ⟨fun h => h, fun h => h⟩
theorem r_isE_bl : rIsiE ic ec [.bl b, t] G Q = rIsiD ic [.bl b, t] G Q := propext ⟨fun h => h, fun h => h⟩
theorem r_isX_bl : rIsiX ic ec [.bl b, t] G Q = rIsiD ic [.bl b, t] G Q := propext ⟨fun h => h, fun h => h⟩
theorem r_isE_int : rIsiE ic ec [.int i, t] G Q = rIsiD ic [.int i, t] G Q := propext ⟨fun h => h, fun h => h⟩
theorem r_isX_int : rIsiX ic ec [.int i, t] G Q = rIsiD ic [.int i, t] G Q := propext ⟨fun h => h, fun h => h⟩
theorem r_isE_str : rIsiE ic ec [.str x, t] G Q = rIsiD ic [.str x, t] G Q := propext ⟨fun h => h, fun h => h⟩
theorem r_isX_str : rIsiX ic ec [.str x, t] G Q = rIsiD ic [.str x, t] G Q := propext ⟨fun h => h, fun h => h⟩
theorem r_isE_tup : rIsiE ic ec [.tup xs, t] G Q = rIsiD ic [.tup xs, t] G Q := propext ⟨fun h => h, fun h => h⟩
theorem r_isX_tup : rIsiX ic ec [.tup xs, t] G Q = rIsiD ic [.tup xs, t] G Q := propext ⟨fun h => h, fun h => h⟩
theorem r_isE_kl : rIsiE ic ec [.kl xs, t] G Q = rIsiD ic [.kl xs, t] G Q := propext ⟨fun h => h, fun h => h⟩
theorem r_isX_kl : rIsiX ic ec [.kl xs, t] G Q = rIsiD ic [.kl xs, t] G Q := propext ⟨fun h => h, fun h => h⟩
theorem r_isE_kc : rIsiE ic ec [.kc xs, t] G Q = rIsiD ic [.kc xs, t] G Q := propext ⟨fun h => h, fun h => h⟩
theorem r_isX_kc : rIsiX ic ec [.kc xs, t] G Q = rIsiD ic [.kc xs, t] G Q := propext ⟨fun h => h, fun h => h⟩
theorem r_isE_ref : rIsiE ic ec [.ref c, t] G Q = rIsiD ic [.ref c, t] G Q := propext ⟨fun h => h, fun h => h⟩
theorem r_isX_ref : rIsiX ic ec [.ref c, t] G Q = rIsiD ic [.ref c, t] G Q := propext ⟨fun h => h, fun h => h⟩
theorem r_rIsiET : rIsiE ic ec [.exc C ns ds, .ty n] G Q = ∃ b, ec C (.type n) b ∧ Q (.bl b) G := propext ⟨fun h => h, fun h => h⟩
theorem r_rIsiER : rIsiE ic ec [.exc C ns ds, .ref c] G Q = ∃ b, ec C (.ref c) b ∧ Q (.bl b) G := propext ⟨fun h => h, fun h => h⟩
theorem r_rIsiXT : rIsiX ic ec [.exc C ns ds, .ty n] G Q = ∃ b, ec C (.type n) b ∧ Q (.bl b) G := propext ⟨fun h => h, fun h => h⟩
theorem r_rIsiXR : rIsiX ic ec [.exc C ns ds, .ref c] G Q = ∃ b, ec C (.ref c) b ∧ Q (.bl b) G := propext ⟨fun h => h, fun h => h⟩
end
end DL

namespace DL
open PySem PySem.Spec L2
open PyProof.Rows hiding St
section
variable {G : HD} {Q : Post} {ic : String ⊕ Addr → String ⊕ Addr → Bool → Prop} {i : Int} {x : Str} {b : Bool} {xs : List D}
theorem r_isD_non_int : rIsiD ic [.non, .ty "int"] G Q = Q (.bl false) G := propext ⟨fun h => h, fun h => h⟩
theorem r_isD_non_bool : rIsiD ic [.non, .ty "bool"] G Q = Q (.bl false) G := propext ⟨fun h => h, fun h => h⟩
theorem r_isD_non_tuple : rIsiD ic [.non, .ty "tuple"] G Q = Q (.bl false) G := propext ⟨fun h => h, fun h => h⟩
theorem r_isD_non_str : rIsiD ic [.non, .ty "str"] G Q = Q (.bl false) G := propext ⟨fun h => h, fun h => h⟩
theorem r_isD_non_list : rIsiD ic [.non, .ty "list"] G Q = Q (.bl false) G := propext ⟨fun h => h, fun h => h⟩
theorem r_isD_non_dict : rIsiD ic [.non, .ty "dict"] G Q = Q (.bl false) G := propext ⟨fun h => h, fun h => h⟩
theorem r_isD_bl_int : rIsiD ic [.bl b, .ty "int"] G Q = Q (.bl true) G := propext ⟨fun h => h, fun h => h⟩
theorem r_isD_bl_bool : rIsiD ic [.bl b, .ty "bool"] G Q = Q (.bl true) G := propext ⟨fun h => h, fun h => h⟩
theorem r_isD_bl_tuple : rIsiD ic [.bl b, .ty "tuple"] G Q = Q (.bl false) G := propext ⟨fun h => h, fun h => h⟩
theorem r_isD_bl_str : rIsiD ic [.bl b, .ty "str"] G Q = Q (.bl false) G := propext ⟨fun h => h, fun h => h⟩
theorem r_isD_bl_list : rIsiD ic [.bl b, .ty "list"] G Q = Q (.bl false) G := propext ⟨fun h => h, fun h => h⟩
theorem r_isD_bl_dict : rIsiD ic [.bl b, .ty "dict"] G Q = Q (.bl false) G := propext ⟨fun h => h, fun h => h⟩
theorem r_isD_int_int : rIsiD ic [.int i, .ty "int"] G Q = Q (.bl true) G := propext ⟨fun h => h, fun h => h⟩
theorem r_isD_int_bool : rIsiD ic [.int i, .ty "bool"] G Q = Q (.bl false) G := propext ⟨fun h => h, fun h => h⟩
theorem r_isD_int_tuple : rIsiD ic [.int i, .ty "tuple"] G Q = Q (.bl false) G := propext ⟨fun h => h, fun h => h⟩
theorem r_isD_int_str : rIsiD ic [.int i, .ty "str"] G Q = Q (.bl false) G := propext ⟨fun h => h, fun h => h⟩
theorem r_isD_int_list : rIsiD ic [.int i, .ty "list"] G Q = Q (.bl false) G := propext ⟨fun h => h, fun h => h⟩
theorem r_isD_int_dict : rIsiD ic [.int i, .ty "dict"] G Q = Q (.bl false) G := propext ⟨fun h => h, fun h => h⟩
theorem r_isD_str_int : rIsiD ic [.str x, .ty "int"] G Q = Q (.bl false) G := propext ⟨fun h => h, fun h => h⟩
theorem r_isD_str_bool : rIsiD ic [.str x, .ty "bool"] G Q = Q (.bl false) G := propext ⟨fun h => h, fun h => h⟩
theorem r_isD_str_tuple : rIsiD ic [.str x, .ty "tuple"] G Q = Q (.bl false) G := propext ⟨fun h => h, fun h => h⟩
theorem r_isD_str_str : rIsiD ic [.str x, .ty "str"] G Q = Q (.bl true) G := propext ⟨fun h => h, fun h => h⟩
theorem r_isD_str_list : rIsiD ic [.str x, .ty "list"] G Q = Q (.bl false) G := propext ⟨fun h => h, fun h => h⟩
theorem r_isD_str_dict : rIsiD ic [.str x, .ty "dict"] G Q = Q (.bl false) G := propext ⟨fun h => h, fun h => h⟩
theorem r_isD_tup_int : rIsiD ic [.tup xs, .ty "int"] G Q = Q (.bl false) G := propext ⟨fun h => h, fun h => h⟩
theorem r_isD_tup_bool : rIsiD ic [.tup xs, .ty "bool"] G Q = Q (.bl false) G := propext ⟨fun h => h, fun h => h⟩
theorem r_isD_tup_tuple : rIsiD ic [.tup xs, .ty "tuple"] G Q = Q (.bl true) G := propext ⟨fun h => h, fun h => h⟩
theorem r_isD_tup_str : rIsiD ic [.tup xs, .ty "str"] G Q = Q (.bl false) G := propext ⟨fun h => h, fun h => h⟩
theorem r_isD_tup_list : rIsiD ic [.tup xs, .ty "list"] G Q = Q (.bl false) G := propext ⟨fun h => h, fun h => h⟩
theorem r_isD_tup_dict : rIsiD ic [.tup xs, .ty "dict"] G Q = Q (.bl false) G := propext ⟨fun h => h, fun h => h⟩
theorem r_isD_kl_int : rIsiD ic [.kl xs, .ty "int"] G Q = Q (.bl false) G := propext ⟨fun h => h, fun h => h⟩
theorem r_isD_kl_bool : rIsiD ic [.kl xs, .ty "bool"] G Q = Q (.bl false) G := propext ⟨fun h => h, fun h => h⟩
theorem r_isD_kl_tuple : rIsiD ic [.kl xs, .ty "tuple"] G Q = Q (.bl false) G := propext ⟨fun h => h, fun h => h⟩
theorem r_isD_kl_str : rIsiD ic [.kl xs, .ty "str"] G Q = Q (.bl false) G := propext ⟨fun h => h, fun h => h⟩
theorem r_isD_kl_list : rIsiD ic [.kl xs, .ty "list"] G Q = Q (.bl true) G := propext ⟨fun h => h, fun h => h⟩
theorem r_isD_kl_dict : rIsiD ic [.kl xs, .ty "dict"] G Q = Q (.bl false) G := propext ⟨fun h => h, fun h => h⟩
theorem r_isD_kc_int : rIsiD ic [.kc xs, .ty "int"] G Q = Q (.bl false) G := propext ⟨fun h => h, fun h => h⟩
theorem r_isD_kc_bool : rIsiD ic [.kc xs, .ty "bool"] G Q = Q (.bl false) G := propext ⟨fun h => h, fun h => h⟩
theorem r_isD_kc_tuple : rIsiD ic [.kc xs, .ty "tuple"] G Q = Q (.bl false) G := propext ⟨fun h => h, fun h => h⟩
theorem r_isD_kc_str : rIsiD ic [.kc xs, .ty "str"] G Q = Q (.bl false) G := propext ⟨fun h => h, fun h => h⟩
theorem r_isD_kc_list : rIsiD ic [.kc xs, .ty "list"] G Q = Q (.bl true) G := propext ⟨fun h => h, fun h => h⟩
theorem r_isD_kc_dict : rIsiD ic [.kc xs, .ty "dict"] G Q = Q (.bl false) G := propext ⟨fun h => h, fun h => h⟩
theorem r_isD_non_own {c : Addr} : rIsiD ic [.non, .ref c] G Q = ∃ b, ic (.inl "NoneType") (.inr c) b ∧ Q (.bl b) G := propext ⟨fun h => h, fun h => h⟩
theorem r_isD_bl_own {c : Addr} : rIsiD ic [.bl b, .ref c] G Q = ∃ b, ic (.inl "bool") (.inr c) b ∧ Q (.bl b) G := propext ⟨fun h => h, fun h => h⟩
theorem r_isD_int_own {c : Addr} : rIsiD ic [.int i, .ref c] G Q = ∃ b, ic (.inl "int") (.inr c) b ∧ Q (.bl b) G := propext ⟨fun h => h, fun h => h⟩
theorem r_isD_str_own {c : Addr} : rIsiD ic [.str x, .ref c] G Q = ∃ b, ic (.inl "str") (.inr c) b ∧ Q (.bl b) G := propext ⟨fun h => h, fun h => h⟩
theorem r_isD_tup_own {c : Addr} : rIsiD ic [.tup xs, .ref c] G Q = ∃ b, ic (.inl "tuple") (.inr c) b ∧ Q (.bl b) G := propext ⟨fun h => h, fun h => h⟩
theorem r_isD_kl_own {c : Addr} : rIsiD ic [.kl xs, .ref c] G Q = ∃ b, ic (.inl "list") (.inr c) b ∧ Q (.bl b) G := propext ⟨fun h => h, fun h => h⟩
theorem r_isD_kc_own {c : Addr} : rIsiD ic [.kc xs, .ref c] G Q = ∃ b, ic (.inl "list") (.inr c) b ∧ Q (.bl b) G := propext ⟨fun h => h, fun h => h⟩
end
end DL

namespace DL
open PySem PySem.Spec L2
open PyProof.Rows hiding St
/-! ### how long a repr is -/
/-- small data: ints to 60 figures, texts to 60 signs -/
def smallD : Nat → D → Bool
  | 0, _ => true
  | n + 1, d => match d with
    | .int i => decide (i.natAbs < 10 ^ 60)
    | .str x => PyData.strOk x && decide (x.length ≤ 60)
    | .tup ds => ds.all (smallD n)
    | .kl ds => ds.all (smallD n)
    | .kc ds => ds.all (smallD n)
    | _ => true
mutual
def capD : D → Nat
  | .tup ds => 5 + capDs ds
  | .kl ds => 5 + capDs ds
  | .kc ds => 5 + capDs ds
  | _ => 602
def capDs : List D → Nat
  | [] => 0
  | d :: ds => capD d + 2 + capDs ds
end
theorem joinL (ts : List Str) : (Str.join ", " ts).length ≤ piled ts := by
  by_cases h : ts = []
  · subst h; exact Nat.zero_le _
  · have := join_length_add ts h; omega
theorem listL (ts : List Str) : (listText ts).length ≤ piled ts + 5 := by
  rw [listText_eq_join, strLen_append, strLen_append]
  have := joinL ts
  have e1 : (("[" : String) : Str).length = 1 := rfl
  have e2 : (("]" : String) : Str).length = 1 := rfl
  omega
theorem tupL (ts : List Str) : (tupleText ts).length ≤ piled ts + 5 := by
  unfold tupleText
  rw [strLen_append, strLen_append]
  have := joinL ts
  have e1 : (("(" : String) : Str).length = 1 := rfl
  have e2 : ((if ts.length == 1 then ",)" else ")" : String) : Str).length ≤ 2 := by split <;> decide
  omega
theorem log2_60 {i : Int} (h : i.natAbs < 10 ^ 60) : i.natAbs.log2 < 1920 := by
  by_cases z : i.natAbs = 0
  · rw [z]; decide
  · have := (Nat.log2_lt z).mpr (Nat.lt_trans h (show (10 : Nat) ^ 60 < 2 ^ 1920 by decide +kernel))
    exact this
mutual
theorem small_shown : ∀ (n : Nat) (d : D), smallD n d = true → (toPy n d).showable = true ∧ (toPy n d).shown.length ≤ capD d
  | 0, d, _ => by
    unfold toPy
    refine ⟨rfl, ?_⟩
    have : (PyData.none.shown).length = 4 := rfl
    rw [this]
    cases d <;> simp only [capD] <;> omega
  | n + 1, .int i, h => by
    have h' : i.natAbs < 10 ^ 60 := of_decide_eq_true h
    refine ⟨decide_eq_true (log2_60 h'), ?_⟩
    show (Str.ofString (toString i)).length ≤ 602
    have := PySem.int_text_length_le10 (show 0 < 60 by decide) h'
    have e0 : (Str.ofString (toString i)).length = (toString i).length := PySem.ofString_length _
    omega
  | n + 1, .str x, h => by
    unfold smallD at h
    rw [Bool.and_eq_true] at h
    refine ⟨rfl, ?_⟩
    show (reprText x).length ≤ 602
    have h2 : x.length ≤ 60 := of_decide_eq_true h.2
    have h1 : ∀ c ∈ x.cps.toList, c < 16 ^ 8 := fun c hc => by
      have := h.1
      unfold PyData.strOk at this
      rw [Array.all_eq_true'] at this
      have := of_decide_eq_true (this c (by simpa using hc))
      omega
    have := PySem.StrLaws.reprText_len x h1
    omega
  | n + 1, .tup ds, h => by
    obtain ⟨h1, h2⟩ := smalls_shown n ds (by unfold smallD at h; exact h)
    refine ⟨h1, ?_⟩
    show (tupleText (PyData.shownAll (ds.map (toPy n)))).length ≤ 5 + capDs ds
    have := tupL (PyData.shownAll (ds.map (toPy n)))
    omega
  | n + 1, .kl ds, h => by
    obtain ⟨h1, h2⟩ := smalls_shown n ds (by unfold smallD at h; exact h)
    refine ⟨h1, ?_⟩
    show (listText (PyData.shownAll (ds.map (toPy n)))).length ≤ 5 + capDs ds
    have := listL (PyData.shownAll (ds.map (toPy n)))
    omega
  | n + 1, .kc ds, h => by
    obtain ⟨h1, h2⟩ := smalls_shown n ds (by unfold smallD at h; exact h)
    refine ⟨h1, ?_⟩
    show (listText (PyData.shownAll (ds.map (toPy n)))).length ≤ 5 + capDs ds
    have := listL (PyData.shownAll (ds.map (toPy n)))
    omega
  | n + 1, .bl b, _ => ⟨rfl, by cases b <;> (show _ ≤ 602; exact Nat.le_trans (show _ ≤ 5 from by decide +kernel : (PyData.bool _).shown.length ≤ 5) (by decide))⟩
  | n + 1, .non, _ => ⟨rfl, by show _ ≤ 602; exact Nat.le_trans (show _ ≤ 4 from Nat.le_refl _) (by decide)⟩
  | n + 1, .emp, _ => ⟨rfl, by show _ ≤ 602; exact Nat.le_trans (show _ ≤ 2 from Nat.le_refl _) (by decide)⟩
  | n + 1, .ty _, _ => ⟨rfl, by show _ ≤ 602; exact Nat.le_trans (show _ ≤ 4 from Nat.le_refl _) (by decide)⟩
  | n + 1, .ref _, _ => ⟨rfl, by show _ ≤ 602; exact Nat.le_trans (show _ ≤ 4 from Nat.le_refl _) (by decide)⟩
  | n + 1, .exc _ _ _, _ => ⟨rfl, by show _ ≤ 602; exact Nat.le_trans (show _ ≤ 4 from Nat.le_refl _) (by decide)⟩
  | n + 1, .fn _ _ _ _ _, _ => ⟨rfl, by show _ ≤ 602; exact Nat.le_trans (show _ ≤ 4 from Nat.le_refl _) (by decide)⟩
theorem smalls_shown : ∀ (n : Nat) (ds : List D), ds.all (smallD n) = true → PyData.showableAll (ds.map (toPy n)) = true ∧ piled (PyData.shownAll (ds.map (toPy n))) ≤ capDs ds
  | n, [], _ => ⟨rfl, Nat.zero_le _⟩
  | n, d :: ds, h => by
    rw [List.all_cons, Bool.and_eq_true] at h
    obtain ⟨h1, h2⟩ := small_shown n d h.1
    obtain ⟨h3, h4⟩ := smalls_shown n ds h.2
    refine ⟨by simp only [List.map_cons, PyData.showableAll, h1, h3, Bool.and_self], ?_⟩
    simp only [List.map_cons, PyData.shownAll, piled_cons, capDs]
    omega
end
theorem i_reprS {d : D} {G : HD} {Q : Post} (h : pureD 9 d = true ∨ (pureE 9 d = true ∧ isBox d = true)) (hs : smallD 9 d = true) (hc : capD d ≤ 1000000) (q : Q (.str (toPy 9 d).shown) G) : rReprX [d] G Q :=
  i_reprX h (small_shown 9 d hs).1 (Nat.le_trans (small_shown 9 d hs).2 (million hc)) q
end DL

namespace DL
open PySem PySem.Spec L2
open PyProof.Rows hiding St
/-! ### a def called by the name of its one parameter -/
structure Kw1K (P : Program) (w : World) (K : PySem.W.Frag) (mg : Str → Option Value) (base : Heap) (k : Nat) (x : Str) (sp : SpD) (a : Str) : Prop where
  ex : ∃ (f : Addr) (fd : FuncData), FnK P w K mg base k f fd [a] sp ∧ mg x = some (.ref f) ∧ PySem.W.keepIn K (.ref f) = true ∧
    ∀ (s : Shared) (u : Value), BindsTo s fd ⟨[], [(a, u)]⟩ [(a, u)]
def dKw1 (sp : SpD) (ts : TDA) : TD := fun W σ G Q => ts W σ G fun ds G1 => ds.length = 1 ∧ sp ds G1 Q fun c fs G' => W c fs σ G'
/-! ### min of a tuple of ints -/
def rMinTV (K : PySem.W.Frag) : List V → Hp → VK → Prop := fun vs H Q => ∃ (a : Addr) (n : Int) (ns : List Int), vs = [V.ref a] ∧ SqT K H a ((n :: ns).map V.int) ∧ Q (.int (ns.foldl min n)) H
theorem reads_ints {h : Heap} : ∀ {ns : List Int} {us : List Value}, Vals (ns.map V.int) us → ∃ as, ReadsAll h us (ns.map PyData.int) as
  | [], _, r => by cases r; exact ⟨_, .nil⟩
  | n :: ns, _, r => by
    cases r with
    | cons a b =>
      obtain ⟨t, rfl⟩ := a
      obtain ⟨as, k⟩ := reads_ints (ns := ns) b
      exact ⟨_, .cons (.int n t) k⟩
theorem depth_ints : ∀ ns : List Int, PyData.depthAll (ns.map PyData.int) = 0
  | [] => rfl
  | n :: ns => by simp only [List.map_cons, PyData.depthAll, PyData.depth, depth_ints ns]; rfl
theorem alike_ints (ns : List Int) : PySem.W.AlikeAll (ns.map PyData.int) := by
  refine ⟨fun x hx y hy => ?_, fun x hx => ?_⟩
  · obtain ⟨i, _, rfl⟩ := List.mem_map.mp hx
    obtain ⟨j, _, rfl⟩ := List.mem_map.mp hy
    rfl
  · obtain ⟨i, _, rfl⟩ := List.mem_map.mp hx
    exact nofun
theorem call_minT {X : Cx} (hc : X.calm = true) (hu : X.A.units + 64 < cLine) : CallR X (.builtin "min") (rMinTV X.K) := by
  intro pins s σ H vs us Q I r ⟨a, n, ns, e, t, q⟩
  subst e
  obtain ⟨its, rv, hT, _⟩ := I.tuple t
  rw [Vals.ref1 r]
  obtain ⟨as, hr⟩ := reads_ints (h := s.heap) (ns := n :: ns) rv
  refine PySem.W.min_tuple_data (I.ok.hd hc) hT (by simpa using hr) (alike_ints (n :: ns)) (by rw [show PyData.int n :: ns.map PyData.int = (n :: ns).map PyData.int from rfl, depth_ints]; omega) fun i v h' tk bs hv rd hk => ?_
  rw [PySem.W.minD_ints] at rd
  cases rd with
  | int _ t => exact ⟨.int _, H, I.kept (t' := tk) hk, ⟨_, rfl⟩, q⟩
def minTO (o : Option (List Int)) (G : HD) (Q : Post) : Prop := match o with
  | some (n :: ns) => Q (.int (ns.foldl min n)) G
  | _ => False
def rMinT : List D → HD → Post → Prop := fun ds G Q => match ds with
  | [.tup es] => minTO (asInts es) G Q
  | ds => rMin2 ds G Q
theorem cd_minT (K : PySem.W.Frag) : CallD K (fun xs H Q => ((∃ i j, xs = [.int i, .int j] ∧ Q (.int (if j < i then j else i)) H) ∨ L2.rMin K xs H Q) ∨ rMinTV K xs H Q) rMinT := fun G H ds vs Q Q' s k f q => by
  unfold rMinT at q
  split at q
  · rename_i es
    obtain ⟨v, rfl, kd⟩ := one_of k
    unfold minTO at q
    split at q
    · rename_i n ns e
      obtain ⟨a, vs, rfl, t, r⟩ := kd
      obtain rfl := asInts_eq e
      obtain rfl := r.ints
      exact .inr ⟨a, n, ns, rfl, t, f _ _ (.of (d := .int _) rfl s .refl q)⟩
    · exact q.elim
  · exact .inl (cd_min K G H ds vs Q Q' s k f q)
theorem bc_minT {X : Cx} {p pos : Pos} {e : Expr} {ts : TDA} (hc : X.calm = true) (hu : X.A.units + 64 < cLine) (hm : X.mg "min" = none) (ha : DA X [e] ts) (hg : Gl X "min" := by rfl)
    (he : starEach [e] X.env = (false, eval e X.env) :: starEach [] X.env := by rfl) : DE X (.Call (.Name "min" p) [e] [] pos) (dCB rMinT ts) :=
  de_cb (CallR.or (CallR.or (call_min2 hc) (cr_min hc)) (call_minT hc hu)) (cd_minT X.K) hm (by decide +kernel) ha hg (by decide) (by decide) he (by rfl)
section
variable {G : HD} {Q : Post} {i j : Int} {W : DW} {σ : DSt} {sp : SpD} {ts : TDA}
theorem q_kw1 : dKw1 sp ts W σ G Q = ts W σ G fun ds G1 => ds.length = 1 ∧ sp ds G1 Q fun c fs G' => W c fs σ G' := propext ⟨fun h => h, fun h => h⟩
theorem r_minT2 : rMinT [.tup [.int i, .int j]] G Q = Q (.int (min i j)) G := propext ⟨fun h => h, fun h => h⟩
end
end DL

namespace DL
open PySem PySem.Spec L2
open PyProof.Rows hiding St
/-! ### texts: gone through, compared, joined -/
def signs (x : Str) : List D := x.cps.toList.map fun c => D.str ⟨#[c]⟩
theorem signs_len {x : Str} : (signs x).length = x.cps.size := by unfold signs; rw [List.length_map]; simp
theorem signs_at {x : Str} {i : Nat} {c : Nat} (h : x.cps[i]? = some c) : (signs x)[i]? = some (.str ⟨#[c]⟩) := by
  unfold signs
  rw [List.getElem?_map, Array.getElem?_toList, h]; rfl
theorem its_rel {K : PySem.W.Frag} {G1 : HD} {H1 : Hp} (x : Str) : ItRel K G1 H1 ⟨signs x, fun _ => True⟩ (Its x) :=
  ⟨fun i G H s _ _ hi => by rw [signs_len] at hi; exact hi, fun i G H v H' s _ _ hi hy => by
    obtain ⟨rfl, c, hc, rfl⟩ := hy
    exact ⟨_, signs_at hc, rfl, s, .refl⟩, fun i G H s _ _ hi => by rw [signs_len] at hi; exact hi⟩
def strP (d : D) (G : HD) (R : ItD → HD → Prop) : Prop := match d with
  | .str x => R ⟨signs x, fun _ => True⟩ G
  | _ => False
def jStr (tl : TD) : TDI := fun W σ G R => tl W σ G fun d G1 => strP d G1 R
theorem di_str {X : Cx} {tg l : Expr} {tl : TD} (hl : DE X l tl) : DI X tg l (iStr (semE X l)) (jStr tl) :=
  ⟨pi_str peSem, fun G H σ τ W R R' r q fin => hl.then r q fun d v G1 H1 r1 x1 k1 q1 => by
    unfold strP at q1
    split at q1
    · rename_i x
      cases k1
      exact ⟨x, rfl, fin _ _ G1 H1 r1.sim x1 (its_rel x) q1⟩
    · exact q1.elim⟩
/-- <= of ints, of texts -/
def dLeX : D → D → HD → Post → Prop := fun d e G Q => match d, e with
  | .int i, .int j => Q (.bl (decide (i ≤ j))) G
  | .str i, .str j => Q (.bl (!decide (j.cps.toList < i.cps.toList))) G
  | _, _ => False
theorem od_leX (K : PySem.W.Frag) : OpD K (fun x y H Q => rI0 (fun i j => .bl (decide (i ≤ j))) x y H Q ∨ ∃ i j, x = .str i ∧ y = .str j ∧ Q (.bl (!decide (j.cps.toList < i.cps.toList))) H) dLeX := fun G H d e x y Q Q' s k1 k2 f q => by
  unfold dLeX at q
  split at q
  · rename_i i j
    refine .inl (od_cmpI K (fun i j => decide (i ≤ j)) G H (.int i) (.int j) x y Q Q' s k1 k2 f q)
  · cases k1; cases k2
    exact .inr ⟨_, _, rfl, rfl, f _ _ (.of (d := .bl _) rfl s .refl q)⟩
  · exact q.elim
theorem c_leX {X : Cx} (hu : X.A.units + 64 < cLine) : CmpR X .LtE dLeX := ⟨_, op_le.or op_le_str, od_leX X.K⟩
/-- a sign in a text -/
def dInS (neg : Bool) : D → D → HD → Post → Prop := fun d e G Q => match d, e with
  | .str i, .str z => ∃ c : Nat, i = ⟨#[c]⟩ ∧ Q (.bl (if neg then !decide (c ∈ z.cps.toList) else decide (c ∈ z.cps.toList))) G
  | _, _ => False
theorem od_inS (K : PySem.W.Frag) : OpD K (fun x y H Q => ∃ (c : Nat) (z : Str), x = .str ⟨#[c]⟩ ∧ y = .str z ∧ Q (.bl (decide (c ∈ z.cps.toList))) H) (dInS false) := fun G H d e x y Q Q' s k1 k2 f q => by
  unfold dInS at q
  split at q
  · obtain ⟨c, rfl, q⟩ := q
    cases k1; cases k2
    exact ⟨c, _, rfl, rfl, f _ _ (.of (d := .bl _) rfl s .refl q)⟩
  · exact q.elim
theorem c_inS {X : Cx} : CmpR X .In (dInS false) := ⟨_, op_in_sign, od_inS X.K⟩
/-- "..".join(l), t.upper() -/
def asStrs : List D → Option (List Str)
  | [] => some []
  | .str x :: r => (asStrs r).map (x :: ·)
  | _ => none
theorem asStrs_rps {K : PySem.W.Frag} {H : Hp} : ∀ {ds : List D} {vs : List V} {ys : List Str}, asStrs ds = some ys → Rps K H ds vs → vs = ys.map V.str
  | [], vs, ys, e, r => by cases e; cases r; rfl
  | d :: ds, vs, ys, e, r => by
    obtain ⟨v, t, rfl, h1, h2⟩ := r
    cases d with
    | str x =>
      simp only [asStrs, Option.map_eq_some_iff] at e
      obtain ⟨zs, e1, rfl⟩ := e
      cases h1
      rw [asStrs_rps e1 h2]; rfl
    | _ => cases e
def joinO (a : Str) (o : Option (List D)) (G : HD) (Q : Post) : Prop := match o with
  | some ds => match asStrs ds with
    | some ys => (ys.map (·.length)).sum + ys.length * a.length ≤ 16777216 ∧ Q (.str (Txt.join a ys)) G
    | none => False
  | none => False
def joinP (o : D) (ds : List D) (G : HD) (Q : Post) : Prop := match o, ds with
  | .str a, [d] => joinO a (asL G d) G Q
  | _, _ => False
def upP (o : D) (G : HD) (Q : Post) : Prop := match o with
  | .str a => a.length ≤ 5592405 ∧ Q (.str (Txt.upper a)) G
  | _ => False
def dJoin (to te : TD) : TD := fun W σ G Q => to W σ G fun o G1 => (∃ a, o = .str a) ∧ te W σ G1 fun d G2 => joinP o [d] G2 Q
def dUpper (to : TD) : TD := fun W σ G Q => to W σ G fun o G1 => upP o G1 Q
section
variable {X : Cx} {o e : Expr} {to te : TD} {apos pos : Pos}
end
section
variable {G : HD} {Q : Post} {i j : Int} {x y : Str} {W : DW} {σ : DSt} {to te : TD} {R : ItD → HD → Prop} {d : D} {ds : List D} {c : Nat} {n : Bool}
theorem q_jstr : jStr te W σ G R = te W σ G fun d G1 => strP d G1 R := propext ⟨fun h => h, fun h => h⟩
theorem r_strS : strP (.str x) G R = R ⟨signs x, fun _ => True⟩ G := propext ⟨fun h => h, fun h => h⟩
theorem r_leXI : dLeX (.int i) (.int j) G Q = Q (.bl (decide (i ≤ j))) G := propext ⟨fun h => h, fun h => h⟩
theorem r_leXS : dLeX (.str x) (.str y) G Q = Q (.bl (!decide (y.cps.toList < x.cps.toList))) G := propext ⟨fun h => h, fun h => h⟩
theorem i_inS (q : Q (.bl (if n then !decide (c ∈ y.cps.toList) else decide (c ∈ y.cps.toList))) G) : dInS n (.str ⟨#[c]⟩) (.str y) G Q := ⟨c, rfl, q⟩
theorem q_join : dJoin to te W σ G Q = to W σ G fun o G1 => (∃ a, o = .str a) ∧ te W σ G1 fun d G2 => joinP o [d] G2 Q := propext ⟨fun h => h, fun h => h⟩
theorem q_upper : dUpper to W σ G Q = to W σ G fun o G1 => upP o G1 Q := propext ⟨fun h => h, fun h => h⟩
theorem r_joinP : joinP (.str x) [d] G Q = joinO x (asL G d) G Q := propext ⟨fun h => h, fun h => h⟩
theorem r_upP : upP (.str x) G Q = (x.length ≤ 5592405 ∧ Q (.str (Txt.upper x)) G) := propext ⟨fun h => h, fun h => h⟩
end
end DL

namespace DL
open PySem PySem.Spec L2
open PyProof.Rows hiding St
/-! ### keys and values of a dict that stands still -/
def fzO (o : Option MO) (a : Addr) (f : List (Key × D) → List D) (G : HD) (R : ItD → HD → Prop) : Prop := match o with
  | some (.fz ob (.dK m) (.dK l)) => R ⟨f l, fun G => G a = some (.fz ob (.dK m) (.dK l))⟩ G
  | _ => False
def fzP (f : List (Key × D) → List D) (d : D) (G : HD) (R : ItD → HD → Prop) : Prop := match d with
  | .ref a => fzO (G a) a f G R
  | _ => False
def keysD (l : List (Key × D)) : List D := l.map fun p => kDi p.1
def valsD (l : List (Key × D)) : List D := l.map (·.2)
def jKeys (td : TD) : TDI := fun W σ G R => td W σ G fun o G1 => fzP keysD o G1 R
def jVals (td : TD) : TDI := fun W σ G R => td W σ G fun o G1 => fzP valsD o G1 R
/-! ### sorted(d), list(d), dict(d) -/
def strKeys : List (Key × D) → Option (List Str)
  | [] => some []
  | (.inr x, _) :: r => (strKeys r).map (x :: ·)
  | (.inl _, _) :: _ => none
def intKeys : List (Key × D) → Option (List Int)
  | [] => some []
  | (.inl x, _) :: r => (intKeys r).map (x :: ·)
  | (.inr _, _) :: _ => none
/-- sorted of a dict with keys that are texts, or ints -/
def srtO (l : List (Key × D)) (G : HD) (Q : Post) : Prop := match strKeys l, intKeys l with
  | some ks, _ => ks.length < 64 ∧ ∀ ys : List Str, ys.Perm ks → sortedS ys = true → newL G (ys.map D.str) Q
  | none, some ks => ks.length < 64 ∧ ∀ ys : List Int, ys.Perm ks → ys.Pairwise (· ≤ ·) → newL G (ys.map D.int) Q
  | none, none => False
def dicO (o : Option MO) (f : List (Key × D) → Prop) : Prop := match o with
  | some (.dK l) => f l
  | _ => False
def dicP (d : D) (G : HD) (f : List (Key × D) → Prop) : Prop := match d with
  | .ref a => dicO (G a) f
  | _ => False
def rSortDic : List D → HD → Post → Prop := fun ds G Q => match ds with
  | [d] => dicP d G fun l => srtO l G Q
  | _ => False
def rListDic : List D → HD → Post → Prop := fun ds G Q => match ds with
  | [d] => dicP d G fun l => newL G (keysD l) Q
  | _ => False
def newD (G : HD) (l : List (Key × D)) (Q : Post) : Prop := ∀ p, G p = none → Q (.ref p) (put G p (.dK l))
def rDictDic : List D → HD → Post → Prop := fun ds G Q => match ds with
  | [d] => dicP d G fun l => newD G l Q
  | _ => False
end DL

namespace DL
open PySem PySem.Spec L2
open PyProof.Rows hiding St
/-! ### [e for x in a for y in b] -/
section
variable {X : Cx} {tg iter : Expr} {own : List (Str × Nat)} {vs1 : List Nat} {wi wi1 : TI} {ti ti1 : TDI} {t t1 : Tgt} {g g1 : TG} {dt dt1 : TDT} {te : TD}
variable {elt tg1 iter1 : Expr} {ifs ifs1 : List Expr} {scope : Scope} {pos : Pos} {wi2 : Shared → Hp → Addr → List (Str × Addr) → List Addr → TI}
end
section
variable {ti ti1 : TDI} {t t1 : Tgt} {dt dt1 : TDT} {te : TD} {vs vs1 : List Nat} {W : DW} {σ : DSt} {G : HD} {Q : Post}
theorem q_jkeys {td : TD} {R : ItD → HD → Prop} : jKeys td W σ G R = td W σ G fun o G1 => fzP keysD o G1 R := propext ⟨fun h => h, fun h => h⟩
theorem q_jvals {td : TD} {R : ItD → HD → Prop} : jVals td W σ G R = td W σ G fun o G1 => fzP valsD o G1 R := propext ⟨fun h => h, fun h => h⟩
theorem r_fzP {f : List (Key × D) → List D} {a : Addr} {R : ItD → HD → Prop} : fzP f (.ref a) G R = fzO (G a) a f G R := propext ⟨fun h => h, fun h => h⟩
theorem r_fzO {f : List (Key × D) → List D} {a : Addr} {R : ItD → HD → Prop} {ob : Obj} {m : List (Key × V)} {l : List (Key × D)} : fzO (some (.fz ob (.dK m) (.dK l))) a f G R = R ⟨f l, fun G => G a = some (.fz ob (.dK m) (.dK l))⟩ G := propext ⟨fun h => h, fun h => h⟩
end
end DL

namespace DL
open PySem PySem.Spec L2
open PyProof.Rows hiding St
/-! ### > and >= of ints, of tuples of ints -/
def rTT (K : PySem.W.Frag) (f : List Int → List Int → Bool) : R2 := fun x y H Q => ∃ (a b : Addr) (ns ms : List Int), x = .ref a ∧ y = .ref b ∧ SqT K H a (ns.map V.int) ∧ SqT K H b (ms.map V.int) ∧ Q (.bl (f ns ms)) H
section
variable {X : Cx} {pins : List (Addr × Obj)} {σ : L2.St} {H : Hp} {s : Shared}
theorem holds_tup (I : Inv X pins σ H s) {a : Addr} {ns : List Int} (t : SqT X.K H a (ns.map V.int)) : PySem.W.Holds s.heap (.ref a) (⟨ns⟩ : PySem.W.Tup Int) := by
  obtain ⟨its, rv, ⟨o, ho, hc, m, hd⟩, _⟩ := I.tuple t
  obtain ⟨as, hr⟩ := reads_ints (h := s.heap) rv
  exact ⟨as, .tuple ho hc hd (show ReadsAll s.heap its.toArray.toList (ns.map PyData.int) as by simpa using hr)⟩
theorem op_geT (hu : X.A.units + 64 < cLine) : OpR X (compareOp .GtE) (rTT X.K fun ns ms => !PySem.W.listLt ns ms) := by
  intro pins s σ H x y v u Q I rx ry ⟨a, b, ns, ms, e1, e2, t1, t2, q⟩
  subst e1; subst e2
  cases rx; cases ry
  exact PySem.W.ge_datum (holds_tup I t1) (holds_tup I t2) (by show X.A.units + 1 < _; omega) ⟨.bl _, H, I, rfl, q⟩
end
def tupO (f : List Int → List Int → Bool) (o p : Option (List Int)) (G : HD) (Q : Post) : Prop := match o, p with
  | some ns, some ms => Q (.bl (f ns ms)) G
  | _, _ => False
def dCmpT (p : Int → Int → Bool) (f : List Int → List Int → Bool) : D → D → HD → Post → Prop := fun d e G Q => match d, e with
  | .int i, .int j => Q (.bl (p i j)) G
  | .tup xs, .tup ys => tupO f (asInts xs) (asInts ys) G Q
  | _, _ => False
theorem od_cmpT (K : PySem.W.Frag) (p : Int → Int → Bool) (f : List Int → List Int → Bool) : OpD K (fun x y H Q => rI0 (fun i j => .bl (p i j)) x y H Q ∨ rTT K f x y H Q) (dCmpT p f) := fun G H d e x y Q Q' s k1 k2 g q => by
  unfold dCmpT at q
  split at q
  · rename_i i j
    exact .inl (od_cmpI K p G H (.int i) (.int j) x y Q Q' s k1 k2 g q)
  · unfold tupO at q
    split at q
    · rename_i ns ms e1 e2
      obtain ⟨a, vs, rfl, t1, r1⟩ := k1
      obtain ⟨b, ws, rfl, t2, r2⟩ := k2
      obtain rfl := asInts_eq e1
      obtain rfl := asInts_eq e2
      obtain rfl := r1.ints
      obtain rfl := r2.ints
      exact .inr ⟨a, b, ns, ms, rfl, rfl, t1, t2, g _ _ (.of (d := .bl _) rfl s .refl q)⟩
    · exact q.elim
  · exact q.elim
theorem c_geT {X : Cx} (hu : X.A.units + 64 < cLine) : CmpR X .GtE (dCmpT (fun i j => decide (j ≤ i)) fun ns ms => !PySem.W.listLt ns ms) := ⟨_, op_ge.or (op_geT hu), od_cmpT X.K _ _⟩
/-! ### len of an own thing -/
section
variable {X : Cx} {k j : Nat} {C : Addr} {sp : SpD}
def ownLen (Q : Post) : Post := fun d G => match d with
  | .int n => 0 ≤ n ∧ n < 2 ^ 63 ∧ Q (.int n) G
  | _ => False
def rLenOD (C : Addr) (sp : SpD) : List D → HD → Post → Prop := fun ds G Q => match ds with
  | [.ref a] => (∃ fs, G a = some (.ins C fs)) ∧ sp [.ref a] G (ownLen Q) fun _ _ _ => False
  | _ => False
end
section
variable {G : HD} {Q : Post} {i j : Int} {p : Int → Int → Bool} {f : List Int → List Int → Bool} {a b c x y z : Int} {r : Addr} {C : Addr} {sp : SpD}
theorem r_cmpTI : dCmpT p f (.int i) (.int j) G Q = Q (.bl (p i j)) G := propext ⟨fun h => h, fun h => h⟩
theorem r_cmpT3 : dCmpT p f (.tup [.int a, .int b, .int c]) (.tup [.int x, .int y, .int z]) G Q = Q (.bl (f [a, b, c] [x, y, z])) G := propext ⟨fun h => h, fun h => h⟩
theorem r_lenOD : rLenOD C sp [.ref r] G Q = ((∃ fs, G r = some (.ins C fs)) ∧ sp [.ref r] G (ownLen Q) fun _ _ _ => False) := propext ⟨fun h => h, fun h => h⟩
theorem r_ownLen : ownLen Q (.int i) G = (0 ≤ i ∧ i < 2 ^ 63 ∧ Q (.int i) G) := propext ⟨fun h => h, fun h => h⟩
end
end DL

namespace DL
open PySem PySem.Spec L2
open PyProof.Rows hiding St
/-! ### xs.clear() -/
def clrO (o : Option MO) (a : Addr) (G : HD) (Q : Post) : Prop := match o with
  | some (.lst _) => Q .non (put G a (.lst []))
  | _ => False
def clrP (o : D) (G : HD) (Q : Post) : Prop := match o with
  | .ref a => clrO (G a) a G Q
  | _ => False
def dClear (to : TD) : TD := fun W σ G Q => to W σ G fun o G1 => clrP o G1 Q
/-! ### truth of an own thing with a length -/
section
variable {prog : Program} {w : World} {A : Around} {E : Value → Shared → Prop} {s : Shared} {K : PySem.W.Frag} {x C f : Addr} {ox : Obj} {od : Option Obj}
end
section
variable {X : Cx} {k j : Nat} {C : Addr} {sp : SpD}
def ownTru (Q : Bool → HD → Prop) : Post := fun d G => match d with
  | .int n => 0 ≤ n ∧ n < 2 ^ 63 ∧ Q (n != 0) G
  | _ => False
def truOP (C : Addr) (sp : SpD) (d : D) (G : HD) (Q : Bool → HD → Prop) : Prop := match d with
  | .ref a => (∃ fs, G a = some (.ins C fs)) ∧ sp [.ref a] G (ownTru Q) fun _ _ _ => False
  | _ => False
def dTruO (C : Addr) (sp : SpD) (t : TD) : TDT := fun W σ G Q => t W σ G fun d G1 => truOP C sp d G1 Q
end
section
variable {G : HD} {Q : Post} {a : Addr} {W : DW} {σ : DSt} {to : TD} {xs : List D} {C : Addr} {sp : SpD} {i : Int} {R : Bool → HD → Prop}
theorem q_clear : dClear to W σ G Q = to W σ G fun o G1 => clrP o G1 Q := propext ⟨fun h => h, fun h => h⟩
theorem r_clrP : clrP (.ref a) G Q = clrO (G a) a G Q := propext ⟨fun h => h, fun h => h⟩
theorem r_clrO : clrO (some (.lst xs)) a G Q = Q .non (put G a (.lst [])) := propext ⟨fun h => h, fun h => h⟩
theorem q_truO : dTruO C sp to W σ G R = to W σ G fun d G1 => truOP C sp d G1 R := propext ⟨fun h => h, fun h => h⟩
theorem r_truOP : truOP C sp (.ref a) G R = ((∃ fs, G a = some (.ins C fs)) ∧ sp [.ref a] G (ownTru R) fun _ _ _ => False) := propext ⟨fun h => h, fun h => h⟩
theorem r_ownTru : ownTru R (.int i) G = (0 ≤ i ∧ i < 2 ^ 63 ∧ R (i != 0) G) := propext ⟨fun h => h, fun h => h⟩
end
end DL

namespace DL
open PySem PySem.Spec L2
open PyProof.Rows hiding St
/-! ### bool(x) of an own thing with a length -/
section
variable {prog : Program} {w : World} {A : Around} {E : Value → Shared → Prop} {s : Shared}
end
section
variable {X : Cx} {k j : Nat} {C : Addr} {sp : SpD}
def ownBool (Q : Post) : Post := fun d G => match d with
  | .int n => 0 ≤ n ∧ n < 2 ^ 63 ∧ Q (.bl (n != 0)) G
  | _ => False
def rBoolOD (C : Addr) (sp : SpD) : List D → HD → Post → Prop := fun ds G Q => match ds with
  | [.ref a] => (∃ fs, G a = some (.ins C fs)) ∧ sp [.ref a] G (ownBool Q) fun _ _ _ => False
  | _ => False
end
section
variable {G : HD} {Q : Post} {i : Int} {r : Addr} {C : Addr} {sp : SpD}
theorem r_boolOD : rBoolOD C sp [.ref r] G Q = ((∃ fs, G r = some (.ins C fs)) ∧ sp [.ref r] G (ownBool Q) fun _ _ _ => False) := propext ⟨fun h => h, fun h => h⟩
theorem r_ownBool : ownBool Q (.int i) G = (0 ≤ i ∧ i < 2 ^ 63 ∧ Q (.bl (i != 0)) G) := propext ⟨fun h => h, fun h => h⟩
end
end DL

namespace DL
open PySem PySem.Spec L2
open PyProof.Rows hiding St
/-! ### not x, as a value, of an own thing with a length -/
section
variable {X : Cx} {k j : Nat} {C : Addr} {sp : SpD} {a : Expr} {pos : Pos}
def dNotO (C : Addr) (sp : SpD) (t : TD) : TD := fun W σ G Q => t W σ G fun d G1 => truOP C sp d G1 fun b G2 => Q (.bl (!b)) G2
theorem q_notO {W : DW} {σ : DSt} {G : HD} {Q : Post} {t : TD} : dNotO C sp t W σ G Q = t W σ G fun d G1 => truOP C sp d G1 fun b G2 => Q (.bl (!b)) G2 := propext ⟨fun h => h, fun h => h⟩
end
end DL

namespace DL
open PySem PySem.Spec L2
open PyProof.Rows hiding St
/-! ### dicts, for the plain laws -/
section
variable {W : DW} {E : DEnds} {σ : DSt} {G : HD} {Q : Post} {td tk tz te : TD} {a : Addr} {l : List (Key × D)} {k : Key} {z d v : D} {x : Str} {i : Int} {K : Prop} {R : HD → Prop} {n : Bool} {f : List (Key × D) → Prop} {ts : TDS}
theorem q_get1 : dGet1 td tk W σ G Q = td W σ G fun o G1 => dictP o G1 (tk W σ G1 fun k G2 => getP o k .non G2 Q) := propext ⟨fun h => h, fun h => h⟩
theorem q_get2 : dGet2 td tk tz W σ G Q = td W σ G fun o G1 => dictP o G1 (tk W σ G1 fun k G2 => tz W σ G2 fun z G3 => getP o k z G3 Q) := propext ⟨fun h => h, fun h => h⟩
theorem q_dget : dDGet td tk W σ G Q = td W σ G fun o G1 => tk W σ G1 fun k G2 => dkP o k G2 Q := propext ⟨fun h => h, fun h => h⟩
theorem q_sdict : sDict td tk te W E σ G = te W σ G fun v G1 => td W σ G1 fun o G2 => tk W σ G2 fun k G3 => dpP o k v G3 fun G4 => E.nx σ G4 := propext ⟨fun h => h, fun h => h⟩
theorem q_pop2 : dPop2 td tk tz W σ G Q = td W σ G fun o G1 => dictP o G1 (tk W σ G1 fun k G2 => tz W σ G2 fun z G3 => popP o k z G3 Q) := propext ⟨fun h => h, fun h => h⟩
theorem q_setd : dSetd td tk tz W σ G Q = td W σ G fun o G1 => dictP o G1 (tk W σ G1 fun k G2 => tz W σ G2 fun z G3 => sdfP o k z G3 Q) := propext ⟨fun h => h, fun h => h⟩
theorem q_dic : dDic W σ G Q = ∀ p, G p = none → Q (.ref p) (put G p (.dK [])) := propext ⟨fun h => h, fun h => h⟩
theorem r_dictP : dictP (.ref a) G K = ((∃ l, G a = some (.dK l)) ∧ K) := propext ⟨fun h => h, fun h => h⟩
theorem r_getS : getP (.ref a) (.str x) z G Q = getO (G a) (some (.inr x)) z G Q := propext ⟨fun h => h, fun h => h⟩
theorem r_getI : getP (.ref a) (.int i) z G Q = getO (G a) (some (.inl i)) z G Q := propext ⟨fun h => h, fun h => h⟩
theorem r_getO : getO (some (.dK l)) (some k) z G Q = Q ((valD l k).getD z) G := propext ⟨fun h => h, fun h => h⟩
theorem r_dkS : dkP (.ref a) (.str x) G Q = dkO (G a) (some (.inr x)) G Q := propext ⟨fun h => h, fun h => h⟩
theorem r_dkI : dkP (.ref a) (.int i) G Q = dkO (G a) (some (.inl i)) G Q := propext ⟨fun h => h, fun h => h⟩
theorem r_dkO : dkO (some (.dK l)) (some k) G Q = optP (valD l k) G Q := propext ⟨fun h => h, fun h => h⟩
theorem r_dkF {ob : Obj} {m : List (Key × V)} : dkO (some (.fz ob (.dK m) (.dK l))) (some k) G Q = optP (valD l k) G Q := propext ⟨fun h => h, fun h => h⟩
theorem r_inF {ob : Obj} {m : List (Key × V)} : inO n (some (.fz ob (.dK m) (.dK l))) (some k) G Q = Q (.bl (if n then !(valD l k).isSome else (valD l k).isSome)) G := propext ⟨fun h => h, fun h => h⟩
theorem r_inS : inP n (.str x) (.ref a) G Q = inO n (G a) (some (.inr x)) G Q := propext ⟨fun h => h, fun h => h⟩
theorem r_inI : inP n (.int i) (.ref a) G Q = inO n (G a) (some (.inl i)) G Q := propext ⟨fun h => h, fun h => h⟩
theorem r_inO : inO n (some (.dK l)) (some k) G Q = Q (.bl (if n then !(valD l k).isSome else (valD l k).isSome)) G := propext ⟨fun h => h, fun h => h⟩
theorem r_dpS : dpP (.ref a) (.str x) v G R = dpO (G a) a (some (.inr x)) v G R := propext ⟨fun h => h, fun h => h⟩
theorem r_dpI : dpP (.ref a) (.int i) v G R = dpO (G a) a (some (.inl i)) v G R := propext ⟨fun h => h, fun h => h⟩
theorem r_dpO : dpO (some (.dK l)) a (some k) v G R = (l.length < 1000000 ∧ R (put G a (.dK (putKD l k v)))) := propext ⟨fun h => h, fun h => h⟩
theorem r_dicP : dicP (.ref a) G f = dicO (G a) f := propext ⟨fun h => h, fun h => h⟩
theorem r_dicO : dicO (some (.dK l)) f = f l := propext ⟨fun h => h, fun h => h⟩
theorem r_sortDic : rSortDic [d] G Q = dicP d G fun l => srtO l G Q := propext ⟨fun h => h, fun h => h⟩
theorem r_listDic : rListDic [d] G Q = dicP d G fun l => newL G (keysD l) Q := propext ⟨fun h => h, fun h => h⟩
theorem r_dictDic : rDictDic [d] G Q = dicP d G fun l => newD G l Q := propext ⟨fun h => h, fun h => h⟩
theorem q_dapp {to : TD} {ta : TDA} : dApp to ta W σ G Q = to W σ G fun o G1 => lstP o G1 (ta W σ G1 fun ds G2 => match ds with
  | [d] => appP o d G2 Q
  | _ => False) := propext ⟨fun h => h, fun h => h⟩
theorem r_lstP {kk : Prop} : lstP (.ref a) G kk = ((∃ xs, G a = some (.lst xs)) ∧ kk) := propext ⟨fun h => h, fun h => h⟩
theorem r_appP : appP (.ref a) d G Q = appO (G a) a d G Q := propext ⟨fun h => h, fun h => h⟩
theorem r_appO {xs : List D} : appO (some (.lst xs)) a d G Q = (xs.length < 1000000 ∧ Q .non (put G a (.lst (xs ++ [d])))) := propext ⟨fun h => h, fun h => h⟩
/-! keys and values -/
theorem valD_put {k2 : Key} : valD (putKD l k d) k2 = if k2 = k then some d else valD l k2 := by
  unfold putKD
  have hv : ∀ l : List (Key × D), hasD l k = true → valD (l.map fun p => if p.1 = k then (p.1, d) else p) k2 = if k2 = k then some d else valD l k2 := by
    intro l
    induction l with
    | nil => intro h; cases h
    | cons p r ih =>
      intro h
      simp only [List.map_cons]
      by_cases hp : p.1 = k
      · rw [if_pos hp]
        unfold valD
        by_cases h2 : p.1 = k2
        · rw [if_pos h2, if_pos (by rw [← h2, hp])]
        · have h3 : ¬ k2 = k := fun z => h2 (hp.trans z.symm)
          rw [if_neg h2, if_neg h3, if_neg h2]
          by_cases hr : hasD r k = true
          · rw [ih hr, if_neg h3]
          · have : (r.map fun p => if p.1 = k then (p.1, d) else p) = r := by
              have hr' : ∀ q ∈ r, ¬ q.1 = k := fun q hq z => hr (List.any_eq_true.mpr ⟨q, hq, decide_eq_true z⟩)
              rw [List.map_congr_left (g := id) fun q hq => by rw [if_neg (hr' q hq)]; rfl]
              simp
            rw [this]
      · rw [if_neg hp]
        have hr : hasD r k = true := by
          unfold hasD at h ⊢
          rw [List.any_cons, decide_eq_false hp, Bool.false_or] at h
          exact h
        unfold valD
        by_cases h2 : p.1 = k2
        · rw [if_pos h2, if_neg (by rw [← h2]; exact hp), if_pos h2]
        · rw [if_neg h2, if_neg h2]; exact ih hr
  have ha : ∀ l : List (Key × D), ¬ hasD l k = true → valD (l ++ [(k, d)]) k2 = if k2 = k then some d else valD l k2 := by
    intro l
    induction l with
    | nil =>
      intro _
      show (if k = k2 then some d else none) = _
      by_cases h : k2 = k
      · rw [if_pos h, if_pos h.symm]
      · rw [if_neg h, if_neg (Ne.symm h)]; rfl
    | cons p r ih =>
      intro h
      have hp : ¬ p.1 = k := fun z => h (by unfold hasD; rw [List.any_cons, decide_eq_true z]; rfl)
      have hr : ¬ hasD r k = true := fun z => h (by unfold hasD at z ⊢; rw [List.any_cons, z, Bool.or_true])
      show (if p.1 = k2 then some p.2 else valD (r ++ [(k, d)]) k2) = if k2 = k then some d else if p.1 = k2 then some p.2 else valD r k2
      by_cases h2 : p.1 = k2
      · rw [if_pos h2, if_pos h2, if_neg (by rw [← h2]; exact hp)]
      · rw [if_neg h2, if_neg h2]; exact ih hr
  by_cases h : hasD l k = true
  · rw [if_pos h]; exact hv l h
  · rw [if_neg h]; exact ha l h
end
end DL

namespace DL
open PySem PySem.Spec L2
open PyProof.Rows hiding St
/-! ### what repr shows is a text of good signs -/
end DL

namespace DL
open PySem PySem.Spec L2
open PyProof.Rows hiding St
/-! ### [..] * n -/
/-- the written list is new, and so is what comes -/
def dRepL : D → D → HD → Post → Prop := fun d e G Q => match asL G d, e with
  | some xs, .int k => 0 ≤ k ∧ k ≤ 1000 ∧ xs.length ≤ 1000 ∧ newL G (List.replicate k.toNat xs).flatten Q
  | _, _ => False
theorem rps_flat {K : PySem.W.Frag} {H : Hp} {k : Nat} {ds : List D} {vs : List V} (r : Rps K H ds vs) : Rps K H (List.replicate k ds).flatten (List.replicate k vs).flatten := by
  induction k with
  | zero => rfl
  | succ k ih => rw [List.replicate_succ, List.replicate_succ, List.flatten_cons, List.flatten_cons]; exact r.app ih
/-! ### x in a list, a tuple, of ints -/
def inIo (neg : Bool) (o : Option (List Int)) (i : Int) (G : HD) (Q : Post) : Prop := match o with
  | some ns => Q (.bl (if neg then !decide (i ∈ ns) else decide (i ∈ ns))) G
  | none => False
def dInI (neg : Bool) : D → D → HD → Post → Prop := fun d e G Q => match d with
  | .int i => match asQ G e with
    | some es => inIo neg (asInts es) i G Q
    | none => False
  | _ => False
/-! ### for i, x in enumerate(xs) -/
def enumD : Nat → List D → List D
  | _, [] => []
  | n, d :: ds => .tup [.int n, d] :: enumD (n + 1) ds
theorem enum_get : ∀ {ds : List D} {n i : Nat} {d : D}, ds[i]? = some d → (enumD n ds)[i]? = some (.tup [.int (n + i : Nat), d])
  | [], _, i, _, h => by simp at h
  | e :: ds, n, 0, d, h => by
    have : e = d := by simpa using h
    subst this; rfl
  | e :: ds, n, i + 1, d, h => by
    have := enum_get (ds := ds) (n := n + 1) (i := i) (d := d) (by simpa using h)
    show (enumD (n + 1) ds)[i]? = _
    rw [this]
    congr 4
    omega
theorem enum_len : ∀ {ds : List D} {n : Nat}, (enumD n ds).length = ds.length
  | [], _ => rfl
  | _ :: ds, n => congrArg Nat.succ (enum_len (ds := ds) (n := n + 1))
def enumO (o : Option MO) (a : Addr) (G : HD) (R : ItD → HD → Prop) : Prop := match o with
  | some (.lst ds) => R ⟨enumD 0 ds, fun G => G a = some (.lst ds)⟩ G
  | _ => False
def enumP (d : D) (G : HD) (R : ItD → HD → Prop) : Prop := match d with
  | .ref a => enumO (G a) a G R
  | _ => False
def jEnum (ts : TDA) : TDI := fun W σ G R => ts W σ G fun ds G1 => match ds with
  | [d] => enumP d G1 R
  | _ => False
end DL

namespace DL
open PySem PySem.Spec L2
open PyProof.Rows hiding St
/-! ### C(e, .., k = v, ..) -/
def pickL {α : Type} (is : List Nat) (l : List α) : List α := is.filterMap (l[·]?)
/-- what such a call binds: n values by their places, m by their names; is: where each parameter's value stands among these, the defaults dds between them -/
structure KwB (K : PySem.W.Frag) (fd : FuncData) (ps : List Str) (n : Nat) (ks : List Str) (is : List Nat) (dds : List D) : Prop where
  ex : ∃ (its : List Value) (dvs : List V), Vals dvs its ∧ Dfl K dds dvs ∧ ∀ (s : Shared) (us ws : List Value), K.In s.heap → us.length = n → ws.length = ks.length → BindsTo s fd ⟨us, ks.zip ws⟩ (ps.zip (pickL is (us ++ (its ++ ws))))
structure MakKw (P : Program) (w : World) (K : PySem.W.Frag) (mg : Str → Option Value) (base : Heap) (k : Nat) (x : Str) (C : Addr) (sp : SpD) (n : Nat) (ks : List Str) (is : List Nat) (dds : List D) : Prop where
  ex : ∃ (f : Addr) (fd : FuncData) (ps : List Str), Mk K C f ∧ FnK P w K mg base k f fd ps sp ∧ mg x = some (.ref C) ∧ KwB K fd ps (n + 1) ks is dds ∧ ∀ ds G E Q, sp ds G E Q → ds.length = ps.length
def dMakeK (C : Addr) (sp : SpD) (n m : Nat) (is : List Nat) (dds : List D) (ts tk : TDA) : TD := fun W σ G Q => ts W σ G fun ds G1 => tk W σ G1 fun zs G2 => ds.length = n ∧ zs.length = m ∧ ∀ p, G2 p = none →
  sp (pickL is ((.ref p :: ds) ++ (dds ++ zs))) (put G2 p (.ins C [])) (nonP fun G3 => Q (.ref p) G3) fun c fs G' => W c fs σ G'
def makP2 (C : Addr) (sp : SpD) (is : List Nat) (dds ds zs : List D) (G : HD) (Q : Post) (E : DX) : Prop := ∀ p, G p = none → sp (pickL is ((.ref p :: ds) ++ (dds ++ zs))) (put G p (.ins C [])) (nonP fun G3 => Q (.ref p) G3) E
section
variable {X : Cx} {k j n : Nat} {C : Addr} {sp : SpD} {x : Str} {p pos : Pos} {e : Expr} {es : List Expr} {ts tk : TDA} {dds : List D} {ks : List Str} {is : List Nat} {kws : List Keyword}
end
/-! ### o[i] += e, a list, i not below 0 -/
def getO2 (o : Option MO) (k : Int) (G : HD) (Q : Post) : Prop := match o with
  | some (.lst xs) => 0 ≤ k ∧ optP xs[k.toNat]? G Q
  | _ => False
def getP2 (o i : D) (G : HD) (Q : Post) : Prop := match o, i with
  | .ref a, .int k => getO2 (G a) k G Q
  | _, _ => False
def sAugI (g : Int → Int → Int) (to ti te : TD) : TDS := fun W D σ G => to W σ G fun o G1 => ti W σ G1 fun i G2 => getP2 o i G2 fun x G3 => te W σ G3 fun y G4 => dCmpA g x y G4 fun z G5 => rSetD o i z G5 fun G6 => D.nx σ G6
section
variable {X : Cx} {o i e : Expr} {to ti te : TD} {pos tpos : Pos} {op : Operator} {g : Int → Int → Int}
end
/-! ### xs + ys, a new list that may be changed -/
def dAddN : D → D → HD → Post → Prop := fun d e G Q => match asW G d, asW G e with
  | some xs, some ys => xs.length + ys.length ≤ sizeLine ∧ newL G (xs ++ ys) Q
  | _, _ => False
/-! ### named equations -/
section
variable {G : HD} {Q : Post} {R : HD → Prop} {W : DW} {σ : DSt} {a : Addr} {k : Int} {xs ds : List D} {g : Int → Int → Int} {to ti te : TD} {ts tk : TDA} {D' : DEnds} {C : Addr} {sp : SpD} {n m : Nat} {is : List Nat} {dds : List D}
theorem q_augI : sAugI g to ti te W D' σ G = to W σ G fun o G1 => ti W σ G1 fun i G2 => getP2 o i G2 fun x G3 => te W σ G3 fun y G4 => dCmpA g x y G4 fun z G5 => rSetD o i z G5 fun G6 => D'.nx σ G6 := propext ⟨fun h => h, fun h => h⟩
theorem r_getP2 : getP2 (.ref a) (.int k) G Q = getO2 (G a) k G Q := propext ⟨fun h => h, fun h => h⟩
theorem r_getO2 : getO2 (some (.lst xs)) k G Q = (0 ≤ k ∧ optP xs[k.toNat]? G Q) := propext ⟨fun h => h, fun h => h⟩
theorem r_cmpA {i j : Int} : dCmpA g (.int i) (.int j) G Q = Q (.int (g i j)) G := propext ⟨fun h => h, fun h => h⟩
theorem q_makeK : dMakeK C sp n m is dds ts tk W σ G Q = ts W σ G fun ds G1 => tk W σ G1 fun zs G2 => ds.length = n ∧ zs.length = m ∧ makP2 C sp is dds ds zs G2 Q fun c fs G' => W c fs σ G' := propext ⟨fun h => h, fun h => h⟩
theorem q_enum {R : ItD → HD → Prop} : jEnum ts W σ G R = ts W σ G fun ds G1 => match ds with
  | [d] => enumP d G1 R
  | _ => False := propext ⟨fun h => h, fun h => h⟩
theorem r_enumP {R : ItD → HD → Prop} : enumP (.ref a) G R = enumO (G a) a G R := propext ⟨fun h => h, fun h => h⟩
theorem r_enumO {R : ItD → HD → Prop} : enumO (some (.lst ds)) a G R = R ⟨enumD 0 ds, fun G => G a = some (.lst ds)⟩ G := propext ⟨fun h => h, fun h => h⟩
theorem r_repK : dRepL (.kl xs) (.int k) G Q = (0 ≤ k ∧ k ≤ 1000 ∧ xs.length ≤ 1000 ∧ newL G (List.replicate k.toNat xs).flatten Q) := propext ⟨fun h => h, fun h => h⟩
theorem r_addNK {ys : List D} : dAddN (.kl xs) (.kl ys) G Q = (xs.length + ys.length ≤ sizeLine ∧ newL G (xs ++ ys) Q) := propext ⟨fun h => h, fun h => h⟩
theorem r_inIK {i : Int} {b : Bool} : dInI b (.int i) (.kl xs) G Q = inIo b (asInts xs) i G Q := propext ⟨fun h => h, fun h => h⟩
theorem r_inIT {i : Int} {b : Bool} : dInI b (.int i) (.tup xs) G Q = inIo b (asInts xs) i G Q := propext ⟨fun h => h, fun h => h⟩
end
end DL

namespace DL
open PySem PySem.Spec L2
open PyProof.Rows hiding St
/-! ### {'k': v, ..} -/
def dDisp (ks : List Str) (ts : TDA) : TD := fun W σ G Q => ∀ p, G p = none → ts W σ (put G p (.dK [])) fun ds G2 => G2 p = some (.dK []) ∧ Q (.ref p) (put G2 p (.dK ((ks.zip ds).map fun q => (Sum.inr q.1, q.2))))
structure DPs (X : Cx) (pos : Pos) (keys : List (Option Expr)) (values : List Expr) (ks : List Str) (ts : TDA) : Prop where
  ex : ∃ trs, PPs X pos keys values trs ∧ ∀ (G : HD) (H : Hp) (σ : DSt) (τ : L2.St) (W : DW) (Q : List D → HD → Prop) (R : List (V × V) → Hp → Prop), SR X G H σ τ W → ts W σ G Q →
    (∀ vs H' ds G', vs.length = ks.length → Rps X.K H' ds vs → Sim X.K G' H' → Ext G H G' H' → Q ds G' → R ((ks.zip vs).map fun q => (V.str q.1, q.2)) H') → tPairs trs τ H R
section
variable {X : Cx} {pos : Pos} {keys : List (Option Expr)} {values : List Expr} {ks : List Str} {ts : TDA} {ke v : Expr} {k : Str} {te : TD}
end
theorem q_disp {ks : List Str} {ts : TDA} {W : DW} {σ : DSt} {G : HD} {Q : Post} : dDisp ks ts W σ G Q = ∀ p, G p = none → ts W σ (put G p (.dK [])) fun ds G2 => G2 p = some (.dK []) ∧ Q (.ref p) (put G2 p (.dK ((ks.zip ds).map fun q => (Sum.inr q.1, q.2)))) := propext ⟨fun h => h, fun h => h⟩
end DL

namespace DL
open PySem PySem.Spec L2
open PyProof.Rows hiding St
/-! ### keyword-only parameters and their defaults -/
inductive KwF (K : PySem.W.Frag) (KD : Addr) : List Str → List D → Prop where
  | nil : KwF K KD [] []
  | cons {x : Str} {u : Value} {d : D} {kn : List Str} {kds : List D} (h : PySem.W.nsIn K KD x = some (some u)) (v : ValF K u d) (t : KwF K KD kn kds) : KwF K KD (x :: kn) (d :: kds)
theorem KwF.to {K : PySem.W.Frag} {KD : Addr} {kn : List Str} {kds : List D} (h : KwF K KD kn kds) : ∃ kvs : List V, kvs.length = kn.length ∧ (∀ H, Rps K H kds kvs) ∧ ∀ q ∈ kn.zip kvs, ∃ u, PySem.W.nsIn K KD q.1 = some (some u) ∧ RelV q.2 u := by
  induction h with
  | nil => exact ⟨[], rfl, fun _ => rfl, fun q hq => by cases hq⟩
  | cons h v _ ih =>
    obtain ⟨w, r, p⟩ := v.to
    obtain ⟨kvs, l, ps, q⟩ := ih
    refine ⟨w :: kvs, congrArg Nat.succ l, fun H => ⟨w, kvs, rfl, p H, ps H⟩, fun q' hq => ?_⟩
    rcases List.mem_cons.mp hq with e | hq
    · rw [e]; exact ⟨_, h, r⟩
    · exact q q' hq
section
variable {K : PySem.W.Frag} {x qual : Str} {pa : Arguments} {bd : List Stmt} {sc : Scope} {f T KD : Addr} {oc kV dc pm cd ct : Value} {od an : Option Addr} {sl : Array (Option Value)} {o : Obj} {ds : List D} {dvs : List V} {kws : List (Str × V)} {fd : FuncData} {ps : List Str} {kn : List Str} {kds : List D}
theorem Dfl.app {a b : List D} {x y : List V} (h : Dfl K a x) (k : Dfl K b y) : Dfl K (a ++ b) (x ++ y) := ⟨fun H => (h.rel H).app (k.rel H)⟩
end
end DL

namespace DL
open PySem PySem.Spec L2
open PyProof.Rows hiding St
/-! ### repr, inside a handler too -/
theorem bc_reprXU {X : Cx} {p pos : Pos} {e : Expr} {ts : TDA} (hgd : X.A.guards = some []) (hun : X.A.units + 64 < cLine) (hm : X.mg "repr" = none) (ha : DA X [e] ts) (hg : Gl X "repr" := by rfl) (he : starEach [e] X.env = (false, eval e X.env) :: starEach [] X.env := by rfl) : DE X (.Call (.Name "repr" p) [e] [] pos) (dCB rReprX ts) :=
  de_cb (CallR.or (CallR.or (call_rep0 hgd hun) (call_repE hgd hun)) (call_repT hgd hun)) (cd_reprX X.K) hm (by decide +kernel) ha hg (by decide) (by decide) he (by rfl)
end DL

namespace SIt
open PySem PySem.Spec PyProof.Rows
/-! ### sorted(d.items()): pairs of a text and a thing, the texts unlike -/
/-- a new tuple of a text and a thing -/
def IsIt (h : Heap) (v : Value) (x : PySem.Str) : Prop := ∃ (a : Addr) (o : Obj) (t : Tok) (u : Value) (n : Nat), v = .ref a ∧ h.get? a = some o ∧ o.cls = .type "tuple" ∧ o.data = .seq #[.str x t, u] n
theorem IsIt.keeps {h h' : Heap} {v : Value} {x : PySem.Str} (i : IsIt h v x) (k : ∀ b o, h.get? b = some o → o.cls = .type "tuple" → h'.get? b = some o) : IsIt h' v x := by
  obtain ⟨a, o, t, u, n, e, ho, hc, hd⟩ := i
  exact ⟨a, o, t, u, n, e, k a o ho hc, hc, hd⟩
section
variable {prog : Program} {w : World} {A : Around} {E : Value → Shared → Prop} {s : Shared}
end

open L2 hiding St
/-! ### .. by values -/
/-- a function that tells the entry of each address -/
theorem tells {α : Type} [Inhabited α] : ∀ {as : List Addr} {xs : List α}, as.length = xs.length → as.Nodup → ∃ f : Addr → α, as.map f = xs
  | [], [], _, _ => ⟨fun _ => default, rfl⟩
  | [], _ :: _, h, _ => by cases h
  | _ :: _, [], h, _ => by cases h
  | a :: as, x :: xs, h, hn => by
    obtain ⟨h1, h2⟩ := List.nodup_cons.mp hn
    obtain ⟨f, hf⟩ := tells (xs := xs) (Nat.succ.inj h) h2
    refine ⟨fun t => if t = a then x else f t, ?_⟩
    rw [List.map_cons, if_pos rfl]
    congr 1
    rw [← hf]
    apply List.map_congr_left
    intro t ht
    rw [if_neg (fun z : t = a => h1 (z ▸ ht))]
section
variable {X : Cx} {e : Expr} {te : TE} {p apos cpos pos : Pos}
end
end SIt

namespace DL
open PySem PySem.Spec L2
open PyProof.Rows hiding St
section
variable {K : PySem.W.Frag} {G : HD} {H : Hp}
end
/-! ### {k: e for .. in .. if ..} -/
def dcD (ok : HD → Prop) (step : D → (Key → D → HD → Prop) → (HD → Prop) → HD → Prop) (fin : List (Key × D) → HD → Prop) : List D → List (Key × D) → HD → Prop
  | [], acc => fun G => ∃ G0, Le G0 G ∧ ok G0 ∧ fin acc G0
  | x :: xs, acc => fun G => ∃ G0, Le G0 G ∧ ok G0 ∧ step x (fun k y G' => dcD ok step fin xs (putKD acc k y) G') (fun G' => dcD ok step fin xs acc G') G0
def keyP (d : D) (f : Key → Prop) : Prop := match kD d with
  | some k => f k
  | none => False
def dDc (ti : TDI) (t : Tgt) (dt : TDT) (tk te : TD) (vs : List Nat) : TD := fun W σ G Q => ti W σ G fun I G1 => I.xs.length ≤ 1000000 ∧
  dcD I.ok (fun d ky kn G' => t.put d (dwipe σ vs) fun σ2 => dt W0 σ2 G' fun b G2 => if b = true then tk W0 σ2 G2 fun kd G3 => te W0 σ2 G3 fun y G4 => keyP kd fun k => ky k y G4 else kn G2) (fun acc G2 => newD G2 acc Q) I.xs [] G1
section
variable {X : Cx} {kx vx tg iter : Expr} {ifs : List Expr} {scope : Scope} {own : List (Str × Nat)} {pos : Pos} {wi : TI} {ti : TDI} {t : Tgt} {g : TG} {dt : TDT} {tk te : TD}
end
end DL

namespace DL
open PySem PySem.Spec L2
open PyProof.Rows hiding St
/-! ### sorted(d.items()), by value -/
def itD (p : Str × D) : D := .tup [.str p.1, p.2]
def strItems : List (Key × D) → Option (List (Str × D))
  | [] => some []
  | (.inr x, d) :: r => (strItems r).map ((x, d) :: ·)
  | (.inl _, _) :: _ => none
def sitO (o : Option (List (Str × D))) (G : HD) (Q : Post) : Prop := match o with
  | some xs => (xs.map (·.1)).Nodup ∧ ∀ qs : List (Str × D), qs.Perm xs → (qs.map (·.1)).Pairwise (fun a b => ¬ b.cps.toList < a.cps.toList) → Q (.kl (qs.map itD)) G
  | none => False
def dSrtItems (te : TD) : TD := fun W σ G Q => te W σ G fun d G1 => dicP d G1 fun l => sitO (strItems l) G1 Q
section
variable {K : PySem.W.Frag} {G : HD} {H : Hp}
end
section
variable {X : Cx} {e : Expr} {te : TD} {p apos cpos pos : Pos}
end
end DL

namespace DL
open PySem PySem.Spec L2
open PyProof.Rows hiding St
/-! ### d.pop(k), k is in it -/
def popO1 (o : Option MO) (a : Addr) (k : Option Key) (G : HD) (Q : Post) : Prop := match o, k with
  | some (.dK l), some k => optP (valD l k) G fun v G1 => Q v (put G1 a (.dK (dropKD l k)))
  | _, _ => False
def popP1 (o k : D) (G : HD) (Q : Post) : Prop := match o with
  | .ref a => popO1 (G a) a (kD k) G Q
  | _ => False
def dPop1 (td tk : TD) : TD := fun W σ G Q => td W σ G fun o G1 => dictP o G1 (tk W σ G1 fun k G2 => popP1 o k G2 Q)
section
variable {X : Cx} {o e : Expr} {td tk : TD} {apos cpos : Pos}
end
/-! ### d == {}, d != {} -/
section
variable {X : Cx}
end
def dEqE (neg : Bool) (td : TD) : TD := fun W σ G Q => td W σ G fun d G1 => dicP d G1 fun l => Q (.bl (if neg then !l.isEmpty else l.isEmpty)) G1
section
variable {X : Cx} {a : Expr} {td : TD} {pos p2 : Pos}
end
/-! ### x in (a, b), texts -/
def inSo (neg : Bool) (o : Option (List Str)) (d : D) (G : HD) (Q : Post) : Prop := match o, d with
  | some ns, .str x => Q (.bl (if neg then !decide (x ∈ ns) else decide (x ∈ ns))) G
  | some _, .non => Q (.bl neg) G
  | _, _ => False
def dInT (neg : Bool) : D → D → HD → Post → Prop := fun d e G Q => match asQ G e with
  | some es => inSo neg (asStrs es) d G Q
  | none => False
theorem inV_strs {x : Str} : ∀ {ns : List Str}, inV (.str x) (ns.map V.str) = decide (x ∈ ns)
  | [] => rfl
  | n :: ns => by
    have h := inV_strs (x := x) (ns := ns)
    unfold inV at h ⊢
    rw [List.map_cons, List.any_cons, h]
    have e : eqV (V.str n) (V.str x) = decide (n = x) := by
      by_cases z : n = x
      · subst z; simp [eqV]
      · simp [eqV, z]
    rw [e]
    by_cases z : x = n
    · subst z; simp
    · have z' : ¬ n = x := fun q => z q.symm
      simp [z, z']
theorem inV_non : ∀ {ns : List Str}, inV .non (ns.map V.str) = false
  | [] => rfl
  | n :: ns => by
    have h := inV_non (ns := ns)
    unfold inV at h ⊢
    rw [List.map_cons, List.any_cons, h]
    rfl
theorem od_inT (K : PySem.W.Frag) (neg : Bool) : OpD K (rIn K neg) (dInT neg) := fun G H d e x y Q Q' s k1 k2 f q => by
  unfold dInT at q
  split at q
  · rename_i es e1
    unfold inSo at q
    split at q
    · rename_i ns x0 e2
      cases k1
      obtain ⟨a, vs, rfl, t, r⟩ := k2.seq s e1
      obtain rfl := asStrs_rps e2 r
      refine ⟨a, _, rfl, t, rfl, List.all_eq_true.mpr fun v hv => by obtain ⟨n, _, rfl⟩ := List.mem_map.mp hv; rfl, ?_⟩
      rw [inV_strs]
      exact f _ _ (.of (d := .bl _) rfl s .refl q)
    · rename_i ns e2
      cases k1
      obtain ⟨a, vs, rfl, t, r⟩ := k2.seq s e1
      obtain rfl := asStrs_rps e2 r
      refine ⟨a, _, rfl, t, rfl, List.all_eq_true.mpr fun v hv => by obtain ⟨n, _, rfl⟩ := List.mem_map.mp hv; rfl, ?_⟩
      rw [inV_non]
      have : (if neg = true then !false else false) = neg := by cases neg <;> rfl
      rw [this]
      exact f _ _ (.of (d := .bl _) rfl s .refl q)
    · exact q.elim
  · exact q.elim
theorem c_inT {X : Cx} : CmpR X .In (dInT false) := ⟨_, op_in_seq, od_inT X.K false⟩
/-! ### o.m(e, .., k = v, ..) -/
structure MetKw (P : Program) (w : World) (K : PySem.W.Frag) (mg : Str → Option Value) (base : Heap) (k : Nat) (m : Str) (C : Addr) (sp : SpD) (n : Nat) (ks : List Str) (is : List Nat) (dds : List D) : Prop where
  ex : ∃ (f : Addr) (fd : FuncData) (ps : List Str), Cls K C ∧ Meth K C m f ∧ FnK P w K mg base k f fd ps sp ∧ KwB K fd ps (n + 1) ks is dds ∧ ∀ ds G E Q, sp ds G E Q → ds.length = ps.length
def dMethK (C : Addr) (sp : SpD) (m : Str) (n mm : Nat) (is : List Nat) (dds : List D) (ta : TD) (ts tk : TDA) : TD := fun W σ G Q => ta W σ G fun d G1 => match d with
  | .ref a => match G1 a with
    | some (.ins C' fs) => fs.lookup m = none ∧ C' = C ∧ ts W σ G1 fun ds G2 => tk W σ G2 fun zs G3 => ds.length = n ∧ zs.length = mm ∧ sp (pickL is ((.ref a :: ds) ++ (dds ++ zs))) G3 Q fun c fs G' => W c fs σ G'
    | _ => False
  | _ => False
section
variable {X : Cx} {k j n : Nat} {C : Addr} {sp : SpD} {m : Str} {apos pos : Pos} {o e : Expr} {es : List Expr} {ta : TD} {ts tk : TDA} {dds : List D} {ks : List Str} {is : List Nat} {kws : List Keyword}
end
/-! ### named equations -/
section
variable {G : HD} {Q : Post} {W : DW} {σ : DSt} {a : Addr} {td tk te : TD} {ts tka : TDA} {C : Addr} {sp : SpD} {m : Str} {n mm : Nat} {is : List Nat} {dds ds : List D} {l : List (Key × D)} {x y : Str} {neg : Bool} {d : D} {ti : TDI} {t : Tgt} {dt : TDT} {vs : List Nat} {f : Key → Prop} {i : Int}
theorem q_pop1 : dPop1 td tk W σ G Q = td W σ G fun o G1 => dictP o G1 (tk W σ G1 fun k G2 => popP1 o k G2 Q) := propext ⟨fun h => h, fun h => h⟩
theorem r_pop1S : popP1 (.ref a) (.str x) G Q = popO1 (G a) a (some (.inr x)) G Q := propext ⟨fun h => h, fun h => h⟩
theorem r_pop1I : popP1 (.ref a) (.int i) G Q = popO1 (G a) a (some (.inl i)) G Q := propext ⟨fun h => h, fun h => h⟩
theorem r_popO1 {k : Key} : popO1 (some (.dK l)) a (some k) G Q = optP (valD l k) G fun v G1 => Q v (put G1 a (.dK (dropKD l k))) := propext ⟨fun h => h, fun h => h⟩
theorem q_eqE : dEqE neg td W σ G Q = td W σ G fun d G1 => dicP d G1 fun l => Q (.bl (if neg then !l.isEmpty else l.isEmpty)) G1 := propext ⟨fun h => h, fun h => h⟩
theorem r_inTT : dInT neg (.str x) (.tup ds) G Q = inSo neg (asStrs ds) (.str x) G Q := propext ⟨fun h => h, fun h => h⟩
theorem r_inTN : dInT neg .non (.tup ds) G Q = inSo neg (asStrs ds) .non G Q := propext ⟨fun h => h, fun h => h⟩
theorem r_inTK : dInT neg (.str x) (.kl ds) G Q = inSo neg (asStrs ds) (.str x) G Q := propext ⟨fun h => h, fun h => h⟩
theorem r_inSo {ns : List Str} : inSo neg (some ns) (.str x) G Q = Q (.bl (if neg then !decide (x ∈ ns) else decide (x ∈ ns))) G := propext ⟨fun h => h, fun h => h⟩
theorem r_inSn {ns : List Str} : inSo neg (some ns) .non G Q = Q (.bl neg) G := propext ⟨fun h => h, fun h => h⟩
theorem q_srtI : dSrtItems te W σ G Q = te W σ G fun d G1 => dicP d G1 fun l => sitO (strItems l) G1 Q := propext ⟨fun h => h, fun h => h⟩
theorem q_dc {tv : TD} : dDc ti t dt tk tv vs W σ G Q = ti W σ G fun I G1 => I.xs.length ≤ 1000000 ∧
  dcD I.ok (fun d ky kn G' => t.put d (dwipe σ vs) fun σ2 => dt W0 σ2 G' fun b G2 => if b = true then tk W0 σ2 G2 fun kd G3 => tv W0 σ2 G3 fun y G4 => keyP kd fun k => ky k y G4 else kn G2) (fun acc G2 => newD G2 acc Q) I.xs [] G1 := propext ⟨fun h => h, fun h => h⟩
theorem r_keyS : keyP (.str x) f = f (.inr x) := propext ⟨fun h => h, fun h => h⟩
theorem r_keyI : keyP (.int i) f = f (.inl i) := propext ⟨fun h => h, fun h => h⟩
def metK (o : Option MO) (C : Addr) (m : Str) (k : Prop) : Prop := match o with
  | some (.ins C' fs) => fs.lookup m = none ∧ C' = C ∧ k
  | _ => False
def metKd (d : D) (G : HD) (C : Addr) (m : Str) (k : Addr → Prop) : Prop := match d with
  | .ref a => metK (G a) C m (k a)
  | _ => False
theorem q_methK : dMethK C sp m n mm is dds td ts tka W σ G Q = td W σ G fun d G1 => metKd d G1 C m fun a => ts W σ G1 fun ds G2 => tka W σ G2 fun zs G3 => ds.length = n ∧ zs.length = mm ∧ sp (pickL is ((.ref a :: ds) ++ (dds ++ zs))) G3 Q fun c fs G' => W c fs σ G' := by
  unfold dMethK
  congr 1
theorem r_metKd {k : Addr → Prop} : metKd (.ref a) G C m k = metK (G a) C m (k a) := propext ⟨fun h => h, fun h => h⟩
theorem r_metK {fs : List (Str × D)} {k : Prop} {C' : Addr} : metK (some (.ins C' fs)) C m k = (fs.lookup m = none ∧ C' = C ∧ k) := propext ⟨fun h => h, fun h => h⟩
end
end DL

namespace DL
open PySem PySem.Spec L2
open PyProof.Rows hiding St
/-! ### named equations of dicts -/
def itO (o : Option MO) (a : Addr) (G : HD) (R : ItD → HD → Prop) : Prop := match o with
  | some (.fz ob (.dK m) (.dK l)) => R ⟨l.map pairD, fun G => G a = some (.fz ob (.dK m) (.dK l))⟩ G
  | _ => False
def itP (d : D) (G : HD) (R : ItD → HD → Prop) : Prop := match d with
  | .ref a => itO (G a) a G R
  | _ => False
def inIq (neg : Bool) (o : Option (List D)) (i : Int) (G : HD) (Q : Post) : Prop := match o with
  | some es => inIo neg (asInts es) i G Q
  | none => False
section
variable {G : HD} {Q : Post} {W : DW} {σ : DSt} {a : Addr} {td : TD} {l : List (Key × D)} {x : Str} {neg : Bool} {z d : D} {i : Int} {R : ItD → HD → Prop} {es : List D} {ns : List Int} {k : Key}
theorem r_popS : popP (.ref a) (.str x) z G Q = popO (G a) a (some (.inr x)) z G Q := propext ⟨fun h => h, fun h => h⟩
theorem r_popI : popP (.ref a) (.int i) z G Q = popO (G a) a (some (.inl i)) z G Q := propext ⟨fun h => h, fun h => h⟩
theorem r_popO : popO (some (.dK l)) a (some k) z G Q = ((∀ v, valD l k = some v → Q v (put G a (.dK (dropKD l k)))) ∧ (valD l k = none → Q z G)) := propext ⟨fun h => h, fun h => h⟩
theorem r_sdfS : sdfP (.ref a) (.str x) z G Q = sdfO (G a) a (some (.inr x)) z G Q := propext ⟨fun h => h, fun h => h⟩
theorem r_sdfI : sdfP (.ref a) (.int i) z G Q = sdfO (G a) a (some (.inl i)) z G Q := propext ⟨fun h => h, fun h => h⟩
theorem q_items : jItems td W σ G R = td W σ G fun o G1 => itP o G1 R := propext ⟨fun h => h, fun h => h⟩
theorem r_itP : itP (.ref a) G R = itO (G a) a G R := propext ⟨fun h => h, fun h => h⟩
theorem r_itO {ob : Obj} {m : List (Key × V)} : itO (some (.fz ob (.dK m) (.dK l))) a G R = R ⟨l.map pairD, fun G => G a = some (.fz ob (.dK m) (.dK l))⟩ G := propext ⟨fun h => h, fun h => h⟩
theorem r_inIR : dInI neg (.int i) (.ref a) G Q = inIq neg (lstOf (G a)) i G Q := by
  show (match (match G a with | some (.lst ds) => some ds | _ => none) with | some es => inIo neg (asInts es) i G Q | none => False) = _
  cases G a with
  | none => rfl
  | some o => cases o <;> rfl
theorem r_lenD : lenP (lenO (some (.dK l))) G Q = Q (.int l.length) G := propext ⟨fun h => h, fun h => h⟩
theorem r_frzD : frzO (some (.dK l)) a G Q = Q (.ref a) G := propext ⟨fun h => h, fun h => h⟩
theorem r_inIq : inIq neg (some es) i G Q = inIo neg (asInts es) i G Q := propext ⟨fun h => h, fun h => h⟩
theorem r_inIo : inIo neg (some ns) i G Q = Q (.bl (if neg then !decide (i ∈ ns) else decide (i ∈ ns))) G := propext ⟨fun h => h, fun h => h⟩
end
end DL

namespace DL
open PySem PySem.Spec L2 DX
open PyProof.Rows hiding St
/-! ### == of nested things that are equal -/
section
variable {X : Cx} {pins : List (Addr × Obj)} {σ : L2.St} {H : Hp} {s : Shared}
end
/-! .. of data -/
def dkAt (G : HD) (a : Addr) (l : List (Key × D)) : Prop := G a = some (.dK l) ∨ ∃ ob m, G a = some (.fz ob (.dK m) (.dK l))
section
variable {K : PySem.W.Frag} {G : HD} {H : Hp}
theorem dkAt.rd (s : Sim K G H) {a : Addr} {l : List (Key × D)} (h : dkAt G a l) : ∃ m, Rd H a (.dK m) ∧ RKV K H l m := by
  rcases h with h | ⟨ob, m, h⟩
  · obtain ⟨m, e, r⟩ := s.dK h
    exact ⟨m, .of e, r⟩
  · obtain ⟨h1, h2⟩ := fz_at0 s h
    exact ⟨m, h1, h2⟩
theorem RKV.mem {κ : Type} : ∀ {l : List (κ × D)} {m : List (κ × V)} {p : κ × V}, RKV K H l m → p ∈ m → ∃ d, (p.1, d) ∈ l ∧ Rp K H d p.2
  | [], _, _, h, hm => by cases h; cases hm
  | q :: l, _, p, h, hm => by
    obtain ⟨v, r, rfl, h1, h2⟩ := h
    rcases List.mem_cons.mp hm with rfl | hm
    · exact ⟨q.2, List.mem_cons_self, h1⟩
    · obtain ⟨d, h3, h4⟩ := RKV.mem h2 hm
      exact ⟨d, List.mem_cons_of_mem _ h3, h4⟩
end
/-! ### list(d.items()), by value -/
def dLstItems (te : TD) : TD := fun W σ G Q => te W σ G fun d G1 => dicP d G1 fun l => Q (.kl (l.map pairD)) G1
section
variable {X : Cx} {e : Expr} {te : TD} {p apos cpos pos : Pos}
end
/-! ### X(e, ..), an exception as a value -/
section
variable {X : Cx}
def dMkX (C : Addr) (fs : List Str) (ts : TDA) : TD := fun W σ G Q => ts W σ G fun ds G1 => ds.length = fs.length ∧ Q (.exc C ((fs.zip ds).reverse.map (·.1)) ((fs.zip ds).reverse.map (·.2))) G1
theorem q_mkX {W : DW} {σ : DSt} {G : HD} {Q : Post} {C : Addr} {fs : List Str} {ts : TDA} : dMkX C fs ts W σ G Q = ts W σ G fun ds G1 => ds.length = fs.length ∧ Q (.exc C ((fs.zip ds).reverse.map (·.1)) ((fs.zip ds).reverse.map (·.2))) G1 := propext ⟨fun h => h, fun h => h⟩
theorem q_lstI {W : DW} {σ : DSt} {G : HD} {Q : Post} {te : TD} : dLstItems te W σ G Q = te W σ G fun d G1 => dicP d G1 fun l => Q (.kl (l.map pairD)) G1 := propext ⟨fun h => h, fun h => h⟩
end
/-! ### list(range(n)), by value -/
def lrgP (d : D) (G : HD) (Q : Post) : Prop := match d with
  | .int n => -1000000 ≤ n ∧ n ≤ 1000000 ∧ Q (.kl (intsD 0 n.toNat)) G
  | _ => False
def dLstRg (te : TD) : TD := fun W σ G Q => te W σ G fun d G1 => lrgP d G1 Q
section
variable {G : HD} {Q : Post} {W : DW} {σ : DSt} {te : TD} {n : Int}
theorem q_lstRg : dLstRg te W σ G Q = te W σ G fun d G1 => lrgP d G1 Q := propext ⟨fun h => h, fun h => h⟩
theorem r_lrg : lrgP (.int n) G Q = (-1000000 ≤ n ∧ n ≤ 1000000 ∧ Q (.kl (intsD 0 n.toNat)) G) := propext ⟨fun h => h, fun h => h⟩
end
/-! ### two that read alike are equal -/
theorem mapM_lay {G : HD} {n : Nat} (ih : ∀ d p, pyD n G d = some p → p.canLay0 = true) : ∀ {ds : List D} {ps : List PyData}, ds.mapM (pyD n G) = some ps → PyData.canLayAll0 ps = true
  | [], ps, h => by
    simp only [List.mapM_nil, Option.pure_def, Option.some.injEq] at h
    subst h; simp only [PyData.canLayAll0]
  | d :: ds, ps, h => by
    obtain ⟨y, zs, e1, e2, rfl⟩ := mapM_cons_some h
    simp only [PyData.canLayAll0, ih d y e1, mapM_lay ih e2, Bool.and_self]
theorem pyD_lay {G : HD} : ∀ (n : Nat) (d : D) (p : PyData), pyD n G d = some p → p.canLay0 = true
  | 0, _, _, h => by cases h
  | n + 1, d, p, h => by
    unfold pyD at h
    cases d with
    | non => cases h; simp only [PyData.canLay0]
    | bl b => cases h; simp only [PyData.canLay0]
    | int i => cases h; simp only [PyData.canLay0]
    | str x =>
      simp only at h
      split at h
      · rename_i hx; cases h; simp only [PyData.canLay0, hx]
      · cases h
    | ty _ => cases h
    | tup ds => simp only [Option.map_eq_some_iff] at h; obtain ⟨ps, e, rfl⟩ := h; simp only [PyData.canLay0, mapM_lay (pyD_lay n) e]
    | kl ds => simp only [Option.map_eq_some_iff] at h; obtain ⟨ps, e, rfl⟩ := h; simp only [PyData.canLay0, mapM_lay (pyD_lay n) e]
    | kc ds => simp only [Option.map_eq_some_iff] at h; obtain ⟨ps, e, rfl⟩ := h; simp only [PyData.canLay0, mapM_lay (pyD_lay n) e]
    | exc _ _ _ => cases h
    | emp => cases h
    | fn _ _ _ _ _ => cases h
    | ref a =>
      simp only at h
      split at h
      · simp only [Option.map_eq_some_iff] at h; obtain ⟨ps, e, rfl⟩ := h; simp only [PyData.canLay0, mapM_lay (pyD_lay n) e]
      · cases h
section
variable {G : HD} {Q : Post} {d e : D} {neg : Bool}
end
end DL

namespace DL
open PySem PySem.Spec L2
open PyProof.Rows hiding St
/-! ### d.update(e), both dicts -/
def mergeKD (l m : List (Key × D)) : List (Key × D) := m.foldl (fun acc p => putKD acc p.1 p.2) l
def updO (o1 o2 : Option MO) (a : Addr) (G : HD) (Q : Post) : Prop := match o1, o2 with
  | some (.dK l), some (.dK m) => l.length + m.length ≤ 1000000 ∧ Q .non (put G a (.dK (mergeKD l m)))
  | _, _ => False
def updP (o z : D) (G : HD) (Q : Post) : Prop := match o, z with
  | .ref a, .ref b => a ≠ b ∧ updO (G a) (G b) a G Q
  | _, _ => False
def dUpd (td te : TD) : TD := fun W σ G Q => td W σ G fun o G1 => dictP o G1 (te W σ G1 fun z G2 => updP o z G2 Q)
section
variable {X : Cx} {o e : Expr} {apos cpos : Pos}
theorem RKV.merge {K : PySem.W.Frag} {H : Hp} {m : List (Key × D)} : ∀ {mv : List (Key × V)} {l : List (Key × D)} {lv : List (Key × V)}, RKV K H m mv → RKV K H l lv → RKV K H (mergeKD l m) (mergeK lv mv) := by
  induction m with
  | nil => intro mv l lv h h0; cases h; exact h0
  | cons p m ih =>
    intro mv l lv h h0
    obtain ⟨v, r, rfl, h1, h2⟩ := h
    show RKV K H (mergeKD (putKD l p.1 p.2) m) (mergeK (putK lv p.1 v) r)
    exact ih (mv := r) h2 (h0.putK2 h1)
end
section
variable {G : HD} {Q : Post} {W : DW} {σ : DSt} {td te : TD} {a b : Addr} {l m : List (Key × D)}
theorem q_upd : dUpd td te W σ G Q = td W σ G fun o G1 => dictP o G1 (te W σ G1 fun z G2 => updP o z G2 Q) := propext ⟨fun h => h, fun h => h⟩
theorem r_updP : updP (.ref a) (.ref b) G Q = (a ≠ b ∧ updO (G a) (G b) a G Q) := propext ⟨fun h => h, fun h => h⟩
theorem r_updO : updO (some (.dK l)) (some (.dK m)) a G Q = (l.length + m.length ≤ 1000000 ∧ Q .non (put G a (.dK (mergeKD l m)))) := propext ⟨fun h => h, fun h => h⟩
end
/-! ### xs[::-1], by value -/
def revO (o : Option (List D)) (G : HD) (Q : Post) : Prop := match o with
  | some xs => Q (.kl xs.reverse) G
  | none => False
def dRevV (te : TD) : TD := fun W σ G Q => te W σ G fun d G1 => revO (asL G1 d) G1 Q
theorem rps_rev {K : PySem.W.Frag} {H : Hp} {ds : List D} : ∀ {vs : List V}, Rps K H ds vs → Rps K H ds.reverse vs.reverse := by
  induction ds with
  | nil => intro vs h; cases h; exact rfl
  | cons d ds ih =>
    intro vs h
    obtain ⟨v, r, rfl, h1, h2⟩ := h
    rw [List.reverse_cons, List.reverse_cons]
    exact (ih h2).app ⟨v, [], rfl, h1, rfl⟩
theorem de_revV {X : Cx} {e : Expr} {te : TD} {k : Nat} {p1 p2 p3 pos : Pos} (he : DE X e te) : DE X (.Subscript e (.Slice none none (some (.UnaryOp .USub (.Constant (.int 1) k p1) p2)) p3) pos) (dRevV te) :=
  ⟨fun G H σ τ W Q r0 q => semE.frz (semE.of (pe_revL peSem) (he.then r0 q fun d v G1 H1 r1 x1 k1 q1 => by
    unfold revO at q1
    split at q1
    · rename_i xs ex
      obtain ⟨a, vs, rfl, t1, rr⟩ := k1.lst r1.sim ex
      exact ⟨a, vs, rfl, t1, fun p hp => newV.fin (K := X.K) (G := G1) (Q := Q) (Q' := liftF X.K G H Q) r1.sim (rps_rev rr) (fun _ _ z => z.up x1) q1 p hp⟩
    · exact q1.elim))⟩
section
variable {G : HD} {Q : Post} {W : DW} {σ : DSt} {te : TD} {a : Addr} {xs : List D}
theorem q_revV : dRevV te W σ G Q = te W σ G fun d G1 => revO (asL G1 d) G1 Q := propext ⟨fun h => h, fun h => h⟩
theorem r_asLK : asL G (.kl xs) = some xs := rfl
theorem r_revO : revO (some xs) G Q = Q (.kl xs.reverse) G := propext ⟨fun h => h, fun h => h⟩
end
end DL

namespace DL
open PySem PySem.Spec L2
open PyProof.Rows hiding St
/-! ### repr of a row of data and of flat dicts -/
section
variable {X : Cx} {pins : List (Addr × Obj)} {σ : L2.St} {H : Hp} {s : Shared}
end
/-! .. of data -/
section
variable {K : PySem.W.Frag} {G : HD} {H : Hp}
end
end DL

namespace DL
open PySem PySem.Spec L2
open PyProof.Rows hiding St
/-! ### d.clear() -/
def clrDO (o : Option MO) (a : Addr) (G : HD) (Q : Post) : Prop := match o with
  | some (.dK _) => Q .non (put G a (.dK []))
  | _ => False
def clrDP (o : D) (G : HD) (Q : Post) : Prop := match o with
  | .ref a => clrDO (G a) a G Q
  | _ => False
def dDClr (to : TD) : TD := fun W σ G Q => to W σ G fun o G1 => clrDP o G1 Q
section
variable {G : HD} {Q : Post} {W : DW} {σ : DSt} {to : TD} {a : Addr} {l : List (Key × D)}
theorem q_dclr : dDClr to W σ G Q = to W σ G fun o G1 => clrDP o G1 Q := propext ⟨fun h => h, fun h => h⟩
theorem r_clrDP : clrDP (.ref a) G Q = clrDO (G a) a G Q := propext ⟨fun h => h, fun h => h⟩
theorem r_clrDO : clrDO (some (.dK l)) a G Q = Q .non (put G a (.dK [])) := propext ⟨fun h => h, fun h => h⟩
end
end DL

namespace DN
open PySem PySem.Spec PyProof.Rows
section
variable {prog : Program} {w : World} {A : Around} {E : Value → Shared → Prop} {s : Shared} {I : Addr} {fp wr : List Addr} {G : Array GenState → Array GenState → Prop} {n : Nat} {P : Nat → Value → Prop} {St : Nat → Shared → Prop}
end
end DN
namespace DL
open PySem PySem.Spec L2
open PyProof.Rows hiding St
/-! ### x, *r = a tuple; the row by value -/
def sStar (i j : Nat) (te : TD) : TDS := fun W D σ G => te W σ G fun d G1 => match d with
  | .tup (x :: xs) => D.nx ((σ.set i (some x)).set j (some (.kl xs))) G1
  | _ => False
section
variable {G : HD} {i j : Nat} {te : TD} {W : DW} {D' : DEnds} {σ : DSt}
theorem q_star : sStar i j te W D' σ G = te W σ G fun d G1 => match d with | .tup (x :: xs) => D'.nx ((σ.set i (some x)).set j (some (.kl xs))) G1 | _ => False := rfl
end
end DL

namespace DN
open PySem PySem.Spec PyProof.Rows L2
section
variable {P : Program} {w : World} {A : Around} {E : Value → Shared → Prop} {s : Shared}
/-- a set that is new -/
abbrev new0 (w : World) : Obj := { cls := .type "set", dict := none, data := .set #[] 0 (.fresh 0 0 (!w.params.followText "set-order")) }
set_option maxHeartbeats 3200000 in
/-- set(l), l a list of ints; its table is known -/
theorem set_list {l : Addr} {items : Array Value} (ns : List Int) {Q : Value → Shared → Prop} (hh : A.handled = none) (hl : s.heap.IsList l items) (hit : IntsAre items.toList ns) (hb : ns.length + 1 < scanBound)
    (h : ∀ (h' : Heap) (tk c : Nat), SetR w h' s.heap.objs.size (fun j => decide (j ∈ ns)) c → c ≤ ns.length → (∀ b o, s.heap.get? b = some o → h'.get? b = some o) → Q (.ref s.heap.objs.size) { s with heap := h', toks := tk }) :
    wpAny (model P w) A (call (.type "set") [.ref l]) Q E s := by
  have hn : items.size = ns.length := by simpa using hit.length
  have hlS : l < s.heap.objs.size := by obtain ⟨o, ho, _⟩ := hl; exact Heap.lt_size ho
  have z1 : (s.heap.push (new0 w)).objs.size = s.heap.objs.size + 1 := Heap.size_push ..
  have hS : (s.heap.push (new0 w)).get? s.heap.objs.size = some (new0 w) := Heap.get?_push_size _ rfl
  obtain ⟨_, _, hmro⟩ := F.called_set.mro
  have hmade := F.called_set.made
  have hsub := F.called_set.sub
  refine wpAny_call (codeAny_of_tree ?_)
  show wpAny _ _ (callAny (.type "set") _) _ _ _
  refine wpAny_pure ⟨Code.quiet_builtin _ (by decide +kernel), codeAny_builtin F.entry_type_call ?_⟩
  rw [Around.under_plain (weight_type_call_type "set" [.ref l] []) rfl]
  have h1 := F.called_set.notType
  have h2 := F.called_set.canCreate
  have h3 := F.typeCall_set_1 (.ref l)
  repeat (any_goals (first | assumption | wp_step))
  refine codeAny_mono (code_set_led1 (.ref l) (E := E) (Q₁ := fun v s1 => v = .ref s.heap.objs.size ∧ s1 = { s with heap := s.heap.push (new0 w) }) ⟨rfl, rfl⟩) fun r s1 hr => ?_
  rcases r with e | (_ | _ | _ | v)
  · exact hr
  · exact hr.elim
  · exact hr.elim
  · exact hr.elim
  · obtain ⟨rfl, rfl⟩ := hr
    have hT : Shared.TypeIs { s with heap := s.heap.push (new0 w) } (.ref s.heap.objs.size) "set" := ⟨_, hS, rfl⟩
    have hli := F.called_set.init.lookup
    have hbi := F.called_set.init.bind (.ref s.heap.objs.size)
    repeat (any_goals (first | assumption | wp_step))
    refine codeAny_mono (codeAny_call_builtin (R := wants (fun r s2 => r = .none ∧ ∃ h' tk c, s2 = { s with heap := h', toks := tk } ∧ SetR w h' s.heap.objs.size (fun j => decide (j ∈ ns)) c ∧ c ≤ ns.length ∧ (∀ b o, s.heap.get? b = some o → h'.get? b = some o)) E) F.called_set.init.plain F.entry_set_init (check_set_init_1 hT ?_)) fun r2 s2 hr2 => ?_
    · obtain ⟨⟨cls, dd, dat, sl⟩, ho, hc, k0, hd⟩ := hl
      simp only at hc hd
      subst hc; subst hd
      have ho' : (s.heap.push (new0 w)).get? l = some { cls := .type "list", dict := dd, data := .seq items k0, slots := sl } := Heap.get?_push_of_some _ ho
      have e1 := F.sub_list_set
      have e2 := F.sub_list_frozenset
      have e3 : (Value.type "list" == Value.type "dict") = false := by decide
      have hl1 : (s.heap.push (new0 w)).IsList l items := ⟨_, ho', rfl, k0, rfl⟩
      unfold Builtin.«set.__init__» noKeywords Builtin.Frozenset.updateFrom
      generalize hPI : pyIter = PI
      wp_walk
      subst hPI
      refine wpAny_pyIter_list hl1 ?_
      refine wpAny_bind (wpAny_runValue ?_)
      have hne : l ≠ (s.heap.push (new0 w)).objs.size := by rw [z1]; exact Nat.ne_of_lt (Nat.lt_succ_of_lt hlS)
      have hh3 : A.in1.in1.in1.handled = none := by simp [hh]
      have hval : ∀ (i : Nat) (v : Value), items[i]? = some v → ∃ k t, ns[i]? = some k ∧ v = .int k t := fun i v hv => by
        have hi : i < ns.length := by rw [← hn]; exact (Array.getElem?_eq_some_iff.mp hv).1
        obtain ⟨t, e⟩ := PyProof.Rows.IntsAre.int_at hit i v (by rw [Array.getElem?_toList]; exact hv)
        refine ⟨ns[i], t, List.getElem?_eq_getElem hi, ?_⟩
        rw [e, List.getD_eq_getElem?_getD, List.getElem?_eq_getElem hi] <;> rfl
      refine set_update_ints (Walks.list hh3 _ l hne items).toS s.heap.objs.size (by simp only [List.mem_cons, List.not_mem_nil, or_false, not_or]; exact ⟨by rw [z1]; exact Nat.ne_of_lt (Nat.lt_succ_self _), Nat.ne_of_gt hlS⟩) ns hn hb hval (items.size - 0) 0 _ (by omega) (Nat.zero_le _)
        ⟨⟨_, Heap.get?_push_size _ rfl, rfl, rfl⟩, hl1.push _⟩ ⟨0, Nat.le_refl 0, setR_new_at (Heap.get?_push_of_some _ hS)⟩ fun s' c hm hc hR => ?_
      obtain ⟨h', g2, d', tk', os'⟩ := s'
      have eg : g2 = s.gens := hm.gens
      have ed : d' = s.drawn := hm.drawn
      have eo : os' = s.os := hm.os
      subst eg; subst ed; subst eo
      show wpAny _ _ _ _ _ _
      refine wpAny_pure ?_
      show wpAny _ _ (ret Value.none) _ _ _
      refine wpAny_pure ⟨rfl, h', tk', c, rfl, hR, by omega, fun b o e => ?_⟩
      have hb0 : b < s.heap.objs.size := Heap.lt_size e
      exact hm.heap b o (by simp only [List.mem_cons, List.not_mem_nil, or_false, not_or]; exact ⟨Nat.ne_of_lt hb0, by rw [z1]; exact Nat.ne_of_lt (Nat.lt_succ_of_lt hb0)⟩) (Heap.get?_push_of_some _ (Heap.get?_push_of_some _ e))
    · rcases r2 with e | (_ | _ | _ | v)
      · exact hr2
      · exact hr2.elim
      · exact hr2.elim
      · exact hr2.elim
      · obtain ⟨rfl, h', tk', c, rfl, hR, hc, hk⟩ := hr2
        refine wpAny_pure ?_
        have e0 : ((Value.none != Value.none) = true) = False := by decide
        repeat (any_goals (first | exact h h' tk' c hR hc hk | assumption | wp_step))
end
end DN

namespace DL
open PySem PySem.Spec L2
open PyProof.Rows hiding St
/-! ### sorted(set(e)), e a list of ints; by value -/
theorem vals_ints : ∀ {us : List Value} {ms : List Int}, IntsAre us ms → Vals (ms.map V.int) us
  | _, [], h => by cases h; exact .nil
  | _, m :: ms, h => by
    cases h
    rename_i h
    exact .cons ⟨_, rfl⟩ (vals_ints h)
def srtSetI (o : Option (List Int)) (G : HD) (Q : Post) : Prop := match o with
  | some ns => ns.length ≤ 60 ∧ ∀ ms : List Int, ms.Pairwise (· < ·) → (∀ k, k ∈ ms ↔ k ∈ ns) → Q (.kl (ms.map D.int)) G
  | none => False
def srtSetO (o : Option (List D)) (G : HD) (Q : Post) : Prop := match o with
  | some ds => srtSetI (asInts ds) G Q
  | none => False
def dSortSet (te : TD) : TD := fun W σ G Q => te W σ G fun d G1 => srtSetO (asL G1 d) G1 Q
section
variable {G : HD} {Q : Post} {W : DW} {σ : DSt} {te : TD} {xs : List D} {ns : List Int}
theorem q_sortSet : dSortSet te W σ G Q = te W σ G fun d G1 => srtSetO (asL G1 d) G1 Q := propext ⟨fun h => h, fun h => h⟩
theorem r_srtSetO : srtSetO (some xs) G Q = srtSetI (asInts xs) G Q := propext ⟨fun h => h, fun h => h⟩
end
end DL

namespace DL
open PySem PySem.Spec L2
open PyProof.Rows hiding St
/-! ### x.index(y) of texts -/
def sidxP (o d : D) (G : HD) (Q : Post) : Prop := match o, d with
  | .str a, .str b => ∃ k, Txt.index0 a b = some k ∧ Q (.int (k : Nat)) G
  | _, _ => False
def dSIdx (to te : TD) : TD := fun W σ G Q => to W σ G fun o G1 => (∃ a, o = .str a) ∧ te W σ G1 fun d G2 => sidxP o d G2 Q
section
variable {G : HD} {Q : Post} {x y : Str} {W : DW} {σ : DSt} {to te : TD}
theorem q_sidx : dSIdx to te W σ G Q = to W σ G fun o G1 => (∃ a, o = .str a) ∧ te W σ G1 fun d G2 => sidxP o d G2 Q := propext ⟨fun h => h, fun h => h⟩
theorem r_sidx : sidxP (.str x) (.str y) G Q = ∃ k, Txt.index0 x y = some k ∧ Q (.int (k : Nat)) G := propext ⟨fun h => h, fun h => h⟩
end
end DL

namespace DL
open PySem PySem.Spec L2
open PyProof.Rows hiding St
/-! ### max of two tuples of ints, of three ints, of a list of tuples of ints -/
section
variable {prog : Program} {w : World} {A : Around} {E : Value → Shared → Prop} {s : Shared}
open Sem (wp) in
open PySem.W in
theorem max_pair {a b : Value} {x y : PyData} {as : List Addr} {Q : Value → Shared → Prop} (hh : A.handled = none)
    (hr : ReadsAll s.heap [a, b] [x, y] as) (al : AlikeAll [x, y]) (hu : A.units + 1 + PyData.depthAll [x, y] < cLine)
    (h : ∀ h' tk, (∀ b o, s.heap.get? b = some o → h'.get? b = some o) → Q (if dataLt x y then b else a) { s with heap := h', toks := tk }) :
    wpAny (model prog w) A (call (.builtin "max") [a, b]) Q E s := by
  have hname : (toString "max" ++ toString ".loop" : String) = "max.loop" := by
    decide
  refine call_function_tree F.kind_max F.plain_max F.entry_max
    (F.args_max2 a b) ?_
  show wpAny _ A.in1 (_ >>= _) _ _ s
  refine wpAny_bind (wpAny_of_eq
    (show Builtin.Builtins.bindParams "max" ["key", "default"] 0
      ⟨[], []⟩ = pure [none, none] from rfl) ?_)
  show wpAny _ A.in1 (newTuple [a, b] >>=
    _) _ _ s
  refine wpAny_bind
    (wpAny_newObj_type ?_)
  have kp : ∀ c o, s.heap.get? c = some o → (s.heap.push { cls := .type "tuple", data := .seq #[a, b] }).get? c = some o := fun c o e => Heap.get?_push_of_some _ e
  have hr1 : ReadsAll (s.heap.push { cls := .type "tuple", data := .seq #[a, b] }) (#[a, b] : Array Value).toList [x, y] as := by
    cases hr with
    | cons r1 rs =>
      cases rs with
      | cons r2 rn =>
        cases rn
        exact .cons (Reads.keeps kp r1) (.cons (Reads.keeps kp r2) .nil)
  have hT : (s.heap.push { cls := .type "tuple", data := .seq #[a, b] }).IsTuple s.heap.objs.size #[a, b] := ⟨_, Heap.get?_push_size _ rfl, rfl, 0, rfl⟩
  refine wpAny_bind ?_
  refine iter_tupleW (s := { s with heap := s.heap.push { cls := .type "tuple", data := .seq #[a, b] } }) (A := A.in1) hh hT fun s₂ e W st hfp hw hk => ?_
  have hc := cmpIn_gt (s := { s with heap := s.heap.push { cls := .type "tuple", data := .seq #[a, b] } }) (prog := prog) (w := w) (A := A.in1) hr1 al (by show A.units + 1 + _ < _; exact hu)
  refine wpAny_bind
    (wpAny_newObj_type ?_)
  have hS := fun hm => Nat.lt_irrefl _ (hfp s₂.heap.objs.size hm)
  rw [hname]
  refine wpAny_pure ⟨plainId_quiet F.plain_max_loop _,
    codeAny_max_loop_firstH W _ hw _ hc s₂.heap.objs.size hS (fresh_in hk) _ (by show 0 < 2; decide) (fun b o e => Heap.get?_push_of_some _ (hk b o e))
      (W.frame 0 s₂ _ s₂.toks st (Nat.le_refl _) fun b _ o e => Heap.get?_push_of_some _ e) (Heap.get?_push_size _ rfl) fun v s' hP hm => ?_⟩
  have hm2 := Moved.drop_new (tk := s₂.toks) hm (Nat.le_refl _)
  obtain ⟨h', tk, rfl, hk'⟩ := moved_old e rfl hm2
  have hv : v = if dataLt x y then b else a := by
    have e1 : (#[a, b] : Array Value)[argBest (fun i j => dataLt ([x, y].getD j .none) ([x, y].getD i .none)) 1]? = some v := hP
    cases hd : dataLt x y with
    | true =>
      have e2 : argBest (fun i j => dataLt ([x, y].getD j .none) ([x, y].getD i .none)) 1 = 1 := by
        simp [argBest, hd]
      rw [e2] at e1
      simpa using e1.symm
    | false =>
      have e2 : argBest (fun i j => dataLt ([x, y].getD j .none) ([x, y].getD i .none)) 1 = 0 := by
        simp [argBest, hd]
      rw [e2] at e1
      simpa using e1.symm
  subst hv
  exact h h' tk fun c o ec => hk' c o (kp c o ec)
end
/-- a tuple of ints, as the heap shows it -/
theorem reads_tup {X : Cx} {pins : List (Addr × Obj)} {σ : L2.St} {H : Hp} {s : Shared} (I : Inv X pins σ H s) {a : Addr} {ns : List Int} (t : SqT X.K H a (ns.map V.int)) : ∃ as, Reads s.heap (.ref a) (.tuple (ns.map PyData.int)) as := by
  obtain ⟨its, rv, ⟨o, ho, hc, m, hd⟩, _⟩ := I.tuple t
  obtain ⟨as, hr⟩ := reads_ints (h := s.heap) rv
  exact ⟨as, .tuple ho hc hd (show ReadsAll s.heap its.toArray.toList (ns.map PyData.int) as by simpa using hr)⟩
def tupPy (ns : List Int) : PyData := .tuple (ns.map PyData.int)
theorem depth_int : ∀ ns : List Int, PyData.depthAll (ns.map PyData.int) ≤ 1
  | [] => Nat.zero_le _
  | n :: ns => Nat.max_le.mpr ⟨by show PyData.depth (.int n) ≤ 1; unfold PyData.depth; omega, depth_int ns⟩
theorem depth_tup : ∀ nss : List (List Int), PyData.depthAll (nss.map tupPy) ≤ 2
  | [] => Nat.zero_le _
  | ns :: nss => Nat.max_le.mpr ⟨by
      show (PyData.tuple (ns.map PyData.int)).depth ≤ 2
      have := depth_int ns
      unfold PyData.depth
      omega, depth_tup nss⟩
theorem alike_tups {nss : List (List Int)} : PySem.W.AlikeAll (nss.map tupPy) :=
  ⟨fun x hx y hy => by
    obtain ⟨ns, _, rfl⟩ := List.mem_map.mp hx
    obtain ⟨ms, _, rfl⟩ := List.mem_map.mp hy
    exact PySem.W.DatumOrd.alike (⟨ns⟩ : PySem.W.Tup Int) ⟨ms⟩, fun x hx z => by
    obtain ⟨ns, _, rfl⟩ := List.mem_map.mp hx
    cases z⟩
theorem lt_tups {ns ms : List Int} : PySem.W.dataLt (tupPy ns) (tupPy ms) = PySem.W.listLt ns ms := PySem.W.DatumOrd.lt_eq (⟨ns⟩ : PySem.W.Tup Int) ⟨ms⟩
/-- the greatest of some tuples -/
def maxI (n : List Int) (nss : List (List Int)) : List Int := nss.foldl (fun a y => if PySem.W.listLt a y then y else a) n
theorem maxD_tups (n : List Int) : ∀ nss : List (List Int), PySem.W.maxD (tupPy n) (nss.map tupPy) = tupPy (maxI n nss) := by
  intro nss
  unfold PySem.W.maxD maxI
  induction nss generalizing n with
  | nil => rfl
  | cons k r ih =>
    rw [List.map_cons, List.foldl_cons, List.foldl_cons, ← ih, lt_tups]
    congr 1
    split <;> rfl
theorem tup_inj {h : Heap} {v : Value} {ns ms : List Int} {as bs : List Addr} (h1 : Reads h v (tupPy ns) as) (h2 : Reads h v (tupPy ms) bs) : ns = ms := by
  cases h1 with
  | tuple a1 b1 c1 d1 =>
    cases h2 with
    | tuple a2 b2 c2 d2 =>
      rw [a1] at a2
      cases a2
      rw [c1] at c2
      cases c2
      have := fun {vs : List Value} {as bs : List Addr} => @List.rec Int (fun ns => ∀ (ms : List Int) (vs : List Value) (as bs : List Addr), ReadsAll h vs (ns.map PyData.int) as → ReadsAll h vs (ms.map PyData.int) bs → ns = ms)
        (fun ms vs as bs h1 h2 => by
          cases h1
          cases ms with
          | nil => rfl
          | cons _ _ => cases h2)
        (fun n ns ih ms vs as bs h1 h2 => by
          cases h1 with
          | cons r1 rs1 =>
            cases ms with
            | nil => cases h2
            | cons m ms =>
              cases h2 with
              | cons r2 rs2 =>
                cases r1
                cases r2
                rw [ih ms _ _ _ rs1 rs2]) ns ms vs as bs
      exact this d1 d2
def rTTs (K : PySem.W.Frag) (H : Hp) : List V → List (List Int) → Prop
  | [], [] => True
  | v :: vs, ns :: nss => (∃ a, v = .ref a ∧ SqT K H a (ns.map V.int)) ∧ rTTs K H vs nss
  | _, _ => False
theorem reads_tups {X : Cx} {pins : List (Addr × Obj)} {σ : L2.St} {H : Hp} {s : Shared} (I : Inv X pins σ H s) : ∀ {vs : List V} {us : List Value} {nss : List (List Int)}, Vals vs us → rTTs X.K H vs nss → ∃ as, ReadsAll s.heap us (nss.map tupPy) as
  | [], _, [], rv, _ => by cases rv; exact ⟨_, .nil⟩
  | v :: vs, _, ns :: nss, rv, h => by
    obtain ⟨⟨a, rfl, t⟩, h2⟩ := h
    cases rv with
    | cons r1 rs =>
      cases r1
      obtain ⟨as, h3⟩ := reads_tup I t
      obtain ⟨bs, h4⟩ := reads_tups I rs h2
      exact ⟨_, .cons h3 h4⟩
  | [], _, _ :: _, _, h => h.elim
  | _ :: _, _, [], _, h => h.elim
theorem rTTs_at {K : PySem.W.Frag} {H : Hp} : ∀ {vs : List V} {us : List Value} {nss : List (List Int)} {i : Nat} {u : Value}, Vals vs us → rTTs K H vs nss → us[i]? = some u → ∃ a ns, u = .ref a ∧ vs[i]? = some (.ref a) ∧ nss[i]? = some ns ∧ SqT K H a (ns.map V.int)
  | [], _, [], i, u, rv, _, h => by cases rv; cases h
  | v :: vs, _, ns :: nss, i, u, rv, h, hi => by
    obtain ⟨⟨a, rfl, t⟩, h2⟩ := h
    cases rv with
    | cons r1 rs =>
      cases i with
      | zero =>
        cases r1
        cases hi
        exact ⟨a, ns, rfl, rfl, rfl, t⟩
      | succ i => exact rTTs_at (i := i) rs h2 hi
  | [], _, _ :: _, _, _, _, h, _ => h.elim
  | _ :: _, _, [], _, _, _, h, _ => h.elim
def rMaxTL (K : PySem.W.Frag) : List V → Hp → VK → Prop := fun xs H Q => ∃ (l : Addr) (vs : List V) (n : List Int) (nss : List (List Int)), xs = [.ref l] ∧ SqL K H l vs ∧ rTTs K H vs (n :: nss) ∧ ∀ (i : Nat) v, vs[i]? = some v → (n :: nss)[i]? = some (maxI n nss) → Q v H
theorem call_maxTL {X : Cx} (hc : X.calm = true) (hu : X.A.units + 64 < cLine) : CallR X (.builtin "max") (rMaxTL X.K) := by
  intro pins s σ H vs us Q I r ⟨l, ws, n, nss, e, hq, ht, q⟩
  subst e
  rw [Vals.ref1 r]
  obtain ⟨its, rv, pl, _⟩ := I.list hq
  obtain ⟨as, hr⟩ := reads_tups I rv ht
  refine PySem.W.max_list_data (I.ok.hd hc) pl.isList (x := tupPy n) (xs := nss.map tupPy) (by simpa using hr) (alike_tups (nss := n :: nss)) (by have := depth_tup (n :: nss); show X.A.units + 1 + PyData.depthAll ((n :: nss).map tupPy) < cLine; omega) fun i v h' tk bs hv rd hk => ?_
  obtain ⟨a, ns, rfl, h1, h2, t⟩ := rTTs_at rv ht (by simpa using hv)
  obtain ⟨cs, h3⟩ := reads_tup I t
  rw [maxD_tups] at rd
  have := tup_inj (Reads.keeps hk h3) rd
  subst this
  exact ⟨.ref a, H, I.kept (t' := tk) hk, rfl, q i _ h1 h2⟩
def rMax3V : List V → Hp → VK → Prop := fun xs H Q => ∃ i j k : Int, xs = [.int i, .int j, .int k] ∧ Q (.int (if j > i then (if k > j then k else j) else (if k > i then k else i))) H
theorem call_max3 {X : Cx} (hc : X.calm = true) : CallR X (.builtin "max") rMax3V := by
  intro pins s σ H vs us Q I r ⟨i, j, k, e, q⟩
  subst e
  cases r with
  | cons r1 rs =>
    obtain ⟨u2, u3, rfl, r2, r3⟩ := vals2 rs
    obtain ⟨t1, rfl⟩ := r1
    obtain ⟨t2, rfl⟩ := r2
    obtain ⟨t3, rfl⟩ := r3
    refine max_three_ints (I.ok.hd hc) fun h' tk hk => ⟨_, H, I.kept (t' := tk) hk, ?_, q⟩
    split <;> split <;> exact ⟨_, rfl⟩
def rMax2T (K : PySem.W.Frag) : List V → Hp → VK → Prop := fun xs H Q => ∃ (a b : Addr) (ns ms : List Int), xs = [.ref a, .ref b] ∧ SqT K H a (ns.map V.int) ∧ SqT K H b (ms.map V.int) ∧ Q (if PySem.W.listLt ns ms then .ref b else .ref a) H
theorem call_max2T {X : Cx} (hc : X.calm = true) (hu : X.A.units + 64 < cLine) : CallR X (.builtin "max") (rMax2T X.K) := by
  intro pins s σ H vs us Q I r ⟨a, b, ns, ms, e, t1, t2, q⟩
  subst e
  obtain ⟨u1, u2, rfl, r1, r2⟩ := vals2 r
  cases r1; cases r2
  obtain ⟨as, h1⟩ := reads_tup I t1
  obtain ⟨bs, h2⟩ := reads_tup I t2
  refine max_pair (I.ok.hd hc) (.cons h1 (.cons h2 .nil)) (alike_tups (nss := [ns, ms])) (by have := depth_tup [ns, ms]; show X.A.units + 1 + PyData.depthAll ([ns, ms].map tupPy) < cLine; omega) fun h' tk hk => ?_
  refine ⟨_, H, I.kept (t' := tk) hk, ?_, q⟩
  have e : PySem.W.dataLt (PyData.tuple (ns.map PyData.int)) (.tuple (ms.map PyData.int)) = PySem.W.listLt ns ms := lt_tups
  rw [e]
  split <;> rfl
def asTups : List D → Option (List (List Int))
  | [] => some []
  | .tup ds :: es => match asInts ds, asTups es with
    | some ns, some nss => some (ns :: nss)
    | _, _ => none
  | _ :: _ => none
theorem asTups_rps {K : PySem.W.Frag} {H : Hp} : ∀ {es : List D} {vs : List V} {nss : List (List Int)}, asTups es = some nss → Rps K H es vs → rTTs K H vs nss
  | [], _, _, h, r => by cases h; cases r; trivial
  | .tup ds :: es, _, nss, h, ⟨v, vs, e, k, r⟩ => by
    subst e
    unfold asTups at h
    split at h
    · rename_i ns mss e1 e2
      cases h
      obtain ⟨a, us, rfl, t, r2⟩ := k
      obtain rfl := asInts_eq e1
      obtain rfl := r2.ints
      exact ⟨⟨a, rfl, t⟩, asTups_rps e2 r⟩
    · cases h
  | .non :: _, _, _, h, _ | .bl _ :: _, _, _, h, _ | .int _ :: _, _, _, h, _ | .str _ :: _, _, _, h, _ | .kl _ :: _, _, _, h, _ | .kc _ :: _, _, _, h, _ | .ref _ :: _, _, _, h, _ | .ty _ :: _, _, _, h, _ | .exc _ _ _ :: _, _, _, h, _ | .emp :: _, _, _, h, _ | .fn _ _ _ _ _ :: _, _, _, h, _ => nomatch h
def mx2O (o p : Option (List Int)) (G : HD) (Q : Post) : Prop := match o, p with
  | some ns, some ms => Q (.tup ((if PySem.W.listLt ns ms then ms else ns).map D.int)) G
  | _, _ => False
def mxTO (o : Option (List (List Int))) (G : HD) (Q : Post) : Prop := match o with
  | some (n :: nss) => Q (.tup ((maxI n nss).map D.int)) G
  | _ => False
def mxLO (o : Option (List D)) (G : HD) (Q : Post) : Prop := match o with
  | some es => mxTO (asTups es) G Q
  | none => False
/-- max over tuples of ints -/
def rMaxT : List D → HD → Post → Prop := fun ds G Q => match ds with
  | [.int i, .int j, .int k] => Q (.int (if j > i then (if k > j then k else j) else (if k > i then k else i))) G
  | [.tup xs, .tup ys] => mx2O (asInts xs) (asInts ys) G Q
  | [d] => mxLO (asL G d) G Q
  | _ => False
theorem rps_atV {K : PySem.W.Frag} {H : Hp} : ∀ {es : List D} {vs : List V} {i : Nat} {v : V}, Rps K H es vs → vs[i]? = some v → ∃ e, es[i]? = some e ∧ Rp K H e v
  | [], _, i, v, r, h => by cases r; cases h
  | e :: es, _, i, v, ⟨u, us, hu, k, r⟩, h => by
    subst hu
    cases i with
    | zero => cases h; exact ⟨e, rfl, k⟩
    | succ i => exact rps_atV (i := i) r h
theorem asTups_at : ∀ {es : List D} {nss : List (List Int)} {i : Nat} {e : D} {ns : List Int}, asTups es = some nss → es[i]? = some e → nss[i]? = some ns → e = .tup (ns.map D.int)
  | [], _, i, e, ns, h, h1, h2 => by cases h1
  | .tup ds :: es, nss, i, e, ns, h, h1, h2 => by
    unfold asTups at h
    split at h
    · rename_i ms mss e1 e2
      cases h
      cases i with
      | zero =>
        cases h1
        cases h2
        rw [asInts_eq e1]
      | succ i => exact asTups_at (i := i) e2 h1 h2
    · cases h
  | .non :: _, _, _, _, _, h, _, _ | .bl _ :: _, _, _, _, _, h, _, _ | .int _ :: _, _, _, _, _, h, _, _ | .str _ :: _, _, _, _, _, h, _, _ | .kl _ :: _, _, _, _, _, h, _, _ | .kc _ :: _, _, _, _, _, h, _, _ | .ref _ :: _, _, _, _, _, h, _, _ | .ty _ :: _, _, _, _, _, h, _, _ | .exc _ _ _ :: _, _, _, _, _, h, _, _ | .emp :: _, _, _, _, _, h, _, _ | .fn _ _ _ _ _ :: _, _, _, _, _, h, _, _ => nomatch h
theorem cd_maxT (K : PySem.W.Frag) : CallD K (fun xs H Q => (rMax3V xs H Q ∨ rMax2T K xs H Q) ∨ rMaxTL K xs H Q) rMaxT := fun G H ds vs Q Q' s k f q => by
  unfold rMaxT at q
  split at q
  · rename_i i j l
    obtain ⟨v1, r1, rfl, h1, v2, r2, rfl, h2, v3, r3, rfl, h3, rfl⟩ := k
    cases h1; cases h2; cases h3
    exact .inl (.inl ⟨i, j, l, rfl, f _ _ (.of (d := .int _) rfl s .refl q)⟩)
  · unfold mx2O at q
    split at q
    · rename_i ns ms e1 e2
      obtain ⟨v, w, rfl, k1, k2⟩ := two_of k
      have k1' := k1
      have k2' := k2
      obtain ⟨a, us, rfl, t1, r1⟩ := k1
      obtain ⟨b, ws, rfl, t2, r2⟩ := k2
      obtain rfl := asInts_eq e1
      obtain rfl := asInts_eq e2
      obtain rfl := r1.ints
      obtain rfl := r2.ints
      refine .inl (.inr ⟨a, b, ns, ms, rfl, t1, t2, f _ _ ?_⟩)
      split at q
      · rename_i hl
        rw [if_pos hl]
        exact .of (d := .tup _) k2' s .refl q
      · rename_i hl
        rw [if_neg hl]
        exact .of (d := .tup _) k1' s .refl q
    · exact q.elim
  · obtain ⟨v, rfl, kd⟩ := one_of k
    unfold mxLO at q
    split at q
    · rename_i es e1
      unfold mxTO at q
      split at q
      · rename_i n nss e2
        obtain ⟨a, us, rfl, t, r⟩ := kd.lst s e1
        refine .inr ⟨a, us, n, nss, rfl, t, asTups_rps e2 r, fun i v h1 h2 => ?_⟩
        obtain ⟨e, h3, h4⟩ := rps_atV r h1
        have h5 := asTups_at e2 h3 h2
        subst h5
        exact f _ _ (.of (d := .tup _) h4 s .refl q)
      · exact q.elim
    · exact q.elim
  · exact q.elim
theorem bc_maxT {X : Cx} {p pos : Pos} {e : Expr} {es : List Expr} {ts : TDA} (hc : X.calm = true) (hu : X.A.units + 64 < cLine) (hm : X.mg "max" = none) (ha : DA X (e :: es) ts) (hg : Gl X "max" := by rfl)
    (he : starEach (e :: es) X.env = (false, eval e X.env) :: starEach es X.env := by rfl) (hpl : (backTo pos (starEach es X.env)).any (·.1) = false := by rfl) : DE X (.Call (.Name "max" p) (e :: es) [] pos) (dCB rMaxT ts) :=
  de_cb (CallR.or (CallR.or (call_max3 hc) (call_max2T hc hu)) (call_maxTL hc hu)) (cd_maxT X.K) hm (by decide +kernel) ha hg (by decide) (by decide) he hpl
section
variable {G : HD} {Q : Post} {i j k : Int} {xs ys es : List D} {a : Addr} {ns ms : List Int}
theorem r_max3 : rMaxT [.int i, .int j, .int k] G Q = Q (.int (if j > i then (if k > j then k else j) else (if k > i then k else i))) G := propext ⟨fun h => h, fun h => h⟩
theorem r_max2T : rMaxT [.tup xs, .tup ys] G Q = mx2O (asInts xs) (asInts ys) G Q := propext ⟨fun h => h, fun h => h⟩
theorem r_maxTL : rMaxT [.kl es] G Q = mxLO (asL G (.kl es)) G Q := propext ⟨fun h => h, fun h => h⟩
end
end DL

namespace DL
open PySem PySem.Spec L2
open PyProof.Rows hiding St
/-! ### i, (j, k) as a target; zip of two lists; range with a step -/
def zipD (ds es : List D) : List D := (ds.zip es).map fun p => .tup [p.1, p.2]
def zipP (d e : D) (G : HD) (R : ItD → HD → Prop) : Prop := match d, e with
  | .kl ds, .kl es => R ⟨zipD ds es, fun _ => True⟩ G
  | _, _ => False
section
variable {W : DW} {σ : DSt} {G : HD} {ts : TDA} {R : ItD → HD → Prop} {ds es : List D} {i : Nat} {js : List Nat} {d : D} {k : DSt → Prop}
theorem q_putNest : (Tgt.nest i js).put (.tup [d, .tup ds]) σ k = (ds.length = js.length ∧ k (setAll js ds (σ.set i (some d)))) := propext ⟨fun h => h, fun h => h⟩
theorem r_zipP : zipP (.kl ds) (.kl es) G R = R ⟨zipD ds es, fun _ => True⟩ G := propext ⟨fun h => h, fun h => h⟩
end
end DL

namespace DL
open PySem PySem.Spec L2
open PyProof.Rows hiding St
/-! ### (x,) * n, n of any sign -/
theorem tmul_one (l : Addr) (items : Array Value) (n : Nat) (dd : Option Addr) (sl : Array (Option Value)) (u : Tok) :
    Meets (Builtin.«tuple.__mul__» ⟨[.ref l, .int 1 u], []⟩) (fun _ R s => s.heap.get? l = some { cls := .type "tuple", dict := dd, data := .seq items n, slots := sl } ∧ R (.ok (.ret (Value.ref l))) s) :=
  .of_wp fun prog w A R s h => by
    obtain ⟨hp, g, d, tk, os⟩ := s
    obtain ⟨hl, h⟩ := h
    have f1 := AutoSeq1.idx_int
    have c1 : (items.isEmpty || (1 : Int) == 1) = true := by rw [Bool.or_eq_true]; exact .inr rfl
    wp_walk using wpAny_loadPart' hl
    exact ⟨_, rfl, h⟩
theorem tmul_none (l : Addr) (items : Array Value) (n : Nat) (dd : Option Addr) (sl : Array (Option Value)) (x : Int) (u : Tok) (c0 : (decide (x < -(2 ^ 63)) || decide (x ≥ 2 ^ 63)) = false) (c1 : (items.isEmpty || x == 1) = false) (c2 : (decide (x ≤ 0) || items.isEmpty) = true) :
    Meets (Builtin.«tuple.__mul__» ⟨[.ref l, .int x u], []⟩) (fun _ R s => s.heap.get? l = some { cls := .type "tuple", dict := dd, data := .seq items n, slots := sl } ∧ R (.ok (.ret (Value.ref s.heap.objs.size))) { s with heap := s.heap.push { cls := Value.type "tuple", data := Data.seq #[] }, toks := s.toks }) :=
  .of_wp fun prog w A R s h => by
    obtain ⟨hp, g, d, tk, os⟩ := s
    obtain ⟨hl, h⟩ := h
    have f1 := AutoSeq1.idx_int
    wp_walk using wpAny_loadPart' hl
    repeat (first
      | (refine wpAny_ite_false (decide_eq_false (by
          rw [c0]; exact Bool.false_ne_true)) ?_
         wp_walk using wpAny_loadPart' hl)
      | (refine wpAny_ite_false (decide_eq_false (by
          rw [c1]; exact Bool.false_ne_true)) ?_
         wp_walk using wpAny_loadPart' hl)
      | (refine wpAny_ite_true (decide_eq_true c2) ?_
         wp_walk using wpAny_loadPart' hl))
    exact ⟨_, rfl, h⟩
def rRepU (K : PySem.W.Frag) : R2 := fun x y H Q => ∃ l k xs, x = .ref l ∧ y = .int k ∧ SqT K H l xs ∧ xs ≠ [] ∧ -1000 ≤ k ∧ k ≤ 1 ∧ (k = 1 → Q (.ref l) H) ∧ (k ≤ 0 → ∀ p, H p = none → Q (.ref p) (upd H p (.tup [])))
theorem op_repU {X : Cx} : OpR X (binaryOp .Mult) (rRepU X.K) := by
  intro pins s σ H x y v u Q I rx ry h
  obtain ⟨l, k, xs, rfl, rfl, hT, hne, h1, h2, q1, q0⟩ := h
  cases rx
  obtain ⟨t, rfl⟩ := ry
  obtain ⟨its, r, ⟨⟨cls, dd, data, sl⟩, ho, hc, n, hd⟩, hs⟩ := I.tuple hT
  have hc1 : cls = Value.type "tuple" := hc
  have hd1 : data = Data.seq its.toArray n := hd
  subst hc1 hd1
  have hi : its.toArray.isEmpty = false := by
    cases its with
    | nil => cases r; exact (hne rfl).elim
    | cons a b => rfl
  refine wpAny_binaryOp_repeat_ref (T := "tuple") (U := "int")
    (by decide) ⟨_, ho, rfl⟩ (fun s' => typeIs_int s' k t) noFill_tuple_mul F.fills_int_mul F.slot_int_rmul
    repeat_tuple F.slot_int_index.lookup
    (call_meets F.slot_int_rmul (typeIs_int s k t) F.entry_int_rmul
      (F.args_int_rmul_2 _ _) (int_rmul_tuple k t l its.toArray n dd sl) ⟨ho, rfl, ⟨_, ho, rfl⟩, ?_⟩)
  by_cases hk : k = 1
  · subst hk
    refine call_meets F.slot_tuple_mul ⟨_, ho, rfl⟩ F.entry_tuple_mul
      (F.args_tuple_mul_2 _ _) (tmul_one l its.toArray n dd sl t) ⟨ho, ?_⟩
    exact ⟨.ref l, H, I, rfl, q1 rfl⟩
  · have c0 : (decide (k < -(2 ^ 63)) || decide (k ≥ 2 ^ 63)) = false := by
      rw [decide_eq_false (by omega), decide_eq_false (by omega)]
      rfl
    have c1 : (its.toArray.isEmpty || k == 1) = false := by
      rw [hi, Bool.false_or]
      exact beq_eq_false_iff_ne.mpr hk
    have c2 : (decide (k ≤ 0) || its.toArray.isEmpty) = true := by
      rw [decide_eq_true (show k ≤ 0 by omega)]
      rfl
    refine call_meets F.slot_tuple_mul ⟨_, ho, rfl⟩ F.entry_tuple_mul
      (F.args_tuple_mul_2 _ _) (tmul_none l its.toArray n dd sl k t c0 c1 c2) ⟨ho, ?_⟩
    refine ⟨.ref s.heap.objs.size, _, I.laid (t' := s.toks) (o := .tup []) (fun b ob q => Heap.get?_push_of_some _ q) (Nat.le_refl _) ?_, rfl, q0 (by omega) _ (I.hok.fresh (Nat.le_refl _))⟩
    exact ⟨Nat.zero_le _, [], .nil, IsTup.new _ _⟩
def dRepT : D → D → HD → Post → Prop := fun d e G Q => match d, e with
  | .tup ds, .int k => -1000 ≤ k ∧ k ≤ 1000 ∧ ds ≠ [] ∧ ds.length ≤ 1000 ∧ Q (.tup (List.replicate k.toNat ds).flatten) G
  | _, _ => False
theorem od_repT (K : PySem.W.Frag) : OpD K (fun x y H Q => rRepT K x y H Q ∨ rRepU K x y H Q) dRepT := fun G H d e x y Q Q' s k1 k2 f q => by
  unfold dRepT at q
  split at q
  · rename_i ds k
    obtain ⟨a, vs, rfl, t1, r1⟩ := id k1
    cases k2
    obtain ⟨h0, h1, h2, h3, q⟩ := q
    have hv : vs ≠ [] := fun z => by
      subst z
      have := r1.length
      exact h2 (List.eq_nil_of_length_eq_zero this.symm)
    by_cases hk : 2 ≤ k
    · refine .inl ⟨a, k, vs, rfl, rfl, t1, hv, hk, h1, by rw [r1.length]; exact h3, fun p hp => ?_⟩
      have xt : Ext G H G (upd H p (.tup (List.replicate k.toNat vs).flatten)) := Ext.new hp (s.no hp)
      exact f _ _ (.of (d := .tup _) ⟨p, _, rfl, SqT.of upd_same, (rps_flat r1).ext s xt⟩ (s.newO hp) xt q)
    · refine .inr ⟨a, k, vs, rfl, rfl, t1, hv, h0, by omega, fun e1 => ?_, fun e0 p hp => ?_⟩
      · subst e1
        have e2 : (List.replicate (1 : Int).toNat ds).flatten = ds := by simp
        rw [e2] at q
        exact f _ _ (.of (d := .tup ds) k1 s .refl q)
      · have e2 : (List.replicate k.toNat ds).flatten = [] := by
          have : k.toNat = 0 := by omega
          rw [this]; rfl
        rw [e2] at q
        have xt : Ext G H G (upd H p (.tup [])) := Ext.new hp (s.no hp)
        exact f _ _ (.of (d := .tup []) ⟨p, [], rfl, SqT.of upd_same, rfl⟩ (s.newO hp) xt q)
  · exact q.elim
theorem de_repT {X : Cx} {a b : Expr} {ta tb : TD} {pos : Pos} (ha : DE X a ta) (hb : DE X b tb) : DE X (.BinOp a .Mult b pos) (dOp dRepT ta tb) := de_op (op_repT.or op_repU) (od_repT X.K) ha hb
section
variable {G : HD} {Q : Post} {ds : List D} {k : Int}
theorem r_repT : dRepT (.tup ds) (.int k) G Q = (-1000 ≤ k ∧ k ≤ 1000 ∧ ds ≠ [] ∧ ds.length ≤ 1000 ∧ Q (.tup (List.replicate k.toNat ds).flatten) G) := propext ⟨fun h => h, fun h => h⟩
end
end DL

namespace DL
open PySem PySem.Spec L2
open PyProof.Rows hiding St
/-! ### a method called with keywords, a keyword-only default left out, no other defaults -/
end DL

namespace DL
open PySem PySem.Spec L2
open PyProof.Rows hiding St
/-! ### name = {k: v for ..} on one line, the name a local -/
section
variable {X : Cx}
variable {kx vx tg iter : Expr} {ifs : List Expr} {scope : Scope} {own : List (Str × Nat)} {pos : Pos} {wi : TI} {ti : TDI} {t : Tgt} {g : TG} {dt : TDT} {tk te : TD}
end
end DL

namespace DL
open PySem PySem.Spec L2
open PyProof.Rows hiding St
/-! ### the looks of DL0 are facts; a law's end over such a head -/
end DL

namespace DN
open PySem PySem.Spec PyProof.Rows
section
variable {prog : Program} {w : World} {A : Around} {E : Value → Shared → Prop} {s : Shared} {I : Addr} {fp wr : List Addr} {G : Array GenState → Array GenState → Prop} {n : Nat} {P : Nat → Value → Prop} {St : Nat → Shared → Prop}
end
end DN
namespace DL
open PySem PySem.Spec L2
open PyProof.Rows hiding St
/-! ### x, *r = a list; the rest by value -/
def sStarK (i j : Nat) (te : TD) : TDS := fun W D σ G => te W σ G fun d G1 => match d with
  | .kl (x :: xs) => D.nx ((σ.set i (some x)).set j (some (.kl xs))) G1
  | _ => False
section
variable {G : HD} {i j : Nat} {te : TD} {W : DW} {D' : DEnds} {σ : DSt}
theorem q_starK : sStarK i j te W D' σ G = te W σ G fun d G1 => match d with | .kl (x :: xs) => D'.nx ((σ.set i (some x)).set j (some (.kl xs))) G1 | _ => False := rfl
end
end DL

namespace DN
open PySem PySem.Spec PyProof.Rows Srt SrtO
section
variable {prog : Program} {w : World} {A : Around} {E : Value → Shared → Prop} {s : Shared}
/-! ### sorted of texts, and of pairs by a text -/
abbrev ltS (x y : Str) : Bool := decide (x.cps.toList < y.cps.toList)
def IsSP (h : Heap) (v : Value) (x : Str) : Prop := ∃ a o t y n, v = .ref a ∧ h.get? a = some o ∧ o.cls = .type "tuple" ∧ o.data = .seq #[.str x t, y] n
theorem IsSP.keeps {h h' : Heap} {v : Value} {x : Str} (p : IsSP h v x) (k : ∀ b o, h.get? b = some o → o.cls = .type "tuple" → h'.get? b = some o) : IsSP h' v x := by
  obtain ⟨a, o, t, y, n, e, ho, hc, hd⟩ := p
  exact ⟨a, o, t, y, n, e, k _ _ ho hc, hc, hd⟩
end
end DN

namespace DL
open PySem PySem.Spec L2
open PyProof.Rows hiding St
/-! ### sorted of texts, and of pairs by their texts -/
/-! by contents -/
section
variable {G : HD} {Q : Post} {es : List D} {xs : List Str} {ps : List (Str × D)}
theorem asStrs_map : ∀ xs : List Str, asStrs (xs.map D.str) = some xs
  | [] => rfl
  | x :: xs => by simp only [List.map_cons, asStrs, asStrs_map xs]; rfl
end
end DL

namespace DL
open PySem PySem.Spec L2
open PyProof.Rows hiding St
/-! ### x in (a, b), things without parts -/
end DL

namespace DL
open PySem PySem.Spec L2
open PyProof.Rows hiding St
/-! ### t[:0:-1], a tuple -/
section
variable {prog : Program} {w : World} {A : Around} {E : Value → Shared → Prop} {s : Shared} {t sl : Addr} {items : Array Value} {vl vu vs : Value} {n : Nat}
end
/-- t[:0:-1] by value -/
def rev0T : D → HD → Post → Prop := fun d G Q => match d with
  | .tup xs => 1 ≤ xs.length ∧ Q (.tup (xs.drop 1).reverse) G
  | _ => False
def dRev0 (te : TD) : TD := fun W σ G Q => te W σ G fun d G1 => rev0T d G1 Q
/-! ### xs.pop(i), a list on the heap -/
def popLO (o : Option MO) (a : Addr) (i : Int) (G : HD) (Q : Post) : Prop := match o with
  | some (.lst xs) => 0 ≤ i ∧ i < xs.length ∧ i < 2 ^ 62 ∧ ∃ d, xs[i.toNat]? = some d ∧ Q d (put G a (.lst (xs.eraseIdx i.toNat)))
  | _ => False
def popLP (o d : D) (G : HD) (Q : Post) : Prop := match o, d with
  | .ref a, .int i => popLO (G a) a i G Q
  | _, _ => False
def dPopL (to : TD) (ts : TDA) : TD := fun W σ G Q => to W σ G fun o G1 => lstP o G1 (ts W σ G1 fun ds G2 => match ds with
  | [d] => popLP o d G2 Q
  | _ => False)
/-! ### {k: v}, a key that is a number -/
def dispI (p : Addr) (k d : D) (G : HD) (Q : Post) : Prop := match k with
  | .int i => G p = some (.dK []) ∧ Q (.ref p) (put G p (.dK [(.inl i, d)]))
  | _ => False
def dDispI (tk tv : TD) : TD := fun W σ G Q => ∀ p, G p = none → tk W σ (put G p (.dK [])) fun k G1 => tv W σ G1 fun d G2 => dispI p k d G2 Q
section
variable {G : HD} {Q : Post} {W : DW} {σ : DSt} {te tk tv to : TD} {ts : TDA} {xs : List D} {a : Addr} {i : Int} {d : D} {p : Addr}
theorem q_rev0 : dRev0 te W σ G Q = te W σ G fun d G1 => rev0T d G1 Q := propext ⟨fun h => h, fun h => h⟩
theorem r_rev0T : rev0T (.tup xs) G Q = (1 ≤ xs.length ∧ Q (.tup (xs.drop 1).reverse) G) := propext ⟨fun h => h, fun h => h⟩
theorem q_popL : dPopL to ts W σ G Q = to W σ G fun o G1 => lstP o G1 (ts W σ G1 fun ds G2 => match ds with
  | [d] => popLP o d G2 Q
  | _ => False) := propext ⟨fun h => h, fun h => h⟩
theorem r_popLP : popLP (.ref a) (.int i) G Q = popLO (G a) a i G Q := propext ⟨fun h => h, fun h => h⟩
theorem r_popLO : popLO (some (.lst xs)) a i G Q = (0 ≤ i ∧ i < xs.length ∧ i < 2 ^ 62 ∧ ∃ d, xs[i.toNat]? = some d ∧ Q d (put G a (.lst (xs.eraseIdx i.toNat)))) := propext ⟨fun h => h, fun h => h⟩
theorem q_dispI : dDispI tk tv W σ G Q = ∀ p, G p = none → tk W σ (put G p (.dK [])) fun k G1 => tv W σ G1 fun d G2 => dispI p k d G2 Q := propext ⟨fun h => h, fun h => h⟩
theorem r_dispI : dispI p (.int i) d G Q = (G p = some (.dK []) ∧ Q (.ref p) (put G p (.dK [(.inl i, d)]))) := propext ⟨fun h => h, fun h => h⟩
end
end DL

namespace DL
open PySem PySem.Spec L2
open PyProof.Rows hiding St
/-! ### dicts by tuples of keys -/
section
variable {K : PySem.W.Frag} {H : Hp} {k : List Key}
end
section
variable {X : Cx} {o : Expr} {es : List Expr} {td : TD} {ta : TDA} {pos p1 : Pos}
end
/-! ### a dict by tuples that stands still; its keys gone through -/
section
variable {K : PySem.W.Frag} {G G' : HD} {H H' : Hp} {d : Addr} {ob : Obj} {m : List (List Key × V)} {l : List (List Key × D)}
end
end DL

namespace DL
open PySem PySem.Spec L2
open PyProof.Rows hiding St
/-! ### d.items() of a dict by tuples that stands still -/
end DL

namespace DL
open PySem PySem.Spec L2
open PyProof.Rows hiding St
/-! ### a comprehension's d[k] = v, k a tuple -/
end DL

namespace DL
open PySem PySem.Spec L2
open PyProof.Rows hiding St
/-! ### {k: v for x in a for y in b}: the two loops -/
section
variable {prog : Program} {w : World} {A : Around} {R : Result → Shared → Prop} {s : Shared} {kx vx t0 i0 t1 i1 : Expr} {ifs0 ifs1 : List Expr} {scope : Scope} {pos : Pos} {it : Value} {D : Addr} {env : Env}
end
end DL


/-! a lambda made, with all that is kept told -/
namespace LamY
open PySem PySem.Spec PyProof.Rows L2 LamX
section
variable {X : Cx} {pins : List (Addr × Obj)} {σ : L2.St} {H : Hp} {s : Shared}
theorem lam_make3 {c P : Addr} {params : Arguments} {body : Expr} {scope : Scope} {pos : Pos} {E : Value → Shared → Prop} {Q : Value → Shared → Prop} (I : Inv X pins σ H s) (TB : TabB X.base X.mg c P) (hcode : X.env.code = .ref c)
    (hT : TabS H P (X.env.qual ++ "<lambda>")) (hdef : defaultsOf params X.env = ([], [])) (hfree : ∀ y ∈ scope.names, y.2 = .free → ∃ c, X.env.cells.lookup y.1 = some c)
    (h : ∀ (f c' : Addr) (pm ctv : Value) (H1 : Hp) (s' : Shared), Inv X pins σ H1 s' → (∀ b o, b ≠ P → H b = some o → H1 b = some o) → TabS H1 P (X.env.qual ++ "<lambda>") →
      s'.heap.get? f = some (PySem.W.kla_obj "<lambda>" (X.env.qual ++ "<lambda>") params body scope (cloFrom X.env.cells scope.names []) pm c' ctv) → H1 f = none → f ∉ frs X.stack → H1 c' = some (CodeO c' (X.env.qual ++ "<lambda>")) → Q (.ref f) s') :
    wpAny (model X.prog X.w) X.A (eval (.Lambda params body scope pos) X.env) Q E s := by
  obtain ⟨ps, hP, ht, ha⟩ := hT
  refine PySem.W.kla_eval hdef ?_
  have bP : s.heap.BuiltinsAt X.mg P := TB.bm.keeps I.bk
  have hP' : s.heap.get? P = some { cls := .none, data := .fields ps } := I.hok P _ hP
  have nofr : ∀ f, s.heap.objs.size ≤ f → f ∉ frs X.stack := fun f hf z => by
    rcases List.mem_cons.mp (I.stkSub _ z) with e | e
    · have h1 := I.lt
      rw [← e] at h1
      exact Nat.lt_irrefl _ (Nat.lt_of_lt_of_le h1 hf)
    · exact I.nofs hf e
  cases hc : codeAmong pos ps.toList with
  | none =>
    refine PySem.W.kla_makeFunction (mg := X.mg) (c := c) (P := P) (ps := ps) (closure_ok hfree) I.ok.glob (I.mod.glob.keeps I.bk) hcode (TB.code.keeps I.bk) hP' ht hc TB.gP bP fun c' ctv h' tk hx hge hlt hrec htb => ?_
    obtain ⟨c2, oc, vs, t, e2, hoc, hd, hv⟩ := hrec
    cases e2
    have hsz : s.heap.objs.size ≤ h'.objs.size := Nat.le_trans hge (Nat.le_of_lt hlt)
    have nC : H c' = none := I.hok.fresh hge
    have I1 := inv_table (t' := tk) (more := #[rawInt pos.line, rawInt pos.col, .ref c']) (h' := h'.push (PySem.W.kla_obj "<lambda>" (X.env.qual ++ "<lambda>") params body scope (cloFrom X.env.cells scope.names []) ((X.mg "__name__").getD .none) c' ctv)) I hP
      (fun b o hb e => Heap.get?_push_of_some _ (hx b o hb e)) (Heap.get?_push_of_some _ htb) hge ⟨oc, vs, t, Heap.get?_push_of_some _ hoc, hd, hv⟩
    have hE : ∀ b o, b ≠ P → H b = some o → upd (upd H P (.tbl (ps ++ #[rawInt pos.line, rawInt pos.col, .ref c']))) c' (CodeO c' (X.env.qual ++ "<lambda>")) b = some o := fun b o n e => by
      rw [upd_ne (ne_of_none e nC), upd_ne n]
      exact e
    have eL : (ps ++ #[rawInt pos.line, rawInt pos.col, .ref c']).toList = ps.toList ++ [rawInt pos.line, rawInt pos.col, .ref c'] := by simp
    refine h h'.objs.size c' ((X.mg "__name__").getD .none) ctv _ _ I1 hE ?_ (Heap.get?_push_size _ rfl) ?_ (nofr _ hsz) upd_same
    · refine ⟨_, by rw [upd_ne (ne_of_none hP nC), upd_same], by rw [eL]; exact PySem.TriplesOk_snoc _ _ _ _ ht, fun p' cv hcv => ?_⟩
      rw [eL] at hcv
      rcases among_app _ ht hcv with z | z
      · obtain ⟨c0, e1, e2⟩ := ha p' cv z
        exact ⟨c0, e1, hE _ _ (fun z => by rw [z, hP] at e2; exact codeO_ne _ (Option.some.inj e2).symm) e2⟩
      · exact ⟨c', z, upd_same⟩
    · have n1 : h'.objs.size ≠ c' := Nat.ne_of_gt hlt
      have n2 : h'.objs.size ≠ P := Nat.ne_of_gt (Nat.lt_of_lt_of_le (Heap.lt_size hP') hsz)
      rw [upd_ne n1, upd_ne n2]
      exact I.hok.fresh hsz
  | some cv =>
    obtain ⟨c', e, hco⟩ := ha pos cv hc
    subst e
    refine PySem.W.kla_makeFunctionHit (mg := X.mg) (c := c) (P := P) (ps := ps) (closure_ok hfree) I.ok.glob (I.mod.glob.keeps I.bk) hcode (TB.code.keeps I.bk) hP' ht hc bP fun ctv h' tk hx hsz => ?_
    have I1 : Inv X pins σ H { s with heap := h'.push (PySem.W.kla_obj "<lambda>" (X.env.qual ++ "<lambda>") params body scope (cloFrom X.env.cells scope.names []) ((X.mg "__name__").getD .none) c' ctv), toks := tk } := I.kept fun b o e => Heap.get?_push_of_some _ (hx b o e)
    exact h h'.objs.size c' ((X.mg "__name__").getD .none) ctv H _ I1 (fun _ _ _ e => e) ⟨ps, hP, ht, ha⟩ (Heap.get?_push_size _ rfl) (I.hok.fresh hsz) (nofr _ hsz) hco
/-- the base with a function that was made, and the cell it reads -/
def only (p : Addr → Bool) : Hp := fun b => if p b = true then none else some (.tup [])
theorem base_in {h : Heap} {p : Addr → Bool} {b : Addr} {o : Obj} (e : h.get? b = some o) (hp : p b = true) : (hidT h (only p)).get? b = some o := hidT_get e (if_pos hp)
theorem of_base {h : Heap} {p : Addr → Bool} {b : Addr} {o : Obj} (e : (hidT h (only p)).get? b = some o) : h.get? b = some o ∧ p b = true := by
  obtain ⟨h1, h2⟩ := of_hidT e
  refine ⟨h1, ?_⟩
  unfold only at h2
  split at h2
  · assumption
  · cases h2
def lamP (base : Heap) (f cl : Addr) : Addr → Bool := fun b => (base.get? b).isSome || decide (b = f) || decide (b = cl)
theorem funs_base {h base base' : Heap} : ∀ {l : List Env}, (∀ L ∈ frs l, base.get? L = none → base'.get? L = none) → h.FunFrames base l → h.FunFrames base' l
  | [], _, _ => trivial
  | env :: r, hb, ⟨hk, ⟨L, o, hf, hn, ho, hd⟩, hr⟩ => by
    have sub : ∀ x ∈ frs r, x ∈ frs (env :: r) := fun x hx => by
      unfold frs at hx ⊢
      rw [List.filterMap_cons, hf]
      exact List.mem_cons_of_mem _ hx
    exact ⟨hk, ⟨L, o, hf, hb L (by unfold frs; rw [List.filterMap_cons, hf]; exact List.mem_cons_self) hn, ho, hd⟩, funs_base (fun x hx => hb x (sub x hx)) hr⟩
theorem frs_lt {h base : Heap} : ∀ {l : List Env}, h.FunFrames base l → ∀ L ∈ frs l, L < h.objs.size
  | [], _, L, hL => by cases hL
  | env :: r, ⟨hk, ⟨L0, o, hf, hn, ho, hd⟩, hr⟩, L, hL => by
    unfold frs at hL
    rw [List.filterMap_cons, hf] at hL
    rcases List.mem_cons.mp hL with rfl | hL
    · exact Heap.lt_size ho
    · exact frs_lt hr L hL
theorem env_lam (I : Inv X pins σ H s) {f cl : Addr} {y : Str} {fo : Obj} {u : Value} (hf : s.heap.get? f = some fo) (hn : H f = none) (hfr : f ∉ frs X.stack) (hfn : X.fn y = true) (hy : X.env.cells.lookup y = some cl) (hu : s.heap.IsCell cl (some u)) :
    ∃ base : Heap, Env0 X.prog X.w X.K X.mg base X.A X.stack s H ∧ X.K.In base ∧ base.Ns mainGlobals X.mg ∧ base.get? f = some fo ∧ base.IsCell cl (some u) ∧ ∀ b o, X.base.get? b = some o → base.get? b = some o := by
  have up : ∀ b o, X.base.get? b = some o → (hidT s.heap (only (lamP X.base f cl))).get? b = some o := fun b o e => base_in (I.bk b o e) (by unfold lamP; rw [e]; rfl)
  have e0 := I.env0
  have hcl : cl ∉ frs X.stack := fun z => by
    rcases List.mem_cons.mp (I.stkSub _ z) with e | e
    · obtain ⟨m, ⟨o, es, ep, ho, hd, _⟩, _⟩ := I.loc
      obtain ⟨o2, ho2, hd2⟩ := hu
      rw [e, ho] at ho2
      cases ho2
      rw [hd] at hd2; cases hd2
    · have h1 := frs_lt I.ok.funs _ e
      have h2 := I.ok.cab y cl hfn hy
      exact absurd h1 (Nat.not_lt.mpr h2)
  refine ⟨hidT s.heap (only (lamP X.base f cl)), ⟨e0.frames, ⟨e0.mod.kin.keeps up, e0.mod.glob.keeps up, ?_, e0.mod.nolimit.keeps up⟩, fun b o e => ?_, Nat.le_of_eq (hidT_size _ _), ?_, e0.frf, e0.hok, e0.bare⟩, e0.mod.kin.keeps up, e0.mod.glob.keeps up, base_in hf (by unfold lamP; simp), ?_, up⟩
  · obtain ⟨mb, h1, h2⟩ := e0.mod.blt
    exact ⟨mb, h1.keeps up, h2⟩
  · obtain ⟨h1, h2⟩ := of_base e
    refine ⟨h1, ?_⟩
    unfold lamP at h2
    simp only [Bool.or_eq_true, decide_eq_true_eq] at h2
    rcases h2 with (h2 | rfl) | rfl
    · obtain ⟨o2, ho2⟩ := Option.isSome_iff_exists.mp h2
      exact (I.bs b o2 ho2).2
    · exact hn
    · exact I.freeC y _ hy
  · refine funs_base (fun L hL hn => ?_) e0.funs
    cases q : (hidT s.heap (only (lamP X.base f cl))).get? L with
    | none => rfl
    | some o =>
      obtain ⟨h1, h2⟩ := of_base q
      unfold lamP at h2
      simp only [Bool.or_eq_true, decide_eq_true_eq] at h2
      rcases h2 with (h2 | rfl) | rfl
      · rw [hn] at h2; cases h2
      · exact absurd hL hfr
      · exact absurd hL hcl
  · obtain ⟨o, ho, hd⟩ := hu
    exact ⟨o, base_in ho (by unfold lamP; simp), hd⟩
end
end LamY

/-! a lambda of one parameter, that reads one name of its maker: called -/
namespace LamY
open PySem PySem.Spec PyProof.Rows L2 LamX
/-- a is its parameter, y what it reads of the maker -/
structure Lam1 (scope : Scope) (a y : Str) : Prop where
  kind : scope.kind = .function
  co : scope.isCoroutine = false
  gen : scope.isGenerator = false
  nocell : ∀ z ∈ scope.names, z.2 ≠ .cell
  loc : scope.names.lookup a = some .local
  oloc : ∀ x, scope.names.lookup x = some .local → x = a
  ofree : ∀ x, scope.names.lookup x = some .free → x = y
abbrev lamEnv1 (q : Str) (scope : Scope) (L f c' : Addr) (clos : List (Str × Addr)) : Env := PySem.W.envX q scope L f (.ref c') clos
def lamCx1 (X : Cx) (A : Around) (outer : List Env) (s : Shared) (H : Hp) (E : XK) (q : Str) (scope : Scope) (f c' : Addr) (clos : List (Str × Addr)) (N : List Str) : Cx where
  prog := X.prog
  w := X.w
  K := X.K
  mg := X.mg
  base := X.base
  A := A.deeper (lamEnv1 q scope s.heap.objs.size f c' clos)
  N := N
  s_0 := s
  H_0 := H
  env := lamEnv1 q scope s.heap.objs.size f c' clos
  outer := outer
  stack := lamEnv1 q scope s.heap.objs.size f c' clos :: outer
  ex := []
  fn := fun _ => false
  calm := true
  pn := []
  xe := fun e s' => wpAny (model X.prog X.w) (A.deeper (lamEnv1 q scope s.heap.objs.size f c' clos)) (leaving (lamEnv1 q scope s.heap.objs.size f c' clos) e) (fun _ s'' => L2.CX X.prog X.w outer H s E e s'') (fun e' s'' => L2.CX X.prog X.w outer H s E e' s'') s'
section
variable {X : Cx} {H : Hp} {s s1 : Shared}
theorem lam_start1 {A : Around} {outer : List Env} {E : XK} {q : Str} {scope : Scope} {f c' cl : Addr} {a y : Str} {h₁ : Heap} {tk : Nat} {ua uc : Value} {va vc : V} (L : Lam1 scope a y) (hay : a ≠ y) (hyn : scope.names.lookup y = some .free) (e0 : Env0 X.prog X.w X.K X.mg X.base A outer s1 H) (hd : A.handled = none)
    (hcell : X.base.IsCell cl (some uc)) (rc : RelV vc uc) (ra : RelV va ua) (hns : h₁.Ns s1.heap.objs.size fun z => ([(a, ua)] : List (Str × Value)).reverse.lookup z) (kp : ∀ b o, s1.heap.get? b = some o → h₁.get? b = some o) :
    Inv (lamCx1 X A outer s1 H E q scope f c' [(y, cl)] [a, y]) [] [some va, some vc] H { s1 with heap := h₁, toks := tk } := by
  have ck : h₁.IsCell cl (some uc) := by
    obtain ⟨o, ho, hd⟩ := hcell
    exact ⟨o, kp _ _ (e0.bs _ _ ho).1, hd⟩
  have cn : H cl = none := by
    obtain ⟨o, ho, hd⟩ := hcell
    exact (e0.bs _ _ ho).2
  have at_ : ∀ {z c}, (([(y, cl)] : List (Str × Addr)).lookup z) = some c → z = y ∧ c = cl := fun {z c} e => by
    rw [List.lookup_cons] at e
    split at e
    · rename_i h; cases e; exact ⟨by simpa using h, rfl⟩
    · cases e
  have noA : ∀ b : Addr, b ∉ (lamCx1 X A outer s1 H E q scope f c' [(y, cl)] [a, y]).ex := fun b z => absurd (show b ∈ ([] : List Addr) from z) (by simp)
  refine ⟨⟨e0.mod, L.kind, rfl, rfl, Nat.le_refl _, fun x z c e1 e2 => (at_ e1).1.trans (at_ e2).1.symm, fun x hx => ?_, fun x c z _ => ?_, fun _ => hd, Around.frames_deeper e0.frames, .inr ⟨rfl, rfl⟩, fun b z => absurd z (noA b), e0.bs, e0.bsz, fun b _ _ => noA b,
      fun b z => absurd z (noA b), e0.funs, e0.frf⟩,
    rfl, e0.bare, Un.kept kp, ⟨_, hns, fun i x v e1 e2 e3 => ?_⟩, fun x c e => ?_, e0.hok.fresh (Nat.le_refl _), fun x c e => ?_, fun q hq => absurd (show q ∈ ([] : List (Addr × Obj)) ++ [] from hq) (by simp), e0.hok.kept kp, rfl⟩
  · have hx : scope.names.lookup x = some .cell ∨ scope.names.lookup x = some .free := hx
    rcases hx with hx | hx
    · exact absurd rfl (L.nocell _ (PySem.mem_of_lookup hx))
    · obtain rfl := L.ofree _ hx
      exact ⟨cl, by show ([(_, cl)] : List (Str × Addr)).lookup _ = _; rw [List.lookup_cons, beq_self_eq_true]⟩
  · have z : false = true := z
    cases z
  · have e1 : ([a, y] : List Str)[i]? = some x := e1
    have e2 : ([some va, some vc] : List (Option V))[i]? = some (some v) := e2
    have e3 : Vis scope x := e3
    match i, e1, e2 with
    | 0, e1, e2 =>
      cases e1; cases e2
      refine ⟨ua, ra, .inl ⟨L.loc, ?_⟩⟩
      show ([(a, ua)] : List (Str × Value)).reverse.lookup a = some ua
      rw [List.reverse_singleton, List.lookup_cons, beq_self_eq_true]
    | 1, e1, e2 =>
      cases e1; cases e2
      exact ⟨uc, rc, .inr ⟨.inr hyn, cl, by show ([(y, cl)] : List (Str × Addr)).lookup y = _; rw [List.lookup_cons, beq_self_eq_true], ck⟩⟩
    | n + 2, e1, e2 => cases e1
  · obtain ⟨rfl, rfl⟩ := at_ e
    exact ⟨_, ck⟩
  · obtain ⟨rfl, rfl⟩ := at_ e
    exact cn
end
end LamY

/-! a name that holds such a lambda, called -/
namespace DL
open PySem PySem.Spec L2 LamX LamY
open PyProof.Rows hiding St
/-- a lambda as the def sees it that it was handed to -/
structure LamV where
  f : Addr
  c : Addr
  q : Str
  u : V
/-- what it is, in the base -/
structure LamB (base : Heap) (v : LamV) (params : Arguments) (body : Expr) (scope : Scope) (y : Str) : Prop where
  ex : ∃ (cl : Addr) (pm ctv uc : Value), base.get? v.f = some (PySem.W.kla_obj "<lambda>" v.q params body scope [(y, cl)] pm v.c ctv) ∧ base.IsCell cl (some uc) ∧ RelV v.u uc
def argP (ds : List D) (k : D → Prop) : Prop := match ds with
  | [d] => k d
  | _ => False
def fnP (v : LamV) (o : Option (Option D)) (k : D → Prop) : Prop := match o with
  | some (some (.fn f c q u dc)) => (f = v.f ∧ c = v.c ∧ q = v.q ∧ u = v.u) ∧ k dc
  | _ => False
theorem fnP_of {v : LamV} {o : Option (Option D)} {k : D → Prop} (h : fnP v o k) : ∃ dc, o = some (some (.fn v.f v.c v.q v.u dc)) ∧ k dc := by
  unfold fnP at h
  split at h
  · obtain ⟨⟨rfl, rfl, rfl, rfl⟩, h⟩ := h
    exact ⟨_, rfl, h⟩
  · exact h.elim
theorem argP_of {ds : List D} {k : D → Prop} (h : argP ds k) : ∃ d, ds = [d] ∧ k d := by
  unfold argP at h
  split at h
  · exact ⟨_, rfl, h⟩
  · exact h.elim
def dAct (v : LamV) (tb : TD) (i : Nat) (ts : TDA) : TD := fun W σ G Q => fnP v σ[i]? fun dc => ts W σ G fun ds G1 => argP ds fun d => tb W0 [some d, some dc] G1 Q
theorem de_act {X : Cx} {k i : Nat} {v : LamV} {params : Arguments} {body : Expr} {scope : Scope} {a y x : Str} {e : Expr} {ts : TDA} {tb : TD} {p pos : Pos} (hB : LamB X.base v params body scope y) (L : Lam1 scope a y) (hay : a ≠ y) (hyn : scope.names.lookup y = some .free)
    (hbind : ∀ (cl : List (Str × Addr)) (pm cv ctv u : Value), bindArgs (PySem.W.kla_fn "<lambda>" v.q params body scope cl pm cv ctv) ⟨[u], []⟩ = pure [(a, u)]) (hr : RoomG (k + 1) X.A)
    (hbody : ∀ (A : Around) (outer : List Env) (s : Shared) (H : Hp) (E : XK) (cl : Addr), RoomG k (A.deeper (lamEnv1 v.q scope s.heap.objs.size v.f v.c [(y, cl)])) → DE (lamCx1 X A outer s H E v.q scope v.f v.c [(y, cl)] [a, y]) body tb)
    (ha : DA X [e] ts) (hN : X.N[i]? = some x := by rfl) (hv : Vis X.env.scope x := by first | exact Or.inl rfl | exact Or.inr (Or.inl rfl) | exact Or.inr (Or.inr rfl))
    (hdb : (x == ("__debug__" : Str)) = false := by decide) (hcd : (x == ("__classdict__" : Str)) = false := by decide)
    (he : starEach [e] X.env = (false, eval e X.env) :: starEach [] X.env := by rfl) (hpl : (backTo pos (starEach [] X.env)).any (·.1) = false := by rfl) :
    DE X (.Call (.Name x p) [e] [] pos) (dAct v tb i ts) := ⟨fun G H σ τ W Q r q pins s I => by
  obtain ⟨dc, hs, q⟩ := fnP_of q
  obtain ⟨cl, pm, ctv, uc, hf, hcell, rc⟩ := hB.ex
  have d0 : DE X (.Name x p) (dVar i) := de_var (pe_var hN hv hdb hcd)
  have q0 : dVar i W σ G fun d G1 => d = .fn v.f v.c v.q v.u dc ∧ ts W σ G1 fun ds G2 => argP ds fun d => tb W0 [some d, some dc] G2 Q := by
    rw [r_var, hs, r_varS]
    exact ⟨rfl, q⟩
  refine wpAny_Call_Name_kw (thn ((d0.run G H σ τ W _ r q0) pins s I) fun u0 s1 ⟨vf, H1, I1, rx, d, G1, k1, sm1, x1, ed, q1⟩ => ?_)
  subst ed
  obtain ⟨rfl, hc1, kc1⟩ := k1
  obtain rfl : u0 = Value.ref v.f := rx
  have r1 := r.ext sm1 x1
  refine PySem.W.callWith_F ⟨_, _, _, _, I1.bk _ _ hf⟩ (thn ((ha.run G1 H1 σ τ W _ r1 q1) pos pins s1 I1) fun us s2 ⟨vs, H2, I2, rv, es', G2, k2, sm2, x2, q2⟩ => ⟨⟨_, _, _, _, I2.bk _ _ hf⟩, ?_⟩) he hpl
  obtain ⟨d, rfl, q2⟩ := argP_of q2
  obtain ⟨va, t, rfl, ka, kt⟩ := k2
  cases kt
  obtain ⟨ua, rfl, ra⟩ := vals1 rv
  have of2 : s2.heap.get? v.f = some _ := I2.bk _ _ hf
  have hc2 : H2 v.c = some (CodeO v.c v.q) := (x2 v.c _ (sm1.extN hc1) hc1).1
  have kc2 : Rp X.K H2 dc v.u := kc1.ext sm1 x2 _ _
  obtain ⟨⟨oc, vs, tt, hoc, hdc, hvc⟩, _, _⟩ := I2.hok v.c _ hc2
  have rc2 : codeAny (model X.prog X.w) X.A (.call (.ref v.f) ⟨[ua], []⟩) (CR (L2.CX X.prog X.w) X.stack X.prog X.w H2 s2 (liftQ X.K G H Q) fun _ _ _ => False) s2 := by
    refine PySem.W.kla_callFunE hr.depth of2 rfl L.co L.gen rfl ⟨v.c, oc, vs, tt, rfl, hoc, hdc, hvc⟩ ?_
    rw [hbind]
    refine wpAny_pure (wpAny_newFunctionEnv (fun z hz => L.nocell z hz) (fun z hz => ?_) (fun h₁ hns hsb => ⟨I2.nolimit.fresh _ hsb, ?_⟩) L.kind)
    · rw [List.mem_singleton.mp hz]
      exact L.loc
    show codeAny _ _ (.expr body (lamEnv1 v.q scope s2.heap.objs.size v.f v.c [(y, cl)])) _ _
    have kp : ∀ b o, s2.heap.get? b = some o → h₁.get? b = some o := fun b o e => hsb.extBut b o (Nat.ne_of_lt (Heap.lt_size e)) (Heap.get?_push_of_some _ e)
    have J : Inv (lamCx1 X X.A X.stack s2 H2 (fun _ _ _ => False) v.q scope v.f v.c [(y, cl)] [a, y]) [] [some va, some v.u] H2 { s2 with heap := h₁, toks := s2.toks + ([(a, ua)] : List (Str × Value)).length } :=
      lam_start1 L hay hyn I2.env0 hr.hd hcell rc ra hns kp
    have rr : SR (lamCx1 X X.A X.stack s2 H2 (fun _ _ _ => False) v.q scope v.f v.c [(y, cl)] [a, y]) G2 H2 [some d, some dc] [some va, some v.u] W0 := ⟨sm2, ?_, takes_w0⟩
    · refine PySem.W.kla_codeExpr (wpAny_mono (((hbody X.A X.stack s2 H2 (fun _ _ _ => False) cl (hr.deeper _)).run G2 H2 _ _ W0 Q rr q2) [] _ J) (fun u s' hq => ?_) fun e s' hq => hq)
      obtain ⟨w', H', J', rv', lq⟩ := hq
      exact ⟨w', H', J'.os, J'.bare, J'.base, J'.hok, rv', lq.up (x1.trans x2)⟩
    · exact ⟨_, _, rfl, fun d' e => by cases e; exact ⟨va, rfl, ka⟩, _, _, rfl, fun d' e => by cases e; exact ⟨v.u, rfl, kc2⟩, rfl⟩
  refine wpAny_call (codeAny_mono rc2 fun z s' hq => ?_)
  cases z with
  | error e => exact passes_call L2.takes0 (fun _ _ _ _ z => z) pins τ H2 s2 e s' I2 hq
  | ok fl =>
    cases fl with
    | ret u => exact I2.after hq
    | next => exact False.elim hq
    | brk => exact False.elim hq
    | cont => exact False.elim hq⟩
end DL

/-! a def called with two things and such a lambda -/
namespace DL
open PySem PySem.Spec L2 LamX LamY
open PyProof.Rows hiding St
def tabP (P : Addr) (q : Str) (j : Nat) (G : HD) (σ : DSt) (k : D → Prop) : Prop := G P = some (.tab q) ∧ match σ[j]? with
  | some (some dc) => k dc
  | _ => False
def dCallLam (P : Addr) (q : Str) (j : Nat) (sp : LamV → SpD) (t1 t2 : TD) : TD := fun W σ G Q => t1 W σ G fun d1 G1 => t2 W σ G1 fun d2 G2 => tabP P q j G2 σ fun dc => ∀ v : LamV, v.q = q → sp v [d1, d2, .fn v.f v.c v.q v.u dc] G2 Q fun c fs G' => W c fs σ G'
theorem de_callLam {X : Cx} {P g c : Addr} {q : Str} {j k : Nat} {fd : FuncData} {ps : List Str} {sp : LamV → SpD} {t1 t2 : TD} {x y : Str} {e1 e2 body : Expr} {params : Arguments} {scope : Scope} {lpos p pos : Pos} (hq : q = X.env.qual ++ "<lambda>")
    (hF : ∀ (base : Heap) (v : LamV), v.q = q → LamB base v params body scope y → X.K.In base → base.Ns mainGlobals X.mg → (∀ b o, X.base.get? b = some o → base.get? b = some o) → FnK X.prog X.w X.K X.mg base k g fd ps (sp v)) (hl : ps.length = 3)
    (hr : RoomG k X.A) (hm : X.mg x = some (.ref g)) (hk : PySem.W.keepIn X.K (.ref g) = true) (hb : Binds X.K fd ps [])
    (TB : TabB X.base X.mg c P) (hcode : X.env.code = .ref c) (hdef : defaultsOf params X.env = ([], [])) (hy : X.env.scope.names.lookup y = some .cell) (hfn : X.fn y = true) (hone : ∀ z ∈ scope.names, z.2 = .free → z.1 = y)
    (hclo : ∀ cl, X.env.cells.lookup y = some cl → cloFrom X.env.cells scope.names [] = [(y, cl)]) (h1 : DE X e1 t1) (h2 : DE X e2 t2) (hN : X.N[j]? = some y := by rfl)
    (hg : Gl X x := by rfl) (hdb : (x == ("__debug__" : Str)) = false := by decide)
    (he1 : starEach [e1, e2, .Lambda params body scope lpos] X.env = (false, eval e1 X.env) :: starEach [e2, .Lambda params body scope lpos] X.env := by rfl) (he2 : starEach [e2, .Lambda params body scope lpos] X.env = (false, eval e2 X.env) :: starEach [.Lambda params body scope lpos] X.env := by rfl) :
    DE X (.Call (.Name x p) [e1, e2, .Lambda params body scope lpos] [] pos) (dCallLam P q j sp t1 t2) := ⟨fun G H σ τ W Q r q0 pins s I => by
  refine wpAny_Call_Name_kw (ld_glob I hg hm ?_ hdb)
  refine PySem.W.callWith_K (h₀ := X.base) I.ok.mod.kin hk ?_ he1 (by rw [he2]; rfl)
  rw [he1]
  show wpAny _ _ (spliced ((false, eval e1 X.env) :: backTo pos (starEach [e2, .Lambda params body scope lpos] X.env))) _ _ s
  refine Calls.spliced_cons (thn ((h1.run G H σ τ W _ r q0) pins s I) fun u1 s1 ⟨v1, H1, I1, rv1, d1, G1, k1, sm1, x1, q1⟩ => ?_)
  have r1 := r.ext sm1 x1
  rw [he2]
  show wpAny _ _ (spliced ((false, eval e2 X.env) :: backTo pos (starEach [.Lambda params body scope lpos] X.env))) _ _ s1
  refine Calls.spliced_cons (thn ((h2.run G1 H1 σ τ W _ r1 q1) pins s1 I1) fun u2 s2 ⟨v2, H2, I2, rv2, d2, G2, k2, sm2, x2, q2⟩ => ?_)
  have r2 := r1.ext sm2 x2
  show wpAny _ _ (spliced ((false, eval (.Lambda params body scope lpos) X.env) :: backTo pos (starEach [] X.env))) _ _ s2
  obtain ⟨hT, q2⟩ := q2
  subst hq
  have hTS : TabS H2 P (X.env.qual ++ "<lambda>") := by
    obtain ⟨o, ho, hps, e, t, z⟩ := sm2 _ _ hT
    subst e
    exact ⟨hps, ho, t, z⟩
  have hfree : ∀ z ∈ scope.names, z.2 = .free → ∃ c, X.env.cells.lookup z.1 = some c := fun z hz e => by
    rw [hone z hz e]
    exact I2.ok.has y (.inl hy)
  refine Calls.spliced_cons (lam_make3 I2 TB hcode hTS hdef hfree fun f c' pm ctv H3 s3 I3 keep hT3 hf hfn0 hfr hc3 => ?_)
  refine Calls.spliced_nil ⟨I3.kIn, ?_⟩
  split at q2
  · rename_i dc hs
    have x3 : Ext G2 H2 G2 H3 := fun a o ga ha => by
      have na : a ≠ P := by rintro rfl; rw [hT] at ga; cases ga
      exact ⟨keep a o na ha, ga⟩
    have sm3 : Sim X.K G2 H3 := fun a o e => by
      by_cases na : a = P
      · subst na
        rw [hT] at e
        cases e
        obtain ⟨hps, ho, t, z⟩ := hT3
        exact ⟨_, ho, hps, rfl, t, z⟩
      · obtain ⟨o', e1, e2⟩ := sm2 a o e
        exact ⟨o', keep a o' na e1, e2.ext sm2 x3 _ _⟩
    obtain ⟨vc, hvc, kvc⟩ : ∃ vc, τ[j]? = some (some vc) ∧ Rp X.K H2 dc vc := r2.slots.get hs
    obtain ⟨m, hns, hlook⟩ := I3.loc
    obtain ⟨uc, ruc, hlk⟩ := hlook j y vc hN hvc (.inr (.inl hy))
    obtain ⟨cl, hcl, hcc⟩ : ∃ cl, X.env.cells.lookup y = some cl ∧ s3.heap.IsCell cl (some uc) := by
      rcases hlk with ⟨z, _⟩ | ⟨_, cl, e1, e2⟩
      · rw [show X.env.kindOf y = some .cell from hy] at z; cases z
      · exact ⟨cl, e1, e2⟩
    rw [hclo cl hcl] at hf
    obtain ⟨base, E0, hK, hNs, hbf, hbc, hup⟩ := env_lam I3 hf hfn0 hfr hfn hcl hcc
    have B : LamB base ⟨f, c', X.env.qual ++ "<lambda>", vc⟩ params body scope y := ⟨cl, pm, ctv, uc, hbf, hbc, ruc⟩
    have F := hF base _ rfl B hK hNs hup
    have q3 := q2 ⟨f, c', X.env.qual ++ "<lambda>", vc⟩ rfl
    have k3 : Rps X.K H3 [d1, d2, .fn f c' (X.env.qual ++ "<lambda>") vc dc] [v1, v2, .ref f] := ⟨v1, _, rfl, (k1.ext sm1 x2 _ _).ext sm2 x3 _ _, v2, _, rfl, k2.ext sm2 x3 _ _, .ref f, _, rfl, ⟨rfl, hc3, kvc.ext sm2 x3 _ _⟩, rfl⟩
    have rv3 : Vals [v1, v2, .ref f] [u1, u2, .ref f] := .cons rv1 (.cons rv2 (.cons rfl .nil))
    have hb3 : BindsTo s3 fd ⟨[u1, u2, .ref f], []⟩ (ps.zip ([u1, u2, .ref f] ++ [])) := hb s3 [u1, u2, .ref f] I3.kIn (by rw [hl]; rfl)
    have r3 := r2.ext sm3 x3
    refine wpAny_call (codeAny_mono (F.run X.A X.stack s3 H3 _ _ _ (liftQ X.K G2 H3 Q) (liftX X.K G2 H3 fun c fs G' => W c fs σ G') hr E0 hb3 rv3 ⟨by rw [hl]; rfl, _, G2, Q, _, k3, sm3, q3, fun _ _ z => z, fun _ _ _ z => z⟩) fun z s' hq => ?_)
    cases z with
    | error e => exact passK r3 pins H3 s3 e s' I3 hq
    | ok fl =>
      cases fl with
      | ret u =>
        obtain ⟨v, H4, I4, rv4, lq⟩ := I3.after hq
        exact ⟨v, H4, I4, rv4, lq.up (x1.trans (x2.trans x3))⟩
      | next => exact False.elim hq
      | brk => exact False.elim hq
      | cont => exact False.elim hq
  · exact q2.elim⟩
end DL

namespace DL
open PySem PySem.Spec PyProof.Rows L2 LamX
theorem law_callTG {P : Program} {w : World} {K : PySem.W.Frag} {mg mb : Str → Option Value} {k : Nat} {fa a : Addr} {cs : List (Addr × Addr)} {fd : FuncData} {x : Str} {sp : Sp} {s₁ : Shared} {vs : List Value} {ns : List Int}
    (KX : K.In s₁.heap) (hns : s₁.heap.Ns mainGlobals mg) (hb : s₁.heap.Ns builtinsNs mb) (hbb : ∀ x : Str, x ≠ "__name__" → mb x = bootBuiltins x) (hlim : s₁.heap.NoLimit) (hg : s₁.gens = #[])
    (hT : ∀ p ∈ cs, s₁.heap.get? p.2 = some { cls := .none, data := .fields #[] }) (nT : ∀ p ∈ cs, K.lookup p.2 = none) (C : ∀ p ∈ cs, PySem.W.CodeHd s₁.heap p.1 p.2)
    (hbm : ∃ (bm : Addr) (ob : Obj), mg "__builtins__" = some (.ref bm) ∧ bm ≠ builtinsNs ∧ s₁.heap.get? bm = some ob ∧ ob.cls = .type "module" ∧ ob.dict = some builtinsNs ∧ ob.data = .plain)
    (ha : s₁.heap.get? a = some { cls := .type "list", data := .seq vs.toArray }) (hi : IntsAre vs ns) (hl : ns.length ≤ sizeLine) (hr : RoomG k callerA)
    (F : ∀ base : Heap, K.In base → base.Ns mainGlobals mg → (∀ p ∈ cs, TabB base mg p.1 p.2) → FnG P w K mg base k fa fd [x] sp) (hbind : ∀ (s : Shared) (u : Value), BindsTo s fd ⟨[u], []⟩ [(x, u)])
    (hsp : ∀ H : Hp, (∀ p ∈ cs, H p.2 = some (.tbl #[])) → (∀ b, H b = none ∨ b ∈ cs.map (·.2) ∨ ∃ o xs, H b = some (.frz o (.lst xs))) → SqL K H a (ns.map V.int) → sp [.ref a] H (fun v _ => v = .bl true) fun _ _ _ => False)
    (hCX : ∀ H e s', L2.CX P w [] H s₁ (fun _ _ _ => False) e s' → False) :
    codeAny (model P w) callerA (.call (.ref fa) ⟨[.ref a], []⟩) (fun r s' => r = .ok (.ret (.bool true)) ∧ OldK s₁.heap s'.heap ∧ s'.os = s₁.os ∧ AllBare s'.gens) s₁ := by
  have rv := vals_ints hi
  have lenV := hi.length
  have isT : ∀ b : Addr, b ∈ cs.map (·.2) → s₁.heap.get? b = some { cls := .none, data := .fields #[] } := fun b hb => by
    obtain ⟨p, hp, e⟩ := List.mem_map.mp hb
    rw [← e]
    exact hT p hp
  have aT : a ∉ cs.map (·.2) := fun z => by
    have q := isT a z
    rw [ha] at q
    have z' : Data.seq vs.toArray _ = Data.fields #[] := congrArg Obj.data (Option.some.inj q)
    cases z'
  have memT : ∀ p ∈ cs, p.2 ∈ cs.map (·.2) := fun p hp => List.mem_map.mpr ⟨p, hp, rfl⟩
  -- from an abstract heap in which nothing but the script and the tables may be tracked
  have core : ∀ H : Hp, (∀ p ∈ cs, H p.2 = some (.tbl #[])) → (∀ b, H b = none ∨ b ∈ cs.map (·.2) ∨ ∃ o xs, H b = some (.frz o (.lst xs))) → SqL K H a (ns.map V.int) → HOk P w H s₁.heap → (∀ b, H b ≠ none → b = a ∨ b ∈ cs.map (·.2)) → (H a ≠ none → K.lookup a = none) →
      codeAny (model P w) callerA (.call (.ref fa) ⟨[.ref a], []⟩) (fun r s' => r = .ok (.ret (.bool true)) ∧ OldK s₁.heap s'.heap ∧ s'.os = s₁.os ∧ AllBare s'.gens) s₁ := by
    intro H hH hO hS hok hA hK
    have base_of : ∀ {b : Addr} {o : Obj}, s₁.heap.get? b = some o → H b = none → (hidT s₁.heap H).get? b = some o := fun e n => hidT_get e n
    have noD : ∀ {b : Addr} {o : Obj}, s₁.heap.get? b = some o → (∀ vs n, o.data ≠ .seq vs n) → o.data ≠ .fields #[] → H b = none := fun {b o} e h1 h2 => by
      cases q : H b with
      | none => rfl
      | some u =>
        rcases hA b (by rw [q]; simp) with e' | e'
        · rw [e', ha] at e
          cases e
          exact (h1 _ _ rfl).elim
        · rw [isT b e'] at e
          cases e
          exact (h2 rfl).elim
    have noA : ∀ {b : Addr} {o : Obj} {es : Array DictEntry} {ep : Nat}, s₁.heap.get? b = some o → o.data = .dict es ep → H b = none := fun {b o es ep} e d => by
      refine noD e (fun vs n z => ?_) fun z => ?_
      · rw [d] at z
        cases z
      · rw [d] at z
        cases z
    have nsK : ∀ {b : Addr} {m : Str → Option Value}, s₁.heap.Ns b m → (hidT s₁.heap H).Ns b m := fun {b m} ⟨o, es, ep, e, d, r⟩ => ⟨o, es, ep, base_of e (noA e d), d, r⟩
    have hKb : K.In (hidT s₁.heap H) := fun b o e => base_of (KX b o e) (by
      cases q : H b with
      | none => rfl
      | some u =>
        rcases hA b (by rw [q]; simp) with e' | e'
        · rw [e'] at e q
          rw [hK (by rw [q]; simp)] at e
          cases e
        · obtain ⟨p, hp, ep⟩ := List.mem_map.mp e'
          rw [← ep, nT p hp] at e
          cases e)
    have hM : L2.Mod K mg (hidT s₁.heap H) := ⟨hKb, nsK hns, ⟨mb, nsK hb, hbb⟩, let ⟨mc, h1, h2⟩ := hlim; ⟨mc, nsK h1, h2⟩⟩
    have TB : ∀ p ∈ cs, TabB (hidT s₁.heap H) mg p.1 p.2 := fun p hp => by
      have hTp := hT p hp
      refine ⟨?_, ?_, fun z => ?_⟩
      · obtain ⟨o, us, file, tf, flags, tg, inF, text, tt, e1, r1, r2, r3, r4, r5, r6, r7, r8, hne⟩ := C p hp
        refine ⟨o, us, file, tf, flags, tg, inF, text, tt, base_of e1 (noD e1 (fun vs n z => ?_) fun z => ?_), r1, r2, r3, r4, r5, r6, r7, r8, hne⟩
        · rw [r2] at z
          cases z
        · rw [r2] at z
          cases z
          simp at r3
      · obtain ⟨bm, ob, b1, b2, b3, b4, b5, b6⟩ := hbm
        have nG : bm ≠ mainGlobals := fun q => by
          obtain ⟨o, es, ep, e, hd, _⟩ := hns
          rw [q, e] at b3
          cases b3
          rw [hd] at b6
          cases b6
        have nP : bm ≠ p.2 := fun q => by
          rw [q, hTp] at b3
          cases b3
          cases b6
        refine ⟨bm, ob, b1, b2, nG, nP, base_of b3 (noD b3 (fun vs n z => ?_) fun z => ?_), b4, b5, b6⟩
        · rw [b6] at z
          cases z
        · rw [b6] at z
          cases z
      · obtain ⟨o, es, ep, e, hd, _⟩ := hns
        rw [z, hTp] at e
        cases e
        cases hd
    have e0 : Env0 P w K mg (hidT s₁.heap H) callerA [] s₁ H := ⟨rfl, hM, fun b o e => of_hidT e, Nat.le_of_eq (hidT_size _ _), trivial, fun b hb => absurd (show b ∈ ([] : List Addr) from hb) (by simp), hok, .of_eq hg⟩
    refine codeAny_mono ((F _ hKb (nsK hns) TB).run callerA [] s₁ H ⟨[.ref a], []⟩ [.ref a] [.ref a] _ _ hr e0 (hbind s₁ (.ref a)) (.cons rfl .nil) (hsp H hH hO hS)) fun r s' h => ?_
    cases r with
    | error e => exact (hCX H e s' h).elim
    | ok fl =>
      cases fl with
      | next => exact False.elim h
      | brk => exact False.elim h
      | cont => exact False.elim h
      | ret u =>
        obtain ⟨v, H', os, bare, un, hok', r', q⟩ := h
        have q' : v = .bl true := q
        subst q'
        obtain rfl : u = Value.bool true := r'
        have key : ∀ b o, b ∉ cs.map (·.2) → s₁.heap.get? b = some o → s'.heap.get? b = some o := fun b o nb e => by
          cases q : H b with
          | none => exact un.keep b o e q (by intro z; exact absurd (show b ∈ ([] : List Addr) from z) (by simp)) (by simp)
          | some u =>
            rcases hO b with z | z | ⟨ob, xs, z⟩
            · rw [q] at z; cases z
            · exact absurd z nb
            · have z2 := un.frzs b ob _ z
              obtain ⟨e1, _⟩ := hok b _ z
              obtain ⟨e2, _⟩ := hok' b _ z2
              rw [e] at e1; cases e1
              exact e2
        have grown : ∀ p ∈ cs, ∃ more : Array Value, s'.heap.get? p.2 = some { cls := .none, data := .fields more } := fun p hp => by
          obtain ⟨more, z⟩ := un.tbls p.2 #[] (hH p hp)
          exact ⟨_, hok' p.2 _ z⟩
        refine ⟨rfl, ⟨fun b o e => ?_, fun b o e => ?_⟩, os, bare⟩
        · by_cases hb : b ∈ cs.map (·.2)
          · obtain ⟨p, hp, ep⟩ := List.mem_map.mp hb
            obtain ⟨more, hm⟩ := grown p hp
            rw [← ep] at e ⊢
            rw [hT p hp] at e
            cases e
            exact .inr (.inl ⟨((C p hp).tab (hT p hp)).isCodeTable, rfl, #[], more, rfl, by rw [Array.empty_append]; exact hm⟩)
          · exact .inl (key b o hb e)
        · by_cases hb : b ∈ cs.map (·.2)
          · obtain ⟨p, hp, ep⟩ := List.mem_map.mp hb
            obtain ⟨more, hm⟩ := grown p hp
            rw [← ep]
            exact ⟨_, hm⟩
          · exact ⟨o, key b o hb e⟩
  cases hk : K.lookup a with
  | some o =>
    have e := KX a o hk
    rw [ha] at e
    cases e
    refine core (fun b => if b ∈ cs.map (·.2) then some (.tbl #[]) else none) (fun p hp => if_pos (memT p hp)) (fun b => ?_) (.inr ⟨_, vs.toArray, _, hk, rfl, rfl, rfl, by rw [List.size_toArray, lenV]; exact hl, by simpa using rv⟩) (fun b u z => ?_) (fun b z => ?_) fun z => absurd (show (if a ∈ cs.map (·.2) then some (HO.tbl #[]) else none) = none from if_neg aT) z
    · by_cases hb : b ∈ cs.map (·.2)
      · exact .inr (.inl hb)
      · exact .inl (if_neg hb)
    · by_cases hb : b ∈ cs.map (·.2)
      · have z' := (if_pos hb).symm.trans z
        cases z'
        exact isT b hb
      · have z' := (if_neg hb).symm.trans z
        cases z'
    · by_cases hb : b ∈ cs.map (·.2)
      · exact .inr hb
      · exact absurd (if_neg hb) z
  | none =>
    refine core (fun b => if b = a then some (.frz { cls := .type "list", data := .seq vs.toArray } (.lst (ns.map V.int))) else if b ∈ cs.map (·.2) then some (.tbl #[]) else none) (fun p hp => (if_neg (show ¬ p.2 = a from fun z => aT (by rw [← z]; exact memT p hp))).trans (if_pos (memT p hp))) (fun b => ?_)
      (.inl (.inr ⟨{ cls := .type "list", data := .seq vs.toArray }, if_pos rfl⟩)) (fun b u z => ?_) (fun b z => ?_) fun _ => hk
    · by_cases hb : b = a
      · exact .inr (.inr ⟨_, _, if_pos hb⟩)
      · by_cases hb2 : b ∈ cs.map (·.2)
        · exact .inr (.inl hb2)
        · exact .inl ((if_neg hb).trans (if_neg hb2))
    · by_cases hb : b = a
      · have z' := (if_pos hb).symm.trans z
        cases z'
        rw [hb]
        exact ⟨ha, by rw [List.length_map]; exact hl, vs, _, rv, ha⟩
      · have z1 := (if_neg hb).symm.trans z
        by_cases hb2 : b ∈ cs.map (·.2)
        · have z' := (if_pos hb2).symm.trans z1
          cases z'
          exact isT b hb2
        · have z' := (if_neg hb2).symm.trans z1
          cases z'
    · by_cases hb : b = a
      · exact .inl hb
      · by_cases hb2 : b ∈ cs.map (·.2)
        · exact .inr hb2
        · exact absurd ((if_neg hb).trans (if_neg hb2)) z

end DL

/-! dict(a list of pairs) -/
namespace DL
open PySem PySem.Spec L2
open PyProof.Rows hiding St
def keyOfD : D → Option Key
  | .str x => some (.inr x)
  | .int i => some (.inl i)
  | _ => none
def pairOfD : D → Option (Key × D)
  | .tup [a, b] => (keyOfD a).map fun k => (k, b)
  | _ => none
def pairsK : List D → Option (List (Key × D))
  | [] => some []
  | d :: r => match pairOfD d, pairsK r with
    | some p, some l => some (p :: l)
    | _, _ => none
theorem keyOfD_rp {K : PySem.W.Frag} {H : Hp} {d : D} {k : Key} {v : V} (h : keyOfD d = some k) (r : Rp K H d v) : v = kV k := by
  cases d <;> first | (cases h; exact r) | cases h
theorem pairOfD_rp {K : PySem.W.Frag} {H : Hp} {d : D} {p : Key × D} {v : V} (h : pairOfD d = some p) (r : Rp K H d v) : ∃ a w, v = .ref a ∧ SqT K H a [kV p.1, w] ∧ Rp K H p.2 w := by
  unfold pairOfD at h
  split at h
  · rename_i x y
    rw [Option.map_eq_some_iff] at h
    obtain ⟨k, hk, rfl⟩ := h
    obtain ⟨a, vs, rfl, t, r1⟩ := r
    obtain ⟨v1, _, rfl, r1, v2, _, rfl, r2, rfl⟩ := r1
    rw [keyOfD_rp hk r1] at t
    exact ⟨a, v2, rfl, t, r2⟩
  · cases h
theorem pairsK_rp {K : PySem.W.Frag} {H : Hp} : ∀ {ds : List D} {l : List (Key × D)} {vs : List V}, pairsK ds = some l → Rps K H ds vs → ∃ (ps : List Addr) (m : List (Key × V)), vs = ps.map V.ref ∧ Paired (fun p kv => SqT K H p [kV kv.1, kv.2]) ps m ∧ RKV K H l m
  | [], l, vs, h, r => by cases h; cases r; exact ⟨[], [], rfl, .nil, rfl⟩
  | d :: ds, l, vs, h, r => by
    obtain ⟨v, t, rfl, r1, r2⟩ := r
    unfold pairsK at h
    split at h
    · rename_i p l' e1 e2
      cases h
      obtain ⟨a, w, rfl, t1, rw'⟩ := pairOfD_rp e1 r1
      obtain ⟨ps, m, rfl, hp, hm⟩ := pairsK_rp e2 r2
      exact ⟨a :: ps, (p.1, w) :: m, rfl, .cons t1 hp, ⟨w, m, rfl, rw', hm⟩⟩
    · cases h
def dprP (o : Option (List D)) (G : HD) (Q : Post) : Prop := match o with
  | some es => match pairsK es with
    | some l => newD G (mergeKD [] l) Q
    | none => False
  | none => False
def rDictPr : List D → HD → Post → Prop := fun ds G Q => match ds with
  | [d] => dprP (asL G d) G Q
  | _ => False
theorem cd_dictPr (K : PySem.W.Frag) : CallD K (fun xs H Q => ∃ (a : Addr) (ps : List Addr) (kvs : List (Key × V)), xs = [.ref a] ∧ SqL K H a (ps.map V.ref) ∧ Paired (fun p kv => SqT K H p [kV kv.1, kv.2]) ps kvs ∧ ∀ p, H p = none → Q (.ref p) (upd H p (.dK (mergeK [] kvs)))) rDictPr := fun G H ds vs Q Q' s k f q => by
  unfold rDictPr at q
  split at q
  · rename_i d
    obtain ⟨v, rfl, kd⟩ := one_of k
    unfold dprP at q
    split at q
    · rename_i es he
      split at q
      · rename_i l hl
        obtain ⟨a, ws, rfl, t, r⟩ := Rp.lst s kd he
        obtain ⟨ps, m, rfl, hp, hm⟩ := pairsK_rp hl r
        refine ⟨a, ps, m, rfl, t, hp, fun p hpn => f _ _ (.of (d := .ref p) rfl (s.newM (m := .dK (mergeKD [] l)) hpn ⟨_, rfl, hm.merge rfl⟩) (.newM hpn) (q p (s.no hpn)))⟩
      · exact q.elim
    · exact q.elim
  · exact q.elim
theorem bc_dictPr {X : Cx} {p pos : Pos} {e : Expr} {ts : TDA} (hc : X.calm = true) (hm : X.mg "dict" = none) (ha : DA X [e] ts) (hg : Gl X "dict" := by rfl) (he : starEach [e] X.env = (false, eval e X.env) :: starEach [] X.env := by rfl) : DE X (.Call (.Name "dict" p) [e] [] pos) (dCB rDictPr ts) :=
  de_ct (call_dictP hc) (cd_dictPr X.K) hm (by decide +kernel) ha hg (by decide) (by decide) he (by rfl)
end DL

/-! lambda a: a[j], called -/
namespace LamY
open PySem PySem.Spec PyProof.Rows L2 LamX
/-- a is its parameter, it reads nothing else of defs -/
structure Lam0 (scope : Scope) (a : Str) : Prop where
  kind : scope.kind = .function
  co : scope.isCoroutine = false
  gen : scope.isGenerator = false
  nocell : ∀ z ∈ scope.names, z.2 ≠ .cell
  loc : scope.names.lookup a = some .local
def RecAt (h : Heap) (c : Addr) (q : Str) : Prop := ∃ (oc : Obj) (vs : Array Value) (t : Tok), h.get? c = some oc ∧ oc.data = .fields vs ∧ vs[1]? = some (.str q t)
theorem call_sub {prog : Program} {w : World} {A : Around} {s : Shared} {f c' t : Addr} {q : Str} {params : Arguments} {a : Str} {p1 p2 p3 : Pos} {j : Int} {k jn : Nat} {scope : Scope} {pm ctv x : Value} {items : List Value} {Q E : Value → Shared → Prop}
    (L : Lam0 scope a) (hf : s.heap.get? f = some (PySem.W.kla_obj "<lambda>" q params (.Subscript (.Name a p1) (.Constant (.int j) k p2) p3) scope [] pm c' ctv)) (hc : RecAt s.heap c' q)
    (hbind : ∀ (u : Value), bindArgs (PySem.W.kla_fn "<lambda>" q params (.Subscript (.Name a p1) (.Constant (.int j) k p2) p3) scope [] pm (.ref c') ctv) ⟨[u], []⟩ = pure [(a, u)]) (ht : IsTup s.heap t items.toArray)
    (h0 : -(2 ^ 63) ≤ j) (h1 : j < 2 ^ 63) (hj : seqIndex? j items.length = some jn) (hx : items[jn]? = some x) (hd : A.depth < recursionLimit) (hnl : s.heap.NoLimit) (hdb : (a == ("__debug__" : Str)) = false)
    (h : ∀ (h' : Heap) (tk : Nat), s.toks ≤ tk → (∀ b o, s.heap.get? b = some o → h'.get? b = some o) → Q x { s with heap := h', toks := tk }) : wpAny (model prog w) A (call (.ref f) [.ref t]) Q E s := by
  obtain ⟨oc, vs, tt, hoc, hdc, hvc⟩ := hc
  refine wpAny_call (codeAny_mono (PySem.W.kla_callFunE (R := fun r s' => ∃ h' tk, r = .ok (.ret x) ∧ s' = { s with heap := h', toks := tk } ∧ s.toks ≤ tk ∧ ∀ b o, s.heap.get? b = some o → h'.get? b = some o) hd hf rfl L.co L.gen rfl ⟨c', oc, vs, tt, rfl, hoc, hdc, hvc⟩ ?_) fun r s' ⟨h', tk, e1, e2, le, k⟩ => ?_)
  · rw [hbind]
    refine wpAny_pure (wpAny_newFunctionEnv (fun z hz => L.nocell z hz) (fun z hz => ?_) (fun h₁ hns hsb => ⟨hnl.fresh _ hsb, ?_⟩) L.kind)
    · rw [List.mem_singleton.mp hz]
      exact L.loc
    have kp : ∀ b o, s.heap.get? b = some o → h₁.get? b = some o := fun b o e => hsb.extBut b o (Nat.ne_of_lt (Heap.lt_size e)) (Heap.get?_push_of_some _ e)
    refine PySem.W.kla_codeExpr ?_
    refine PyProof.Rows.Subscript_ (wpAny_Name (wpAny_loadName_local (v := .ref t) L.kind L.loc hns ?_ (wpAny_Constant_int ?_)) hdb)
    · show ([(a, Value.ref t)] : List (Str × Value)).reverse.lookup a = some (.ref t)
      rw [List.reverse_singleton, List.lookup_cons, beq_self_eq_true]
    · exact PyProof.Rows.item_tupleT (ht.keeps kp) h0 h1 hj hx ⟨h₁, _, rfl, rfl, Nat.le_trans (Nat.le_add_right _ _) (Nat.le_succ _), kp⟩
  · subst e1 e2
    exact h h' tk le k
end LamY

/-! max(xs, key=lambda a: a[j]), the items by tuples of ints -/
namespace LamY
open PySem PySem.Spec PyProof.Rows L2 LamX
def btK (ks : List (List Int)) (i j : Nat) : Bool := PySem.W.listLt (ks.getD j []) (ks.getD i [])
theorem call_maxsub {prog : Program} {w : World} {A : Around} {s : Shared} {l f c' : Addr} {q : Str} {params : Arguments} {a : Str} {p1 p2 p3 : Pos} {j : Int} {k : Nat} {scope : Scope} {pm ctv : Value} {vs : List Value} {kv : Nat → Value} {ks : List (List Int)} {Q E : Value → Shared → Prop}
    (hh : A.in1.handled = none) (hl : s.heap.IsList l vs.toArray) (L : Lam0 scope a) (hf : s.heap.get? f = some (PySem.W.kla_obj "<lambda>" q params (.Subscript (.Name a p1) (.Constant (.int j) k p2) p3) scope [] pm c' ctv)) (hc : RecAt s.heap c' q)
    (hbind : ∀ (u : Value), bindArgs (PySem.W.kla_fn "<lambda>" q params (.Subscript (.Name a p1) (.Constant (.int j) k p2) p3) scope [] pm (.ref c') ctv) ⟨[u], []⟩ = pure [(a, u)])
    (els : ∀ (i : Nat) (v : Value), vs[i]? = some v → ∃ (t : Addr) (items : List Value) (jn : Nat), v = .ref t ∧ IsTup s.heap t items.toArray ∧ seqIndex? j items.length = some jn ∧ items[jn]? = some (kv i) ∧ PySem.W.Holds s.heap (kv i) (⟨ks.getD i []⟩ : PySem.W.Tup Int))
    (h0 : -(2 ^ 63) ≤ j) (h1 : j < 2 ^ 63) (hd : A.in1.depth < recursionLimit) (hu : A.in1.units + 64 < cLine) (hnl : s.heap.NoLimit) (hdb : (a == ("__debug__" : Str)) = false) (hn : 0 < vs.length)
    (h : ∀ (h' : Heap) (tk : Nat) (v : Value), vs[argBest (btK ks) (vs.length - 1)]? = some v → (∀ b o, s.heap.get? b = some o → h'.get? b = some o) → Q v { s with heap := h', toks := tk }) :
    wpAny (model prog w) A (call (.builtin "max") [.ref l] [(Str.ofString "key", .ref f)]) Q E s := by
  have hlt : l < s.heap.objs.size := by obtain ⟨o, ho, _⟩ := hl; exact Heap.lt_size ho
  refine PySem.call_max_walkK (wpAny_pyIter_list hl ?_)
  have W := (Walks.list (prog := prog) (w := w) (A := A.in1) hh s.heap.objs.size l (Nat.ne_of_lt hlt) vs.toArray).toS
  have at_ : ∀ {i : Nat} {v : Value}, vs.toArray[i]? = some v → vs[i]? = some v := fun {i v} e => by simpa using e
  refine ⟨s.heap.objs.size, _, _, _, _, _, _, fun s' => ∃ h' tk, s' = { s with heap := h', toks := tk } ∧ ∀ b o, s.heap.get? b = some o → h'.get? b = some o, fun i k _ => k = kv i ∧ i < vs.length, btK ks, rfl, W, ⟨⟨_, Heap.get?_push_size _ rfl, rfl, rfl⟩, ?_⟩, ?_, ?_, ⟨?_, ?_, ?_, ?_⟩, ⟨_, _, rfl, fun b o e => Heap.get?_push_of_some _ e⟩, ?_⟩
  · obtain ⟨o, ho, r⟩ := hl
    exact ⟨o, Heap.get?_push_of_some _ ho, r⟩
  · intro b hb
    show b < (s.heap.push _).objs.size
    rw [Heap.size_push]
    simp only [List.mem_cons, List.not_mem_nil, or_false] at hb
    rcases hb with rfl | rfl
    · exact Nat.lt_succ_self _
    · exact Nat.lt_succ_of_lt hlt
  · rw [List.size_toArray]; exact hn
  · rintro s1 s2 ⟨h', tk, rfl, k1⟩ M
    obtain ⟨h2, g2, d2, t2, o2⟩ := s2
    obtain ⟨m1, m2, m3, m4, m5⟩ := M
    have e1 : g2 = s.gens := m2
    have e2 : d2 = s.drawn := m3
    have e3 : o2 = s.os := m4
    subst e1 e2 e3
    refine ⟨h2, t2, rfl, fun b o e => m1 b o ?_ (k1 b o e)⟩
    have hb := Heap.lt_size e
    show b ∉ [(s.heap.push _).objs.size, s.heap.objs.size]
    rw [Heap.size_push]
    simp only [List.mem_cons, List.not_mem_nil, or_false, not_or]
    exact ⟨Nat.ne_of_lt (Nat.lt_succ_of_lt hb), Nat.ne_of_lt hb⟩
  · exact fun i k s1 s2 hV _ => hV
  · rintro i v s1 o Q1 E1 hi hP ⟨h', tk, rfl, k1⟩ hSt hS hQ
    obtain ⟨t, items, jn, rfl, ht, hj, hx, _⟩ := els i v (at_ hP)
    have hc' : RecAt h' c' q := by
      obtain ⟨oc, vs1, tt, h1, h2, h3⟩ := hc
      exact ⟨oc, vs1, tt, k1 _ _ h1, h2, h3⟩
    refine call_sub (A := A.in1) (s := { s with heap := h', toks := tk }) L (k1 _ _ hf) hc' hbind (ht.keeps k1) h0 h1 hj hx hd (hnl.keeps k1) hdb fun h'' tk' le kk => ?_
    refine hQ (kv i) _ ⟨h'', tk', rfl, fun b o e => kk b o (k1 b o e)⟩ (W.frame (i + 1) { s with heap := h', toks := tk } h'' tk' hSt le fun b _ o e => kk b o e) (kk _ _ hS) ⟨rfl, ?_⟩ fun _ _ hV => hV
    rw [List.size_toArray] at hi
    exact hi
  · rintro i j2 ki kj s1 Q1 E1 ⟨h', tk, rfl, k1⟩ ⟨rfl, hi⟩ ⟨rfl, hj⟩ q1
    obtain ⟨_, _, _, _, _, _, _, Hi⟩ := els i _ (List.getElem?_eq_getElem hi)
    obtain ⟨_, _, _, _, _, _, _, Hj⟩ := els j2 _ (List.getElem?_eq_getElem hj)
    show wpAny _ _ (compareOp .Gt (kv i) (kv j2)) _ _ _
    exact PySem.W.gt_datum (s := { s with heap := h', toks := tk }) (Hi.keeps k1) (Hj.keeps k1) (by show A.in1.units + 1 < _; omega) q1
  · rintro v s1 hP ⟨h', tk, rfl, k1⟩
    rw [List.size_toArray] at hP
    exact h h' tk v (at_ hP) k1
end LamY

/-! max(xs, key=lambda a: a[j]), by data -/
namespace DL
open PySem PySem.Spec L2 LamX LamY
open PyProof.Rows hiding St
def keyAt (j : Int) : D → Option (List Int)
  | .tup items => match atI items j with
    | some (.tup ms) => asInts ms
    | _ => none
  | _ => none
def keysAt (j : Int) : List D → Option (List (List Int))
  | [] => some []
  | d :: r => match keyAt j d, keysAt j r with
    | some x, some l => some (x :: l)
    | _, _ => none
theorem keysAt_get {j : Int} : ∀ {es : List D} {ks : List (List Int)} {i : Nat} {d : D}, keysAt j es = some ks → es[i]? = some d → keyAt j d = some (ks.getD i []) ∧ i < ks.length
  | [], _, i, d, h, hi => by simp at hi
  | e :: r, ks, i, d, h, hi => by
    unfold keysAt at h
    split at h
    · rename_i x l e1 e2
      cases h
      cases i with
      | zero =>
        cases hi
        exact ⟨by rw [e1]; rfl, Nat.zero_lt_succ _⟩
      | succ i =>
        obtain ⟨h1, h2⟩ := keysAt_get (i := i) e2 (by simpa using hi)
        exact ⟨by rw [h1]; rfl, Nat.succ_lt_succ h2⟩
    · cases h
def mxkP (o : Option (List D)) (j : Int) (G : HD) (Q : Post) : Prop := match o with
  | some es => match keysAt j es with
    | some ks => 0 < es.length ∧ optP es[argBest (btK ks) (es.length - 1)]? G Q
    | none => False
  | none => False
def dMaxKey (P : Addr) (q : Str) (j : Int) (te : TD) : TD := fun W σ G Q => te W σ G fun d G1 => G1 P = some (.tab q) ∧ mxkP (asL G1 d) j G1 Q
theorem mxkP_of {o : Option (List D)} {j : Int} {G : HD} {Q : Post} (h : mxkP o j G Q) : ∃ es ks d, o = some es ∧ keysAt j es = some ks ∧ 0 < es.length ∧ es[argBest (btK ks) (es.length - 1)]? = some d ∧ Q d G := by
  cases o with
  | none => exact h.elim
  | some es =>
    unfold mxkP at h
    dsimp only at h
    cases hk : keysAt j es with
    | none => rw [hk] at h; exact h.elim
    | some ks =>
      rw [hk] at h
      obtain ⟨h1, h2⟩ := h
      cases e : es[argBest (btK ks) (es.length - 1)]? with
      | none => rw [e] at h2; exact h2.elim
      | some d => rw [e] at h2; exact ⟨es, ks, d, rfl, hk, h1, e, h2⟩
theorem rps_intsE {K : PySem.W.Frag} {H : Hp} : ∀ {ns : List Int} {vs : List V}, Rps K H (ns.map D.int) vs → vs = ns.map V.int
  | [], vs, h => h
  | n :: ns, vs, h => by
    obtain ⟨v, r, rfl, h1, h2⟩ := h
    cases h1
    rw [rps_intsE h2]
    rfl
theorem keyAt_of {j : Int} {d : D} {ns : List Int} (h : keyAt j d = some ns) : ∃ items ms, d = .tup items ∧ atI items j = some (.tup ms) ∧ asInts ms = some ns := by
  unfold keyAt at h
  split at h
  · split at h
    · rename_i e
      exact ⟨_, _, rfl, e, h⟩
    · cases h
  · cases h
theorem de_maxLam {X : Cx} {P c : Addr} {q a : Str} {j : Int} {k : Nat} {te : TD} {e : Expr} {params : Arguments} {scope : Scope} {p p1 p2 p3 lpos kpos pos : Pos} (hq : q = X.env.qual ++ "<lambda>")
    (hr : RoomG 2 X.A) (TB : TabB X.base X.mg c P) (hcode : X.env.code = .ref c) (hdef : defaultsOf params X.env = ([], [])) (hnf : ∀ z ∈ scope.names, z.2 ≠ .free) (hclo : cloFrom X.env.cells scope.names [] = []) (L : Lam0 scope a)
    (hbind : ∀ (q : Str) (pm cv ctv u : Value), bindArgs (PySem.W.kla_fn "<lambda>" q params (.Subscript (.Name a p1) (.Constant (.int j) k p2) p3) scope [] pm cv ctv) ⟨[u], []⟩ = pure [(a, u)]) (h0 : -(2 ^ 63) ≤ j) (h1 : j < 2 ^ 63) (hdb : (a == ("__debug__" : Str)) = false)
    (ha : DE X e te) (hm : X.mg "max" = none) (hg : Gl X "max" := by rfl) (hs : starEach [e] X.env = (false, eval e X.env) :: starEach [] X.env := by rfl) :
    DE X (.Call (.Name "max" p) [e] [⟨some "key", .Lambda params (.Subscript (.Name a p1) (.Constant (.int j) k p2) p3) scope lpos, kpos⟩] pos) (dMaxKey P q j te) := ⟨fun G H σ τ W Q r q0 pins s I => by
  refine wpAny_Call_Name_kw (ld_blt I hg hm (show bootBuiltins "max" = some (.builtin "max") by decide +kernel) ?_)
  refine PyProof.Rows.callWith_kw (thn (((da_cons ha da_nil hs).run G H σ τ W (fun ds G1 => argP ds fun d => G1 P = some (.tab q) ∧ mxkP (asL G1 d) j G1 Q) r q0) pos pins s I) fun us s1 ⟨vs, H1, I1, rv, ds, G1, k1, sm1, x1, q1⟩ => ?_) (by rw [hs]; rfl) (by rw [hs]; rfl) (by rfl) (by rfl)
  obtain ⟨d, rfl, hT, q2⟩ := argP_of q1
  obtain ⟨es, ks, dm, hes, hks, hpos, hdm, hfin⟩ := mxkP_of q2
  subst hq
  have hTS : TabS H1 P (X.env.qual ++ "<lambda>") := by
    obtain ⟨o, ho, hps, e, t, z⟩ := sm1 _ _ hT
    subst e
    exact ⟨hps, ho, t, z⟩
  obtain ⟨v, rfl, kd⟩ := one_of k1
  obtain ⟨u, rfl, ru⟩ := vals1 rv
  show wpAny _ _ (evalAll [do let v ← eval (.Lambda params (.Subscript (.Name a p1) (.Constant (.int j) k p2) p3) scope lpos) X.env; standAt pos; pure v]) _ _ s1
  refine wpAny_evalAll_cons (wpAny_bind (lam_make3 I1 TB hcode hTS hdef (fun z hz e => absurd e (hnf z hz)) fun f c' pm ctv H3 s3 I3 keep hT3 hf hfn0 hfr hc3 => wpAny_bind (wpAny_standAt (wpAny_pure (wpAny_evalAll_nil ?_)))))
  rw [hclo] at hf
  have x3 : Ext G1 H1 G1 H3 := fun b o ga hb => by
    have na : b ≠ P := by rintro rfl; rw [hT] at ga; cases ga
    exact ⟨keep b o na hb, ga⟩
  have sm3 : Sim X.K G1 H3 := fun b o e => by
    by_cases na : b = P
    · subst na
      rw [hT] at e
      cases e
      obtain ⟨hps, ho, t, z⟩ := hT3
      exact ⟨_, ho, hps, rfl, t, z⟩
    · obtain ⟨o', e1, e2⟩ := sm1 b o e
      exact ⟨o', keep b o' na e1, e2.ext sm1 x3 _ _⟩
  obtain ⟨l, ws, rfl, hsq, hrs⟩ := Rp.lst sm3 (kd.ext sm1 x3 _ _) hes
  obtain rfl : u = Value.ref l := ru
  obtain ⟨its, rvs, pl, hz⟩ := I3.list hsq
  have hlen : its.length = es.length := by rw [← rvs.length, hrs.length]
  obtain ⟨⟨oc, vs0, tt, hoc, hdc, hvc⟩, _, _⟩ := I3.hok c' _ hc3
  have hk : ∀ i : Nat, ∃ y : Value, ∀ v, its[i]? = some v → ∃ (t : Addr) (items : List Value) (jn : Nat), v = .ref t ∧ IsTup s3.heap t items.toArray ∧ seqIndex? j items.length = some jn ∧ items[jn]? = some y ∧ PySem.W.Holds s3.heap y (⟨ks.getD i []⟩ : PySem.W.Tup Int) := fun i => by
    cases hi : its[i]? with
    | none => exact ⟨.none, fun v e => by cases e⟩
    | some v0 =>
      have hil : i < es.length := by
        have := List.getElem?_eq_some_iff.mp hi
        obtain ⟨h, _⟩ := this
        omega
      have hei := List.getElem?_eq_getElem hil
      obtain ⟨hk1, _⟩ := keysAt_get hks hei
      obtain ⟨itemsD, ms, ed, hat, hms⟩ := keyAt_of hk1
      obtain ⟨w0, hw0, rw0⟩ := hrs.get hei
      rw [ed] at rw0
      obtain ⟨t, ws2, rfl, ht, hr2⟩ := rw0
      obtain ⟨v1, hv1, rv1⟩ := rvs.get hw0
      rw [hi] at hv1
      cases hv1
      obtain ⟨its2, rvs2, pl2, hz2⟩ := I3.tuple ht
      obtain ⟨jn, h2, h3, _, _, _⟩ := atI_get hat
      obtain ⟨w1, hw1, rw1⟩ := hr2.get h3
      obtain ⟨b, ws3, rfl, hb, hr3⟩ := rw1
      obtain ⟨u1, hu1, ru1⟩ := rvs2.get hw1
      have hi3 : ws3 = (ks.getD i []).map V.int := rps_intsE (K := X.K) (H := H3) (by rw [← asInts_eq hms]; exact hr3)
      rw [hi3] at hb
      refine ⟨u1, fun v e => ?_⟩
      cases e
      refine ⟨t, its2, jn, rv1, pl2, by rw [← rvs2.length, hr2.length]; exact h2, hu1, ?_⟩
      cases ru1
      exact holds_tup I3 hb
  obtain ⟨kv, hkv⟩ := Classical.axiomOfChoice hk
  show wpAny _ _ (call (.builtin "max") [.ref l] [(Str.ofString "key", .ref f)]) _ _ _
  refine call_maxsub (vs := its) (kv := kv) (ks := ks) hr.hd pl.isList L hf ⟨oc, vs0, tt, hoc, hdc, hvc⟩ (fun u => hbind _ _ _ _ _) (fun i v e => hkv i v e) h0 h1 (hr.in1.depth) (by have := hr.in1.units; exact this) I3.nolimit hdb (by omega) fun h' tk v hv kp => ?_
  rw [hlen] at hv
  obtain ⟨w, hw, rw'⟩ := hrs.get hdm
  obtain ⟨v2, hv2, rv2⟩ := rvs.get hw
  rw [hv] at hv2
  cases hv2
  exact ⟨w, H3, I3.kept (t' := tk) kp, rv2, dm, G1, rw', sm3, x1.trans x3, hfin⟩⟩
end DL

namespace L2
open PySem PySem.Spec PyProof.Rows
open PpSet (newSet_ok eval_SetComp compLoopS_any codeAny_compStart_set)
theorem setK_fresh {P : Program} {w : World} {h : Heap} : (h.push { cls := .type "set", dict := none, data := .set #[] 0 (.fresh 0 0 (!w.params.followText "set-order")) }).SetOf (mixKind P w) h.objs.size (fun _ => false) 0 :=
  ⟨_, #[], 0, _, Heap.get?_push_size _ rfl, ⟨rfl, rfl, rfl⟩, rfl, (fun e he => by simp at he), (fun k => by simp), (by decide), (by rfl), rfl⟩
section
variable {X : Cx}
theorem addK_ok {pins : List (Addr × Obj)} {σ : L2.St} {H : Hp} {s : Shared} {E : Value → Shared → Prop} {D : Addr} {S : Key → Bool} {n : Nat} {y : Key} {u : Value} {Q : Value → Shared → Prop} (I : Inv X pins σ H s) (hD : H D = some (SetK X.prog X.w D S n)) (room : n + 1 < scanBound) (ru : RelV (kV y) u)
    (h : ∀ s', Inv X pins σ (upd H D (SetK X.prog X.w D (fun j => S j || decide (j = y)) (if S y = true then n else n + 1))) s' → Q .none s') : wpAny (model X.prog X.w) X.A (call (.builtin "set.add") [.ref D, u]) Q E s := by
  refine call_set_add (kV_is ru) (key_scan ru) (setK_get I hD) room fun h' sb new => ?_
  have he : ∃ u, h'.get? D = some u := by
    have ⟨o, _, _, _, ho, _⟩ := new
    exact ⟨o, ho⟩
  refine h _ (I.write (e := D) (t' := s.toks + 1) (by rw [hD]; trivial) (.inl rfl) (fun b u hb hu => (sb.2 b hb).trans hu) he (setK_new new))
/-- {elt for target in iter if ..}, elt a truth value: D the new set -/
def tScK (P : Program) (w : World) (wi : TI) (g : TG) (tt : TT) (te : TE) (vs : List Nat) : TE := fun σ H Q => wi σ H fun J H1 => ∀ D, H1 D = none → ∃ W : Nat → Nat → Hp → Prop, (∃ m, W 0 m (upd H1 D (SetK P w D (fun _ => false) 0))) ∧ ∀ i m H, W i m H →
  (J.stop i H ∧ Q (.ref D) H) ∨ (J.go i H ∧ ∃ Nx : Hp → Prop, (∀ H', Nx H' → ∃ m', m' < m ∧ W (i + 1) m' H') ∧ ∀ x H', J.yld i H x H' → g x (wipe σ vs) H' fun σ2 H2 => wipe σ2 vs = wipe σ vs ∧ tt σ2 H2 fun b H3 =>
    if b = true then te σ2 H3 fun y H4 => ∃ (c : Key) (S : Key → Bool) (n : Nat), y = kV c ∧ H4 D = some (SetK P w D S n) ∧ n + 1 < scanBound ∧ Nx (upd H4 D (SetK P w D (fun j => S j || decide (j = c)) (if S c = true then n else n + 1))) else Nx H3)
theorem scK_core {pins : List (Addr × Obj)} {s : Shared} {σ : L2.St} {H : Hp} {Q : VK} {elt tg iter : Expr} {ifs : List Expr} {scope : Scope} {own : List (PySem.Str × Nat)} {pos pos' : Pos} {wi : TI} {g : TG} {tt : TT} {te : TE} {use : Option (Value → Sem Unit)} {Qf : Value → Shared → Prop}
    (hc : X.calm = true) (hN : X.N.Nodup) (I : Inv X pins σ H s) (hi : PI X tg iter wi) (ok : BlkOk X.N X.env.scope scope own)
    (hg : ∀ (s : Shared) (H : Hp) (C : Addr) (cl : List (PySem.Str × Addr)) (fp : List Addr), PG (X.blk s H scope (compEnvC scope cl C X.env) fp) tg g) (ht : ∀ (s : Shared) (H : Hp) (C : Addr) (cl : List (PySem.Str × Addr)) (fp : List Addr), PTs (X.blk s H scope (compEnvC scope cl C X.env) fp) ifs tt)
    (he : ∀ (s : Shared) (H : Hp) (C : Addr) (cl : List (PySem.Str × Addr)) (fp : List Addr), PE (X.blk s H scope (compEnvC scope cl C X.env) fp) elt te) (hs : ∀ x, foldedSetIterable iter X.env x = pure x)
    (h : tScK X.prog X.w wi g tt te (own.map (·.2)) σ H Q)
    (hRR : ∀ D C s' m H', Inv X pins σ H' s' → Q (.ref D) H' → s'.heap.Ns C m → FpOk X pins H' C → compPost (model X.prog X.w) X.A X.xe use Qf (.ref D) C (.ok .next) s') :
    wpAny (model X.prog X.w) X.A (comprehension (.SetComp elt [⟨tg, iter, ifs, 0⟩] scope pos) scope X.env pos' (newSet (.type "set")) false (eval iter X.env) use) Qf X.xe s := by
  have hfree : ∀ y ∈ scope.names, y.2 = .free → ∃ c, X.env.cells.lookup y.1 = some c := fun y hy e => by
    rcases ok.free y hy e with k | k
    · exact I.ok.has _ (.inl k)
    · exact I.ok.has _ (.inr k)
  refine wpAny_comprehension_free (use := use) rfl hs (closure_ok hfree) ok.kind (fun y hy e => by rw [ok.uniq y hy, e])
    (thn (hi.run pins s σ H _ I h) fun xv s1 hx => thn hx fun itv s2 h2 => ?_)
  obtain ⟨it, fp, tn, J, H2, e, I2, T, st2, f2, q⟩ := h2
  subst e
  refine newSet_ok (newEnv_comp ?_)
  generalize hD : s2.heap.objs.size = D
  have hDn : H2 D = none := I2.hok.fresh (Nat.le_of_eq hD)
  obtain ⟨W, ⟨m0, w0⟩, turn⟩ := q D hDn
  -- the new list
  generalize hs3 : ({ s2 with heap := s2.heap.push { cls := .type "set", dict := none, data := .set #[] 0 (.fresh 0 0 (!X.w.params.followText "set-order")) } } : Shared) = s3
  have I3 : Inv X pins σ (upd H2 D (SetK X.prog X.w D (fun _ => false) 0)) s3 := by
    rw [← hs3]
    refine I2.laid (t' := s2.toks) (fun b o e => Heap.get?_push_of_some _ e) (Nat.le_of_eq hD) ?_
    rw [← hD]
    exact setK_new setK_fresh
  have h3 : s3.heap = s2.heap.push { cls := .type "set", dict := none, data := .set #[] 0 (.fresh 0 0 (!X.w.params.followText "set-order")) } := by rw [← hs3]
  have sz : ∀ b ∈ fp, b < s2.heap.objs.size := fun b hb => by
    obtain ⟨o, e, _⟩ := T.obj _ _ st2 b hb
    exact Heap.lt_size e
  have f3 : ∀ b ∈ fp, FpOk X pins (upd H2 D (SetK X.prog X.w D (fun _ => false) 0)) b ∧ b < s3.heap.objs.size := fun b hb => by
    have hlt := sz b hb
    refine ⟨⟨?_, (f2 b hb).2⟩, by rw [h3, Heap.size_push]; exact Nat.lt_succ_of_lt hlt⟩
    rw [upd_ne (by rw [← hD]; exact Nat.ne_of_lt hlt)]
    exact (f2 b hb).1
  have st3 : tn 0 s3.heap := T.keep _ _ _ st2 fun b _ o e => by rw [h3]; exact Heap.get?_push_of_some _ e
  have I4 := block_start I3 ok hN f3
  have pg := hg s3 (upd H2 D (SetK X.prog X.w D (fun _ => false) 0)) s3.heap.objs.size (cellsFrom (s3.heap.objs.size + 1) scope.names (cloFrom X.env.cells scope.names [])) fp
  have pt := ht s3 (upd H2 D (SetK X.prog X.w D (fun _ => false) 0)) s3.heap.objs.size (cellsFrom (s3.heap.objs.size + 1) scope.names (cloFrom X.env.cells scope.names [])) fp
  have pe := he s3 (upd H2 D (SetK X.prog X.w D (fun _ => false) 0)) s3.heap.objs.size (cellsFrom (s3.heap.objs.size + 1) scope.names (cloFrom X.env.cells scope.names [])) fp
  show codeAny _ _ (.compStart (.SetComp elt [⟨tg, iter, ifs, 0⟩] scope pos) 0 (.ref it) (.ref D) (compEnvC scope (cellsFrom (s3.heap.objs.size + 1) scope.names (cloFrom X.env.cells scope.names [])) s3.heap.objs.size X.env)) (compPost (model X.prog X.w) X.A X.xe use Qf (.ref D) s3.heap.objs.size) { s3 with heap := pushCells (s3.heap.push { cls := .type "dict", data := .dict #[] }) scope.names }
  have nfp : ∀ b ∈ fp, (upd H2 D (SetK X.prog X.w D (fun _ => false) 0)) b = none := fun b hb => (f3 b hb).1.1
  generalize hce : compEnvC scope (cellsFrom (s3.heap.objs.size + 1) scope.names (cloFrom X.env.cells scope.names [])) s3.heap.objs.size X.env = ce at I4 pg pt pe ⊢
  have cL : ce.locals = s3.heap.objs.size := by subst hce; rfl
  generalize hH3 : upd H2 D (SetK X.prog X.w D (fun _ => false) 0) = H3 at I3 I4 pg pt pe w0 nfp f3
  generalize hs4 : ({ s3 with heap := pushCells (s3.heap.push { cls := .type "dict", data := .dict #[] }) scope.names } : Shared) = s4 at I4 ⊢
  have st4 : tn 0 s4.heap := T.keep _ _ _ st3 fun b _ o e => by rw [← hs4]; exact pushCells_keeps _ _ _ _ (Heap.get?_push_of_some _ e)
  have stat : ∀ {σ' : L2.St} {H' : Hp} {s' : Shared}, Inv (X.blk s3 H3 scope ce fp) [] σ' H' s' → (∀ b ∈ fp, H' b = none) → ∀ b ∈ fp, FpOk (X.blk s3 H3 scope ce fp) [] H' b := fun {σ' H' s'} I' hn b hb =>
    ⟨hn b hb, (I'.ok.exf b hb).1, I'.ok.exfs b hb, .inl hb, fun x c e => (I'.ok.exf b hb).2 x c e, fun p hp => absurd (show p ∈ ([] : List (Addr × Obj)) ++ [] from hp) (by simp)⟩
  have loop : codeAny (model X.prog X.w) X.A (.compLoop (.SetComp elt [⟨tg, iter, ifs, 0⟩] scope pos) 0 (.ref it) (.ref D) ce) (compPost (model X.prog X.w) X.A X.xe use Qf (.ref D) s3.heap.objs.size) s4 := by
    refine compLoopS_any (fun n s' => ∃ i H', Inv (X.blk s3 H3 scope ce fp) [] (wipe σ (own.map (·.2))) H' s' ∧ tn i s'.heap ∧ (∀ b ∈ fp, H' b = none) ∧ W i n H') ?_ m0 ⟨0, H3, I4, st4, nfp, w0⟩
    rintro n s5 ⟨i, H5, I5, st5, n5, w5⟩
    rcases turn i n H5 w5 with ⟨stop, qq⟩ | ⟨go, Nx, hNx, step⟩
    · have td := T.done (X.blk s3 H3 scope ce fp) rfl rfl rfl hc i [] s5 _ H5 (fun _ _ => False) I5 (stat I5 n5) st5 stop
      refine thnF td fun r s6 ⟨hr, I6⟩ => ?_
      subst hr
      -- back in the def's context
      have I7 : Inv X pins σ H5 s6 := I3.call' (ch := fp) I6.os I6.base I6.hok I6.bare fun b hb => ⟨(f3 b hb).1.2.2.2.1, (f3 b hb).1.2.1, (f3 b hb).1.2.2.2.2.1, (f3 b hb).1.2.2.2.2.2⟩
      have nC : H5 s3.heap.objs.size = none := by
        have z : H5 ce.locals = none := I6.free
        rw [cL] at z
        exact z
      obtain ⟨m, hn, _⟩ := I6.loc
      have hn : s6.heap.Ns ce.locals m := hn
      rw [cL] at hn
      exact hRR D s3.heap.objs.size s6 m H5 I7 qq hn (I3.fpOk (Nat.le_refl _) nC)
    · have ti := T.item (X.blk s3 H3 scope ce fp) rfl rfl rfl hc i [] s5 _ H5 (fun _ _ => False) I5 (stat I5 n5) st5 go
      refine thnF ti fun r s6 ⟨u, hr, h6⟩ => ?_
      subst hr
      refine thnF h6 fun _ s7 ⟨x, H7, I7, r7, y7, st7, n7⟩ => ?_
      have I7' := I7.pinned (stat I7 n7) (T.obj _ _ st7)
      refine thnF (pg.run _ s7 _ H7 x u _ I7' r7 (step x H7 y7)) fun _ s8 ⟨σ8, H8, I8, hw8, q8⟩ => ?_
      refine thnF (pt.run _ s8 σ8 H8 _ I8 q8) fun b s9 ⟨H9, I9, q9⟩ => ?_
      -- the turn's end
      have fin : ∀ {s' : Shared} {H' : Hp}, Inv (X.blk s3 H3 scope ce fp) ([] ++ pinsAt fp s7.heap) σ8 H' s' → Nx H' → ∃ m, m < n ∧ ∃ i H', Inv (X.blk s3 H3 scope ce fp) [] (wipe σ (own.map (·.2))) H' s' ∧ tn i s'.heap ∧ (∀ b ∈ fp, H' b = none) ∧ W i m H' := fun {s' H'} I' nx => by
        obtain ⟨m', hm, w'⟩ := hNx H' nx
        have pin' : ∀ b ∈ fp, ∀ o, s7.heap.get? b = some o → s'.heap.get? b = some o ∧ H' b = none := fun b hb o e =>
          let z := I'.pin (b, o) (List.mem_append_right _ (List.mem_append_right _ (mem_pinsAt hb e)))
          ⟨z.1, z.2.1⟩
        have hl : (wipe σ (own.map (·.2))).length = σ8.length := by rw [← hw8, wipe_length]
        refine ⟨m', hm, i + 1, H', (I'.unpinned (pins := [])).weak hl (fun j v e => ?_), T.keep _ _ _ st7 fun b hb o e => (pin' b hb o e).1, fun b hb => ?_, w'⟩
        · rw [← hw8] at e
          exact (wipe_some e).1
        · obtain ⟨o, e, _⟩ := T.obj _ _ st7 b hb
          exact (pin' b hb o e).2
      cases b with
      | false =>
        simp only [Bool.false_eq_true, if_false] at q9 ⊢
        exact fin I9 q9
      | true =>
        simp only [if_true] at q9 ⊢
        refine thnF (pe.run _ s9 σ8 H9 _ I9 q9) fun z s10 ⟨yv, H10, I10, r10, cb, S0, n0, ey, hD10, hz10, nx⟩ => ?_
        subst ey
        exact addK_ok (X := X.blk s3 H3 scope ce fp) I10 hD10 hz10 r10 fun s11 I11 => fin I11 nx
  exact codeAny_compStart_set loop (T.self X.A 0 _ _ _ st4 loop)
/-- as a value -/
theorem pe_scK {elt tg iter : Expr} {ifs : List Expr} {scope : Scope} {own : List (PySem.Str × Nat)} {pos : Pos} {wi : TI} {g : TG} {tt : TT} {te : TE} (hc : X.calm = true) (hN : X.N.Nodup) (hi : PI X tg iter wi) (ok : BlkOk X.N X.env.scope scope own)
    (hg : ∀ (s : Shared) (H : Hp) (C : Addr) (cl : List (PySem.Str × Addr)) (fp : List Addr), PG (X.blk s H scope (compEnvC scope cl C X.env) fp) tg g) (ht : ∀ (s : Shared) (H : Hp) (C : Addr) (cl : List (PySem.Str × Addr)) (fp : List Addr), PTs (X.blk s H scope (compEnvC scope cl C X.env) fp) ifs tt)
    (he : ∀ (s : Shared) (H : Hp) (C : Addr) (cl : List (PySem.Str × Addr)) (fp : List Addr), PE (X.blk s H scope (compEnvC scope cl C X.env) fp) elt te) (hs : ∀ x, foldedSetIterable iter X.env x = pure x := by intro _; rfl) :
    PE X (.SetComp elt [⟨tg, iter, ifs, 0⟩] scope pos) (tScK X.prog X.w wi g tt te (own.map (·.2))) := by
  refine ⟨fun pins s σ H Q I h => ?_⟩
  rw [eval_SetComp]
  refine scK_core hc hN I hi ok hg ht he hs h fun D C s' m H' I' q hn f => ⟨m, hn, fun h'' sb => ?_⟩
  obtain ⟨f0, f1, f2, f3, f4, f5⟩ := f
  exact ⟨.ref D, H', I'.turned (t' := s'.toks) (fun b o hb e => (sb.2 b hb).trans e) f0 f1 f3 f4 f5, rfl, q⟩
end

end L2

/-! len({elt for x in xs if ..}), elt a text or an int -/
namespace DL
open PySem PySem.Spec L2
open PyProof.Rows hiding St
def keyL : List D → Option (List Key)
  | [] => some []
  | d :: r => match keyOfD d, keyL r with
    | some k, some l => some (k :: l)
    | _, _ => none
def hasE {α : Type} [DecidableEq α] (k : α) (l : List α) : Bool := l.any fun j => decide (j = k)
theorem hasE_iff {α : Type} [DecidableEq α] {k : α} {l : List α} : hasE k l = true ↔ k ∈ l := by
  unfold hasE
  rw [List.any_eq_true]
  constructor
  · rintro ⟨x, hx, e⟩; rw [← of_decide_eq_true e]; exact hx
  · intro h; exact ⟨k, h, decide_eq_true rfl⟩
/-- the unlike ones, each once -/
def addE {α : Type} [DecidableEq α] (acc : List α) (k : α) : List α := if hasE k acc = true then acc else acc ++ [k]
def unl {α : Type} [DecidableEq α] (ks : List α) : List α := ks.foldl addE []
section
variable {α : Type} [DecidableEq α]
theorem unl_snoc (ks : List α) (k : α) : unl (ks ++ [k]) = addE (unl ks) k := by unfold unl; rw [List.foldl_append]; rfl
theorem addE_mem {acc : List α} {x k : α} : k ∈ addE acc x ↔ k ∈ acc ∨ k = x := by
  unfold addE
  split
  · rename_i h
    have h := hasE_iff.mp h
    constructor
    · exact .inl
    · rintro (h1 | rfl)
      · exact h1
      · exact h
  · simp
theorem unl_mem_aux : ∀ (ks acc : List α) (k : α), k ∈ ks.foldl addE acc ↔ k ∈ acc ∨ k ∈ ks
  | [], acc, k => by simp
  | x :: ks, acc, k => by
    rw [List.foldl_cons, unl_mem_aux ks, addE_mem, List.mem_cons, or_assoc]
theorem unl_mem {ks : List α} {k : α} : k ∈ unl ks ↔ k ∈ ks := by unfold unl; rw [unl_mem_aux]; simp
theorem addE_len {acc : List α} {x : α} : (addE acc x).length ≤ acc.length + 1 := by
  unfold addE
  split
  · omega
  · rw [List.length_append]; exact Nat.le_refl _
theorem unl_len_aux : ∀ (ks acc : List α), (ks.foldl addE acc).length ≤ acc.length + ks.length
  | [], acc => by simp
  | x :: ks, acc => by
    rw [List.foldl_cons]
    have h1 := unl_len_aux ks (addE acc x)
    have h2 := addE_len (acc := acc) (x := x)
    rw [List.length_cons]; omega
theorem unl_len (ks : List α) : (unl ks).length ≤ ks.length := by have := unl_len_aux ks []; simpa [unl] using this
theorem unl_next (ks : List α) (k : α) (S : α → Bool) (h : ∀ j, S j = hasE j ks) : (unl (ks ++ [k])).length = if S k = true then (unl ks).length else (unl ks).length + 1 := by
  rw [unl_snoc, h k]
  unfold addE
  by_cases hk : k ∈ ks
  · rw [if_pos (hasE_iff.mpr (unl_mem.mpr hk)), if_pos (hasE_iff.mpr hk)]
  · rw [if_neg (fun z => hk (unl_mem.mp (hasE_iff.mp z))), if_neg (fun z => hk (hasE_iff.mp z)), List.length_append]; rfl
end
end DL

namespace DL
open PySem PySem.Spec L2
open PyProof.Rows hiding St
theorem heap_size : ∀ a : Nat, ∃ h : Heap, h.objs.size = a
  | 0 => ⟨{}, rfl⟩
  | a + 1 => by
    obtain ⟨h, e⟩ := heap_size a
    exact ⟨h.push default, by rw [Heap.size_push, e]⟩
theorem heap_at (a : Addr) (ob : Obj) (hf : ob.isFreed = false) : ∃ h : Heap, h.get? a = some ob := by
  obtain ⟨h, e⟩ := heap_size a
  subst e
  exact ⟨h.push ob, Heap.get?_push_size _ hf⟩
theorem setK_ne {P : Program} {w : World} {a : Addr} {S : Key → Bool} {n : Nat} {φ : Heap → Prop} (ob : Obj) (hf : ob.isFreed = false) (hd : ∀ es ep t, ob.data ≠ .set es ep t) (hφ : ∀ h : Heap, h.get? a = some ob → φ h) : SetK P w a S n ≠ .ext φ := fun e => by
  obtain ⟨h, hh⟩ := heap_at a ob hf
  unfold SetK at e
  injection e with e
  have e2 := congrFun e h
  have z : h.SetOf (mixKind P w) a S n := by
    have := hφ h hh
    rw [← e2] at this
    exact this
  obtain ⟨o, es, ep, t, ho, _, hs, _⟩ := z
  rw [hh] at ho
  cases ho
  exact hd _ _ _ hs
theorem setK_emp {P : Program} {w : World} {a : Addr} {S : Key → Bool} {n : Nat} {ob : Obj} (q : EmOb ob) : SetK P w a S n ≠ EmV ob a := by
  obtain ⟨_, ep, hd⟩ := q
  exact setK_ne ob (by obtain ⟨c, d, dt, sl⟩ := ob; cases hd; rfl) (fun es ep t z => by rw [hd] at z; cases z) fun h e => e
theorem setK_exc {P : Program} {w : World} {a C : Addr} {dd : Option Addr} {S : Key → Bool} {n : Nat} : SetK P w a S n ≠ ExV C dd a :=
  setK_ne { cls := .ref C, dict := dd, data := .fields #[] } rfl (fun es ep t z => by cases z) fun h e => ⟨_, _, e, ⟨rfl, rfl⟩, rfl⟩
theorem setK_code {P : Program} {w : World} {a : Addr} {S : Key → Bool} {n : Nat} {q : Str} : SetK P w a S n ≠ LamX.CodeO a q :=
  setK_ne { cls := .none, data := .fields #[.none, .str q 0] } rfl (fun es ep t z => by cases z) fun h e => ⟨_, _, 0, e, rfl, rfl⟩
section
variable {K : PySem.W.Frag} {G : HD} {H : Hp}
/-- a dict that is not of ours grows -/
theorem SqT.asideK {p : Addr} {P : Program} {w : World} {S : Key → Bool} {n : Nat} {o' : HO} (hp : H p = some (SetK P w p S n)) {a : Addr} {vs : List V} (h : SqT K H a vs) : SqT K (upd H p o') a vs := by
  rcases h with (h | ⟨o, h⟩) | h
  · exact .inl (.inl (by rw [upd_ne (by rintro rfl; rw [hp] at h; unfold SetK at h; cases h)]; exact h))
  · exact .inl (.inr ⟨o, by rw [upd_ne (by rintro rfl; rw [hp] at h; unfold SetK at h; cases h)]; exact h⟩)
  · exact .inr h
mutual
theorem Rp.asideK {p : Addr} {P : Program} {w : World} {S : Key → Bool} {n : Nat} {o' : HO} (hp : H p = some (SetK P w p S n)) : ∀ (d : D) (v : V), Rp K H d v → Rp K (upd H p o') d v
  | .non, _, h => h
  | .bl _, _, h => h
  | .int _, _, h => h
  | .str _, _, h => h
  | .ty _, _, h => h
  | .ref _, _, h => h
  | .tup ds, v, h => by
    obtain ⟨a, vs, e, t, r⟩ := h
    exact ⟨a, vs, e, SqT.asideK hp t, Rps.asideK hp ds vs r⟩
  | .kl ds, v, h => by
    obtain ⟨a, vs, e, ⟨o, t⟩, r⟩ := h
    exact ⟨a, vs, e, ⟨o, by rw [upd_ne (by rintro rfl; rw [hp] at t; unfold SetK at t; cases t)]; exact t⟩, Rps.asideK hp ds vs r⟩
  | .kc ds, v, h => by
    obtain ⟨a, vs, e, t, r⟩ := h
    refine ⟨a, vs, e, ?_, Rps.asideK hp ds vs r⟩
    rcases t with ⟨o, t⟩ | t
    · exact .inl ⟨o, by rw [upd_ne (by rintro rfl; rw [hp] at t; unfold SetK at t; cases t)]; exact t⟩
    · exact .inr t
  | .exc C ns ds, v, h => by
    obtain ⟨a, dd, vs, e, t, hl, q, r⟩ := h
    refine ⟨a, dd, vs, e, by rw [upd_ne (by rintro rfl; rw [hp] at t; exact setK_exc (Option.some.inj t))]; exact t, hl, ?_, Rps.asideK hp ds vs r⟩
    rcases q with q | ⟨b, q1, q2⟩
    · exact .inl q
    · exact .inr ⟨b, q1, by rw [upd_ne (by rintro rfl; rw [hp] at q2; unfold SetK at q2; cases q2)]; exact q2⟩
  | .fn f c p u d, v, h => ⟨h.1, by rw [upd_ne (by rintro rfl; have z := h.2.1; rw [hp] at z; exact setK_code (Option.some.inj z))]; exact h.2.1, Rp.asideK hp d u h.2.2⟩
  | .emp, v, h => by
    obtain ⟨a, ob, e, m, t, q⟩ := h
    exact ⟨a, ob, e, m, by rw [upd_ne (by rintro rfl; rw [hp] at t; exact setK_emp q (Option.some.inj t))]; exact t, q⟩
theorem Rps.asideK {p : Addr} {P : Program} {w : World} {S : Key → Bool} {n : Nat} {o' : HO} (hp : H p = some (SetK P w p S n)) : ∀ (ds : List D) (vs : List V), Rps K H ds vs → Rps K (upd H p o') ds vs
  | [], _, h => h
  | d :: ds, vs, h => by
    obtain ⟨v, r, e, h1, h2⟩ := h
    exact ⟨v, r, e, Rp.asideK hp d v h1, Rps.asideK hp ds r h2⟩
end
theorem RKV.asideK {κ : Type} {p : Addr} {P : Program} {w : World} {S : Key → Bool} {n : Nat} {o1 : HO} (hp : H p = some (SetK P w p S n)) : ∀ (a : List (κ × D)) (m : List (κ × V)), RKV K H a m → RKV K (upd H p o1) a m
  | [], _, h => h
  | q :: a, m, h => by
    obtain ⟨v, r, e, h1, h2⟩ := h
    exact ⟨v, r, e, h1.asideK hp _ _, RKV.asideK hp a r h2⟩
theorem RO.asideK {p : Addr} {P : Program} {w : World} {S : Key → Bool} {n : Nat} {o1 : HO} (hp : H p = some (SetK P w p S n)) : ∀ (o : MO) (o' : HO), RO K H o o' → RO K (upd H p o1) o o'
  | .lst ds, _, h => let ⟨vs, e, r⟩ := h; ⟨vs, e, r.asideK hp _ _⟩
  | .dK _, _, h => let ⟨vs, e, r⟩ := h; ⟨vs, e, r.asideK hp _ _⟩
  | .dT _, _, h => let ⟨vs, e, r⟩ := h; ⟨vs, e, r.asideK hp _ _⟩
  | .ins _ _, _, h => let ⟨dx, vs, e, r⟩ := h; ⟨dx, vs, e, r.asideK hp _ _⟩
  | .fz ob w u, _, h => let ⟨e, r, z⟩ := h; ⟨e, RO.asideK hp u w r, z⟩
  | .tab q, _, h => let ⟨ps, e, t, z⟩ := h; ⟨ps, e, t, fun pos cv hc => let ⟨c, e1, e2⟩ := z pos cv hc; ⟨c, e1, by rw [upd_ne (by rintro rfl; rw [hp] at e2; exact setK_code (Option.some.inj e2))]; exact e2⟩⟩
theorem Sim.asideK (s : Sim K G H) {p : Addr} {P : Program} {w : World} {S : Key → Bool} {n : Nat} {o1 : HO} (hp : H p = some (SetK P w p S n)) (hg : G p = none) : Sim K G (upd H p o1) := fun a o e => by
  obtain ⟨o', e1, r⟩ := s a o e
  have hn : a ≠ p := by rintro rfl; rw [hg] at e; cases e
  exact ⟨o', by rw [upd_ne hn]; exact e1, r.asideK hp _ _⟩
theorem RpS.asideK {p : Addr} {P : Program} {w : World} {S : Key → Bool} {n : Nat} {o1 : HO} (hp : H p = some (SetK P w p S n)) : ∀ (σ : DSt) (t : L2.St), RpS K H σ t → RpS K (upd H p o1) σ t
  | [], _, h => h
  | o :: r, _, h => by
    obtain ⟨w, t, rfl, h1, h2⟩ := h
    refine ⟨w, t, rfl, fun d e => ?_, RpS.asideK hp r t h2⟩
    obtain ⟨v, e1, e2⟩ := h1 d e
    exact ⟨v, e1, e2.asideK hp _ _⟩
end
end DL

/-! the loop of {elt for x in xs if ..} -/
namespace DL
open PySem PySem.Spec L2
open PyProof.Rows hiding St
def scD (ok : HD → Prop) (step : D → (D → HD → Prop) → (HD → Prop) → HD → Prop) (fin : List Key → HD → Prop) : List D → List Key → HD → Prop
  | [], acc => fun G => ∃ G0, Le G0 G ∧ ok G0 ∧ fin acc G0
  | x :: xs, acc => fun G => ∃ G0, Le G0 G ∧ ok G0 ∧ step x (fun y G' => ∃ k, keyOfD y = some k ∧ scD ok step fin xs (acc ++ [k]) G') (fun G' => scD ok step fin xs acc G') G0
def dScG (fin : List Key → HD → Prop) (ti : TDI) (t : Tgt) (dt : TDT) (te : TD) (vs : List Nat) (W : DW) (σ : DSt) (G : HD) : Prop := ti W σ G fun I G1 => I.xs.length ≤ 4000 ∧
  scD I.ok (fun d ky kn G' => t.put d (dwipe σ vs) fun σ2 => dt W0 σ2 G' fun b G2 => if b = true then te W0 σ2 G2 ky else kn G2) fin I.xs [] G1
section
variable {X : Cx} {elt tg iter : Expr} {ifs : List Expr} {scope : Scope} {own : List (Str × Nat)} {pos : Pos} {wi : TI} {ti : TDI} {t : Tgt} {g : TG} {dt : TDT} {te : TD}
theorem sc_run (hi : DI X tg iter wi ti) (hg : TgRun X.K t g)
    (hsl : ∀ i ∈ t.slots, i ∈ own.map (·.2))
    {tt : TT} {teV : TE}
    (htt : ∀ (G : HD) (H : Hp) (σ : DSt) (τ : L2.St) (Q : Bool → HD → Prop) (Q' : Bool → Hp → Prop), Sim X.K G H → RpS X.K H σ τ → dt W0 σ G Q → (∀ b H', liftB X.K G H Q b H' → Q' b H') → tt τ H Q')
    (hte : ∀ (G : HD) (H : Hp) (σ : DSt) (τ : L2.St) (Q : Post) (Q' : VK), Sim X.K G H → RpS X.K H σ τ → te W0 σ G Q → (∀ v H', liftQ X.K G H Q v H' → Q' v H') → teV τ H Q')
    {G : HD} {H : Hp} {σ : DSt} {τ : L2.St} {W : DW} {F : List Key → HD → Prop} {Q' : VK} (r : SR X G H σ τ W) (q : dScG F ti t dt te (own.map (·.2)) W σ G)
    (fin : ∀ D0 acc S G0 H', (∀ a o, G a = none → H a = some o → a ≠ D0) → Sim X.K G0 H' → Ext G H G0 H' → H' D0 = some (SetK X.prog X.w D0 S (unl acc).length) → G0 D0 = none → F acc G0 → Q' (.ref D0) H') : tScK X.prog X.w wi g tt teV (own.map (·.2)) τ H Q' := by
  have hsb : (4001 : Nat) < scanBound := by decide
  refine hi.run G H σ τ W _ _ r q fun I J G1 H1 s1 x1 rel q1 D0 hD => ?_
  obtain ⟨hz, q1⟩ := q1
  have r1 := r.ext s1 x1
  have n0 := s1.no hD
  refine ⟨fun i m H' => ∃ G' acc S, H' D0 = some (SetK X.prog X.w D0 S (unl acc).length) ∧ G' D0 = none ∧ (∀ j, S j = hasE j acc) ∧ acc.length ≤ i ∧ Sim X.K G' H' ∧ Ext G1 H1 G' H' ∧ m = I.xs.length - i ∧ i ≤ I.xs.length ∧
      scD I.ok (fun d ky kn G' => t.put d (dwipe σ (own.map (·.2))) fun σ2 => dt W0 σ2 G' fun b G2 => if b = true then te W0 σ2 G2 ky else kn G2) F (I.xs.drop i) acc G',
    ⟨_, G1, [], fun _ => false, upd_same, n0, fun _ => rfl, Nat.zero_le _, s1.newO hD, .new hD n0, rfl, Nat.zero_le _, by rw [List.drop_zero]; exact q1⟩, ?_⟩
  rintro i m H' ⟨G', acc, S, hl, hn, hS, hle0, s', x', rfl, hle, q'⟩
  by_cases hlt : i < I.xs.length
  · have hx : I.xs[i]? = some I.xs[i] := by simp [hlt]
    rw [drop_get hx] at q'
    obtain ⟨G0, l0, ok0, q0⟩ := q'
    have s0 := s'.le l0
    have x0 : Ext G1 H1 G0 H' := x'.le l0
    have e0 : Ext G' H' G0 H' := .of_le l0
    refine .inr ⟨rel.go i G0 H' s0 x0.l ok0 hlt, fun H2 => ∃ G2 acc2 S2, H2 D0 = some (SetK X.prog X.w D0 S2 (unl acc2).length) ∧ G2 D0 = none ∧ (∀ j, S2 j = hasE j acc2) ∧ acc2.length ≤ i + 1 ∧ Sim X.K G2 H2 ∧ Ext G1 H1 G2 H2 ∧
        scD I.ok (fun d ky kn G' => t.put d (dwipe σ (own.map (·.2))) fun σ2 => dt W0 σ2 G' fun b G2 => if b = true then te W0 σ2 G2 ky else kn G2) F (I.xs.drop (i + 1)) acc2 G2,
      fun H2 ⟨G2, a2, v2, b1, b2, b3, b4, b5, b6, b7⟩ => ⟨_, by omega, G2, a2, v2, b1, b2, b3, b4, b5, b6, rfl, hlt, b7⟩, fun v H2 hy => ?_⟩
    obtain ⟨d, e1, e2, e3, e4⟩ := rel.yld i G0 H' v H2 s0 x0.l ok0 hlt hy
    rw [hx] at e1; cases e1
    have x2 := x0.trans e4
    have slots2 : RpS X.K H2 (dwipe σ (own.map (·.2))) (L2.wipe τ (own.map (·.2))) := (r1.slots.ext s1 x2 _ _).wipe _
    refine hg.run H2 _ _ _ v _ _ slots2 e2 q0 fun σ2 τ2 k2 q2 hw => ⟨(hw _ hsl).trans wipe_wipe, ?_⟩
    have n1 : G0 D0 = none := l0.no hn
    obtain ⟨hl2, n2⟩ := e4 D0 _ n1 hl
    refine htt G0 H2 σ2 τ2 _ _ e3 k2 q2 fun b H3 ⟨G3, s3, x3, q3⟩ => ?_
    obtain ⟨hl3, n3⟩ := x3 D0 _ n2 hl2
    cases b with
    | true =>
      refine hte G3 H3 σ2 τ2 _ _ s3 (k2.ext e3 x3 _ _) q3 fun y H4 ⟨dy, G4, ry, s4, x4, kk, hkk, q4⟩ => ?_
      obtain ⟨hl4, n4⟩ := x4 D0 _ n3 hl3
      have hul := unl_len acc
      refine ⟨kk, S, (unl acc).length, keyOfD_rp hkk ry, hl4, by omega, G4, acc ++ [kk], fun j => S j || decide (j = kk), ?_, n4, fun j => ?_, by simp; omega, ?_, fun a o ga ha => ?_, q4⟩
      · rw [upd_same, unl_next acc kk S hS]
      · show (S j || decide (j = kk)) = hasE j (acc ++ [kk])
        rw [hS j]; unfold hasE; rw [List.any_append]; simp [eq_comm]
      · exact s4.asideK hl4 n4
      · obtain ⟨h5, g5⟩ := ((x2.trans x3).trans x4) a o ga ha
        have hne : a ≠ D0 := by rintro rfl; rw [hD] at ha; cases ha
        exact ⟨by rw [upd_ne hne]; exact h5, g5⟩
    | false => exact ⟨G3, acc, S, hl3, n3, hS, by omega, s3, x2.trans x3, q3⟩
  · have e : I.xs.drop i = [] := List.drop_eq_nil_of_le (by omega)
    rw [e] at q'
    obtain ⟨G0, l0, ok0, q0⟩ := q'
    have s0 := s'.le l0
    have n1 : G0 D0 = none := l0.no hn
    have h0 : ∀ a o, G a = none → H a = some o → a ≠ D0 := fun a o ga ha e => by
      obtain ⟨h6, _⟩ := x1 a o ga ha
      rw [e, hD] at h6; cases h6
    exact .inl ⟨rel.stop i G0 H' s0 (x'.le l0).l ok0 (by omega), fin D0 acc S G0 H' h0 s0 (x1.trans (x'.le l0)) hl n1 q0⟩
end
end DL

/-! len({elt for x in xs if ..}) -/
namespace DL
open PySem PySem.Spec L2
open PyProof.Rows hiding St
theorem call_lenSK {X : Cx} : CallR X (.builtin "len") (fun xs H Q => ∃ (a : Addr) (S : Key → Bool) (n : Nat), xs = [V.ref a] ∧ H a = some (SetK X.prog X.w a S n) ∧ n ≤ 1000000 ∧ Q (.int n) H) := by
  intro pins s σ H xs us Q I rv ⟨a, S, n, e, ha, hn1, q⟩
  subst e
  obtain ⟨u, rfl, ru⟩ := vals1 rv
  cases ru
  obtain ⟨o, es, ep, t, ho, hex, hd, _, _, _, hf, hn⟩ := setK_get I ha
  exact call_len_set ho hex hd hf (by rw [hn]; omega) ⟨.int n, H, I.tok _, ⟨_, by rw [hn]⟩, q⟩
def dLenSc (ti : TDI) (t : Tgt) (dt : TDT) (te : TD) (vs : List Nat) : TD := fun W σ G Q => dScG (fun acc G2 => acc.length ≤ 4000 ∧ Q (.int ((unl acc).length : Nat)) G2) ti t dt te vs W σ G
theorem de_lenSc {X : Cx} {elt tg iter : Expr} {ifs : List Expr} {scope : Scope} {own : List (Str × Nat)} {p spos pos : Pos} {wi : TI} {ti : TDI} {t : Tgt} {g : TG} {dt : TDT} {te : TD} (hc : X.calm = true) (hN : X.N.Nodup) (hm : X.mg "len" = none) (hi : DI X tg iter wi ti) (ok : BlkOk X.N X.env.scope scope own) (hg : BlkPG X scope tg g) (hgr : TgRun X.K t g) (hsl : ∀ i ∈ t.slots, i ∈ own.map (·.2)) (ht : BlkDTs X scope ifs dt) (he : BlkDE X scope elt te)
    (hgl : Gl X "len" := by rfl) (hs : ∀ x, foldedSetIterable iter X.env x = pure x := by intro _; rfl) : DE X (.Call (.Name "len" p) [.SetComp elt [⟨tg, iter, ifs, 0⟩] scope spos] [] pos) (dLenSc ti t dt te (own.map (·.2))) :=
  ⟨fun G H σ τ W Q r q => semE.of (pe_callB call_lenSK hgl hm (by decide +kernel) (pa_cons (pe_scK hc hN hi.pi ok hg blk_pts blk_pe hs) pa_nil)) (by
    show tScK X.prog X.w wi g (blkT X scope ifs) (blkE X scope elt) (own.map (·.2)) τ H fun v H1 => ∃ (a : Addr) (S : Key → Bool) (n : Nat), [v] = [V.ref a] ∧ H1 a = some (SetK X.prog X.w a S n) ∧ n ≤ 1000000 ∧ liftQ X.K G H Q (.int n) H1
    exact sc_run hi hgr hsl (fun G H σ τ Q Q' s k q f s0 H0 C cl fp pins s1 I => thn ((ht s0 H0 C cl fp).run G H σ τ W0 Q ⟨s, k, takes_w0⟩ q pins s1 I) fun b s2 ⟨H2, I2, z⟩ => ⟨H2, I2, f b H2 z⟩)
      (fun G H σ τ Q Q' s k q f s0 H0 C cl fp => ((he s0 H0 C cl fp).run G H σ τ W0 Q ⟨s, k, takes_w0⟩ q).imp f) r q fun D0 acc S G0 H' h0 sm x hl hn ⟨hle, hq⟩ => ⟨D0, S, _, rfl, hl, by have := unl_len acc; omega, .of (d := .int _) rfl sm x hq⟩)⟩
section
variable {W : DW} {σ : DSt} {G : HD} {Q : Post} {ti : TDI} {t : Tgt} {dt : TDT} {te : TD} {vs : List Nat}
theorem q_lenSc : dLenSc ti t dt te vs W σ G Q = dScG (fun acc G2 => acc.length ≤ 4000 ∧ Q (.int ((unl acc).length : Nat)) G2) ti t dt te vs W σ G := propext ⟨fun h => h, fun h => h⟩
end
end DL

set_option maxHeartbeats 1000000
namespace L2
open PySem PySem.Spec PyProof.Rows
section
variable {P : Program} {w : World} {A : Around} {E : Value → Shared → Prop} {s : Shared}
theorem call_set_addT {a x : Addr} {L : List (Addr × List Int)} {es : Array (Int × Value)} {ep : Nat} {t : SetTable} {k : List Int} {Q : Value → Shared → Prop} (R : SetTR P w s.heap a L es ep t) (hx : IsT P w s.heap k x) (hu : A.units + 8 < cLine) (hfew : L.length + 1 < 64)
    (h : ∀ h' L' es' ep' t', Heap.SameBut a s.heap h' → SetTR P w h' a L' es' ep' t' → (k ∈ L.map (·.2) → L' = L) → (k ∉ L.map (·.2) → L'.Perm ((x, k) :: L)) → Q .none { s with heap := h', toks := s.toks + (k.length + 1) }) :
    wpAny (model P w) A (call (.builtin "set.add") [.ref a, .ref x]) Q E s := by
  obtain ⟨o, ho, hex, hd⟩ := R.ob
  refine wpAny_call_entry F.slot_set_add ⟨o, ho, hex.1⟩ F.entry_set_add ?_ (F.args_set_add_2 _ _)
  unfold Builtin.«set.add» Builtin.Frozenset.oneOther
  simp only [List.isEmpty_nil, bind_assoc]
  unfold Builtin.Frozenset.addrOf setAdd
  refine wpAny_bind (wpAny_pure ?_)
  try dsimp only
  refine wpAny_bind (wpAny_pure ?_)
  try dsimp only
  refine wpAny_bind ?_
  refine wpAny_holding ?_
  refine wpAny_bind (wpAny_pyHash_tuple ?_ hx ?_)
  · simp only [Around.in1_units]; omega
  refine add_at (s := { s with toks := s.toks + (k.length + 1) }) R hx ?_ hfew fun b h' L' es' ep' t' hsb hS2 c1 c2 => ?_
  · simp only [Around.in1_units]; omega
  show wpAny _ _ (ret Value.none) _ _ _
  exact wpAny_pure ⟨_, rfl, h h' L' es' ep' t' hsb hS2 c1 c2⟩
end
section
variable {X : Cx}
theorem addT_ok {pins : List (Addr × Obj)} {σ : L2.St} {H : Hp} {s : Shared} {E : Value → Shared → Prop} {D x : Addr} {L : List (Addr × List Int)} {k : List Int} {Q : Value → Shared → Prop} (hu : X.A.units + 8 < cLine) (I : Inv X pins σ H s) (hD : H D = some (SetTO X.prog X.w D L)) (hL : ∀ p ∈ L, SqT X.K H p.1 (p.2.map V.int)) (hx : SqT X.K H x (k.map V.int)) (hfew : L.length + 1 < 64)
    (h : ∀ L' s', (k ∈ L.map (·.2) → L' = L) → (k ∉ L.map (·.2) → L'.Perm ((x, k) :: L)) → Inv X pins σ (upd H D (SetTO X.prog X.w D L')) s' → Q .none s') : wpAny (model X.prog X.w) X.A (call (.builtin "set.add") [.ref D, .ref x]) Q E s := by
  have R0 : SetT0 X.prog X.w s.heap D L := (I.hok D _ hD).1
  obtain ⟨es, ep, t, R⟩ := R0.full fun p hp => I.isT (hL p hp)
  refine call_set_addT R (I.isT hx) hu hfew fun h' L' es' ep' t' sb new c1 c2 => ?_
  have he : ∃ u, h'.get? D = some u := by
    obtain ⟨o, ho, _⟩ := new.ob
    exact ⟨o, ho⟩
  exact h L' _ c1 c2 (I.write (e := D) (t' := s.toks + (k.length + 1)) (by rw [hD]; trivial) (.inl rfl) (fun b u hb hu => (sb.2 b hb).trans hu) he (setTO_new new.t0))
end
end L2

namespace L2
open PySem PySem.Spec PyProof.Rows
open PpSet (newSet_ok eval_SetComp compLoopS_any codeAny_compStart_set)
section
variable {X : Cx}
/-- {elt for target in iter if ..}, elt a truth value: D the new set -/
def tScT (K : PySem.W.Frag) (P : Program) (w : World) (wi : TI) (g : TG) (tt : TT) (te : TE) (vs : List Nat) : TE := fun σ H Q => wi σ H fun J H1 => ∀ D, H1 D = none → ∃ W : Nat → Nat → Hp → Prop, (∃ m, W 0 m (upd H1 D (SetTO P w D []))) ∧ ∀ i m H, W i m H →
  (J.stop i H ∧ Q (.ref D) H) ∨ (J.go i H ∧ ∃ Nx : Hp → Prop, (∀ H', Nx H' → ∃ m', m' < m ∧ W (i + 1) m' H') ∧ ∀ x H', J.yld i H x H' → g x (wipe σ vs) H' fun σ2 H2 => wipe σ2 vs = wipe σ vs ∧ tt σ2 H2 fun b H3 =>
    if b = true then te σ2 H3 fun y H4 => ∃ (x : Addr) (k : List Int) (L : List (Addr × List Int)), y = .ref x ∧ H4 D = some (SetTO P w D L) ∧ (∀ p ∈ L, SqT K H4 p.1 (p.2.map V.int)) ∧ SqT K H4 x (k.map V.int) ∧ L.length + 1 < 64 ∧ ∀ L', (k ∈ L.map (·.2) → L' = L) → (k ∉ L.map (·.2) → L'.Perm ((x, k) :: L)) → Nx (upd H4 D (SetTO P w D L')) else Nx H3)
theorem scT_core {pins : List (Addr × Obj)} {s : Shared} {σ : L2.St} {H : Hp} {Q : VK} {elt tg iter : Expr} {ifs : List Expr} {scope : Scope} {own : List (PySem.Str × Nat)} {pos pos' : Pos} {wi : TI} {g : TG} {tt : TT} {te : TE} {use : Option (Value → Sem Unit)} {Qf : Value → Shared → Prop}
    (hu : X.A.units + 8 < cLine) (hc : X.calm = true) (hN : X.N.Nodup) (I : Inv X pins σ H s) (hi : PI X tg iter wi) (ok : BlkOk X.N X.env.scope scope own)
    (hg : ∀ (s : Shared) (H : Hp) (C : Addr) (cl : List (PySem.Str × Addr)) (fp : List Addr), PG (X.blk s H scope (compEnvC scope cl C X.env) fp) tg g) (ht : ∀ (s : Shared) (H : Hp) (C : Addr) (cl : List (PySem.Str × Addr)) (fp : List Addr), PTs (X.blk s H scope (compEnvC scope cl C X.env) fp) ifs tt)
    (he : ∀ (s : Shared) (H : Hp) (C : Addr) (cl : List (PySem.Str × Addr)) (fp : List Addr), PE (X.blk s H scope (compEnvC scope cl C X.env) fp) elt te) (hs : ∀ x, foldedSetIterable iter X.env x = pure x)
    (h : tScT X.K X.prog X.w wi g tt te (own.map (·.2)) σ H Q)
    (hRR : ∀ D C s' m H', Inv X pins σ H' s' → Q (.ref D) H' → s'.heap.Ns C m → FpOk X pins H' C → compPost (model X.prog X.w) X.A X.xe use Qf (.ref D) C (.ok .next) s') :
    wpAny (model X.prog X.w) X.A (comprehension (.SetComp elt [⟨tg, iter, ifs, 0⟩] scope pos) scope X.env pos' (newSet (.type "set")) false (eval iter X.env) use) Qf X.xe s := by
  have hfree : ∀ y ∈ scope.names, y.2 = .free → ∃ c, X.env.cells.lookup y.1 = some c := fun y hy e => by
    rcases ok.free y hy e with k | k
    · exact I.ok.has _ (.inl k)
    · exact I.ok.has _ (.inr k)
  refine wpAny_comprehension_free (use := use) rfl hs (closure_ok hfree) ok.kind (fun y hy e => by rw [ok.uniq y hy, e])
    (thn (hi.run pins s σ H _ I h) fun xv s1 hx => thn hx fun itv s2 h2 => ?_)
  obtain ⟨it, fp, tn, J, H2, e, I2, T, st2, f2, q⟩ := h2
  subst e
  refine newSet_ok (newEnv_comp ?_)
  generalize hD : s2.heap.objs.size = D
  have hDn : H2 D = none := I2.hok.fresh (Nat.le_of_eq hD)
  obtain ⟨W, ⟨m0, w0⟩, turn⟩ := q D hDn
  -- the new list
  generalize hs3 : ({ s2 with heap := s2.heap.push { cls := .type "set", dict := none, data := .set #[] 0 (.fresh 0 0 (!X.w.params.followText "set-order")) } } : Shared) = s3
  have I3 : Inv X pins σ (upd H2 D (SetTO X.prog X.w D [])) s3 := by
    rw [← hs3]
    refine I2.laid (t' := s2.toks) (fun b o e => Heap.get?_push_of_some _ e) (Nat.le_of_eq hD) ?_
    rw [← hD]
    exact setTO_new (setTR_fresh (Heap.get?_push_size _ rfl)).t0
  have h3 : s3.heap = s2.heap.push { cls := .type "set", dict := none, data := .set #[] 0 (.fresh 0 0 (!X.w.params.followText "set-order")) } := by rw [← hs3]
  have sz : ∀ b ∈ fp, b < s2.heap.objs.size := fun b hb => by
    obtain ⟨o, e, _⟩ := T.obj _ _ st2 b hb
    exact Heap.lt_size e
  have f3 : ∀ b ∈ fp, FpOk X pins (upd H2 D (SetTO X.prog X.w D [])) b ∧ b < s3.heap.objs.size := fun b hb => by
    have hlt := sz b hb
    refine ⟨⟨?_, (f2 b hb).2⟩, by rw [h3, Heap.size_push]; exact Nat.lt_succ_of_lt hlt⟩
    rw [upd_ne (by rw [← hD]; exact Nat.ne_of_lt hlt)]
    exact (f2 b hb).1
  have st3 : tn 0 s3.heap := T.keep _ _ _ st2 fun b _ o e => by rw [h3]; exact Heap.get?_push_of_some _ e
  have I4 := block_start I3 ok hN f3
  have pg := hg s3 (upd H2 D (SetTO X.prog X.w D [])) s3.heap.objs.size (cellsFrom (s3.heap.objs.size + 1) scope.names (cloFrom X.env.cells scope.names [])) fp
  have pt := ht s3 (upd H2 D (SetTO X.prog X.w D [])) s3.heap.objs.size (cellsFrom (s3.heap.objs.size + 1) scope.names (cloFrom X.env.cells scope.names [])) fp
  have pe := he s3 (upd H2 D (SetTO X.prog X.w D [])) s3.heap.objs.size (cellsFrom (s3.heap.objs.size + 1) scope.names (cloFrom X.env.cells scope.names [])) fp
  show codeAny _ _ (.compStart (.SetComp elt [⟨tg, iter, ifs, 0⟩] scope pos) 0 (.ref it) (.ref D) (compEnvC scope (cellsFrom (s3.heap.objs.size + 1) scope.names (cloFrom X.env.cells scope.names [])) s3.heap.objs.size X.env)) (compPost (model X.prog X.w) X.A X.xe use Qf (.ref D) s3.heap.objs.size) { s3 with heap := pushCells (s3.heap.push { cls := .type "dict", data := .dict #[] }) scope.names }
  have nfp : ∀ b ∈ fp, (upd H2 D (SetTO X.prog X.w D [])) b = none := fun b hb => (f3 b hb).1.1
  generalize hce : compEnvC scope (cellsFrom (s3.heap.objs.size + 1) scope.names (cloFrom X.env.cells scope.names [])) s3.heap.objs.size X.env = ce at I4 pg pt pe ⊢
  have cL : ce.locals = s3.heap.objs.size := by subst hce; rfl
  generalize hH3 : upd H2 D (SetTO X.prog X.w D []) = H3 at I3 I4 pg pt pe w0 nfp f3
  generalize hs4 : ({ s3 with heap := pushCells (s3.heap.push { cls := .type "dict", data := .dict #[] }) scope.names } : Shared) = s4 at I4 ⊢
  have st4 : tn 0 s4.heap := T.keep _ _ _ st3 fun b _ o e => by rw [← hs4]; exact pushCells_keeps _ _ _ _ (Heap.get?_push_of_some _ e)
  have stat : ∀ {σ' : L2.St} {H' : Hp} {s' : Shared}, Inv (X.blk s3 H3 scope ce fp) [] σ' H' s' → (∀ b ∈ fp, H' b = none) → ∀ b ∈ fp, FpOk (X.blk s3 H3 scope ce fp) [] H' b := fun {σ' H' s'} I' hn b hb =>
    ⟨hn b hb, (I'.ok.exf b hb).1, I'.ok.exfs b hb, .inl hb, fun x c e => (I'.ok.exf b hb).2 x c e, fun p hp => absurd (show p ∈ ([] : List (Addr × Obj)) ++ [] from hp) (by simp)⟩
  have loop : codeAny (model X.prog X.w) X.A (.compLoop (.SetComp elt [⟨tg, iter, ifs, 0⟩] scope pos) 0 (.ref it) (.ref D) ce) (compPost (model X.prog X.w) X.A X.xe use Qf (.ref D) s3.heap.objs.size) s4 := by
    refine compLoopS_any (fun n s' => ∃ i H', Inv (X.blk s3 H3 scope ce fp) [] (wipe σ (own.map (·.2))) H' s' ∧ tn i s'.heap ∧ (∀ b ∈ fp, H' b = none) ∧ W i n H') ?_ m0 ⟨0, H3, I4, st4, nfp, w0⟩
    rintro n s5 ⟨i, H5, I5, st5, n5, w5⟩
    rcases turn i n H5 w5 with ⟨stop, qq⟩ | ⟨go, Nx, hNx, step⟩
    · have td := T.done (X.blk s3 H3 scope ce fp) rfl rfl rfl hc i [] s5 _ H5 (fun _ _ => False) I5 (stat I5 n5) st5 stop
      refine thnF td fun r s6 ⟨hr, I6⟩ => ?_
      subst hr
      -- back in the def's context
      have I7 : Inv X pins σ H5 s6 := I3.call' (ch := fp) I6.os I6.base I6.hok I6.bare fun b hb => ⟨(f3 b hb).1.2.2.2.1, (f3 b hb).1.2.1, (f3 b hb).1.2.2.2.2.1, (f3 b hb).1.2.2.2.2.2⟩
      have nC : H5 s3.heap.objs.size = none := by
        have z : H5 ce.locals = none := I6.free
        rw [cL] at z
        exact z
      obtain ⟨m, hn, _⟩ := I6.loc
      have hn : s6.heap.Ns ce.locals m := hn
      rw [cL] at hn
      exact hRR D s3.heap.objs.size s6 m H5 I7 qq hn (I3.fpOk (Nat.le_refl _) nC)
    · have ti := T.item (X.blk s3 H3 scope ce fp) rfl rfl rfl hc i [] s5 _ H5 (fun _ _ => False) I5 (stat I5 n5) st5 go
      refine thnF ti fun r s6 ⟨u, hr, h6⟩ => ?_
      subst hr
      refine thnF h6 fun _ s7 ⟨x, H7, I7, r7, y7, st7, n7⟩ => ?_
      have I7' := I7.pinned (stat I7 n7) (T.obj _ _ st7)
      refine thnF (pg.run _ s7 _ H7 x u _ I7' r7 (step x H7 y7)) fun _ s8 ⟨σ8, H8, I8, hw8, q8⟩ => ?_
      refine thnF (pt.run _ s8 σ8 H8 _ I8 q8) fun b s9 ⟨H9, I9, q9⟩ => ?_
      -- the turn's end
      have fin : ∀ {s' : Shared} {H' : Hp}, Inv (X.blk s3 H3 scope ce fp) ([] ++ pinsAt fp s7.heap) σ8 H' s' → Nx H' → ∃ m, m < n ∧ ∃ i H', Inv (X.blk s3 H3 scope ce fp) [] (wipe σ (own.map (·.2))) H' s' ∧ tn i s'.heap ∧ (∀ b ∈ fp, H' b = none) ∧ W i m H' := fun {s' H'} I' nx => by
        obtain ⟨m', hm, w'⟩ := hNx H' nx
        have pin' : ∀ b ∈ fp, ∀ o, s7.heap.get? b = some o → s'.heap.get? b = some o ∧ H' b = none := fun b hb o e =>
          let z := I'.pin (b, o) (List.mem_append_right _ (List.mem_append_right _ (mem_pinsAt hb e)))
          ⟨z.1, z.2.1⟩
        have hl : (wipe σ (own.map (·.2))).length = σ8.length := by rw [← hw8, wipe_length]
        refine ⟨m', hm, i + 1, H', (I'.unpinned (pins := [])).weak hl (fun j v e => ?_), T.keep _ _ _ st7 fun b hb o e => (pin' b hb o e).1, fun b hb => ?_, w'⟩
        · rw [← hw8] at e
          exact (wipe_some e).1
        · obtain ⟨o, e, _⟩ := T.obj _ _ st7 b hb
          exact (pin' b hb o e).2
      cases b with
      | false =>
        simp only [Bool.false_eq_true, if_false] at q9 ⊢
        exact fin I9 q9
      | true =>
        simp only [if_true] at q9 ⊢
        refine thnF (pe.run _ s9 σ8 H9 _ I9 q9) fun z s10 ⟨yv, H10, I10, r10, xa, ks, L0, ey, hD10, hL10, hx10, hf10, nx⟩ => ?_
        subst ey
        cases r10
        exact addT_ok (X := X.blk s3 H3 scope ce fp) hu I10 hD10 hL10 hx10 hf10 fun L' s11 c1 c2 I11 => fin I11 (nx L' c1 c2)
  exact codeAny_compStart_set loop (T.self X.A 0 _ _ _ st4 loop)
/-- as a value -/
theorem pe_scT {elt tg iter : Expr} {ifs : List Expr} {scope : Scope} {own : List (PySem.Str × Nat)} {pos : Pos} {wi : TI} {g : TG} {tt : TT} {te : TE} (hu : X.A.units + 8 < cLine) (hc : X.calm = true) (hN : X.N.Nodup) (hi : PI X tg iter wi) (ok : BlkOk X.N X.env.scope scope own)
    (hg : ∀ (s : Shared) (H : Hp) (C : Addr) (cl : List (PySem.Str × Addr)) (fp : List Addr), PG (X.blk s H scope (compEnvC scope cl C X.env) fp) tg g) (ht : ∀ (s : Shared) (H : Hp) (C : Addr) (cl : List (PySem.Str × Addr)) (fp : List Addr), PTs (X.blk s H scope (compEnvC scope cl C X.env) fp) ifs tt)
    (he : ∀ (s : Shared) (H : Hp) (C : Addr) (cl : List (PySem.Str × Addr)) (fp : List Addr), PE (X.blk s H scope (compEnvC scope cl C X.env) fp) elt te) (hs : ∀ x, foldedSetIterable iter X.env x = pure x := by intro _; rfl) :
    PE X (.SetComp elt [⟨tg, iter, ifs, 0⟩] scope pos) (tScT X.K X.prog X.w wi g tt te (own.map (·.2))) := by
  refine ⟨fun pins s σ H Q I h => ?_⟩
  rw [eval_SetComp]
  refine scT_core hu hc hN I hi ok hg ht he hs h fun D C s' m H' I' q hn f => ⟨m, hn, fun h'' sb => ?_⟩
  obtain ⟨f0, f1, f2, f3, f4, f5⟩ := f
  exact ⟨.ref D, H', I'.turned (t' := s'.toks) (fun b o hb e => (sb.2 b hb).trans e) f0 f1 f3 f4 f5, rfl, q⟩
end

end L2

namespace DL
open PySem PySem.Spec L2
open PyProof.Rows hiding St
theorem setT_ne {P : Program} {w : World} {a : Addr} {L0 : List (Addr × List Int)} {φ : Heap → Prop} (ob : Obj) (hf : ob.isFreed = false) (hd : ∀ es ep t, ob.data ≠ .set es ep t) (hφ : ∀ h : Heap, h.get? a = some ob → φ h) : SetTO P w a L0 ≠ .ext φ := fun e => by
  obtain ⟨h, hh⟩ := heap_at a ob hf
  unfold SetTO at e
  injection e with e
  have e2 := congrFun e h
  have z : SetT0 P w h a L0 := by
    have := hφ h hh
    rw [← e2] at this
    exact this
  obtain ⟨es, ep, t, ⟨o, ho, _, hs⟩, _⟩ := z.ex
  rw [hh] at ho
  cases ho
  exact hd _ _ _ hs
theorem setT_emp {P : Program} {w : World} {a : Addr} {L0 : List (Addr × List Int)} {ob : Obj} (q : EmOb ob) : SetTO P w a L0 ≠ EmV ob a := by
  obtain ⟨_, ep, hd⟩ := q
  exact setT_ne ob (by obtain ⟨c, d, dt, sl⟩ := ob; cases hd; rfl) (fun es ep t z => by rw [hd] at z; cases z) fun h e => e
theorem setT_exc {P : Program} {w : World} {a C : Addr} {dd : Option Addr} {L0 : List (Addr × List Int)} : SetTO P w a L0 ≠ ExV C dd a :=
  setT_ne { cls := .ref C, dict := dd, data := .fields #[] } rfl (fun es ep t z => by cases z) fun h e => ⟨_, _, e, ⟨rfl, rfl⟩, rfl⟩
theorem setT_code {P : Program} {w : World} {a : Addr} {L0 : List (Addr × List Int)} {q : Str} : SetTO P w a L0 ≠ LamX.CodeO a q :=
  setT_ne { cls := .none, data := .fields #[.none, .str q 0] } rfl (fun es ep t z => by cases z) fun h e => ⟨_, _, 0, e, rfl, rfl⟩
section
variable {K : PySem.W.Frag} {G : HD} {H : Hp}
/-- a dict that is not of ours grows -/
theorem SqT.asideST {p : Addr} {P : Program} {w : World} {L0 : List (Addr × List Int)} {o' : HO} (hp : H p = some (SetTO P w p L0)) {a : Addr} {vs : List V} (h : SqT K H a vs) : SqT K (upd H p o') a vs := by
  rcases h with (h | ⟨o, h⟩) | h
  · exact .inl (.inl (by rw [upd_ne (by rintro rfl; rw [hp] at h; unfold SetTO at h; cases h)]; exact h))
  · exact .inl (.inr ⟨o, by rw [upd_ne (by rintro rfl; rw [hp] at h; unfold SetTO at h; cases h)]; exact h⟩)
  · exact .inr h
mutual
theorem Rp.asideST {p : Addr} {P : Program} {w : World} {L0 : List (Addr × List Int)} {o' : HO} (hp : H p = some (SetTO P w p L0)) : ∀ (d : D) (v : V), Rp K H d v → Rp K (upd H p o') d v
  | .non, _, h => h
  | .bl _, _, h => h
  | .int _, _, h => h
  | .str _, _, h => h
  | .ty _, _, h => h
  | .ref _, _, h => h
  | .tup ds, v, h => by
    obtain ⟨a, vs, e, t, r⟩ := h
    exact ⟨a, vs, e, SqT.asideST hp t, Rps.asideST hp ds vs r⟩
  | .kl ds, v, h => by
    obtain ⟨a, vs, e, ⟨o, t⟩, r⟩ := h
    exact ⟨a, vs, e, ⟨o, by rw [upd_ne (by rintro rfl; rw [hp] at t; unfold SetTO at t; cases t)]; exact t⟩, Rps.asideST hp ds vs r⟩
  | .kc ds, v, h => by
    obtain ⟨a, vs, e, t, r⟩ := h
    refine ⟨a, vs, e, ?_, Rps.asideST hp ds vs r⟩
    rcases t with ⟨o, t⟩ | t
    · exact .inl ⟨o, by rw [upd_ne (by rintro rfl; rw [hp] at t; unfold SetTO at t; cases t)]; exact t⟩
    · exact .inr t
  | .exc C ns ds, v, h => by
    obtain ⟨a, dd, vs, e, t, hl, q, r⟩ := h
    refine ⟨a, dd, vs, e, by rw [upd_ne (by rintro rfl; rw [hp] at t; exact setT_exc (Option.some.inj t))]; exact t, hl, ?_, Rps.asideST hp ds vs r⟩
    rcases q with q | ⟨b, q1, q2⟩
    · exact .inl q
    · exact .inr ⟨b, q1, by rw [upd_ne (by rintro rfl; rw [hp] at q2; unfold SetTO at q2; cases q2)]; exact q2⟩
  | .fn f c p u d, v, h => ⟨h.1, by rw [upd_ne (by rintro rfl; have z := h.2.1; rw [hp] at z; exact setT_code (Option.some.inj z))]; exact h.2.1, Rp.asideST hp d u h.2.2⟩
  | .emp, v, h => by
    obtain ⟨a, ob, e, m, t, q⟩ := h
    exact ⟨a, ob, e, m, by rw [upd_ne (by rintro rfl; rw [hp] at t; exact setT_emp q (Option.some.inj t))]; exact t, q⟩
theorem Rps.asideST {p : Addr} {P : Program} {w : World} {L0 : List (Addr × List Int)} {o' : HO} (hp : H p = some (SetTO P w p L0)) : ∀ (ds : List D) (vs : List V), Rps K H ds vs → Rps K (upd H p o') ds vs
  | [], _, h => h
  | d :: ds, vs, h => by
    obtain ⟨v, r, e, h1, h2⟩ := h
    exact ⟨v, r, e, Rp.asideST hp d v h1, Rps.asideST hp ds r h2⟩
end
theorem RKV.asideST {κ : Type} {p : Addr} {P : Program} {w : World} {L0 : List (Addr × List Int)} {o1 : HO} (hp : H p = some (SetTO P w p L0)) : ∀ (a : List (κ × D)) (m : List (κ × V)), RKV K H a m → RKV K (upd H p o1) a m
  | [], _, h => h
  | q :: a, m, h => by
    obtain ⟨v, r, e, h1, h2⟩ := h
    exact ⟨v, r, e, h1.asideST hp _ _, RKV.asideST hp a r h2⟩
theorem RO.asideST {p : Addr} {P : Program} {w : World} {L0 : List (Addr × List Int)} {o1 : HO} (hp : H p = some (SetTO P w p L0)) : ∀ (o : MO) (o' : HO), RO K H o o' → RO K (upd H p o1) o o'
  | .lst ds, _, h => let ⟨vs, e, r⟩ := h; ⟨vs, e, r.asideST hp _ _⟩
  | .dK _, _, h => let ⟨vs, e, r⟩ := h; ⟨vs, e, r.asideST hp _ _⟩
  | .dT _, _, h => let ⟨vs, e, r⟩ := h; ⟨vs, e, r.asideST hp _ _⟩
  | .ins _ _, _, h => let ⟨dx, vs, e, r⟩ := h; ⟨dx, vs, e, r.asideST hp _ _⟩
  | .fz ob w u, _, h => let ⟨e, r, z⟩ := h; ⟨e, RO.asideST hp u w r, z⟩
  | .tab q, _, h => let ⟨ps, e, t, z⟩ := h; ⟨ps, e, t, fun pos cv hc => let ⟨c, e1, e2⟩ := z pos cv hc; ⟨c, e1, by rw [upd_ne (by rintro rfl; rw [hp] at e2; exact setT_code (Option.some.inj e2))]; exact e2⟩⟩
theorem Sim.asideST (s : Sim K G H) {p : Addr} {P : Program} {w : World} {L0 : List (Addr × List Int)} {o1 : HO} (hp : H p = some (SetTO P w p L0)) (hg : G p = none) : Sim K G (upd H p o1) := fun a o e => by
  obtain ⟨o', e1, r⟩ := s a o e
  have hn : a ≠ p := by rintro rfl; rw [hg] at e; cases e
  exact ⟨o', by rw [upd_ne hn]; exact e1, r.asideST hp _ _⟩
theorem RpS.asideST {p : Addr} {P : Program} {w : World} {L0 : List (Addr × List Int)} {o1 : HO} (hp : H p = some (SetTO P w p L0)) : ∀ (σ : DSt) (t : L2.St), RpS K H σ t → RpS K (upd H p o1) σ t
  | [], _, h => h
  | o :: r, _, h => by
    obtain ⟨w, t, rfl, h1, h2⟩ := h
    refine ⟨w, t, rfl, fun d e => ?_, RpS.asideST hp r t h2⟩
    obtain ⟨v, e1, e2⟩ := h1 d e
    exact ⟨v, e1, e2.asideST hp _ _⟩
end
end DL

/-! the loop of {elt for x in xs if ..}, elt a tuple of ints -/
namespace DL
open PySem PySem.Spec L2
open PyProof.Rows hiding St
def keyTD : D → Option (List Int)
  | .tup ds => asInts ds
  | _ => none
theorem keyTD_rp {K : PySem.W.Frag} {H : Hp} {d : D} {v : V} {k : List Int} (e : keyTD d = some k) (h : Rp K H d v) : ∃ a, v = .ref a ∧ d = .tup (k.map D.int) ∧ SqT K H a (k.map V.int) := by
  unfold keyTD at e
  split at e
  · rename_i ds
    have e1 := asInts_eq e
    subst e1
    obtain ⟨a, vs, rfl, t, rs⟩ := h
    rw [Rps.ints rs] at t
    exact ⟨a, rfl, rfl, t⟩
  · cases e
def tsD (ok : HD → Prop) (step : D → (D → HD → Prop) → (HD → Prop) → HD → Prop) (fin : List (List Int) → HD → Prop) : List D → List (List Int) → HD → Prop
  | [], acc => fun G => ∃ G0, Le G0 G ∧ ok G0 ∧ fin acc G0
  | x :: xs, acc => fun G => ∃ G0, Le G0 G ∧ ok G0 ∧ step x (fun y G' => ∃ k, keyTD y = some k ∧ tsD ok step fin xs (acc ++ [k]) G') (fun G' => tsD ok step fin xs acc G') G0
def dTsG (fin : List (List Int) → HD → Prop) (ti : TDI) (t : Tgt) (dt : TDT) (te : TD) (vs : List Nat) (W : DW) (σ : DSt) (G : HD) : Prop := ti W σ G fun I G1 => I.xs.length ≤ 63 ∧
  tsD I.ok (fun d ky kn G' => t.put d (dwipe σ vs) fun σ2 => dt W0 σ2 G' fun b G2 => if b = true then te W0 σ2 G2 ky else kn G2) fin I.xs [] G1
section
variable {X : Cx} {elt tg iter : Expr} {ifs : List Expr} {scope : Scope} {own : List (Str × Nat)} {pos : Pos} {wi : TI} {ti : TDI} {t : Tgt} {g : TG} {dt : TDT} {te : TD}
theorem ts_run (hi : DI X tg iter wi ti) (hg : TgRun X.K t g)
    (hsl : ∀ i ∈ t.slots, i ∈ own.map (·.2))
    {tt : TT} {teV : TE}
    (htt : ∀ (G : HD) (H : Hp) (σ : DSt) (τ : L2.St) (Q : Bool → HD → Prop) (Q' : Bool → Hp → Prop), Sim X.K G H → RpS X.K H σ τ → dt W0 σ G Q → (∀ b H', liftB X.K G H Q b H' → Q' b H') → tt τ H Q')
    (hte : ∀ (G : HD) (H : Hp) (σ : DSt) (τ : L2.St) (Q : Post) (Q' : VK), Sim X.K G H → RpS X.K H σ τ → te W0 σ G Q → (∀ v H', liftQ X.K G H Q v H' → Q' v H') → teV τ H Q')
    {G : HD} {H : Hp} {σ : DSt} {τ : L2.St} {W : DW} {F : List (List Int) → HD → Prop} {Q' : VK} (r : SR X G H σ τ W) (q : dTsG F ti t dt te (own.map (·.2)) W σ G)
    (fin : ∀ D0 acc L0 G0 H', (∀ a o, G a = none → H a = some o → a ≠ D0) → Sim X.K G0 H' → Ext G H G0 H' → H' D0 = some (SetTO X.prog X.w D0 L0) → (∀ p ∈ L0, SqT X.K H' p.1 (p.2.map V.int)) → L0.length = (unl acc).length → G0 D0 = none → F acc G0 → Q' (.ref D0) H') : tScT X.K X.prog X.w wi g tt teV (own.map (·.2)) τ H Q' := by
  refine hi.run G H σ τ W _ _ r q fun I J G1 H1 s1 x1 rel q1 D0 hD => ?_
  obtain ⟨hz, q1⟩ := q1
  have r1 := r.ext s1 x1
  have n0 := s1.no hD
  refine ⟨fun i m H' => ∃ G' acc L0, H' D0 = some (SetTO X.prog X.w D0 L0) ∧ G' D0 = none ∧ ((∀ p ∈ L0, Rp X.K H' (.tup (p.2.map D.int)) (.ref p.1)) ∧ (∀ j, j ∈ L0.map (·.2) ↔ j ∈ acc) ∧ L0.length = (unl acc).length) ∧ acc.length ≤ i ∧ Sim X.K G' H' ∧ Ext G1 H1 G' H' ∧ m = I.xs.length - i ∧ i ≤ I.xs.length ∧
      tsD I.ok (fun d ky kn G' => t.put d (dwipe σ (own.map (·.2))) fun σ2 => dt W0 σ2 G' fun b G2 => if b = true then te W0 σ2 G2 ky else kn G2) F (I.xs.drop i) acc G',
    ⟨_, G1, [], [], upd_same, n0, ⟨fun p hp => (by cases hp), fun j => Iff.rfl, rfl⟩, Nat.zero_le _, s1.newO hD, .new hD n0, rfl, Nat.zero_le _, by rw [List.drop_zero]; exact q1⟩, ?_⟩
  rintro i m H' ⟨G', acc, L0, hl, hn, ⟨hR, hM, hC⟩, hle0, s', x', rfl, hle, q'⟩
  by_cases hlt : i < I.xs.length
  · have hx : I.xs[i]? = some I.xs[i] := by simp [hlt]
    rw [drop_get hx] at q'
    obtain ⟨G0, l0, ok0, q0⟩ := q'
    have s0 := s'.le l0
    have x0 : Ext G1 H1 G0 H' := x'.le l0
    have e0 : Ext G' H' G0 H' := .of_le l0
    refine .inr ⟨rel.go i G0 H' s0 x0.l ok0 hlt, fun H2 => ∃ G2 acc2 S2, H2 D0 = some (SetTO X.prog X.w D0 S2) ∧ G2 D0 = none ∧ ((∀ p ∈ S2, Rp X.K H2 (.tup (p.2.map D.int)) (.ref p.1)) ∧ (∀ j, j ∈ S2.map (·.2) ↔ j ∈ acc2) ∧ S2.length = (unl acc2).length) ∧ acc2.length ≤ i + 1 ∧ Sim X.K G2 H2 ∧ Ext G1 H1 G2 H2 ∧
        tsD I.ok (fun d ky kn G' => t.put d (dwipe σ (own.map (·.2))) fun σ2 => dt W0 σ2 G' fun b G2 => if b = true then te W0 σ2 G2 ky else kn G2) F (I.xs.drop (i + 1)) acc2 G2,
      fun H2 ⟨G2, a2, v2, b1, b2, b3, b4, b5, b6, b7⟩ => ⟨_, by omega, G2, a2, v2, b1, b2, b3, b4, b5, b6, rfl, hlt, b7⟩, fun v H2 hy => ?_⟩
    obtain ⟨d, e1, e2, e3, e4⟩ := rel.yld i G0 H' v H2 s0 x0.l ok0 hlt hy
    rw [hx] at e1; cases e1
    have x2 := x0.trans e4
    have slots2 : RpS X.K H2 (dwipe σ (own.map (·.2))) (L2.wipe τ (own.map (·.2))) := (r1.slots.ext s1 x2 _ _).wipe _
    refine hg.run H2 _ _ _ v _ _ slots2 e2 q0 fun σ2 τ2 k2 q2 hw => ⟨(hw _ hsl).trans wipe_wipe, ?_⟩
    have n1 : G0 D0 = none := l0.no hn
    obtain ⟨hl2, n2⟩ := e4 D0 _ n1 hl
    refine htt G0 H2 σ2 τ2 _ _ e3 k2 q2 fun b H3 ⟨G3, s3, x3, q3⟩ => ?_
    obtain ⟨hl3, n3⟩ := x3 D0 _ n2 hl2
    cases b with
    | true =>
      refine hte G3 H3 σ2 τ2 _ _ s3 (k2.ext e3 x3 _ _) q3 fun y H4 ⟨dy, G4, ry, s4, x4, kk, hkk, q4⟩ => ?_
      obtain ⟨hl4, n4⟩ := x4 D0 _ n3 hl3
      have hul := unl_len acc
      obtain ⟨xa, rfl, rfl, hx4⟩ := keyTD_rp hkk ry
      have x5 : Ext G' H' G4 H4 := ((e0.trans e4).trans x3).trans x4
      have R4 : ∀ p ∈ L0, Rp X.K H4 (.tup (p.2.map D.int)) (.ref p.1) := fun p hp => (hR p hp).ext s' x5 _ _
      refine ⟨xa, kk, L0, rfl, hl4, fun p hp => ?_, hx4, by omega, fun L' c1 c2 => ⟨G4, acc ++ [kk], L', upd_same, n4, ⟨?_, ?_, ?_⟩, by simp; omega, s4.asideST hl4 n4, fun a o ga ha => ?_, q4⟩⟩
      · obtain ⟨a, vs, e, tt, rs⟩ := R4 p hp
        cases e
        rw [Rps.ints rs] at tt
        exact tt
      · intro p hp
        refine Rp.asideST hl4 _ _ ?_
        rcases Classical.em (kk ∈ L0.map (·.2)) with c | c
        · rw [c1 c] at hp; exact R4 p hp
        · rcases List.mem_cons.mp ((c2 c).mem_iff.mp hp) with rfl | z
          · exact ry
          · exact R4 p z
      · intro j
        rcases Classical.em (kk ∈ L0.map (·.2)) with c | c
        · rw [c1 c, hM j, List.mem_append, List.mem_singleton]
          exact ⟨.inl, fun z => z.elim id fun z => z ▸ (hM kk).mp c⟩
        · rw [((c2 c).map (·.2)).mem_iff, List.map_cons, List.mem_cons, hM j, List.mem_append, List.mem_singleton]
          exact or_comm
      · rw [unl_next acc kk (fun j => hasE j acc) (fun j => rfl)]
        rcases Classical.em (kk ∈ L0.map (·.2)) with c | c
        · rw [c1 c, if_pos (hasE_iff.mpr ((hM kk).mp c))]; exact hC
        · rw [(c2 c).length_eq, if_neg (fun z => c ((hM kk).mpr (hasE_iff.mp z))), List.length_cons, hC]
      · obtain ⟨h5, g5⟩ := ((x2.trans x3).trans x4) a o ga ha
        have hne : a ≠ D0 := by rintro rfl; rw [hD] at ha; cases ha
        exact ⟨by rw [upd_ne hne]; exact h5, g5⟩
    | false => exact ⟨G3, acc, L0, hl3, n3, ⟨fun p hp => (hR p hp).ext s' ((e0.trans e4).trans x3) _ _, hM, hC⟩, by omega, s3, x2.trans x3, q3⟩
  · have e : I.xs.drop i = [] := List.drop_eq_nil_of_le (by omega)
    rw [e] at q'
    obtain ⟨G0, l0, ok0, q0⟩ := q'
    have s0 := s'.le l0
    have n1 : G0 D0 = none := l0.no hn
    have h0 : ∀ a o, G a = none → H a = some o → a ≠ D0 := fun a o ga ha e => by
      obtain ⟨h6, _⟩ := x1 a o ga ha
      rw [e, hD] at h6; cases h6
    exact .inl ⟨rel.stop i G0 H' s0 (x'.le l0).l ok0 (by omega), fin D0 acc L0 G0 H' h0 s0 (x1.trans (x'.le l0)) hl (fun p hp => (by obtain ⟨a, vs, e, tt, rs⟩ := hR p hp; cases e; rw [Rps.ints rs] at tt; exact tt)) hC n1 q0⟩
end
end DL

/-! len({elt for x in xs if ..}), elt a tuple of ints -/
namespace DL
open PySem PySem.Spec L2
open PyProof.Rows hiding St
theorem call_lenST {X : Cx} : CallR X (.builtin "len") (fun xs H Q => ∃ (a : Addr) (L : List (Addr × List Int)), xs = [V.ref a] ∧ H a = some (SetTO X.prog X.w a L) ∧ (∀ p ∈ L, SqT X.K H p.1 (p.2.map V.int)) ∧ Q (.int L.length) H) := by
  intro pins s σ H xs us Q I rv ⟨a, L, e, ha, hL, q⟩
  subst e
  obtain ⟨u, rfl, ru⟩ := vals1 rv
  cases ru
  have R0 : SetT0 X.prog X.w s.heap a L := (I.hok a _ ha).1
  obtain ⟨es, ep, t, R⟩ := R0.full fun p hp => I.isT (hL p hp)
  obtain ⟨o, ho, hex, hd⟩ := R.ob
  have hn : es.size = L.length := R.size
  have hf := R.few
  exact call_len_set ho hex hd R.fits (by rw [hn]; omega) ⟨.int L.length, H, I.tok _, ⟨_, by rw [hn]⟩, q⟩
def dLenTs (ti : TDI) (t : Tgt) (dt : TDT) (te : TD) (vs : List Nat) : TD := fun W σ G Q => dTsG (fun acc G2 => Q (.int ((unl acc).length : Nat)) G2) ti t dt te vs W σ G
theorem de_lenTs {X : Cx} {elt tg iter : Expr} {ifs : List Expr} {scope : Scope} {own : List (Str × Nat)} {p spos pos : Pos} {wi : TI} {ti : TDI} {t : Tgt} {g : TG} {dt : TDT} {te : TD} (hu : X.A.units + 8 < cLine) (hc : X.calm = true) (hN : X.N.Nodup) (hm : X.mg "len" = none) (hi : DI X tg iter wi ti) (ok : BlkOk X.N X.env.scope scope own) (hg : BlkPG X scope tg g) (hgr : TgRun X.K t g) (hsl : ∀ i ∈ t.slots, i ∈ own.map (·.2)) (ht : BlkDTs X scope ifs dt) (he : BlkDE X scope elt te)
    (hgl : Gl X "len" := by rfl) (hs : ∀ x, foldedSetIterable iter X.env x = pure x := by intro _; rfl) : DE X (.Call (.Name "len" p) [.SetComp elt [⟨tg, iter, ifs, 0⟩] scope spos] [] pos) (dLenTs ti t dt te (own.map (·.2))) :=
  ⟨fun G H σ τ W Q r q => semE.of (pe_callB call_lenST hgl hm (by decide +kernel) (pa_cons (pe_scT hu hc hN hi.pi ok hg blk_pts blk_pe hs) pa_nil)) (by
    show tScT X.K X.prog X.w wi g (blkT X scope ifs) (blkE X scope elt) (own.map (·.2)) τ H fun v H1 => ∃ (a : Addr) (L : List (Addr × List Int)), [v] = [V.ref a] ∧ H1 a = some (SetTO X.prog X.w a L) ∧ (∀ p ∈ L, SqT X.K H1 p.1 (p.2.map V.int)) ∧ liftQ X.K G H Q (.int L.length) H1
    exact ts_run hi hgr hsl (fun G H σ τ Q Q' s k q f s0 H0 C cl fp pins s1 I => thn ((ht s0 H0 C cl fp).run G H σ τ W0 Q ⟨s, k, takes_w0⟩ q pins s1 I) fun b s2 ⟨H2, I2, z⟩ => ⟨H2, I2, f b H2 z⟩)
      (fun G H σ τ Q Q' s k q f s0 H0 C cl fp => ((he s0 H0 C cl fp).run G H σ τ W0 Q ⟨s, k, takes_w0⟩ q).imp f) r q fun D0 acc L0 G0 H' h0 sm x hl hT hC hn hq => ⟨D0, L0, rfl, hl, hT, by rw [hC]; exact .of (d := .int _) rfl sm x hq⟩)⟩
section
variable {W : DW} {σ : DSt} {G : HD} {Q : Post} {ti : TDI} {t : Tgt} {dt : TDT} {te : TD} {vs : List Nat}
theorem q_lenTs : dLenTs ti t dt te vs W σ G Q = dTsG (fun acc G2 => Q (.int ((unl acc).length : Nat)) G2) ti t dt te vs W σ G := propext ⟨fun h => h, fun h => h⟩
end
end DL

namespace L2
open PySem PySem.Spec PyProof.Rows
theorem setOfK_congr {prog : Program} {w : World} {h : Heap} {a : Addr} {S S' : Key → Bool} {n n' : Nat} (hS : h.SetOf (mixKind prog w) a S n) (e : ∀ k, S k = S' k) (en : n = n') : h.SetOf (mixKind prog w) a S' n' := by
  have : S = S' := funext e
  subst this; subst en; exact hS
theorem take_nextK {α : Type} {l : List α} {i : Nat} {y : α} (h : l[i]? = some y) : l.take (i + 1) = l.take i ++ [y] := by
  rw [List.take_add_one, h]; rfl
theorem vals_key_at : ∀ {ks : List Key} {vs : List Value}, Vals (ks.map kV) vs → ∀ (i : Nat) (v : Value), vs[i]? = some v → ∃ k, ks[i]? = some k ∧ RelV (kV k) v
  | [], _, .nil, i, v, h => by simp at h
  | k :: ks, _, .cons r t, 0, v, h => by simp at h; subst h; exact ⟨k, rfl, r⟩
  | k :: ks, _, .cons r t, i + 1, v, h => vals_key_at t i v (by simpa using h)
section
variable {prog : Program} {w : World} {A : Around} {R : Result → Shared → Prop} {I : Addr} {fp wr : List Addr} {G : Array GenState → Array GenState → Prop} {n : Nat} {P : Nat → Value → Prop} {St : Nat → Shared → Prop}
theorem set_update_keys (W : WalksS prog w A.in1 I fp wr G n P St) (S : Addr) (hSf : S ∉ fp)
    (ks : List Key) (hval : ∀ i v, P i v → ∃ k, ks[i]? = some k ∧ RelV (kV k) v) (hb : n + 1 < scanBound) :
    ∀ (k i : Nat) (s : Shared), n - i = k → i ≤ n → St i s →
      s.heap.SetOf (mixKind prog w) S (fun k' => DL.hasE k' (ks.take i)) (DL.unl (ks.take i)).length →
      (∀ s', Moved (S :: wr) G s s' → s'.heap.SetOf (mixKind prog w) S (fun k' => DL.hasE k' (ks.take n)) (DL.unl (ks.take n)).length → R (.ok (.ret .none)) s') →
      codeAny (model prog w) A (.builtin "set.update.loop" ⟨[.ref S, .ref I], []⟩) R s := by
  have hSw : S ∉ wr := fun h => hSf (W.sub _ h)
  have hsub : ∀ b ∈ wr, b ∈ S :: wr := fun b hb => List.mem_cons_of_mem _ hb
  intro k
  induction k with
  | zero =>
    intro i s hk hi hst hS hR
    have hin : i = n := by omega
    subst hin
    refine codeAny_builtin F.entry_set_update_loop ?_
    rw [Around.under_plainId F.plain_set_update_loop _]
    show wpAny _ A.in1 (pyNext (.ref I) >>= _) _ _ s
    refine wpAny_bind (W.done s _ _ hst fun s' hm => ?_)
    show wpAny _ A.in1 (ret Value.none) _ _ s'
    exact wpAny_pure (hR s' (hm.mono hsub) (by
      obtain ⟨o, es, ep, t, ho, rest⟩ := hS
      exact ⟨o, es, ep, t, hm.heap S _ hSw ho, rest⟩))
  | succ k ih =>
    intro i s hk hi hst hS hR
    have hlt : i < n := by omega
    refine codeAny_builtin F.entry_set_update_loop ?_
    rw [Around.under_plainId F.plain_set_update_loop _]
    show wpAny _ A.in1 (pyNext (.ref I) >>= _) _ _ s
    refine wpAny_bind (W.item i s _ _ hlt hst fun v s' hP hst' hm => ?_)
    obtain ⟨y, hy, ry⟩ := hval i v hP
    have hS' : s'.heap.SetOf (mixKind prog w) S (fun k' => DL.hasE k' (ks.take i)) (DL.unl (ks.take i)).length := by
      obtain ⟨o, es, ep, tb, ho, rest⟩ := hS
      exact ⟨o, es, ep, tb, hm.heap S _ hSw ho, rest⟩
    show wpAny _ A.in1 (holding [v] (setAdd S v) >>= _) _ _ s'
    refine wpAny_bind (wpAny_holding ?_)
    unfold setAdd
    refine wpAny_holding ?_
    refine wpAny_bind ((mixKind prog w).pyHash (k := y) (kV_is ry) ?_)
    have hroom : (DL.unl (ks.take i)).length + 1 < scanBound := by have := DL.unl_len (ks.take i); have := List.length_take_le i ks; omega
    refine wpAny_setAddHashed_of (knd := mixKind prog w) (s := { s' with toks := s'.toks + 1 }) (kV_is ry) (key_scan ry) hS' hroom fun h' hsb hS2 => ?_

    have hSi : h'.SetOf (mixKind prog w) S (fun k' => DL.hasE k' (ks.take (i + 1))) (DL.unl (ks.take (i + 1))).length :=
      setOfK_congr hS2 (fun k' => by rw [take_nextK hy]; unfold DL.hasE; rw [List.any_append]; simp [eq_comm]) (by rw [take_nextK hy]; exact (DL.unl_next _ _ _ fun j => rfl).symm)
    refine wpAny_pure ⟨plainId_quiet F.plain_set_update_loop _, ih (i + 1) _ (by omega) hlt (W.frame _ s' _ _ hst' (Nat.le_succ _) fun b hb o e => ?_) hSi fun s'' hm'' hS'' => ?_⟩
    · rw [hsb.2 b (fun h : b = S => hSf (by rw [← h]; exact hb))]; exact e
    · refine hR s'' (Moved.trans W.gtrans ((hm.mono hsub).then_heap (Nat.le_succ _) fun b o hb e => ?_) hm'') hS''
      rw [hsb.2 b (fun h : b = S => hb (by rw [h]; exact List.mem_cons_self))]; exact e

end
section
variable {prog : Program} {w : World} {A : Around} {E : Value → Shared → Prop} {s : Shared}
set_option maxRecDepth 100000 in
set_option maxHeartbeats 3200000 in

theorem call_set_keys {l : Addr} {items : Array Value} {ks : List Key} {Q : Value → Shared → Prop}
    (hh : A.handled = none) (hl : s.heap.IsList l items) (hi : Vals (ks.map kV) items.toList) (hb : items.size + 1 < scanBound)
    (h : ∀ (h' : Heap) (tk : Nat), h'.SetOf (mixKind prog w) s.heap.objs.size (fun k' => DL.hasE k' (ks.take items.size)) (DL.unl (ks.take items.size)).length →
      (∀ b o, b < s.heap.objs.size → s.heap.get? b = some o → h'.get? b = some o) → Q (.ref s.heap.objs.size) { s with heap := h', toks := tk }) :
    wpAny (model prog w) A (call (.type "set") [.ref l]) Q E s := by
  obtain ⟨c, tl, hmro⟩ := F.called_set.mro
  have hmade := F.called_set.made
  have hsub := F.called_set.sub
  refine wpAny_call (codeAny_of_tree ?_)
  show wpAny _ _ (callAny (.type "set") _) _ _ _
  refine wpAny_pure ⟨Code.quiet_builtin _ (by decide +kernel), codeAny_builtin F.entry_type_call ?_⟩
  rw [Around.under_plain (weight_type_call_type "set" [.ref l] []) rfl]
  have h1 := F.called_set.notType
  have h2 := F.called_set.canCreate
  have hct := F.typeCall_set_1 (.ref l)
  repeat (any_goals (first | assumption | wp_step))

  refine codeAny_mono (code_set_new_1 (.ref l) (E := E) (Q₁ := fun obj s₁ => ∃ led : Bool, obj = .ref s.heap.objs.size ∧ s₁ = { s with heap := s.heap.push { cls := .type "set", dict := none, data := .set #[] 0 (.fresh 0 0 led) } }) fun led => ⟨led, rfl, rfl⟩) fun r s₁ hr => ?_
  cases r with
  | error e => exact hr
  | ok fl =>
    cases fl with
    | ret obj =>
      obtain ⟨led, rfl, rfl⟩ := hr
      have hS : (s.heap.push { cls := .type "set", dict := none, data := .set #[] 0 (.fresh 0 0 led) }).get? s.heap.objs.size = some { cls := .type "set", dict := none, data := .set #[] 0 (.fresh 0 0 led) } := Heap.get?_push_size _ rfl
      have hT : Shared.TypeIs { s with heap := s.heap.push { cls := .type "set", dict := none, data := .set #[] 0 (.fresh 0 0 led) } } (.ref s.heap.objs.size) "set" := ⟨_, hS, rfl⟩
      have hli := F.called_set.init.lookup
      have hbi := F.called_set.init.bind (.ref s.heap.objs.size)
      repeat (any_goals (first | assumption | wp_step))

      refine codeAny_mono (codeAny_call_builtin (R := wants (fun r s₂ => r = .none ∧ ∃ h' tk, s₂ = { s with heap := h', toks := tk } ∧
          h'.SetOf (mixKind prog w) s.heap.objs.size (fun k' => DL.hasE k' (ks.take items.size)) (DL.unl (ks.take items.size)).length ∧
          (∀ b o, b < s.heap.objs.size → s.heap.get? b = some o → h'.get? b = some o)) E) F.called_set.init.plain F.entry_set_init (check_set_init_1 hT ?_)) fun r₂ s₂ hr₂ => ?_
      · obtain ⟨ol, hol, hcl, nl, hdl⟩ := hl
        obtain ⟨ocls, odict, odata, oslots⟩ := ol
        simp only at hcl hdl
        subst hcl; subst hdl
        have hol' : (s.heap.push { cls := .type "set", dict := none, data := .set #[] 0 (.fresh 0 0 led) }).get? l = some { cls := .type "list", dict := odict, data := .seq items nl, slots := oslots } := Heap.get?_push_of_some _ hol
        have hsls := F.sub_list_set
        have hslf := F.sub_list_frozenset
        have hne : (Value.type "list" == Value.type "dict") = false := by decide
        have hl1 : (s.heap.push { cls := .type "set", dict := none, data := .set #[] 0 (.fresh 0 0 led) }).IsList l items := ⟨_, hol', rfl, nl, rfl⟩
        unfold Builtin.«set.__init__» noKeywords Builtin.Frozenset.updateFrom
        generalize hPI : pyIter = PI
        wp_walk
        subst hPI

        refine wpAny_pyIter_list hl1 ?_
        refine wpAny_bind (wpAny_runValue ?_)
        have hlS : l < s.heap.objs.size := Heap.lt_size hol
        have hh3 : A.in1.in1.in1.handled = none := by simp [hh]
        have hneI : l ≠ (s.heap.push { cls := .type "set", dict := none, data := .set #[] 0 (.fresh 0 0 led) }).objs.size := by
          rw [Heap.size_push]; exact Nat.ne_of_lt (Nat.lt_succ_of_lt hlS)
        have hSf : s.heap.objs.size ∉ [(s.heap.push { cls := .type "set", dict := none, data := .set #[] 0 (.fresh 0 0 led) }).objs.size, l] := by
          rw [Heap.size_push]; simp only [List.mem_cons, List.mem_singleton, List.not_mem_nil, or_false, not_or]
          exact ⟨Nat.ne_of_lt (Nat.lt_succ_self _), Nat.ne_of_gt hlS⟩
        have hval : ∀ (i : Nat) (v : Value), items[i]? = some v → ∃ k, ks[i]? = some k ∧ RelV (kV k) v := fun i v hv =>
          vals_key_at hi i v (by rw [Array.getElem?_toList]; exact hv)
        refine set_update_keys ((Walks.list hh3 _ l hneI items).toS) s.heap.objs.size
          hSf ks hval hb (items.size - 0) 0 _ (by omega) (Nat.zero_le _)
          ⟨⟨_, Heap.get?_push_size _ rfl, rfl, rfl⟩, (hl1.push _)⟩ ?hS0 ?hR
        case hS0 =>
          have hget : ((s.heap.push { cls := .type "set", dict := none, data := .set #[] 0 (.fresh 0 0 led) }).push { cls := .type "list_iterator", data := .fields #[.ref l, .int 0 0] }).get? s.heap.objs.size
              = some { cls := .type "set", dict := none, data := .set #[] 0 (.fresh 0 0 led) } := Heap.get?_push_of_some _ hS
          exact setOfK_congr (S := fun _ => false) (n := 0) ⟨_, #[], 0, _, hget, ⟨rfl, rfl, rfl⟩, rfl, (fun e he => by simp at he), (fun k => by simp), (by decide), (by rfl), rfl⟩ (fun _ => rfl) rfl
        case hR =>
          intro s' hm hS'
          obtain ⟨h', g', d', tk', os'⟩ := s'
          have eg : g' = s.gens := hm.gens
          have ed : d' = s.drawn := hm.drawn
          have eo : os' = s.os := hm.os
          subst eg; subst ed; subst eo
          show wpAny _ _ _ _ _ _
          refine wpAny_pure ?_
          show wpAny _ _ (ret Value.none) _ _ _
          refine wpAny_pure ⟨rfl, h', tk', rfl, hS', fun b o hb e => ?_⟩
          have hb1 : b ≠ s.heap.objs.size := Nat.ne_of_lt hb
          have hb2 : b ≠ (s.heap.push { cls := .type "set", dict := none, data := .set #[] 0 (.fresh 0 0 led) }).objs.size := by
            rw [Heap.size_push]; exact Nat.ne_of_lt (Nat.lt_succ_of_lt hb)
          exact hm.heap b o (by simp only [List.mem_cons, List.mem_singleton, List.not_mem_nil, or_false, not_or]; exact ⟨hb1, hb2⟩) (Heap.get?_push_of_some _ (Heap.get?_push_of_some _ e))

      · cases r₂ with
        | error e => exact hr₂
        | ok fl₂ =>
          cases fl₂ with
          | ret r =>
            obtain ⟨rfl, h', tk, rfl, hS', hk'⟩ := hr₂
            repeat (any_goals (first | assumption | wp_step))
            exact h _ _ hS' hk'
          | _ => exact hr₂.elim
    | _ => exact hr.elim

end
end L2

/-! len(set(xs)), xs a list of keys (texts, ints) -/
namespace DL
open PySem PySem.Spec L2
open PyProof.Rows hiding St
def tLenSetK (K : PySem.W.Frag) (ta : TE) : TE := fun σ H Q => ta σ H fun x H1 => ∃ l, ∃ ks : List Key, x = .ref l ∧ SqL K H1 l (ks.map kV) ∧ ks.length ≤ 4000 ∧ Q (.int (unl ks).length) H1
theorem pe_lenSetK {X : Cx} {a : Expr} {ta : TE} {p p2 q pos : Pos} (hc : X.calm = true) (hg : Gl X "len") (hm : X.mg "len" = none) (hg2 : Gl X "set") (hm2 : X.mg "set" = none) (ha : PE X a ta)
    (na : starEach [a] X.env = (false, eval a X.env) :: starEach [] X.env := by rfl) : PE X (.Call (.Name "len" p) [.Call (.Name "set" p2) [a] [] q] [] pos) (tLenSetK X.K ta) := by
  refine ⟨fun pins s σ H Q I h => ?_⟩
  refine Call_ (ld_blt I hg hm boot_len ?_)
  refine PyProof.Rows.callWith_builtin1 (PyProof.Rows.args_cons ?_ rfl) rfl rfl
  refine Call_ (ld_blt I hg2 hm2 boot_set ?_)
  refine PyProof.Rows.callWith_type1 (PyProof.Rows.args_cons (thn (ha.run pins s σ H _ I h) fun v s1 ⟨x, H1, I1, r1, q1⟩ => PyProof.Rows.args_nil ?_) na) na rfl
  obtain ⟨l, ks, rfl, hq, h1, q1⟩ := q1
  cases r1
  obtain ⟨its, r, pl, hz⟩ := I1.list hq
  have hl : its.toArray.size = ks.length := by rw [List.size_toArray, ← r.length, List.length_map]
  have hb : (4001 : Nat) < scanBound := by decide
  refine call_set_keys (ks := ks) (I1.ok.hd hc) pl.isList (by simpa using r) (by omega) fun h' tk hS hk => ?_
  refine PyProof.Rows.args_nil ?_
  rw [hl, List.take_length] at hS
  have hu := unl_len ks
  obtain ⟨o, es, ep, t, ho, hex, hd, _, _, _, hf, hn⟩ := hS
  have I2 : Inv X pins σ H1 { s1 with heap := h', toks := tk } := I1.kept fun b o e => hk b o (Heap.lt_size e) e
  exact call_len_set ho hex hd hf (by rw [hn]; omega) ⟨.int (unl ks).length, H1, I2.tok _, ⟨_, by rw [hn]⟩, q1⟩
def lenSetI (o : Option (List Key)) (G : HD) (Q : Post) : Prop := match o with
  | some ks => ks.length ≤ 4000 ∧ Q (.int ((unl ks).length : Nat)) G
  | none => False
def lenSetO (o : Option (List D)) (G : HD) (Q : Post) : Prop := match o with
  | some ds => lenSetI (keyL ds) G Q
  | none => False
def dLenSetK (te : TD) : TD := fun W σ G Q => te W σ G fun d G1 => lenSetO (asL G1 d) G1 Q
theorem keyL_rps {K : PySem.W.Frag} {H : Hp} : ∀ {ds : List D} {ks : List Key} {vs : List V}, keyL ds = some ks → Rps K H ds vs → vs = ks.map kV
  | [], ks, _, h, e => by cases h; exact e
  | d :: ds, ks, _, h, e => by
    unfold keyL at h
    split at h
    · rename_i k l e1 e2
      cases h
      obtain ⟨v, r, rfl, h1, h2⟩ := e
      rw [keyL_rps e2 h2, keyOfD_rp e1 h1]; rfl
    · cases h
theorem keysL {K : PySem.W.Frag} {G : HD} {H : Hp} {d : D} {v : V} {es : List D} {ks : List Key} (s : Sim K G H) (k : Rp K H d v) (h : asL G d = some es) (h2 : keyL es = some ks) : ∃ a, v = .ref a ∧ SqL K H a (ks.map kV) := by
  obtain ⟨a, vs, e, t, r⟩ := k.lst s h
  rw [keyL_rps h2 r] at t
  exact ⟨a, e, t⟩
theorem de_lenSetK {X : Cx} {a : Expr} {te : TD} {p p2 q pos : Pos} (he : DE X a te) (hc : X.calm = true) (hm : X.mg "len" = none) (hm2 : X.mg "set" = none) (hg : Gl X "len" := by rfl) (hg2 : Gl X "set" := by rfl)
    (na : starEach [a] X.env = (false, eval a X.env) :: starEach [] X.env := by rfl) : DE X (.Call (.Name "len" p) [.Call (.Name "set" p2) [a] [] q] [] pos) (dLenSetK te) :=
  ⟨fun G H σ τ W Q r0 q => semE.of (pe_lenSetK hc hg hm hg2 hm2 peSem na) (he.then r0 q fun d v G1 H1 r1 x1 k1 q1 => by
    unfold lenSetO at q1
    split at q1
    · rename_i xs ex
      unfold lenSetI at q1
      split at q1
      · rename_i ks en
        obtain ⟨h1, q2⟩ := q1
        obtain ⟨l, rfl, t1⟩ := keysL r1.sim k1 ex en
        exact ⟨l, ks, rfl, t1, h1, .of (d := .int _) rfl r1.sim x1 q2⟩
      · exact q1.elim
    · exact q1.elim)⟩
section
variable {W : DW} {σ : DSt} {G : HD} {Q : Post} {te : TD} {xs : List D} {ks : List Key}
theorem q_lenSetK : dLenSetK te W σ G Q = te W σ G fun d G1 => lenSetO (asL G1 d) G1 Q := propext ⟨fun h => h, fun h => h⟩
theorem r_lenSetO : lenSetO (some xs) G Q = lenSetI (keyL xs) G Q := propext ⟨fun h => h, fun h => h⟩
theorem i_lenSetI (h : ks.length ≤ 4000) (q : Q (.int ((unl ks).length : Nat)) G) : lenSetI (some ks) G Q := ⟨h, q⟩
end
end DL

/-! len(set(xs)), xs a list of tuples of ints -/
namespace DL
open PySem PySem.Spec L2
open PyProof.Rows hiding St
theorem unl_nodup {α : Type} [DecidableEq α] (ks : List α) : (unl ks).Nodup := by
  have : ∀ (ks acc : List α), acc.Nodup → (ks.foldl addE acc).Nodup := by
    intro ks
    induction ks with
    | nil => exact fun acc h => h
    | cons x ks ih =>
      intro acc h
      refine ih _ ?_
      unfold addE
      split
      · exact h
      · rename_i hn
        rw [List.nodup_append]
        refine ⟨h, by simp, fun a ha b hb e => ?_⟩
        rw [List.mem_singleton] at hb
        subst e; subst hb
        exact hn (hasE_iff.mpr ha)
  exact this ks [] List.nodup_nil
theorem nodup_len {α : Type} [DecidableEq α] {l ks : List α} (h : l.Nodup) (m : ∀ k, k ∈ l ↔ k ∈ ks) : l.length = (unl ks).length :=
  ((List.perm_ext_iff_of_nodup h (unl_nodup ks)).mpr fun k => by rw [m k, unl_mem]).length_eq
def tLenSetT (K : PySem.W.Frag) (ta : TE) : TE := fun σ H Q => ta σ H fun x H1 => ∃ l, ∃ ks : List (Addr × List Int), x = .ref l ∧ SqL K H1 l (ks.map fun p => V.ref p.1) ∧ (∀ p ∈ ks, SqT K H1 p.1 (p.2.map V.int)) ∧ ks.length < 64 ∧
  ∀ a o, H1 a = none → Q (.int (unl (ks.map (·.2))).length) (upd H1 a o)
theorem pe_lenSetT {X : Cx} {a : Expr} {ta : TE} {p p2 q pos : Pos} (hu : X.A.units + 64 < cLine) (hc : X.calm = true) (hg : Gl X "len") (hm : X.mg "len" = none) (hg2 : Gl X "set") (hm2 : X.mg "set" = none) (ha : PE X a ta)
    (na : starEach [a] X.env = (false, eval a X.env) :: starEach [] X.env := by rfl) : PE X (.Call (.Name "len" p) [.Call (.Name "set" p2) [a] [] q] [] pos) (tLenSetT X.K ta) := by
  refine ⟨fun pins s σ H Q I h => ?_⟩
  refine Call_ (ld_blt I hg hm boot_len ?_)
  refine PyProof.Rows.callWith_builtin1 (PyProof.Rows.args_cons ?_ rfl) rfl rfl
  refine Call_ (ld_blt I hg2 hm2 boot_set ?_)
  refine PyProof.Rows.callWith_type1 (PyProof.Rows.args_cons (thn (ha.run pins s σ H _ I h) fun v s1 ⟨x, H1, I1, r1, q1⟩ => PyProof.Rows.args_nil ?_) na) na rfl
  obtain ⟨l, ks, rfl, hq, hk, hf, q1⟩ := q1
  refine thn (cr_setOfT hc hu pins s1 σ H1 [V.ref l] [v] (fun x H2 => ∃ a L, x = .ref a ∧ H2 = upd H1 a (SetTO X.prog X.w a L) ∧ H1 a = none ∧ (∀ p ∈ L, p ∈ ks) ∧ (∀ p ∈ ks, p.2 ∈ L.map (·.2))) I1 (.cons r1 .nil) ⟨l, ks, rfl, hq, hk, hf, fun a L hn h1 h2 => ⟨a, L, rfl, rfl, hn, h1, h2⟩⟩) fun v2 s2 ⟨x2, H2, I2, r2, q2⟩ => PyProof.Rows.args_nil ?_
  obtain ⟨a, L, rfl, rfl, hn, h1, h2⟩ := q2
  have R0 : SetT0 X.prog X.w s2.heap a L := (I2.hok a _ upd_same).1
  have nd : (L.map (·.2)).Nodup := let ⟨_, _, _, _, _, _, z, _⟩ := R0.ex; z
  have hl : L.length = (unl (ks.map (·.2))).length := by
    rw [← List.length_map (f := fun p : Addr × List Int => p.2)]
    refine nodup_len nd fun k => ⟨fun m => ?_, fun m => ?_⟩
    · obtain ⟨p, hp, rfl⟩ := List.mem_map.mp m
      exact List.mem_map.mpr ⟨p, h1 p hp, rfl⟩
    · obtain ⟨p, hp, rfl⟩ := List.mem_map.mp m
      exact h2 p hp
  refine call_lenST pins s2 σ _ [V.ref a] [v2] Q I2 (.cons r2 .nil) ⟨a, L, rfl, upd_same, fun p hp => ?_, ?_⟩
  · have hne : ∀ b vs, SqT X.K H1 b vs → SqT X.K (upd H1 a (SetTO X.prog X.w a L)) b vs := fun b vs z => by
      rcases z with (z | ⟨o, z⟩) | z
      · exact .inl (.inl (by rw [upd_ne (by rintro rfl; rw [hn] at z; cases z)]; exact z))
      · exact .inl (.inr ⟨o, by rw [upd_ne (by rintro rfl; rw [hn] at z; cases z)]; exact z⟩)
      · exact .inr z
    exact hne _ _ (hk p (h1 p hp))
  · rw [hl]; exact q1 a _ hn
def keyTL : List D → Option (List (List Int))
  | [] => some []
  | d :: r => match keyTD d, keyTL r with
    | some k, some l => some (k :: l)
    | _, _ => none
theorem keyTL_rps {K : PySem.W.Frag} {H : Hp} : ∀ {ds : List D} {kss : List (List Int)} {vs : List V}, keyTL ds = some kss → Rps K H ds vs → ∃ ks : List (Addr × List Int), vs = (ks.map fun p => V.ref p.1) ∧ ks.map (·.2) = kss ∧ ∀ p ∈ ks, SqT K H p.1 (p.2.map V.int)
  | [], kss, _, h, e => by cases h; exact ⟨[], e, rfl, fun p hp => (by cases hp)⟩
  | d :: ds, kss, _, h, e => by
    unfold keyTL at h
    split at h
    · rename_i k l e1 e2
      cases h
      obtain ⟨v, r, rfl, h1, h2⟩ := e
      obtain ⟨ks, rfl, rfl, h3⟩ := keyTL_rps e2 h2
      obtain ⟨a, rfl, _, t⟩ := keyTD_rp e1 h1
      refine ⟨(a, k) :: ks, rfl, rfl, fun p hp => ?_⟩
      rcases List.mem_cons.mp hp with rfl | z
      · exact t
      · exact h3 p z
    · cases h
def lenSetTI (o : Option (List (List Int))) (G : HD) (Q : Post) : Prop := match o with
  | some ks => ks.length < 64 ∧ Q (.int ((unl ks).length : Nat)) G
  | none => False
def lenSetTO (o : Option (List D)) (G : HD) (Q : Post) : Prop := match o with
  | some ds => lenSetTI (keyTL ds) G Q
  | none => False
def dLenSetT (te : TD) : TD := fun W σ G Q => te W σ G fun d G1 => lenSetTO (asL G1 d) G1 Q
theorem de_lenSetT {X : Cx} {a : Expr} {te : TD} {p p2 q pos : Pos} (hu : X.A.units + 64 < cLine) (he : DE X a te) (hc : X.calm = true) (hm : X.mg "len" = none) (hm2 : X.mg "set" = none) (hg : Gl X "len" := by rfl) (hg2 : Gl X "set" := by rfl)
    (na : starEach [a] X.env = (false, eval a X.env) :: starEach [] X.env := by rfl) : DE X (.Call (.Name "len" p) [.Call (.Name "set" p2) [a] [] q] [] pos) (dLenSetT te) :=
  ⟨fun G H σ τ W Q r0 q => semE.of (pe_lenSetT hu hc hg hm hg2 hm2 peSem na) (he.then r0 q fun d v G1 H1 r1 x1 k1 q1 => by
    unfold lenSetTO at q1
    split at q1
    · rename_i xs ex
      unfold lenSetTI at q1
      split at q1
      · rename_i kss en
        obtain ⟨h1, q2⟩ := q1
        obtain ⟨l, vs, rfl, t, rr⟩ := k1.lst r1.sim ex
        obtain ⟨ks, rfl, rfl, h3⟩ := keyTL_rps en rr
        refine ⟨l, ks, rfl, t, h3, by simpa using h1, fun a o hn => ?_⟩
        exact .of (d := .int _) rfl (r1.sim.newO hn) (x1.trans (.new hn (r1.sim.no hn))) q2
      · exact q1.elim
    · exact q1.elim)⟩
section
variable {W : DW} {σ : DSt} {G : HD} {Q : Post} {te : TD} {xs : List D} {ks : List (List Int)}
theorem q_lenSetT : dLenSetT te W σ G Q = te W σ G fun d G1 => lenSetTO (asL G1 d) G1 Q := propext ⟨fun h => h, fun h => h⟩
theorem r_lenSetTO : lenSetTO (some xs) G Q = lenSetTI (keyTL xs) G Q := propext ⟨fun h => h, fun h => h⟩
theorem i_lenSetTI (h : ks.length < 64) (q : Q (.int ((unl ks).length : Nat)) G) : lenSetTI (some ks) G Q := ⟨h, q⟩
end
end DL

set_option maxHeartbeats 2000000
namespace L2
open PySem PySem.Spec PyProof.Rows
def keyOfS (e : Int × Value) : Str := match e.2 with | .str k _ => k | _ => Str.empty
def GoodES (w : World) (e : Int × Value) : Prop := ∃ k tk, e.2 = Value.str k tk ∧ e.1 = hashStr w k
/-- the set of ints at a: S its members, n their number; its table rises and can be walked -/
def SetRS (w : World) (h : Heap) (a : Addr) (S : Str → Bool) (n : Nat) : Prop :=
  ∃ o es ep t, h.get? a = some o ∧ o.ExactSet ∧ o.data = .set es ep t ∧ (∀ e ∈ es.toList, GoodES w e) ∧ (es.toList.map keyOfS).Nodup ∧ (∀ k, S k = true ↔ k ∈ es.toList.map keyOfS) ∧
    es.size < scanBound ∧ t.fits es.size = true ∧ es.size = n ∧ Ris t.place.toList ∧ (w.params.followText "set-order" = true ∨ t.led = true)

section
variable {P : Program} {w : World} {h h' : Heap} {a : Addr} {S : Str → Bool} {n : Nat}

theorem SetRS.at (R : SetRS w h a S n) (k : ∀ o, h.get? a = some o → h'.get? a = some o) : SetRS w h' a S n := by
  obtain ⟨o, es, ep, t, ho, r⟩ := R
  exact ⟨o, es, ep, t, k o ho, r⟩
theorem SetRS.lt (R : SetRS w h a S n) : a < h.objs.size := by
  obtain ⟨o, es, ep, t, ho, r⟩ := R
  exact Heap.lt_size ho
theorem SetRS.congr {S' : Str → Bool} (R : SetRS w h a S n) (e : ∀ k, S' k = S k) : SetRS w h a S' n := by
  have q : S' = S := funext e
  rw [q]; exact R
theorem goodS_elems {l : List (Int × Value)} (g : ∀ e ∈ l, GoodES w e) : ElemsOf (PySem.strKind P w) l := fun e he => by
  obtain ⟨k, tk, h1, h2⟩ := g e he
  exact ⟨⟨k, by rw [h1]; exact PySem.strKind_is P w k tk, h2⟩, by rw [h1] <;> rfl⟩
theorem goodS_is {e : Int × Value} (g : GoodES w e) (k : Str) : (PySem.strKind P w).is k e.2 = true ↔ keyOfS e = k := by
  obtain ⟨k0, tk, h1, _⟩ := g
  unfold keyOfS
  rw [h1]
  show ((k0 == k) = true) ↔ k0 = k
  exact beq_iff_eq
theorem goodS_mem {l : List (Int × Value)} (g : ∀ e ∈ l, GoodES w e) (k : Str) : k ∈ l.map keyOfS ↔ ∃ e ∈ l, (PySem.strKind P w).is k e.2 = true := by
  rw [List.mem_map]
  constructor
  · rintro ⟨e, he, q⟩
    exact ⟨e, he, (goodS_is (g e he) k).2 q⟩
  · rintro ⟨e, he, q⟩
    exact ⟨e, he, (goodS_is (g e he) k).1 q⟩
end

section
variable {P : Program} {w : World} {A : Around} {E : Value → Shared → Prop} {s : Shared} {a : Addr} {S : Str → Bool} {n : Nat}

theorem setRS_add_tail {g : Bool → Sem Unit} (hg : ∀ (b : Bool) (s₁ : Shared) (Q' : Unit → Shared → Prop), Q' () s₁ → wpAny (model P w) A (g b) Q' E s₁)
    {o : Obj} {es : Array (Int × Value)} {ep : Nat} {t : SetTable} (ho : s.heap.get? a = some o) (hex : o.ExactSet) (hd : o.data = .set es ep t)
    {es1 : Array (Int × Value)} {t2 : SetTable} {S' : Str → Bool} (g1 : ∀ e ∈ es1.toList, GoodES w e) (nd1 : (es1.toList.map keyOfS).Nodup) (m1 : ∀ k, S' k = true ↔ k ∈ es1.toList.map keyOfS)
    (hb1 : es1.size < scanBound) (hf2 : t2.fits es1.size = true) (hr : Ris t2.place.toList) (hl : w.params.followText "set-order" = true ∨ t2.led = true) {wasDummy : Bool} {R : Option Bool → Shared → Prop}
    (hR : ∀ h', Heap.SameBut a s.heap h' → SetRS w h' a S' es1.size → R (some true) { s with heap := h' }) :
    wpAny (model P w) A (do
        storeSet a es1 t2
        if (!wasDummy && t2.tooFull) = true then do
            g (relayAll t2 es1 (SetTable.grown es1.size)).2.2
            storeSet a (relayAll t2 es1 (SetTable.grown es1.size)).1 (relayAll t2 es1 (SetTable.grown es1.size)).2.1
            pure (some true)
          else pure (some true)) R E s := by
  refine wpAny_bind (wpAny_storeSet_of ho hd ?_ (fits_of_scanBound hb1))
  have ho1 := store_at (es' := es1) (t' := t2) ho hd
  have sb1 := Heap.SameBut.update s.heap a (Obj.putSet es1 t2)
  split
  · have pm := relayAll_perm t2 es1 (SetTable.grown es1.size)
    have hf3 := relayAll_fits t2 es1 (SetTable.grown es1.size)
    have hr3 := relayAll_ris t2 es1 (SetTable.grown es1.size)
    have hl3 := relayAll_led t2 es1 (SetTable.grown es1.size)
    generalize relayAll t2 es1 (SetTable.grown es1.size) = Z at pm hf3 hr3 hl3 ⊢
    obtain ⟨es2, t3, gave⟩ := Z
    dsimp only at pm hf3 hr3 hl3 ⊢
    have hsz : es2.size = es1.size := by rw [← Array.length_toList, pm.length_eq, Array.length_toList]
    have hb2 : es2.size < scanBound := by rw [hsz]; exact hb1
    refine wpAny_bind (hg _ _ _ ?_)
    refine wpAny_bind (wpAny_storeSet_of ho1 rfl ?_ (fits_of_scanBound hb2))
    have ho2 := store_at (es' := es2) (t' := t3) ho1 rfl
    refine wpAny_pure (hR _ (sb1.trans (Heap.SameBut.update _ a _)) ?_)
    exact ⟨_, es2, _, t3, ho2, hex, rfl, fun e he => g1 e (pm.mem_iff.mp he), (pm.map keyOfS).nodup_iff.mpr nd1, fun k => (m1 k).trans (pm.map keyOfS).mem_iff.symm, hb2, hf3, hsz, hr3,
      hl.imp id fun z => by rw [hl3]; exact z⟩
  · exact wpAny_pure (hR _ sb1 ⟨_, es1, _, t2, ho1, hex, rfl, g1, nd1, m1, hb1, hf2, rfl, hr, hl⟩)

theorem setRS_add_hashed {k : Str} {tk : Tok} {Q : Bool → Shared → Prop} (R : SetRS w s.heap a S n) (room : n + 1 < scanBound)
    (hQ : ∀ h', Heap.SameBut a s.heap h' → SetRS w h' a (fun j => S j || decide (j = k)) (if S k = true then n else n + 1) → Q (!S k) { s with heap := h' }) :
    wpAny (model P w) A (setAddHashed a (.str k tk) ((PySem.strKind P w).hash k)) Q E s := by
  obtain ⟨o, es, ep, t, ho, hex, hd, g, nd, hm, hb, hf, hn, hr, hl⟩ := R
  have hkey : (PySem.strKind P w).is k (.str k tk) = true := PySem.strKind_is P w k tk
  have hsc : (Value.str k tk).scannable = true := rfl
  have hel : ElemsOf (PySem.strKind P w) es.toList := goodS_elems g
  unfold setAddHashed setAddHashedIn
  refine wpAny_holding (wpAny_bind (wpAny_setState_of ho hd hf ?_))
  dsimp only
  rw [byScan_of hsc hb hel]
  simp only [↓reduceIte]
  unfold setAddByScan
  refine wpAny_bind ?_
  refine wpAny_bind (wpAny_rule ?_)
  refine wpAny_bind (wpAny_setScan_of hkey ho hd hf hel ?_)
  cases hfi : List.findIdx? (fun e => (PySem.strKind P w).is k e.2) es.toList with
  | some j =>
    dsimp only
    obtain ⟨hj, pj, _⟩ := List.findIdx?_eq_some_iff_getElem.mp hfi
    have hSk : S k = true := (hm k).2 ((goodS_mem (P := P) (w := w) g k).2 ⟨es.toList[j], List.getElem_mem hj, pj⟩)
    refine wpAny_pure (wpAny_pure ?_)
    have q := hQ s.heap (Heap.SameBut.refl a s.heap) ⟨o, es, ep, t, ho, hex, hd, g, nd, fun i => by
      rw [Bool.or_eq_true, decide_eq_true_eq, ← hm i]
      exact ⟨fun z => z.elim id (fun e => e ▸ hSk), .inl⟩, hb, hf, by rw [if_pos hSk]; exact hn, hr, hl⟩
    rw [hSk] at q
    exact q
  | none =>
    dsimp only
    have hnk : k ∉ es.toList.map keyOfS := fun z => by
      obtain ⟨e, he, q⟩ := (goodS_mem (P := P) (w := w) g k).1 z
      have c := List.findIdx?_eq_none_iff.mp hfi e he
      rw [q] at c
      cases c
    have hSk : S k = false := by
      cases q : S k with
      | false => rfl
      | true => exact absurd ((hm k).1 q) hnk
    have hgw : ∀ (b : Bool) {s₁ : Shared} {Q' : Unit → Shared → Prop}, Q' () s₁ → wpAny (model P w) A (match b with | true => rule "set.scan.the-table-gave-way" | false => pure ()) Q' E s₁ :=
      fun b s₁ Q' q => by cases b <;> first | exact wpAny_pure q | exact wpAny_rule q
    have pm := layNew_perm t es ((PySem.strKind P w).hash k) (.str k tk)
    have hf1 := layNew_fits t es ((PySem.strKind P w).hash k) (.str k tk)
    have hr1 := layNew_ris t es ((PySem.strKind P w).hash k) (.str k tk) hr
    have hl1 := layNew_led t es ((PySem.strKind P w).hash k) (.str k tk)
    generalize layNew t es ((PySem.strKind P w).hash k) (.str k tk) = Z at pm hf1 hr1 hl1 ⊢
    obtain ⟨es1, t1, wasDummy, gave⟩ := Z
    dsimp only at pm hf1 hr1 hl1 ⊢
    rw [Array.toList_push] at pm
    have pc : es1.toList.Perm (((PySem.strKind P w).hash k, Value.str k tk) :: es.toList) := pm.trans (List.perm_append_singleton _ _)
    have pk : (es1.toList.map keyOfS).Perm (k :: es.toList.map keyOfS) := pc.map keyOfS
    have g1 : ∀ e ∈ es1.toList, GoodES w e := fun e he => by
      rcases List.mem_cons.mp (pc.mem_iff.mp he) with z | z
      · rw [z]; exact ⟨k, tk, rfl, rfl⟩
      · exact g e z
    have nd1 : (es1.toList.map keyOfS).Nodup := pk.nodup_iff.mpr (List.nodup_cons.mpr ⟨hnk, nd⟩)
    have m1 : ∀ i, (S i || decide (i = k)) = true ↔ i ∈ es1.toList.map keyOfS := fun i => by
      rw [Bool.or_eq_true, decide_eq_true_eq, hm i, pk.mem_iff, List.mem_cons]
      exact Or.comm
    have hsz : es1.size = n + 1 := by rw [← Array.length_toList, pc.length_eq, List.length_cons, Array.length_toList, hn]
    have hb1 : es1.size < scanBound := by rw [hsz]; exact room
    have hled : w.params.followText "set-order" = true ∨ t1.led = true := hl.imp id fun z => by rw [hl1]; exact z
    have fin : ∀ h', Heap.SameBut a s.heap h' → SetRS w h' a (fun j => S j || decide (j = k)) es1.size → Q true { s with heap := h' } := fun h' sb r => by
      have q := hQ h' sb
      rw [hSk] at q
      rw [hsz] at r
      exact q r
    refine wpAny_bind (hgw _ ?_)
    split
    · refine wpAny_bind ?_
      rw [hashByValue_scannable 8 hsc]
      refine wpAny_pure ?_
      refine setRS_add_tail ?_ ho hex hd g1 nd1 m1 hb1 ?_ ?_ ?_ ?_
      · intro b s₁ Q' q; cases b <;> first | exact wpAny_pure q | exact wpAny_rule q
      · first | (split <;> first | exact hf1 | exact SetTable.fits_plain_off hf1) | exact hf1
      · first | (split <;> exact hr1) | exact hr1
      · first | (split <;> exact hled) | exact hled
      · intro h' sb r; dsimp only; exact wpAny_pure (fin h' sb r)
    · refine wpAny_bind (wpAny_pure ?_)
      simp only [↓reduceIte]
      refine setRS_add_tail ?_ ho hex hd g1 nd1 m1 hb1 hf1 hr1 hled ?_
      · intro b s₁ Q' q; cases b <;> first | exact wpAny_pure q | exact wpAny_rule q
      · intro h' sb r; dsimp only; exact wpAny_pure (fin h' sb r)


end
end L2

namespace L2
open PySem PySem.Spec PyProof.Rows
theorem vals_text_at : ∀ {ks : List Str} {vs : List Value}, Vals (ks.map V.str) vs → ∀ (i : Nat) (v : Value), vs[i]? = some v → ∃ k t, ks[i]? = some k ∧ v = .str k t
  | [], _, .nil, i, v, h => by simp at h
  | k :: ks, _, .cons r t, 0, v, h => by simp at h; subst h; obtain ⟨t0, e⟩ := r; exact ⟨k, t0, rfl, e⟩
  | k :: ks, _, .cons r t, i + 1, v, h => vals_text_at t i v (by simpa using h)
theorem setRS_new_at {w : World} {h : Heap} {a : Addr} {ns : List Str} (ho : h.get? a = some { cls := .type "set", dict := none, data := .set #[] 0 (.fresh 0 0 (!w.params.followText "set-order")) }) : SetRS w h a (fun j => decide (j ∈ ns.take 0)) 0 :=
  ⟨_, #[], 0, _, ho, ⟨rfl, rfl, rfl⟩, rfl, (fun e he => by simp at he), (by simp), (fun k => by simp), (by decide), (by rfl), rfl, List.Pairwise.nil, by
    show _ ∨ (!w.params.followText "set-order") = true
    cases w.params.followText "set-order"
    · exact .inr rfl
    · exact .inl rfl⟩

section
variable {P : Program} {w : World} {A : Around} {E : Value → Shared → Prop} {s : Shared}
theorem set_update_texts {I : Addr} {fp wr : List Addr} {G : Array GenState → Array GenState → Prop} {n : Nat} {Pv : Nat → Value → Prop} {St : Nat → Shared → Prop} {R : Result → Shared → Prop}
    (W : WalksS P w A.in1 I fp wr G n Pv St) (S : Addr) (hSf : S ∉ fp) (ns : List Str) (hn : n = ns.length) (hb : ns.length + 1 < scanBound) (hval : ∀ i v, Pv i v → ∃ k t, ns[i]? = some k ∧ v = .str k t) :
    ∀ (k i : Nat) (s : Shared), n - i = k → i ≤ n → St i s → (∃ c, c ≤ i ∧ SetRS w s.heap S (fun j => decide (j ∈ ns.take i)) c) →
      (∀ s' c, Moved (S :: wr) G s s' → c ≤ n → SetRS w s'.heap S (fun j => decide (j ∈ ns)) c → R (.ok (.ret .none)) s') →
      codeAny (model P w) A (.builtin "set.update.loop" ⟨[.ref S, .ref I], []⟩) R s := by
  have hSw : S ∉ wr := fun h => hSf (W.sub _ h)
  have hsub : ∀ b ∈ wr, b ∈ S :: wr := fun b hb => List.mem_cons_of_mem _ hb
  intro k
  induction k with
  | zero =>
    intro i s hk' hi hst ⟨c, hc, hS⟩ hR
    have hin : i = n := by omega
    subst hin
    refine codeAny_builtin F.entry_set_update_loop ?_
    rw [Around.under_plainId F.plain_set_update_loop _]
    show wpAny _ A.in1 (pyNext (.ref I) >>= _) _ _ s
    refine wpAny_bind (W.done s _ _ hst fun s' hm => ?_)
    show wpAny _ A.in1 (ret Value.none) _ _ s'
    have e : ns.take i = ns := List.take_of_length_le (by omega)
    rw [e] at hS
    exact wpAny_pure (hR s' c (hm.mono hsub) hc (hS.at fun o e => hm.heap S o hSw e))
  | succ k ih =>
    intro i s hk' hi hst ⟨c, hc, hS⟩ hR
    have hlt : i < n := by omega
    refine codeAny_builtin F.entry_set_update_loop ?_
    rw [Around.under_plainId F.plain_set_update_loop _]
    show wpAny _ A.in1 (pyNext (.ref I) >>= _) _ _ s
    refine wpAny_bind (W.item i s _ _ hlt hst fun v s' hP hst' hm => ?_)
    obtain ⟨z, t, hz, rfl⟩ := hval i v hP
    have hS' : SetRS w s'.heap S (fun j => decide (j ∈ ns.take i)) c := hS.at fun o e => hm.heap S o hSw e
    show wpAny _ A.in1 (holding [Value.str z t] (setAdd S (.str z t)) >>= _) _ _ s'
    refine wpAny_bind (wpAny_holding ?_)
    unfold setAdd
    refine wpAny_holding ?_
    refine wpAny_bind ((PySem.strKind P w).pyHash (k := z) (PySem.strKind_is _ _ _ _) ?_)
    refine setRS_add_hashed (s := { s' with toks := s'.toks + 1 }) hS' (by omega) fun h' hsb hS2 => ?_
    have hS3 : SetRS w h' S (fun j => decide (j ∈ ns.take (i + 1))) (if decide (z ∈ ns.take i) = true then c else c + 1) := hS2.congr fun j => by
      rw [List.take_add_one, hz]
      simp [List.mem_append]
    have hc3 : (if decide (z ∈ ns.take i) = true then c else c + 1) ≤ i + 1 := by
      split <;> omega
    refine wpAny_pure ⟨plainId_quiet F.plain_set_update_loop _, ih (i + 1) _ (by omega) hlt (W.frame _ s' _ _ hst' (Nat.le_succ _) fun b hb o e => ?_) ⟨_, hc3, hS3⟩ fun s'' c2 hm'' hc'' hS'' => ?_⟩
    · rw [hsb.2 b (fun h : b = S => hSf (by rw [← h]; exact hb))]; exact e
    · refine hR s'' c2 (Moved.trans W.gtrans ((hm.mono hsub).then_heap (Nat.le_succ _) fun b o hb e => ?_) hm'') hc'' hS''
      rw [hsb.2 b (fun h : b = S => hb (by rw [h]; exact List.mem_cons_self))]; exact e


end
end L2
namespace DN
open PySem PySem.Spec PyProof.Rows L2
section
variable {P : Program} {w : World} {A : Around} {E : Value → Shared → Prop} {s : Shared}
set_option maxHeartbeats 3200000 in
/-- set(l), l a list of ints; its table is known -/
theorem set_texts {l : Addr} {items : Array Value} (ns : List Str) {Q : Value → Shared → Prop} (hh : A.handled = none) (hl : s.heap.IsList l items) (hit : Vals (ns.map V.str) items.toList) (hb : ns.length + 1 < scanBound)
    (h : ∀ (h' : Heap) (tk c : Nat), SetRS w h' s.heap.objs.size (fun j => decide (j ∈ ns)) c → c ≤ ns.length → (∀ b o, s.heap.get? b = some o → h'.get? b = some o) → Q (.ref s.heap.objs.size) { s with heap := h', toks := tk }) :
    wpAny (model P w) A (call (.type "set") [.ref l]) Q E s := by
  have hn : items.size = ns.length := by have := hit.length; rw [List.length_map, Array.length_toList] at this; exact this.symm
  have hlS : l < s.heap.objs.size := by obtain ⟨o, ho, _⟩ := hl; exact Heap.lt_size ho
  have z1 : (s.heap.push (new0 w)).objs.size = s.heap.objs.size + 1 := Heap.size_push ..
  have hS : (s.heap.push (new0 w)).get? s.heap.objs.size = some (new0 w) := Heap.get?_push_size _ rfl
  obtain ⟨_, _, hmro⟩ := F.called_set.mro
  have hmade := F.called_set.made
  have hsub := F.called_set.sub
  refine wpAny_call (codeAny_of_tree ?_)
  show wpAny _ _ (callAny (.type "set") _) _ _ _
  refine wpAny_pure ⟨Code.quiet_builtin _ (by decide +kernel), codeAny_builtin F.entry_type_call ?_⟩
  rw [Around.under_plain (weight_type_call_type "set" [.ref l] []) rfl]
  have h1 := F.called_set.notType
  have h2 := F.called_set.canCreate
  have h3 := F.typeCall_set_1 (.ref l)
  repeat (any_goals (first | assumption | wp_step))
  refine codeAny_mono (code_set_led1 (.ref l) (E := E) (Q₁ := fun v s1 => v = .ref s.heap.objs.size ∧ s1 = { s with heap := s.heap.push (new0 w) }) ⟨rfl, rfl⟩) fun r s1 hr => ?_
  rcases r with e | (_ | _ | _ | v)
  · exact hr
  · exact hr.elim
  · exact hr.elim
  · exact hr.elim
  · obtain ⟨rfl, rfl⟩ := hr
    have hT : Shared.TypeIs { s with heap := s.heap.push (new0 w) } (.ref s.heap.objs.size) "set" := ⟨_, hS, rfl⟩
    have hli := F.called_set.init.lookup
    have hbi := F.called_set.init.bind (.ref s.heap.objs.size)
    repeat (any_goals (first | assumption | wp_step))
    refine codeAny_mono (codeAny_call_builtin (R := wants (fun r s2 => r = .none ∧ ∃ h' tk c, s2 = { s with heap := h', toks := tk } ∧ SetRS w h' s.heap.objs.size (fun j => decide (j ∈ ns)) c ∧ c ≤ ns.length ∧ (∀ b o, s.heap.get? b = some o → h'.get? b = some o)) E) F.called_set.init.plain F.entry_set_init (check_set_init_1 hT ?_)) fun r2 s2 hr2 => ?_
    · obtain ⟨⟨cls, dd, dat, sl⟩, ho, hc, k0, hd⟩ := hl
      simp only at hc hd
      subst hc; subst hd
      have ho' : (s.heap.push (new0 w)).get? l = some { cls := .type "list", dict := dd, data := .seq items k0, slots := sl } := Heap.get?_push_of_some _ ho
      have e1 := F.sub_list_set
      have e2 := F.sub_list_frozenset
      have e3 : (Value.type "list" == Value.type "dict") = false := by decide
      have hl1 : (s.heap.push (new0 w)).IsList l items := ⟨_, ho', rfl, k0, rfl⟩
      unfold Builtin.«set.__init__» noKeywords Builtin.Frozenset.updateFrom
      generalize hPI : pyIter = PI
      wp_walk
      subst hPI
      refine wpAny_pyIter_list hl1 ?_
      refine wpAny_bind (wpAny_runValue ?_)
      have hne : l ≠ (s.heap.push (new0 w)).objs.size := by rw [z1]; exact Nat.ne_of_lt (Nat.lt_succ_of_lt hlS)
      have hh3 : A.in1.in1.in1.handled = none := by simp [hh]
      have hval : ∀ (i : Nat) (v : Value), items[i]? = some v → ∃ k t, ns[i]? = some k ∧ v = .str k t := fun i v hv => vals_text_at hit i v (by rw [Array.getElem?_toList]; exact hv)
      refine set_update_texts (Walks.list hh3 _ l hne items).toS s.heap.objs.size (by simp only [List.mem_cons, List.not_mem_nil, or_false, not_or]; exact ⟨by rw [z1]; exact Nat.ne_of_lt (Nat.lt_succ_self _), Nat.ne_of_gt hlS⟩) ns hn hb hval (items.size - 0) 0 _ (by omega) (Nat.zero_le _)
        ⟨⟨_, Heap.get?_push_size _ rfl, rfl, rfl⟩, hl1.push _⟩ ⟨0, Nat.le_refl 0, setRS_new_at (Heap.get?_push_of_some _ hS)⟩ fun s' c hm hc hR => ?_
      obtain ⟨h', g2, d', tk', os'⟩ := s'
      have eg : g2 = s.gens := hm.gens
      have ed : d' = s.drawn := hm.drawn
      have eo : os' = s.os := hm.os
      subst eg; subst ed; subst eo
      show wpAny _ _ _ _ _ _
      refine wpAny_pure ?_
      show wpAny _ _ (ret Value.none) _ _ _
      refine wpAny_pure ⟨rfl, h', tk', c, rfl, hR, by omega, fun b o e => ?_⟩
      have hb0 : b < s.heap.objs.size := Heap.lt_size e
      exact hm.heap b o (by simp only [List.mem_cons, List.not_mem_nil, or_false, not_or]; exact ⟨Nat.ne_of_lt hb0, by rw [z1]; exact Nat.ne_of_lt (Nat.lt_succ_of_lt hb0)⟩) (Heap.get?_push_of_some _ (Heap.get?_push_of_some _ e))
    · rcases r2 with e | (_ | _ | _ | v)
      · exact hr2
      · exact hr2.elim
      · exact hr2.elim
      · exact hr2.elim
      · obtain ⟨rfl, h', tk', c, rfl, hR, hc, hk⟩ := hr2
        refine wpAny_pure ?_
        have e0 : ((Value.none != Value.none) = true) = False := by decide
        repeat (any_goals (first | exact h h' tk' c hR hc hk | assumption | wp_step))
end
end DN

namespace L2
open PySem PySem.Spec PyProof.Rows
def textOf (v : Value) : Str := match v with | .str k _ => k | _ => Str.empty
theorem texts_of : ∀ (vs : List Value), (∀ v ∈ vs, ∃ k t, v = .str k t) → StrsAre vs (vs.map textOf)
  | [], _ => .nil
  | v :: vs, h => by
    obtain ⟨k, t, rfl⟩ := h v (List.mem_cons_self ..)
    exact .cons k t (texts_of vs fun u hu => h u (List.mem_cons_of_mem _ hu))
section
variable {P : Program} {w : World} {A : Around} {E : Value → Shared → Prop} {s : Shared} {a : Addr}
theorem sorted_texts {S : Str → Bool} {n : Nat} {Q : Value → Shared → Prop} (R : SetRS w s.heap a S n) (hh : A.handled = none) (h64 : n < 64)
    (hQ : ∀ s' p (out : List Value) (c : Nat) (ys : List Str), (∀ b o, s.heap.get? b = some o → s'.heap.get? b = some o) → s'.gens = s.gens → s'.os = s.os → s.heap.objs.size ≤ p →
      s'.heap.get? p = some (seqObj "list" out.toArray c) → StrsAre out ys → sortedS ys = true → ys.Nodup → (∀ k, k ∈ ys ↔ S k = true) → ys.length = n → Q (.ref p) s') :
    wpAny (model P w) A (call (.builtin "sorted") [.ref a]) Q E s := by
  obtain ⟨o, es, ep, t, ho, hex, hd, g, nd, hm, hb, hf, hn, hr, hl⟩ := R
  refine Calls.call_function_entry kind_sorted plain_sorted entry_sorted (args_sorted1 _) ?_
  unfold Builtin.«sorted»
  refine wpAny_bind (m := checkCount "sorted" 1 1 _) (wpAny_pure ?_)
  refine wpAny_bind (collect_set (A := A.in1) hh ⟨o, ho, hex.1, hd⟩ hf hb hr hl fun s1 vs k1 hz g1 o1 pm => ?_)
  have hvl : vs.length = n := by rw [pm.length_eq, List.length_map, Array.length_toList]; exact hn
  have hS : StrsAre vs (vs.map textOf) := texts_of vs fun v hv => by
    obtain ⟨e, he, q⟩ := List.mem_map.mp (pm.mem_iff.mp hv)
    obtain ⟨k, tk, h1, _⟩ := g e he
    exact ⟨k, tk, by rw [← q]; exact h1⟩
  have pk : (vs.map textOf).Perm (es.toList.map keyOfS) := by
    have q := pm.map textOf
    rw [List.map_map] at q
    exact q
  refine wpAny_bind (wpAny_newList ?_ (by rw [hvl, sizeLine_eq]; omega))
  have hoL : (s1.heap.push (seqObj "list" vs.toArray 0)).get? s1.heap.objs.size = some (seqObj "list" vs.toArray 0) := Heap.get?_push_size _ rfl
  refine wpAny_bind (wpAny_holding (wpAny_call_entry slot_list_sort ⟨_, hoL, rfl⟩ entry_list_sort
    (list_sort_treeK strKind_oneLt (s := { s1 with heap := s1.heap.push (seqObj "list" vs.toArray 0) }) hoL hS.keysOf (fun v₁ v₂ rest e => keyKind_strs (by rw [← e]; exact hS)) (by rw [hvl]; exact h64) fun st' hp hs => ⟨_, rfl, ?_⟩)
    (args_list_sort _)))
  obtain ⟨ys, y1, y2, y3⟩ := sorted_out_str hS hp hs
  obtain ⟨c, hc⟩ := sortedHeap_at (vs := vs) (out := (arrOf st').map (·.2)) hoL
  have pn : ys.Perm (es.toList.map keyOfS) := y2.trans pk
  refine wpAny_pure ⟨_, rfl, hQ _ s1.heap.objs.size ((arrOf st').map (·.2)).toList c ys (fun b u e => ?_) g1 o1 hz (by rw [Array.toArray_toList]; exact hc) y1 y3 (pn.nodup_iff.mpr nd) (fun k => by rw [pn.mem_iff, ← hm k]) ?_⟩
  · have q := k1 b u e
    have hlt := Heap.lt_size q
    show (sortedHeap (s1.heap.push (seqObj "list" vs.toArray 0)) s1.heap.objs.size vs _).get? b = some u
    rw [sortedHeap_old (Nat.ne_of_lt hlt) (by rw [size_push']; exact Nat.lt_succ_of_lt hlt)]
    exact Heap.get?_push_of_some _ q
  · rw [pn.length_eq, List.length_map, Array.length_toList]; exact hn
end
end L2

/-! sorted(set(e)), e a list of texts; by value -/
namespace DL
open PySem PySem.Spec L2
open PyProof.Rows hiding St
def tSortSetS (K : PySem.W.Frag) (ta : TE) : TE := fun σ H Q => ta σ H fun x H1 => ∃ (l : Addr) (ns : List Str), x = .ref l ∧ SqL K H1 l (ns.map V.str) ∧ ns.length ≤ 60 ∧ ∀ (p : Addr) (ms : List Str), H1 p = none → sortedS ms = true → ms.Nodup → (∀ k, k ∈ ms ↔ k ∈ ns) → Q (.ref p) (upd H1 p (.lst (ms.map V.str)))
theorem pe_sortSetS {X : Cx} {a : Expr} {ta : TE} {p p2 q pos : Pos} (hc : X.calm = true) (hg : Gl X "sorted") (hm : X.mg "sorted" = none) (hg2 : Gl X "set") (hm2 : X.mg "set" = none) (ha : PE X a ta)
    (na : starEach [a] X.env = (false, eval a X.env) :: starEach [] X.env := by rfl) : PE X (.Call (.Name "sorted" p) [.Call (.Name "set" p2) [a] [] q] [] pos) (tSortSetS X.K ta) := by
  refine ⟨fun pins s σ H Q I h => ?_⟩
  refine Call_ (ld_blt I hg hm (by decide +kernel : bootBuiltins "sorted" = some (.builtin "sorted")) ?_)
  refine PyProof.Rows.callWith_builtin1 (PyProof.Rows.args_cons ?_ rfl) rfl rfl
  refine Call_ (ld_blt I hg2 hm2 PyProof.Rows.boot_set ?_)
  refine PyProof.Rows.callWith_type1 (PyProof.Rows.args_cons (thn (ha.run pins s σ H _ I h) fun v s1 ⟨x, H1, I1, r1, q1⟩ => PyProof.Rows.args_nil ?_) na) na rfl
  obtain ⟨l, ns, rfl, hq, h60, q1⟩ := q1
  cases r1
  obtain ⟨its, r, pl, hz⟩ := I1.list hq
  refine DN.set_texts ns (I1.ok.hd hc) pl.isList (by simpa using r) (by unfold scanBound; omega) fun h' tk c R hcn hk => ?_
  refine PyProof.Rows.args_nil ?_
  refine sorted_texts R (I1.ok.hd hc) (by omega) fun s' p' out c2 ms k g o hp hgo hi hs hd hm3 hl => ?_
  have k' : ∀ b u, s1.heap.get? b = some u → s'.heap.get? b = some u := fun b u e => k b u (hk b u e)
  have hlt : s1.heap.objs.size ≤ p' := Nat.le_trans (Nat.le_of_lt R.lt) hp
  have hn : H1 p' = none := I1.hok.fresh hlt
  have hv : Vals (ms.map V.str) out := vals_of_strs hi
  have hlen : (ms.map V.str).length ≤ sizeLine := by rw [List.length_map, sizeLine_eq]; omega
  have J : Inv X pins σ (upd H1 p' (.lst (ms.map V.str))) { s1 with heap := s'.heap, gens := s'.gens, drawn := s'.drawn, toks := s'.toks } :=
    I1.call (ch := []) (Un.laid k' hlt hn) (I1.hok.laid k' hlt ⟨hlen, out, c2, hv, hgo⟩) (by rw [g]; exact I1.bare) (fun _ z => nomatch z)
  have e : s' = { s1 with heap := s'.heap, gens := s'.gens, drawn := s'.drawn, toks := s'.toks } := by
    cases s'
    cases s1
    cases o
    rfl
  rw [e]
  exact ⟨.ref p', _, J, rfl, q1 p' ms hn hs hd fun k => by rw [hm3 k, decide_eq_true_eq]⟩
def srtSetSI (o : Option (List Str)) (G : HD) (Q : Post) : Prop := match o with
  | some ns => ns.length ≤ 60 ∧ ∀ ms : List Str, sortedS ms = true → ms.Nodup → (∀ k, k ∈ ms ↔ k ∈ ns) → Q (.kl (ms.map D.str)) G
  | none => False
def srtSetSO (o : Option (List D)) (G : HD) (Q : Post) : Prop := match o with
  | some ds => srtSetSI (asStrs ds) G Q
  | none => False
def dSortSetS (te : TD) : TD := fun W σ G Q => te W σ G fun d G1 => srtSetSO (asL G1 d) G1 Q
theorem rps_texts {K : PySem.W.Frag} {H : Hp} : ∀ ms : List Str, Rps K H (ms.map D.str) (ms.map V.str)
  | [] => rfl
  | m :: ms => ⟨.str m, ms.map V.str, rfl, rfl, rps_texts ms⟩
theorem de_sortSetS {X : Cx} {a : Expr} {te : TD} {p p2 q pos : Pos} (he : DE X a te) (hc : X.calm = true) (hm : X.mg "sorted" = none) (hm2 : X.mg "set" = none) (hg : Gl X "sorted" := by rfl) (hg2 : Gl X "set" := by rfl)
    (na : starEach [a] X.env = (false, eval a X.env) :: starEach [] X.env := by rfl) : DE X (.Call (.Name "sorted" p) [.Call (.Name "set" p2) [a] [] q] [] pos) (dSortSetS te) :=
  ⟨fun G H σ τ W Q r0 q => semE.frz (semE.of (pe_sortSetS hc hg hm hg2 hm2 peSem na) (he.then r0 q fun d v G1 H1 r1 x1 k1 q1 => by
    unfold srtSetSO at q1
    split at q1
    · rename_i xs ex
      unfold srtSetSI at q1
      split at q1
      · rename_i ns en
        obtain ⟨h1, q2⟩ := q1
        obtain ⟨l, vs, rfl, t1, rr⟩ := k1.lst r1.sim ex
        obtain rfl := asStrs_rps en rr
        exact ⟨l, ns, rfl, t1, h1, fun p ms hp hs hd hm => newV.fin (K := X.K) (G := G1) (Q := Q) (Q' := liftF X.K G H Q) (ds := ms.map D.str) (vs := ms.map V.str) r1.sim (rps_texts ms) (fun _ _ z => z.up x1) (q2 ms hs hd hm) p hp⟩
      · exact q1.elim
    · exact q1.elim))⟩
section
variable {G : HD} {Q : Post} {W : DW} {σ : DSt} {te : TD} {xs : List D} {ns : List Str}
theorem q_sortSetS : dSortSetS te W σ G Q = te W σ G fun d G1 => srtSetSO (asL G1 d) G1 Q := propext ⟨fun h => h, fun h => h⟩
theorem r_srtSetSO : srtSetSO (some xs) G Q = srtSetSI (asStrs xs) G Q := propext ⟨fun h => h, fun h => h⟩
theorem i_srtSetS (h : ns.length ≤ 60) (q : ∀ ms : List Str, sortedS ms = true → ms.Nodup → (∀ k, k ∈ ms ↔ k ∈ ns) → Q (.kl (ms.map D.str)) G) : srtSetSI (some ns) G Q := ⟨h, q⟩
end
end DL

namespace L2
open PySem PySem.Spec PyProof.Rows
def encPr (b : Addr × (List Int × List Int)) : PyData := .tuple [.tuple (b.2.1.map .int), .tuple (b.2.2.map .int)]
theorem alike_ints : ∀ xs ys : List Int, PySem.W.alikeAll (xs.map PyData.int) (ys.map PyData.int) = true
  | [], _ => by unfold PySem.W.alikeAll; rfl
  | _ :: _, [] => rfl
  | x :: xs, y :: ys => by
    show (PySem.W.alike (.int x) (.int y) && PySem.W.alikeAll (xs.map PyData.int) (ys.map PyData.int)) = true
    rw [alike_ints xs ys]; rfl
theorem alike_pr (b b' : Addr × (List Int × List Int)) : PySem.W.alike (encPr b) (encPr b') = true := by
  unfold encPr
  simp only [PySem.W.alike, PySem.W.alikeAll, alike_ints, Bool.and_self]
theorem readsAll_ints {h : Heap} : ∀ {k : List Int} {its : List Value}, Vals (k.map V.int) its → ReadsAll h its (k.map PyData.int) []
  | [], _, .nil => .nil
  | n :: k, _, .cons r t => by
    obtain ⟨tk, rfl⟩ := r
    exact ReadsAll.cons (as := []) (bs := []) (.int n tk) (readsAll_ints t)
section
variable {X : Cx} {pins : List (Addr × Obj)} {σ : St} {H : Hp} {s : Shared}
theorem Inv.readsT (I : Inv X pins σ H s) {b : Addr} {k : List Int} (h : SqT X.K H b (k.map V.int)) : Reads s.heap (.ref b) (.tuple (k.map PyData.int)) [] := by
  obtain ⟨its, r, ⟨o, ho, hc, n, hd⟩, _⟩ := I.tuple h
  exact .tuple ho hc hd (by simpa using readsAll_ints r)
theorem Inv.readsPr (I : Inv X pins σ H s) {b : Addr × (List Int × List Int)} {p q : Addr} (h : SqT X.K H b.1 [.ref p, .ref q]) (hp : SqT X.K H p (b.2.1.map V.int)) (hq : SqT X.K H q (b.2.2.map V.int)) : Reads s.heap (.ref b.1) (encPr b) [] := by
  obtain ⟨its, r, ⟨o, ho, hc, n, hd⟩, _⟩ := I.tuple h
  cases r with
  | cons r1 r2 =>
    cases r2 with
    | cons r2 r3 =>
      cases r3; cases r1; cases r2
      exact .tuple ho hc hd (ReadsAll.cons (as := []) (bs := []) (I.readsT hp) (ReadsAll.cons (as := []) (bs := []) (I.readsT hq) .nil))
end
end L2

namespace L2
open PySem PySem.Spec PyProof.Rows
theorem depth_ints : ∀ k : List Int, PyData.depthAll (k.map PyData.int) = 0
  | [] => rfl
  | n :: k => by show max 0 (PyData.depthAll (k.map PyData.int)) = 0; rw [depth_ints k]; rfl
theorem depth_pr (b : Addr × (List Int × List Int)) : (encPr b).depth = 2 := by
  show max (PyData.depthAll (b.2.1.map PyData.int) + 1) (max (PyData.depthAll (b.2.2.map PyData.int) + 1) 0) + 1 = 2
  rw [depth_ints, depth_ints]; rfl
theorem each_pr {bs : List (Addr × (List Int × List Int))} : ∀ {us : List Value}, Vals (bs.map fun b => V.ref b.1) us → PySem.W.EachIs (fun v b => v = Value.ref b.1) us bs := by
  induction bs with
  | nil => intro us h; cases h; exact .nil
  | cons b bs ih => intro us h; cases h with | cons r t => cases r; exact .cons rfl (ih t)
theorem vals_pr {bs : List (Addr × (List Int × List Int))} {us : List Value} (h : PySem.W.EachIs (fun v b => v = Value.ref b.1) us bs) : Vals (bs.map fun b => V.ref b.1) us := by
  induction h with
  | nil => exact .nil
  | cons r _ ih => subst r; exact .cons rfl ih
def rSortPr (K : PySem.W.Frag) : List V → Hp → VK → Prop := fun xs H Q => ∃ (a : Addr) (bs : List (Addr × (List Int × List Int))), xs = [V.ref a] ∧ SqL K H a (bs.map fun b => V.ref b.1) ∧ bs.length ≤ 4000 ∧
  (∀ b ∈ bs, ∃ p q, SqT K H b.1 [.ref p, .ref q] ∧ SqT K H p (b.2.1.map V.int) ∧ SqT K H q (b.2.2.map V.int)) ∧
  ∀ p, H p = none → Q (.ref p) (upd H p (.lst ((bs.mergeSort (PySem.W.dataLe false encPr)).map fun b => V.ref b.1)))
theorem each_mono {α β : Type} {R S : α → β → Prop} : ∀ {as : List α} {bs : List β}, PySem.W.EachIs R as bs → (∀ a b, b ∈ bs → R a b → S a b) → PySem.W.EachIs S as bs := by
  intro as bs h
  induction h with
  | nil => intro _; exact .nil
  | cons r _ ih => intro f; exact .cons (f _ _ (List.mem_cons_self ..) r) (ih fun a b m => f a b (List.mem_cons_of_mem _ m))
theorem cr_sortPr {X : Cx} (hu : X.A.units + 64 < cLine) : CallR X (.builtin "sorted") (rSortPr X.K) := by
  intro pins s σ H vs us Q I r h
  obtain ⟨a, bs, rfl, hl, hz, hb, q⟩ := h
  obtain ⟨its, rv, pl, _⟩ := I.list hl
  rw [Vals.ref1 r]
  have e := each_pr rv
  have h4 : bs.length ≤ sizeLine := Nat.le_trans hz (by decide)
  refine PySem.W.sorted_data (enc := encPr) pl.isList e (each_mono e fun v b m hv => ?_) (PySem.W.AllAlike.of alike_pr) (PySem.W.Sortable.tuples fun b => ⟨_, _, rfl⟩) h4 (fun b _ => by rw [depth_pr]; omega) fun out ho eo => ?_
  · subst hv
    obtain ⟨p, q', h1, h2, h3⟩ := hb b m
    exact ⟨[], I.readsPr h1 h2 h3⟩
  obtain ⟨ep, he'⟩ := PyProof.Rows.sortedAll_at s.heap its out.toArray
  have hlen : ((bs.mergeSort (PySem.W.dataLe false encPr)).map fun b => V.ref b.1).length ≤ sizeLine := by rw [List.length_map, List.length_mergeSort]; exact h4
  exact ⟨.ref _, upd H (s.heap.objs.size + 1) (.lst ((bs.mergeSort (PySem.W.dataLe false encPr)).map fun b => V.ref b.1)), I.laid (t' := s.toks) (fun _ _ => PyProof.Rows.sortedAll_old) (Nat.le_succ _) ⟨hlen, out, ep, vals_pr eo, by simpa using he'⟩, rfl, q _ (I.hok.fresh (Nat.le_succ _))⟩
end L2

/-! sorted(e), e a list of pairs of tuples of ints; by data -/
namespace DL
open PySem PySem.Spec L2
open PyProof.Rows hiding St
def prD : D → Option (List Int × List Int)
  | .tup [x, y] => match keyTD x, keyTD y with
    | some a, some b => some (a, b)
    | _, _ => none
  | _ => none
def prL : List D → Option (List (List Int × List Int))
  | [] => some []
  | d :: r => match prD d, prL r with
    | some k, some l => some (k :: l)
    | _, _ => none
def dPr (x : List Int × List Int) : D := .tup [.tup (x.1.map D.int), .tup (x.2.map D.int)]
theorem prD_rp {K : PySem.W.Frag} {H : Hp} {d : D} {v : V} {x : List Int × List Int} (e : prD d = some x) (h : Rp K H d v) : d = dPr x ∧ ∃ a, v = .ref a ∧ ∃ p q, SqT K H a [.ref p, .ref q] ∧ SqT K H p (x.1.map V.int) ∧ SqT K H q (x.2.map V.int) := by
  unfold prD at e
  split at e
  · rename_i dx dy
    split at e
    · rename_i a b e1 e2
      cases e
      obtain ⟨ad, vs, rfl, t, rs⟩ := h
      obtain ⟨v1, r1, rfl, k1, rs⟩ := rs
      obtain ⟨v2, r2, rfl, k2, rs⟩ := rs
      obtain ⟨p, rfl, rfl, tp⟩ := keyTD_rp e1 k1
      obtain ⟨q, rfl, rfl, tq⟩ := keyTD_rp e2 k2
      cases rs
      exact ⟨rfl, ad, rfl, p, q, t, tp, tq⟩
    · cases e
  · cases e
theorem prL_rps {K : PySem.W.Frag} {H : Hp} : ∀ {ds : List D} {kss : List (List Int × List Int)} {vs : List V}, prL ds = some kss → Rps K H ds vs → ∃ bs : List (Addr × (List Int × List Int)), vs = (bs.map fun b => V.ref b.1) ∧ bs.map (·.2) = kss ∧ (∀ b ∈ bs, ∃ p q, SqT K H b.1 [.ref p, .ref q] ∧ SqT K H p (b.2.1.map V.int) ∧ SqT K H q (b.2.2.map V.int)) ∧ ∀ b ∈ bs, Rp K H (dPr b.2) (.ref b.1)
  | [], kss, _, h, e => by cases h; exact ⟨[], e, rfl, fun b hb => (by cases hb), fun b hb => (by cases hb)⟩
  | d :: ds, kss, _, h, e => by
    unfold prL at h
    split at h
    · rename_i k l e1 e2
      cases h
      obtain ⟨v, r, rfl, h1, h2⟩ := e
      obtain ⟨bs, rfl, rfl, h3, h4⟩ := prL_rps e2 h2
      obtain ⟨rfl, a, rfl, t⟩ := prD_rp e1 h1
      refine ⟨(a, k) :: bs, rfl, rfl, fun b hb => ?_, fun b hb => ?_⟩
      · rcases List.mem_cons.mp hb with rfl | z
        · exact t
        · exact h3 b z
      · rcases List.mem_cons.mp hb with rfl | z
        · exact h1
        · exact h4 b z
    · cases h
theorem rps_pr {K : PySem.W.Frag} {H : Hp} : ∀ (bs : List (Addr × (List Int × List Int))), (∀ b ∈ bs, Rp K H (dPr b.2) (.ref b.1)) → Rps K H ((bs.map (·.2)).map dPr) (bs.map fun b => V.ref b.1)
  | [], _ => rfl
  | b :: bs, h => ⟨_, _, rfl, h b (List.mem_cons_self ..), rps_pr bs fun c hc => h c (List.mem_cons_of_mem _ hc)⟩
def encP2 (x : List Int × List Int) : PyData := encPr (0, x)
def srtPrI (o : Option (List (List Int × List Int))) (G : HD) (Q : Post) : Prop := match o with
  | some ns => ns.length ≤ 4000 ∧ ∀ ms : List (List Int × List Int), ms.Perm ns → ms.Pairwise (fun x y => PySem.W.dataLe false encP2 x y = true) → Q (.kl (ms.map dPr)) G
  | none => False
def srtPrO (o : Option (List D)) (G : HD) (Q : Post) : Prop := match o with
  | some ds => srtPrI (prL ds) G Q
  | none => False
def dSortPr (te : TD) : TD := fun W σ G Q => te W σ G fun d G1 => srtPrO (asL G1 d) G1 Q
theorem de_sortPr {X : Cx} {a : Expr} {te : TD} {p pos : Pos} (hu : X.A.units + 64 < cLine) (he : DE X a te) (hm : X.mg "sorted" = none) (hg : Gl X "sorted" := by rfl)
    (na : starEach [a] X.env = (false, eval a X.env) :: starEach [] X.env := by rfl) : DE X (.Call (.Name "sorted" p) [a] [] pos) (dSortPr te) :=
  ⟨fun G H σ τ W Q r0 q => semE.frz (semE.of (pe_callB (cr_sortPr hu) hg hm (by decide +kernel) (pa_cons peSem pa_nil na) (he := na)) (he.then r0 q fun d v G1 H1 r1 x1 k1 q1 => by
    unfold srtPrO at q1
    split at q1
    · rename_i xs ex
      unfold srtPrI at q1
      split at q1
      · rename_i ns en
        obtain ⟨h1, q2⟩ := q1
        obtain ⟨l, vs, rfl, t1, rr⟩ := k1.lst r1.sim ex
        obtain ⟨bs, rfl, rfl, h3, h4⟩ := prL_rps en rr
        have pm := List.mergeSort_perm bs (PySem.W.dataLe false encPr)
        refine ⟨l, bs, rfl, t1, by simpa using h1, h3, fun p hp => newV.fin (K := X.K) (G := G1) (Q := Q) (Q' := liftF X.K G H Q) (ds := ((bs.mergeSort (PySem.W.dataLe false encPr)).map (·.2)).map dPr) (vs := (bs.mergeSort (PySem.W.dataLe false encPr)).map fun b => V.ref b.1) r1.sim (rps_pr _ fun b hb => h4 b (pm.mem_iff.mp hb)) (fun _ _ z => z.up x1) (q2 _ (pm.map _) ?_) p hp⟩
        exact List.pairwise_map.mpr (PySem.W.sort_pairwise (le := PySem.W.dataLe false encPr) (PySem.W.sortLe_total _ _ _) bs)
      · exact q1.elim
    · exact q1.elim))⟩
section
variable {G : HD} {Q : Post} {W : DW} {σ : DSt} {te : TD} {xs : List D} {ns : List (List Int × List Int)}
theorem q_sortPr : dSortPr te W σ G Q = te W σ G fun d G1 => srtPrO (asL G1 d) G1 Q := propext ⟨fun h => h, fun h => h⟩
theorem r_srtPrO : srtPrO (some xs) G Q = srtPrI (prL xs) G Q := propext ⟨fun h => h, fun h => h⟩
theorem i_srtPr (h : ns.length ≤ 4000) (q : ∀ ms : List (List Int × List Int), ms.Perm ns → ms.Pairwise (fun x y => PySem.W.dataLe false encP2 x y = true) → Q (.kl (ms.map dPr)) G) : srtPrI (some ns) G Q := ⟨h, q⟩
end
end DL

namespace DL
open PySem PySem.Spec L2
open PyProof.Rows hiding St
/-- the order of pairs of tuples of ints -/
theorem dataLe_pr (x y : List Int × List Int) : PySem.W.dataLe false encP2 x y = !(if y.1 = x.1 then PySem.W.listLt y.2 x.2 else PySem.W.listLt y.1 x.1) := by
  show (!PySem.W.dataLt (encP2 y) (encP2 x)) = _
  have h := PySem.W.DatumOrd.lt_eq (α := PySem.W.Tup Int × PySem.W.Tup Int) (⟨y.1⟩, ⟨y.2⟩) (⟨x.1⟩, ⟨x.2⟩)
  have h2 : PySem.W.dataLt (encP2 y) (encP2 x) = if (⟨y.1⟩ : PySem.W.Tup Int) = ⟨x.1⟩ then PySem.W.listLt y.2 x.2 else PySem.W.listLt y.1 x.1 := h
  rw [h2]
  by_cases e : y.1 = x.1
  · rw [if_pos e, if_pos (by rw [e])]
  · rw [if_neg e, if_neg (fun z => e (by injection z))]
/-- what sorted tells where the first parts are unlike -/
theorem le_pr_fst {x y : List Int × List Int} (h : PySem.W.dataLe false encP2 x y = true) (n : x.1 ≠ y.1) : PySem.W.listLt y.1 x.1 = false := by
  rw [dataLe_pr, if_neg (Ne.symm n)] at h
  simpa using h
end DL

/-! sorted(xs, key=lambda a: a[j]), the keys tuples of ints -/
namespace LamY
open PySem PySem.Spec PyProof.Rows L2 LamX PyProof.Rows
def keyP (b : Addr × List Int) : PyData := .tuple (b.2.map .int)
end LamY

/-! sorted(xs, key=lambda a: a[j]), by data -/
namespace DL
open PySem PySem.Spec L2 LamX LamY
open PyProof.Rows hiding St
def srkP (o : Option (List D)) (j : Int) (G : HD) (Q : Post) : Prop := match o with
  | some es => match keysAt j es with
    | some ks => es.length ≤ 4000 ∧ (∀ k ∈ ks, k ≠ []) ∧ ∀ zs : List (D × List Int), zs.Perm (es.zip ks) → zs.Pairwise (fun x y => PySem.W.listLt y.2 x.2 = false) → Q (.kl (zs.map (·.1))) G
    | none => False
  | none => False
def dSortKey (P : Addr) (q : Str) (j : Int) (te : TD) : TD := fun W σ G Q => te W σ G fun d G1 => G1 P = some (.tab q) ∧ srkP (asL G1 d) j G1 Q
end DL

/-! simp lemmas of the readings of LQ.. LZE -/
namespace DL
open PySem PySem.Spec L2 LamX LamY
open PyProof.Rows hiding St
section
variable {W : DW} {σ : DSt} {G : HD} {Q : Post} {te : TD} {P : Addr} {q : Str} {j : Int} {xs : List D} {ks : List (List Int)}
theorem q_sortKey : dSortKey P q j te W σ G Q = te W σ G fun d G1 => G1 P = some (.tab q) ∧ srkP (asL G1 d) j G1 Q := propext ⟨fun h => h, fun h => h⟩
theorem q_maxKey : dMaxKey P q j te W σ G Q = te W σ G fun d G1 => G1 P = some (.tab q) ∧ mxkP (asL G1 d) j G1 Q := propext ⟨fun h => h, fun h => h⟩
theorem i_maxKey {d : D} (hk : keysAt j xs = some ks) (h : 0 < xs.length) (hd : xs[argBest (btK ks) (xs.length - 1)]? = some d) (hq : Q d G) : mxkP (some xs) j G Q := by
  unfold mxkP
  dsimp only
  rw [hk]
  refine ⟨h, ?_⟩
  rw [hd]
  exact hq
/-- unlike all: len of the set is len of the list -/
theorem unl_eq_len {α : Type} [DecidableEq α] {l : List α} (h : l.Nodup) : (unl l).length = l.length := (nodup_len h fun _ => Iff.rfl).symm
theorem unl_lt {α : Type} [DecidableEq α] : ∀ (n : Nat) (l : List α), l.length = n → (unl l).length = l.length → l.Nodup
  | 0, l, hn, _ => by rw [List.eq_nil_of_length_eq_zero hn]; exact List.nodup_nil
  | n + 1, l, hn, h => by
    obtain ⟨ks, k, rfl⟩ : ∃ ks k, l = ks ++ [k] := ⟨l.dropLast, l.getLast (by rintro rfl; simp at hn), (List.dropLast_concat_getLast _).symm⟩
    have hu := unl_len ks
    rw [unl_snoc] at h
    have hl : ks.length = n := by simpa using hn
    unfold addE at h
    rw [List.length_append, List.length_singleton] at h
    split at h
    · omega
    · rename_i hk
      rw [List.length_append, List.length_singleton] at h
      have nd := unl_lt n ks hl (by omega)
      rw [List.nodup_append]
      refine ⟨nd, by simp, fun a ha b hb e => ?_⟩
      rw [List.mem_singleton] at hb
      subst e; subst hb
      exact hk (hasE_iff.mpr (unl_mem.mpr ha))
end
end DL

namespace DL
open PySem PySem.Spec L2
open PyProof.Rows hiding St
/-! ### dicts of the module, keys texts: d[k], k in d -/
/-- a value of such a dict: a scalar, a tuple of them, a def -/
inductive VaF (K : PySem.W.Frag) : Value → D → Prop where
  | val {u : Value} {d : D} (h : ValF K u d) : VaF K u d
  | fn {f : Addr} : VaF K (.ref f) (.ref f)
theorem VaF.to {K : PySem.W.Frag} {u : Value} {d : D} (h : VaF K u d) : ∃ v, RelV v u ∧ ∀ H, Rp K H d v := by
  cases h with
  | val h => exact h.to
  | fn => exact ⟨.ref _, rfl, fun _ => rfl⟩
inductive EnsF (K : PySem.W.Frag) (P : Params) : List DictEntry → List (Str × D) → Prop where
  | nil : EnsF K P [] []
  | cons {x : Str} {t : Tok} {h : Int} {u : Value} {d : D} {es : List DictEntry} {kvs : List (Str × D)} (hh : h = PyData.keyHash P x) (hv : VaF K u d) (r : EnsF K P es kvs) : EnsF K P (⟨h, .str x t, u⟩ :: es) ((x, d) :: kvs)
structure DicF (K : PySem.W.Frag) (P : Params) (o : Obj) (kvs : List (Str × D)) : Prop where
  ex : ∃ es n, o = ⟨.type "dict", none, .dict es n, #[]⟩ ∧ EnsF K P es.toList kvs
/-- the dict that the name x of the module holds -/
structure KDic (K : PySem.W.Frag) (mg : Str → Option Value) (w : World) (x : Str) (kvs : List (Str × D)) : Prop where
  ex : ∃ a es n, mg x = some (.ref a) ∧ KDict K w a es n ∧ EnsF K w.params es.toList kvs
theorem EnsF.lit {K : PySem.W.Frag} {P : Params} {es : List DictEntry} {kvs : List (Str × D)} (h : EnsF K P es kvs) : PySem.W.KeysLit P es := by
  induction h with
  | nil => exact trivial
  | cons hh _ _ ih => exact ⟨⟨_, _, rfl, hh⟩, ih⟩
theorem DicF.kd {K : PySem.W.Frag} {mg : Str → Option Value} {w : World} {x : Str} {a : Addr} {o : Obj} {kvs : List (Str × D)} (h : DicF K w.params o kvs) (m : mg x = some (.ref a)) (l : K.lookup a = some o) (lo : (a == sysModules) = false) : KDic K mg w x kvs := by
  obtain ⟨es, n, rfl, q⟩ := h.ex
  exact ⟨a, es, n, m, ⟨l, q.lit, lo⟩, q⟩
theorem EnsF.find {K : PySem.W.Frag} {P : Params} {es : List DictEntry} {kvs : List (Str × D)} (h : EnsF K P es kvs) (z : Str) : (∃ e d, es.find? (·.key.isStr z) = some e ∧ kvs.lookup z = some d ∧ VaF K e.val d) ∨ (es.find? (·.key.isStr z) = none ∧ kvs.lookup z = none ∧ es.any (·.refKey) = false) := by
  induction h with
  | nil => exact .inr ⟨rfl, rfl, rfl⟩
  | @cons x t h u d es kvs hh hv r ih =>
    by_cases e : x = z
    · subst e
      refine .inl ⟨⟨h, .str x t, u⟩, d, ?_, ?_, hv⟩
      · rw [List.find?_cons_of_pos (by show (x == x) = true; simp)]
      · rw [List.lookup_cons, beq_self_eq_true]
    · have e1 : (x == z) = false := beq_eq_false_iff_ne.mpr e
      have e2 : (z == x) = false := beq_eq_false_iff_ne.mpr (Ne.symm e)
      have f1 : (⟨h, .str x t, u⟩ :: es : List DictEntry).find? (·.key.isStr z) = es.find? (·.key.isStr z) := List.find?_cons_of_neg (by show ¬ (x == z) = true; rw [e1]; simp)
      have f2 : List.lookup z ((x, d) :: kvs) = kvs.lookup z := by rw [List.lookup_cons, e2]
      rw [f1, f2]
      rcases ih with ⟨e, d, a, b, c⟩ | ⟨a, b, c⟩
      · exact .inl ⟨e, d, a, b, c⟩
      · exact .inr ⟨a, b, by rw [List.any_cons, c]; rfl⟩
theorem EnsF.ns {K : PySem.W.Frag} {w : World} {a : Addr} {es : Array DictEntry} {n : Nat} {kvs : List (Str × D)} (h : EnsF K w.params es.toList kvs) (k : KDict K w a es n) (z : Str) :
    (∃ u d, PySem.W.nsIn K a z = some (some u) ∧ kvs.lookup z = some d ∧ VaF K u d) ∨ (PySem.W.nsIn K a z = some none ∧ kvs.lookup z = none) := by
  unfold PySem.W.nsIn
  rw [k.at_]
  rcases h.find z with ⟨e, d, q1, q2, q3⟩ | ⟨q1, q2, q3⟩
  · refine .inl ⟨e.val, d, ?_, q2, q3⟩
    simp only [q1]
  · refine .inr ⟨?_, q2⟩
    simp only [q1, q3]
    rfl
def kgP (kvs : List (Str × D)) (d : D) (G : HD) (Q : Post) : Prop := match d with
  | .str z => optP (kvs.lookup z) G Q
  | _ => False
def dKGet (kvs : List (Str × D)) (t : TD) : TD := fun W σ G Q => t W σ G fun d G1 => kgP kvs d G1 Q
def kiP (neg : Bool) (kvs : List (Str × D)) (d : D) (G : HD) (Q : Post) : Prop := match d with
  | .str z => Q (.bl (if neg then !(kvs.lookup z).isSome else (kvs.lookup z).isSome)) G
  | _ => False
def dKIn (neg : Bool) (kvs : List (Str × D)) (t : TD) : TD := fun W σ G Q => t W σ G fun d G1 => kiP neg kvs d G1 Q
section
variable {X : Cx} {x : Str} {kvs : List (Str × D)} {b : Expr} {tb : TD} {p pos : Pos}
theorem de_kget (D : KDic X.K X.mg X.w x kvs) (hb : DE X b tb) (hg : Gl X x := by rfl) (hd : (x == ("__debug__" : Str)) = false := by decide) (hs : PlainIx b := by intro _ _; rfl) : DE X (.Subscript (.Name x p) b pos) (dKGet kvs tb) := by
  obtain ⟨a, es, n, hm, kd, en⟩ := D.ex
  refine ⟨fun G H σ τ W Q r q => ?_⟩
  have g : DE X (.Name x p) (dC (.ref a)) := de_glob (d := .ref a) (v := .ref a) hg hm rfl (fun _ => rfl) hd
  refine semE.of (pe_ix ix_kdict peSem peSem hs) (g.then r (R := fun d G1 => d = .ref a ∧ tb W σ G1 fun d G2 => kgP kvs d G2 Q) ⟨rfl, q⟩ fun d v G1 H1 r1 x1 k1 ⟨ed, q1⟩ => hb.then r1 q1 fun d2 y G2 H2 r2 x2 k2 q2 => ?_)
  subst ed
  cases k1
  unfold kgP at q2
  split at q2
  · rename_i z
    cases k2
    rcases en.ns kd z with ⟨u, d, e1, e2, e3⟩ | ⟨e1, e2⟩
    · rw [e2] at q2
      obtain ⟨v, rv, rp⟩ := e3.to
      exact ⟨a, z, v, rfl, rfl, ⟨es, n, u, kd.at_, kd.lit, e1, rv⟩, .of (rp _) r2.sim (x1.trans x2) q2⟩
    · rw [e2] at q2
      exact (show False from q2).elim
  · exact q2.elim
theorem dt_knin (D : KDic X.K X.mg X.w x kvs) (hb : DE X b tb) (hg : Gl X x := by rfl) (hd : (x == ("__debug__" : Str)) = false := by decide) (hm : behindInMarks .NotIn (.Name x p) = false := by rfl) : DT X (.Compare b [.NotIn] [.Name x p] pos) (dTest (dKIn true kvs tb)) := by
  obtain ⟨a, es, n, hmg, kd, en⟩ := D.ex
  refine ⟨fun G H σ τ W Q r q => ?_⟩
  have g : DE X (.Name x p) (dC (.ref a)) := de_glob (d := .ref a) (v := .ref a) hg hmg rfl (fun _ => rfl) hd
  refine semT.of (pt_cmpR (op_notIn_kd kd) peSem peSem hm) (hb.then r q fun d2 y G2 H2 r2 x2 k2 q2 => g.then r2 (R := fun d G1 => d = .ref a ∧ kiP true kvs d2 G1 fun z G' => match z with | .bl k => Q k G' | _ => False) ⟨rfl, q2⟩ fun d v G1 H1 r1 x1 k1 ⟨ed, q1⟩ => ?_)
  subst ed
  cases k1
  unfold kiP at q1
  split at q1
  · rename_i z _
    cases k2
    rcases en.ns kd z with ⟨u, d, e1, e2, e3⟩ | ⟨e1, e2⟩
    · rw [e2] at q1
      exact ⟨z, _, rfl, rfl, e1, _, rfl, G1, r1.sim, x2.trans x1, q1⟩
    · rw [e2] at q1
      exact ⟨z, _, rfl, rfl, e1, _, rfl, G1, r1.sim, x2.trans x1, q1⟩
  · exact q1.elim
end
/-! ### a call of a local name that holds one of several defs -/
structure FnA (X : Cx) (k : Nat) (f : Addr) (sp : SpD) : Prop where
  ex : ∃ (j : Nat) (fd : FuncData) (ps : List Str), j ≤ k ∧ FnK X.prog X.w X.K X.mg X.base j f fd ps sp ∧ PySem.W.keepIn X.K (.ref f) = true ∧ Binds X.K fd ps [] ∧ ∀ ds G E Q, sp ds G E Q → ds.length = ps.length
theorem FnA.of {X : Cx} {j k : Nat} {f : Addr} {sp : SpD} {x : Str} (h : DefK X.prog X.w X.K X.mg X.base j x sp []) (hm : X.mg x = some (.ref f)) (hj : j ≤ k) : FnA X k f sp := by
  obtain ⟨f', fd, ps, dvs, ds, h1, h2, h3, h4, h5, h6, h7⟩ := h.ex
  rw [hm] at h2
  cases h2
  obtain rfl : dvs = [] := h6.rel (fun _ => none)
  cases h5
  exact ⟨j, fd, ps, hj, h1, h3, h4, h7⟩
def clP (tab : List (Addr × SpD)) (W : DW) (σ : DSt) (f : D) (ts : TDA) (G : HD) (Q : Post) : Prop := ∃ q ∈ tab, f = .ref q.1 ∧ ts W σ G fun ds G2 => q.2 ds G2 Q fun c fs G' => W c fs σ G'
def dCallL (tab : List (Addr × SpD)) (i : Nat) (ts : TDA) : TD := fun W σ G Q => dVar i W σ G fun f G1 => clP tab W σ f ts G1 Q
theorem de_callL {X : Cx} {tab : List (Addr × SpD)} {k i : Nat} {x : Str} {p pos : Pos} {e : Expr} {es : List Expr} {ts : TDA} (ht : ∀ q ∈ tab, FnA X k q.1 q.2) (hr : RoomG k X.A) (ha : DA X (e :: es) ts) (hN : X.N[i]? = some x := by rfl) (hv : Vis X.env.scope x := by first | exact Or.inl rfl | exact Or.inr (Or.inl rfl) | exact Or.inr (Or.inr rfl))
    (hdb : (x == ("__debug__" : Str)) = false := by decide) (hcd : (x == ("__classdict__" : Str)) = false := by decide)
    (he : starEach (e :: es) X.env = (false, eval e X.env) :: starEach es X.env := by rfl) (hpl : (backTo pos (starEach es X.env)).any (·.1) = false := by rfl) :
    DE X (.Call (.Name x p) (e :: es) [] pos) (dCallL tab i ts) := ⟨fun G H σ τ W Q r q pins s I => by
  have d0 : DE X (.Name x p) (dVar i) := de_var (pe_var hN hv hdb hcd)
  refine wpAny_Call_Name_kw (thn ((d0.run G H σ τ W _ r q) pins s I) fun u s1 ⟨y, H1, I1, rx, d, G1, k1, sm1, x1, q1⟩ => ?_)
  obtain ⟨⟨f, sp⟩, hmem, ed, q1⟩ := q1
  subst ed
  cases k1
  cases rx
  obtain ⟨j, fd, ps, hj, F, hk, hb, hl⟩ := (ht _ hmem).ex
  have r1 := r.ext sm1 x1
  refine PySem.W.callWith_K (h₀ := X.base) I.ok.mod.kin hk (thn ((ha.run G1 H1 σ τ W _ r1 q1) pos pins s1 I1) fun us s2 ⟨vs, H2, I2, rv, es', G2, k2, sm2, x2, q2⟩ => ⟨I2.kIn, ?_⟩) he hpl
  exact thn (runC F (hr.mono hj) hb .nil Dfl.nil (r1.ext sm2 x2) I2 rv k2 (by have := hl _ _ _ _ q2; simpa using this) (by rw [List.append_nil]; exact q2)) fun _ _ ⟨v, H3, I3, l3, q3⟩ => ⟨v, H3, I3, l3, q3.up (x1.trans x2)⟩⟩
section
variable {W : DW} {σ : DSt} {G : HD} {Q : Post} {kvs : List (Str × D)} {t : TD} {neg : Bool} {z : Str}
theorem q_kget : dKGet kvs t W σ G Q = t W σ G fun d G1 => kgP kvs d G1 Q := propext ⟨fun h => h, fun h => h⟩
theorem q_kin : dKIn neg kvs t W σ G Q = t W σ G fun d G1 => kiP neg kvs d G1 Q := propext ⟨fun h => h, fun h => h⟩
theorem q_callL {tab : List (Addr × SpD)} {i : Nat} {ts : TDA} : dCallL tab i ts W σ G Q = dVar i W σ G fun f G1 => clP tab W σ f ts G1 Q := propext ⟨fun h => h, fun h => h⟩
theorem r_kgS : kgP kvs (.str z) G Q = optP (kvs.lookup z) G Q := propext ⟨fun h => h, fun h => h⟩
theorem r_kiS : kiP neg kvs (.str z) G Q = Q (.bl (if neg then !(kvs.lookup z).isSome else (kvs.lookup z).isSome)) G := propext ⟨fun h => h, fun h => h⟩
end
end DL

namespace DL
open PySem PySem.Spec L2 LamX LamY
open PyProof.Rows hiding St
section
variable {P : Program} {w : World} {K : PySem.W.Frag} {mg : Str → Option Value} {base : Heap} {k : Nat} {f : Addr} {fd : FuncData} {ps : List Str} {sp sp' : Sp}
theorem fnG_ofT {c : Addr} (hc : fd.code = .ref c) {N : List Str} {x qual : Str} {pa : Arguments} {bd : List Stmt} {sc : Scope} {dvs : List V} {kws : List (Str × V)} (F : L2.FunD K x qual pa bd sc dvs kws f fd) (S : FnScope N ps sc) (len : ∀ vs H Q E, sp vs H Q E → vs.length = ps.length)
    (hb : ∀ (A : Around) (outer : List Env) (s : Shared) (H : Hp) (vs : List V) (Q : VK) (E : XK), RoomG k (A.deeper (envOfC qual sc s.heap.objs.size f (.ref c))) → sp vs H Q E →
      ∃ t, PSs (cxOf (L2.CX P w) P w K mg base N qual sc f (.ref c) A outer s H E) bd t ∧ t { nx := fun _ H' => Q .non H', rt := Q } (L2.start N vs) H) : FnG P w K mg base (k + 1) f fd ps sp := by
  obtain ⟨oc, od, dV, kV, doc, pm, an, cdv, ct, osl, rfl, lk, hcd, hD, hK⟩ := F.ex
  obtain rfl : cdv = .ref c := hc
  refine ⟨len, ?_⟩
  intro A outer s H args us vs Q E room e0 bind rv hsp
  have stay : ∀ b o, base.get? b = some o → s.heap.get? b = some o := fun b o e => (e0.bs b o e).1
  have kin := e0.mod.kin.keeps stay
  have par : ∀ z ∈ ps.zip us, sc.names.lookup z.1 = some .local ∨ (sc.names.lookup z.1 = some .cell ∧ ((cellsFrom (s.heap.objs.size + 1) sc.names []).lookup z.1).isSome = true) := by
    intro z hz
    exact (S.par z.1 (List.of_mem_zip (a := z.1) (b := z.2) hz).1).imp id fun q => ⟨q, PySem.W.cellsFrom_some _ _ _ (.inl q)⟩
  refine codeAny_call_function room.toRoom.depth (kin _ _ lk) rfl S.co S.gen rfl (PySem.W.codeRec_of kin hcd) (bind _ _ _ _ (wpAny_newFunctionEnv_cells S.kind par fun env ee s1 fresh => ?_))
  subst ee
  obtain ⟨t, pt, q⟩ := hb A outer s H vs Q E (room.deeper _) hsp
  have inv := inv_start (CX := L2.CX P w) (E := E) (N := N) S room.hd e0 (len _ _ _ _ hsp) rv fresh
  refine ⟨(e0.mod.nolimit.keeps stay).keeps fresh.toInCall.keep, codeAny_func (wpAny_mono (pt.run [] s1 (L2.start N vs) H _ inv q) (fun fl s2 h => ?_) fun _ _ z => z)⟩
  match fl, h with
  | .ret u, ⟨v, _, H2, J, r2, q2⟩ => exact ⟨v, H2, J.os, J.bare, J.base, J.hok, r2, q2⟩
  | .next, ⟨_, H2, J, q2⟩ => exact ⟨V.non, H2, J.os, J.bare, J.base, J.hok, rfl, q2⟩
  | .brk, ⟨_, _, _, z⟩ => exact z.elim
  | .cont, ⟨_, _, _, z⟩ => exact z.elim
end
section
variable {P : Program} {w : World} {K : PySem.W.Frag} {mg : Str → Option Value} {base : Heap} {x qual : Str} {params : Arguments} {body : List Stmt} {scope : Scope} {dvs : List V} {kws : List (Str × V)} {f : Addr} {fd : FuncData}
theorem fndT {c : Addr} (hc : fd.code = .ref c) {N ps : List Str} {k n m : Nat} {t : TDS} (F : L2.FunD K x qual params body scope dvs kws f fd) (S : FnScope N ps scope) (hn : ps.length = n) (hm : N.length - n = m)
    (hb : ∀ (A : Around) (outer : List Env) (s : Shared) (H : Hp) (E : XK), RoomG k (A.deeper (envOfC qual scope s.heap.objs.size f (.ref c))) → DSs (cxOf (L2.CX P w) P w K mg base N qual scope f (.ref c) A outer s H E) body t) : FnK P w K mg base (k + 1) f fd ps (wpf n m t) := by
  subst hn hm
  refine fnG_ofT hc F S (fun vs H Q E h => h.1) fun A outer s H vs Q E hr h => ?_
  obtain ⟨hl, ds, G, Qd, Ed, rr, sm, ⟨hl2, q⟩, z1, z2⟩ := h
  refine ⟨semSs _ body, pssSem, ?_⟩
  have tk : Takes (cxOf (L2.CX P w) P w K mg base N qual scope f (.ref c) A outer s H E) (fun c d _ H' => E c d H') := takes_of rfl rfl rfl rfl
  have st : RpS K H (ds.map some ++ List.replicate (N.length - ps.length) none) (L2.start N vs) := by
    unfold L2.start
    rw [hl]
    exact RpS.start _ rr
  refine ((hb A outer s H E hr).run G H _ _ _ _ ⟨sm, st, tk.imp fun c dd τ H' hw => ?_⟩ q).imp ⟨fun τ' H' hh => ?_, fun v H' hh => ?_, fun _ _ hh => ?_, fun _ _ hh => ?_⟩
  · obtain ⟨σ', fs, G', k1, xf, s1, x1, G0, l0, q0⟩ := hw
    exact z2 c dd H' ⟨fs, G0, xf, s1.le l0, x1.le l0, q0⟩
  · obtain ⟨σ', G', k1, s1, x1, G0, l0, q0⟩ := hh
    exact z1 _ _ ⟨.non, G0, rfl, s1.le l0, x1.le l0, q0⟩
  · obtain ⟨d, G', k1, s1, x1, G0, l0, q0⟩ := hh
    exact z1 _ _ ⟨d, G0, k1, s1.le l0, x1.le l0, q0⟩
  · obtain ⟨_, _, _, _, _, q0⟩ := hh
    exact q0.elim
  · obtain ⟨_, _, _, _, _, q0⟩ := hh
    exact q0.elim
end
/-! ### lambdas, bundled -/
theorem _root_.LamY.Lam1.mk2 {scope : Scope} {a y : Str} (hk : scope.kind = .function) (hc : scope.isCoroutine = false) (hg : scope.isGenerator = false) (h : scope.names = [(a, .local), (y, .free)]) (n : a ≠ y) : Lam1 scope a y := by
  refine ⟨hk, hc, hg, ?_, ?_, ?_, ?_⟩
  · rw [h]; intro z hz
    rcases List.mem_cons.mp hz with rfl | hz
    · simp
    · rcases List.mem_cons.mp hz with rfl | hz
      · simp
      · cases hz
  · rw [h, List.lookup_cons, beq_self_eq_true]
  · intro x e
    rw [h, List.lookup_cons] at e
    split at e
    · rename_i q; simpa using q
    · rw [List.lookup_cons] at e
      split at e
      · cases e
      · cases e
  · intro x e
    rw [h, List.lookup_cons] at e
    split at e
    · cases e
    · rw [List.lookup_cons] at e
      split at e
      · rename_i q; simpa using q
      · cases e
theorem _root_.LamY.Lam0.mk1 {scope : Scope} {a : Str} (hk : scope.kind = .function) (hc : scope.isCoroutine = false) (hg : scope.isGenerator = false) (h : scope.names = [(a, .local)]) : Lam0 scope a := by
  refine ⟨hk, hc, hg, ?_, ?_⟩
  · rw [h]; intro z hz
    rcases List.mem_cons.mp hz with rfl | hz
    · simp
    · cases hz
  · rw [h, List.lookup_cons, beq_self_eq_true]
/-- what a lambda of one parameter does, that reads one name of its maker's -/
structure LamOk (q : Str) (params : Arguments) (body : Expr) (scope : Scope) (a y : Str) (tb : TD) : Prop where
  L : Lam1 scope a y
  ne : a ≠ y
  hyn : scope.names.lookup y = some .free
  bind : ∀ (cl : List (Str × Addr)) (pm cv ctv u : Value), bindArgs (PySem.W.kla_fn "<lambda>" q params body scope cl pm cv ctv) ⟨[u], []⟩ = pure [(a, u)]
  run : ∀ (X : Cx) (A : Around) (outer : List Env) (s : Shared) (H : Hp) (E : XK) (f c cl : Addr), RoomG 1 (A.deeper (lamEnv1 q scope s.heap.objs.size f c [(y, cl)])) → DE (lamCx1 X A outer s H E q scope f c [(y, cl)] [a, y]) body tb
  one : ∀ z ∈ scope.names, z.2 = .free → z.1 = y
  clo : ∀ (cells : List (Str × Addr)) (cl : Addr), cells.lookup y = some cl → cloFrom cells scope.names [] = [(y, cl)]
theorem LamOk.mk2 {q : Str} {params : Arguments} {body : Expr} {scope : Scope} {a y : Str} {tb : TD} (n : a ≠ y)
    (h : scope.names = [(a, .local), (y, .free)]) (bind : ∀ (cl : List (Str × Addr)) (pm cv ctv u : Value), bindArgs (PySem.W.kla_fn "<lambda>" q params body scope cl pm cv ctv) ⟨[u], []⟩ = pure [(a, u)])
    (run : ∀ (X : Cx) (A : Around) (outer : List Env) (s : Shared) (H : Hp) (E : XK) (f c cl : Addr), RoomG 1 (A.deeper (lamEnv1 q scope s.heap.objs.size f c [(y, cl)])) → DE (lamCx1 X A outer s H E q scope f c [(y, cl)] [a, y]) body tb)
    (hk : scope.kind = .function) (hc : scope.isCoroutine = false) (hg : scope.isGenerator = false) : LamOk q params body scope a y tb := by
  refine ⟨.mk2 hk hc hg h n, n, ?_, bind, run, ?_, ?_⟩
  · rw [h, List.lookup_cons]
    have : (y == a) = false := beq_eq_false_iff_ne.mpr (Ne.symm n)
    rw [this, List.lookup_cons, beq_self_eq_true]
  · rw [h]; intro z hz e
    rcases List.mem_cons.mp hz with rfl | hz
    · cases e
    · rcases List.mem_cons.mp hz with rfl | hz
      · rfl
      · cases hz
  · intro cells cl e
    rw [h]
    show (if (NameKind.local == NameKind.free) = true then _ else _) = _
    rw [if_neg (by decide)]
    show (if (NameKind.free == NameKind.free) = true then _ else _) = _
    rw [if_pos (by decide), e]
    rfl
/-- a def to which such a lambda is handed as the third thing -/
structure DefKL (P : Program) (w : World) (K : PySem.W.Frag) (mg : Str → Option Value) (base : Heap) (k : Nat) (x q : Str) (params : Arguments) (body : Expr) (scope : Scope) (y : Str) (sp : LamV → SpD) : Prop where
  ex : ∃ (g : Addr) (fd : FuncData) (ps : List Str), mg x = some (.ref g) ∧ PySem.W.keepIn K (.ref g) = true ∧ Binds K fd ps [] ∧ ps.length = 3 ∧
    ∀ (base' : Heap) (v : LamV), v.q = q → LamB base' v params body scope y → K.In base' → base'.Ns mainGlobals mg → (∀ b o, base.get? b = some o → base'.get? b = some o) → FnK P w K mg base' k g fd ps (sp v)
  lo : ∃ a tb, LamOk q params body scope a y tb
theorem dk_callLam {X : Cx} {P c : Addr} {q : Str} {j k kk : Nat} {sp : LamV → SpD} {t1 t2 : TD} {x y : Str} {e1 e2 body : Expr} {params : Arguments} {scope : Scope} {lpos p pos : Pos}
    (D : DefKL X.prog X.w X.K X.mg X.base k x q params body scope y sp) (hr : RoomG kk X.A) (TB : TabB X.base X.mg c P) (h1 : DE X e1 t1) (h2 : DE X e2 t2) (hq : q = X.env.qual ++ "<lambda>" := by rfl)
    (hkk : k ≤ kk := by decide) (hcode : X.env.code = .ref c := by rfl) (hdef : defaultsOf params X.env = ([], []) := by rfl) (hy : X.env.scope.names.lookup y = some .cell := by rfl) (hfn : X.fn y = true := by rfl) (hN : X.N[j]? = some y := by rfl)
    (hg : Gl X x := by rfl) (hdb : (x == ("__debug__" : Str)) = false := by decide)
    (he1 : starEach [e1, e2, .Lambda params body scope lpos] X.env = (false, eval e1 X.env) :: starEach [e2, .Lambda params body scope lpos] X.env := by rfl) (he2 : starEach [e2, .Lambda params body scope lpos] X.env = (false, eval e2 X.env) :: starEach [.Lambda params body scope lpos] X.env := by rfl) :
    DE X (.Call (.Name x p) [e1, e2, .Lambda params body scope lpos] [] pos) (dCallLam P q j sp t1 t2) := by
  obtain ⟨g, fd, ps, hm, hk, hb, hl, hF⟩ := D.ex
  obtain ⟨a, tb, LO⟩ := D.lo
  exact de_callLam hq hF hl (hr.mono hkk) hm hk hb TB hcode hdef hy hfn LO.one (fun cl e => LO.clo _ _ e) h1 h2 hN hg hdb he1 he2
theorem dk_act {X : Cx} {k i : Nat} {q : Str} {v : LamV} {params : Arguments} {body : Expr} {scope : Scope} {a y x : Str} {e : Expr} {ts : TDA} {tb : TD} {p pos : Pos} (hq : v.q = q) (hB : LamB X.base v params body scope y) (LO : LamOk q params body scope a y tb) (hr : RoomG k X.A)
    (ha : DA X [e] ts) (hk : 2 ≤ k := by decide) (hN : X.N[i]? = some x := by rfl) (hv : Vis X.env.scope x := by first | exact Or.inl rfl | exact Or.inr (Or.inl rfl) | exact Or.inr (Or.inr rfl))
    (hdb : (x == ("__debug__" : Str)) = false := by decide) (hcd : (x == ("__classdict__" : Str)) = false := by decide)
    (he : starEach [e] X.env = (false, eval e X.env) :: starEach [] X.env := by rfl) (hpl : (backTo pos (starEach [] X.env)).any (·.1) = false := by rfl) :
    DE X (.Call (.Name x p) [e] [] pos) (dAct v tb i ts) := by
  subst hq
  exact de_act hB LO.L LO.ne LO.hyn LO.bind (hr.mono hk) (fun A outer s H E cl r => LO.run X A outer s H E v.f v.c cl r) ha hN hv hdb hcd he hpl
theorem dk_maxLam {X : Cx} {P c : Addr} {q a : Str} {j : Int} {k kk : Nat} {te : TD} {e : Expr} {params : Arguments} {scope : Scope} {p p1 p2 p3 lpos kpos pos : Pos}
    (hr : RoomG kk X.A) (TB : TabB X.base X.mg c P) (hn : scope.names = [(a, .local)]) (ha : DE X e te) (hm : X.mg "max" = none)
    (hbind : ∀ (q : Str) (pm cv ctv u : Value), bindArgs (PySem.W.kla_fn "<lambda>" q params (.Subscript (.Name a p1) (.Constant (.int j) k p2) p3) scope [] pm cv ctv) ⟨[u], []⟩ = pure [(a, u)])
    (hq : q = X.env.qual ++ "<lambda>" := by rfl) (hkk : 2 ≤ kk := by decide) (hcode : X.env.code = .ref c := by rfl) (hdef : defaultsOf params X.env = ([], []) := by rfl)
    (h0 : -(2 ^ 63) ≤ j := by decide) (h1 : j < 2 ^ 63 := by decide) (hdb : (a == ("__debug__" : Str)) = false := by decide)
    (s1 : scope.kind = .function := by rfl) (s2 : scope.isCoroutine = false := by rfl) (s3 : scope.isGenerator = false := by rfl)
    (hg : Gl X "max" := by rfl) (hs : starEach [e] X.env = (false, eval e X.env) :: starEach [] X.env := by rfl) :
    DE X (.Call (.Name "max" p) [e] [⟨some "key", .Lambda params (.Subscript (.Name a p1) (.Constant (.int j) k p2) p3) scope lpos, kpos⟩] pos) (dMaxKey P q j te) :=
  de_maxLam hq (hr.mono hkk) TB hcode hdef (by rw [hn]; intro z hz; rcases List.mem_cons.mp hz with rfl | hz; (· simp); cases hz) (by rw [hn]; rfl) (.mk1 s1 s2 s3 hn) hbind h0 h1 hdb ha hm hg hs
theorem _root_.LamX.TabB.up {base base' : Heap} {mg : Str → Option Value} {c P : Addr} (h : TabB base mg c P) (k : ∀ b o, base.get? b = some o → base'.get? b = some o) : TabB base' mg c P := ⟨h.code.keeps k, h.bm.keeps k, h.gP⟩
/-! ### the law's start -/
/-- the heap of the law's start: the tables, nothing else -/
def tabG (l : List (Addr × Str)) : HD := fun b => (l.lookup b).map MO.tab
def OnlyT (l : List (Addr × Str)) (H : Hp) : Prop := (∀ p ∈ l, H p.1 = some (.tbl #[])) ∧ ∀ b, H b = none ∨ b ∈ l.map (·.1) ∨ ∃ o xs, H b = some (.frz o (.lst xs))
def lawSpT (K : PySem.W.Frag) (l : List (Addr × Str)) : Sp := fun vs H Q _ => ∃ (a : Addr) (ns : List Int), vs = [.ref a] ∧ ns.length ≤ 63 ∧ OnlyT l H ∧ SqL K H a (ns.map V.int) ∧ ∀ H', Q (.bl true) H'
def qlam (x : Str) : Str := x ++ ".<locals>." ++ "<lambda>"
theorem onlyT_of {H : Hp} {ts : List (Str × Addr × Addr)} (h1 : ∀ t ∈ ts, H t.2.2 = some (.tbl #[])) (h2 : ∀ b, H b = none ∨ b ∈ ts.map (·.2.2) ∨ ∃ o xs, H b = some (.frz o (.lst xs))) : OnlyT (ts.map fun t => (t.2.2, qlam t.1)) H :=
  ⟨fun p hp => by obtain ⟨t, ht, rfl⟩ := List.mem_map.mp hp; exact h1 t ht, fun b => by rcases h2 b with z | z | z; (· exact .inl z); (· exact .inr (.inl (by rw [List.map_map]; exact z))); exact .inr (.inr z)⟩
theorem lookup_mem' {l : List (Addr × Str)} {b : Addr} {q : Str} (h : l.lookup b = some q) : (b, q) ∈ l := by
  induction l with
  | nil => cases h
  | cons x l ih =>
    rw [List.lookup_cons] at h
    split at h
    · rename_i e
      have e : b = x.1 := by simpa using e
      cases h
      exact List.mem_cons.mpr (.inl (by rw [e]))
    · exact List.mem_cons_of_mem _ (ih h)
theorem law_liftT {K : PySem.W.Frag} {sp : SpD} {l : List (Addr × Str)} (h : ∀ ns : List Int, ns.length ≤ 63 → sp [.kc (ns.map D.int)] (tabG l) (fun d _ => d = .bl true) fun _ _ _ => False) : ∀ vs H Q E, lawSpT K l vs H Q E → liftSp K 1 sp vs H Q E := fun vs H Q E ⟨a, ns, e, hl, ⟨hT, ho⟩, hs, q⟩ => by
  subst e
  refine ⟨rfl, [.kc (ns.map D.int)], tabG l, _, _, ⟨_, _, rfl, ⟨a, ns.map V.int, rfl, ?_, Rps.ofInts ns⟩, rfl⟩, (fun a o e => ?_), h ns hl, fun v H' ⟨d, G', k, _, _, e⟩ => ?_, fun c dd H' ⟨_, _, _, _, _, z⟩ => z.elim⟩
  · rcases hs with (hs | ⟨o, hs⟩) | hs
    · rcases ho a with z | z | ⟨o, xs, z⟩
      · rw [z] at hs; cases hs
      · obtain ⟨p, hp, ep⟩ := List.mem_map.mp z
        rw [← ep, hT p hp] at hs; cases hs
      · rw [z] at hs; cases hs
    · exact .inl ⟨o, hs⟩
    · exact .inr hs
  · unfold tabG at e
    rw [Option.map_eq_some_iff] at e
    obtain ⟨q1, hq1, rfl⟩ := e
    exact ⟨_, hT _ (lookup_mem' hq1), #[], rfl, trivial, fun pos cv hc => by cases hc⟩
  · subst e
    cases k
    exact q H'
theorem tabIn_of {K : PySem.W.Frag} {x : Str} {f c P : Addr} {oc a : Value} {od b : Option Addr} {osl d : Array (Option Value)} {fd : FuncData} {vs : Array Value} (h1 : PySem.W.nsIn K mainGlobals x = some (some (.ref f))) (h2 : K.lookup f = some ⟨oc, od, .func fd, osl⟩) (h3 : fd.code = .ref c)
    (h4 : K.lookup c = some ⟨a, b, .fields vs, d⟩) (h5 : (vs[11]? : Option Value) = some (.ref P)) : PySem.W.tabIn K x = some (c, P) := by
  unfold PySem.W.tabIn
  simp only [h1, h2, h3, h4, h5]
theorem code_of_tab {K : PySem.W.Frag} {mg : Str → Option Value} {h : Heap} (X : K.In h) (G : h.Ns mainGlobals mg) {x : Str} {c P fa : Addr} {oc : Value} {od : Option Addr} {osl : Array (Option Value)} {fd : FuncData} (ht : PySem.W.tabIn K x = some (c, P)) (hm : mg x = some (.ref fa)) (ho : K.lookup fa = some ⟨oc, od, .func fd, osl⟩) : fd.code = .ref c :=
  PySem.W.law_code X G ht hm (X _ _ ho) rfl
theorem FunD.code {K : PySem.W.Frag} {x qual : Str} {pa : Arguments} {bd : List Stmt} {sc : Scope} {dvs : List V} {kws : List (Str × V)} {f : Addr} {fd : FuncData} {c : Addr} (F : L2.FunD K x qual pa bd sc dvs kws f fd) (h : ∀ (oc : Value) (od : Option Addr) (osl : Array (Option Value)), K.lookup f = some ⟨oc, od, .func fd, osl⟩ → fd.code = .ref c) : fd.code = .ref c := by
  obtain ⟨oc, od, dV, kV, doc, pm, an, cdv, ct, osl, e, lk, hcd, hD, hK⟩ := F.ex
  exact h _ _ _ lk
theorem walkTT {l : PySem.W.OpenLaw} {k : Nat} {q : Program} {loose : List Str} {XP : (Str → Option Value) → Heap → Prop} {YP : World → Heap → Prop} {d : DefRec} {K : Params → PySem.W.Frag} {x : Str}
    (hn : l.most = some 63) (hdf : d.params.defaults = []) (hr : RoomG k callerA) (hY : ∀ (w : World) (h : Heap), YP w h → (K w.params).In h)
    (F : ∀ (w : World) (mg : Str → Option Value) (fa : Addr) (h : Heap), (K w.params).In h → h.Ns mainGlobals mg → mg d.name = some (.ref fa) → ∃ (fd : FuncData) (ts : List (Str × Addr × Addr)) (sp : Sp), (∀ t ∈ ts, (∃ d', (recsOf q).find? (fun e => e.name == t.1) = some d') ∧ PySem.W.tabIn (K w.params) t.1 = some t.2 ∧ (K w.params).lookup t.2.2 = none) ∧
      (∀ (s : Shared) (u : Value), BindsTo s fd ⟨[u], []⟩ [(x, u)]) ∧ (∀ (H : Hp) (a : Addr) (ns : List Int), ns.length ≤ 63 → (∀ t ∈ ts, H t.2.2 = some (.tbl #[])) → (∀ b, H b = none ∨ b ∈ ts.map (·.2.2) ∨ ∃ o xs, H b = some (.frz o (.lst xs))) → SqL (K w.params) H a (ns.map V.int) → sp [.ref a] H (fun v _ => v = .bl true) fun _ _ _ => False) ∧
      ∀ base : Heap, (K w.params).In base → base.Ns mainGlobals mg → (∀ t ∈ ts, TabB base mg t.2.1 t.2.2) → FnG l.prog w (K w.params) mg base k fa fd [x] sp)
    (hX : ∀ (w : World) (H : Hp) (s : Shared) (e : Value) (s' : Shared), L2.CX l.prog w [] H s (fun _ _ _ => False) e s' → False) : PySem.W.WalkO q loose XP YP l.row.toRowW d [] (fun f vs => PySem.call f vs) :=
  Att.attach_call hn hdf fun w _ s1 mg mb fa _ _ _ _ a vs ns G Y _ _ _ hmg hobj hints hlen hg => by
    have KX := hY w _ Y
    obtain ⟨fd, ts, sp, hts, hb, hsp, hF⟩ := F w mg fa _ KX G.T.g hmg
    have key : ∀ p ∈ ts.map (·.2), ∃ t ∈ ts, t.2 = p := fun p hp => by obtain ⟨t, ht, e⟩ := List.mem_map.mp hp; exact ⟨t, ht, e⟩
    have hc : ∀ p ∈ ts.map (·.2), PySem.W.CodeHd _ p.1 p.2 ∧ s1.heap.get? p.2 = some { cls := .none, data := .fields #[] } := fun p hp => by
      obtain ⟨t, ht, rfl⟩ := key p hp
      obtain ⟨⟨d', hd'⟩, h2, h3⟩ := hts t ht
      exact PySem.W.tab_of G.T KX hd' h2
    refine law_callTG (cs := ts.map (·.2)) KX G.T.g G.T.b G.T.builtins G.T.nolimit hg (fun p hp => (hc p hp).2) (fun p hp => ?_) (fun p hp => (hc p hp).1) G.T.bmain hobj hints (Nat.le_trans hlen (by rw [sizeLine_eq]; omega)) hr (fun base h1 h2 h3 => hF base h1 h2 fun t ht => h3 _ (List.mem_map_of_mem ht)) hb (fun H hH hO hS => hsp H a ns hlen (fun t ht => hH _ (List.mem_map_of_mem ht)) (fun b => ?_) hS) fun H e s' => hX w H s1 e s'
    · obtain ⟨t, ht, rfl⟩ := key p hp
      exact (hts t ht).2.2
    · rcases hO b with z | z | z
      · exact .inl z
      · rw [List.map_map] at z; exact .inr (.inl z)
      · exact .inr (.inr z)
end DL

namespace L2
open PySem PySem.Spec PyProof.Rows
def encPi (b : Addr × (List Int × Int)) : PyData := .tuple [.tuple (b.2.1.map .int), .int b.2.2]
section
variable {X : Cx} {pins : List (Addr × Obj)} {σ : St} {H : Hp} {s : Shared}
end
end L2

namespace L2
open PySem PySem.Spec PyProof.Rows
end L2

/-! sorted(e), e a list of pairs of tuples of ints; by data -/
namespace DL
open PySem PySem.Spec L2
open PyProof.Rows hiding St
def piD : D → Option (List Int × Int)
  | .tup [x, .int b] => match keyTD x with
    | some a => some (a, b)
    | _ => none
  | _ => none
def piL : List D → Option (List (List Int × Int))
  | [] => some []
  | d :: r => match piD d, piL r with
    | some k, some l => some (k :: l)
    | _, _ => none
def dPi (x : List Int × Int) : D := .tup [.tup (x.1.map D.int), .int x.2]
def encI2 (x : List Int × Int) : PyData := encPi (0, x)
def srtPiI (o : Option (List (List Int × Int))) (G : HD) (Q : Post) : Prop := match o with
  | some ns => ns.length ≤ 4000 ∧ ∀ ms : List (List Int × Int), ms.Perm ns → ms.Pairwise (fun x y => PySem.W.dataLe false encI2 x y = true) → Q (.kl (ms.map dPi)) G
  | none => False
def srtPiO (o : Option (List D)) (G : HD) (Q : Post) : Prop := match o with
  | some ds => srtPiI (piL ds) G Q
  | none => False
def dSortPi (te : TD) : TD := fun W σ G Q => te W σ G fun d G1 => srtPiO (asL G1 d) G1 Q
section
variable {G : HD} {Q : Post} {W : DW} {σ : DSt} {te : TD} {xs : List D} {ns : List (List Int × Int)}
theorem q_sortPi : dSortPi te W σ G Q = te W σ G fun d G1 => srtPiO (asL G1 d) G1 Q := propext ⟨fun h => h, fun h => h⟩
theorem r_srtPiO : srtPiO (some xs) G Q = srtPiI (piL xs) G Q := propext ⟨fun h => h, fun h => h⟩
end
end DL

namespace DL
open PySem PySem.Spec L2
open PyProof.Rows hiding St
end DL

/-! simp lemmas of the readings of lambdas, dict(pairs); comprehensions in a growing heap -/
namespace DL
open PySem PySem.Spec L2 LamX LamY
open PyProof.Rows hiding St
section
variable {W : DW} {σ : DSt} {G : HD} {Q : Post} {v : LamV} {tb t1 t2 te : TD} {ts : TDA} {i j : Nat} {k : D → Prop} {d dc : D} {P : Addr} {q : Str} {sp : LamV → SpD} {es : List D} {l : List (Key × D)}
theorem q_act : dAct v tb i ts W σ G Q = fnP v σ[i]? fun dc => ts W σ G fun ds G1 => argP ds fun d => tb W0 [some d, some dc] G1 Q := propext ⟨fun h => h, fun h => h⟩
theorem r_fnP : fnP v (some (some (.fn v.f v.c v.q v.u dc))) k = k dc := propext ⟨fun h => h.2, fun h => ⟨⟨rfl, rfl, rfl, rfl⟩, h⟩⟩
theorem r_argP : argP [d] k = k d := propext ⟨fun h => h, fun h => h⟩
theorem q_callLam : dCallLam P q j sp t1 t2 W σ G Q = t1 W σ G fun d1 G1 => t2 W σ G1 fun d2 G2 => tabP P q j G2 σ fun dc => ∀ v : LamV, v.q = q → sp v [d1, d2, .fn v.f v.c v.q v.u dc] G2 Q fun c fs G' => W c fs σ G' := propext ⟨fun h => h, fun h => h⟩
theorem i_tabP (h : G P = some (.tab q)) (hs : σ[j]? = some (some dc)) (hk : k dc) : tabP P q j G σ k := by
  refine ⟨h, ?_⟩
  rw [hs]
  exact hk
theorem i_dictPr (h : pairsK es = some l) (hq : newD G (mergeKD [] l) Q) : dprP (some es) G Q := by
  unfold dprP
  dsimp only
  rw [h]
  exact hq
theorem newD_in {l : List (Key × D)} (h : ∀ (p : Addr) (G' : HD), G p = none → G' = put G p (.dK l) → G' p = some (.dK l) → Le G G' → (∀ b, b ≠ p → G' b = G b) → Q (.ref p) G') : newD G l Q :=
  fun p hp => h p _ hp rfl put_same (Le.newB hp) fun _ hb => put_ne hb
theorem r_dictPrK : rDictPr [.kl es] G Q = dprP (some es) G Q := propext ⟨fun h => h, fun h => h⟩
end
/-- sets: what is gathered of each item -/
theorem sc_fm {step : D → (D → HD → Prop) → (HD → Prop) → HD → Prop} {fin : List Key → HD → Prop} (f : D → Key) {G : HD} : ∀ {xs : List D} {acc : List Key},
    (∀ x ∈ xs, ∀ (ky : D → HD → Prop) (kn : HD → Prop), (∀ y, keyOfD y = some (f x) → ky y G) → step x ky kn G) → fin (acc ++ xs.map f) G → scD (fun _ => True) step fin xs acc G
  | [], acc, hs, hf => ⟨G, Le.refl _, trivial, by simpa using hf⟩
  | x :: xs, acc, hs, hf => ⟨G, Le.refl _, trivial, hs x (List.mem_cons_self ..) _ _ fun y hy => ⟨f x, hy, sc_fm f (fun z hz => hs z (List.mem_cons_of_mem _ hz)) (by simpa using hf)⟩⟩
theorem r_dScG {ti : TDI} {t : Tgt} {dt : TDT} {te : TD} {vs : List Nat} {W : DW} {σ : DSt} {G : HD} {fin : List Key → HD → Prop} : dScG fin ti t dt te vs W σ G = ti W σ G fun I G1 => I.xs.length ≤ 4000 ∧ scD I.ok (fun d ky kn G' => t.put d (dwipe σ vs) fun σ2 => dt W0 σ2 G' fun b G2 => if b = true then te W0 σ2 G2 ky else kn G2) fin I.xs [] G1 := propext ⟨fun h => h, fun h => h⟩
theorem r_dTsG {ti : TDI} {t : Tgt} {dt : TDT} {te : TD} {vs : List Nat} {W : DW} {σ : DSt} {G : HD} {fin : List (List Int) → HD → Prop} : dTsG fin ti t dt te vs W σ G = ti W σ G fun I G1 => I.xs.length ≤ 63 ∧ tsD I.ok (fun d ky kn G' => t.put d (dwipe σ vs) fun σ2 => dt W0 σ2 G' fun b G2 => if b = true then te W0 σ2 G2 ky else kn G2) fin I.xs [] G1 := propext ⟨fun h => h, fun h => h⟩
end DL

/-! enumerate of a list by value; comprehensions over a mapped list -/
namespace DL
open PySem PySem.Spec L2
open PyProof.Rows hiding St
def enumKP (d : D) (G : HD) (R : ItD → HD → Prop) : Prop := match d with
  | .kl ds => R ⟨enumD 0 ds, fun _ => True⟩ G
  | _ => False
def jEnumK (ts : TDA) : TDI := fun W σ G R => ts W σ G fun ds G1 => match ds with
  | [d] => enumKP d G1 R
  | _ => False
theorem di_enumK {X : Cx} {e : Expr} {ts : TDA} {p pos tpos : Pos} {elts : List Expr} {kk : Nat} (hm : X.mg "enumerate" = none) (ha : DA X [e] ts) (hg : Gl X "enumerate" := by rfl) (hs : starEach [e] X.env = [(false, eval e X.env)] := by rfl) :
    DI X (.Tuple elts kk tpos) (.Call (.Name "enumerate" p) [e] [] pos) (iEnum X.K (semA X [e])) (jEnumK ts) :=
  ⟨pi_enum hg hm paSem hs, fun G H σ τ W R R' r q fin => ha.then r q fun ds vs G1 H1 r1 x1 k1 q1 => by
    try dsimp only at q1
    split at q1
    · rename_i d
      obtain ⟨w, rfl, kd⟩ := one_of k1
      unfold enumKP at q1
      split at q1
      · rename_i ds
        obtain ⟨a, xs, rfl, ⟨o, t⟩, rr⟩ := id kd
        have sq : ∀ {G2 H2}, ExtL G1 H1 G2 H2 → SqL X.K H2 a xs := fun {G2 H2} x2 => .inl (.inr ⟨o, (x2 a _ nl_frz (r1.sim.frzL t) t).1⟩)
        refine ⟨a, xs, rfl, sq Ext.refl.l, fin _ _ G1 H1 r1.sim x1 ⟨fun i G2 H2 s2 x2 _ hi => ?_, fun i G2 H2 x H3 s2 x2 _ hi hy => ?_, fun i G2 H2 s2 x2 _ hi => ?_⟩ q1⟩
        · rw [enum_len] at hi
          have hi2 : i < xs.length := by rw [rr.length]; exact hi
          exact ⟨xs, xs[i], sq x2, List.getElem?_eq_getElem hi2⟩
        · rw [enum_len] at hi
          obtain ⟨T, v, rfl, hT, rfl, hx⟩ := hy
          have hx := hx xs (sq x2)
          have xt : Ext G2 H2 G2 (upd H2 T (.tup [.int (i : Nat), v])) := Ext.new hT (s2.no hT)
          have hd : ds[i]? = some ds[i] := List.getElem?_eq_getElem hi
          obtain ⟨v', z1, z2⟩ := rr.get hd
          rw [hx] at z1
          cases z1
          refine ⟨.tup [.int (i : Nat), ds[i]], ?_, ⟨T, [.int (i : Nat), v], rfl, SqT.of upd_same, .int (i : Nat), [v], rfl, rfl, v, [], rfl, (z2.extL r1.sim x2 _ _).ext s2 xt _ _, rfl⟩, s2.newO hT, xt⟩
          have := enum_get (n := 0) hd
          rw [Nat.zero_add] at this
          exact this
        · rw [enum_len] at hi
          exact ⟨xs, sq x2, by rw [rr.length]; exact hi⟩
      · exact q1.elim
    · exact q1.elim⟩
section
variable {W : DW} {σ : DSt} {G : HD} {ts : TDA} {R : ItD → HD → Prop} {ds : List D}
theorem q_enumK : jEnumK ts W σ G R = ts W σ G fun ds G1 => match ds with
  | [d] => enumKP d G1 R
  | _ => False := propext ⟨fun h => h, fun h => h⟩
theorem r_enumKP : enumKP (.kl ds) G R = R ⟨enumD 0 ds, fun _ => True⟩ G := propext ⟨fun h => h, fun h => h⟩
end
theorem lc_fma {α : Type} {g : α → D} {ok : HD → Prop} {step : D → (D → HD → Prop) → (HD → Prop) → HD → Prop} {fin : List D → HD → Prop} (f : α → Option D) {G : HD} (hok : ∀ G', Le G G' → ok G') : ∀ {xs : List α} {acc : List D} {G1 : HD}, Le G G1 →
    (∀ x ∈ xs, ∀ (ky : D → HD → Prop) (kn : HD → Prop) (G1 : HD), Le G G1 → (∀ G2 y, Le G1 G2 → f x = some y → ky y G2) → (∀ G2, Le G1 G2 → f x = none → kn G2) → step (g x) ky kn G1) → (∀ G', Le G G' → fin (acc ++ xs.filterMap f) G') → lcD ok step fin (xs.map g) acc G1
  | [], acc, G1, h1, hs, hf => ⟨G1, Le.refl _, hok _ h1, by simpa using hf _ h1⟩
  | x :: xs, acc, G1, h1, hs, hf => ⟨G1, Le.refl _, hok _ h1, hs x (List.mem_cons_self ..) _ _ _ h1
      (fun G2 y l e => lc_fma f hok (h1.trans l) (fun z hz => hs z (List.mem_cons_of_mem _ hz)) fun G' l' => by have := hf G' l'; rw [List.filterMap_cons_some e] at this; simpa using this)
      (fun G2 l e => lc_fma f hok (h1.trans l) (fun z hz => hs z (List.mem_cons_of_mem _ hz)) fun G' l' => by have := hf G' l'; rw [List.filterMap_cons_none e] at this; exact this)⟩
/-- .. in a heap that stays -/
theorem lc_pma {α : Type} {g : α → D} {step : D → (D → HD → Prop) → (HD → Prop) → HD → Prop} {fin : List D → HD → Prop} {ok : HD → Prop} (f : α → Option D) {G : HD} (hok : ok G) : ∀ {xs : List α} {acc : List D},
    (∀ x ∈ xs, ∀ (ky : D → HD → Prop) (kn : HD → Prop), (∀ y, f x = some y → ky y G) → (f x = none → kn G) → step (g x) ky kn G) → fin (acc ++ xs.filterMap f) G → lcD ok step fin (xs.map g) acc G
  | [], acc, hs, hf => ⟨G, Le.refl _, hok, by simpa using hf⟩
  | x :: xs, acc, hs, hf => ⟨G, Le.refl _, hok, hs x (List.mem_cons_self ..) _ _
      (fun y e => lc_pma f hok (fun z hz => hs z (List.mem_cons_of_mem _ hz)) (by rw [List.filterMap_cons_some e] at hf; simpa using hf))
      (fun e => lc_pma f hok (fun z hz => hs z (List.mem_cons_of_mem _ hz)) (by rw [List.filterMap_cons_none e] at hf; exact hf))⟩
theorem sc_fma {α : Type} {g : α → D} {step : D → (D → HD → Prop) → (HD → Prop) → HD → Prop} {fin : List Key → HD → Prop} (f : α → Key) {G : HD} : ∀ {xs : List α} {acc : List Key},
    (∀ x ∈ xs, ∀ (ky : D → HD → Prop) (kn : HD → Prop), (∀ y, keyOfD y = some (f x) → ky y G) → step (g x) ky kn G) → fin (acc ++ xs.map f) G → scD (fun _ => True) step fin (xs.map g) acc G
  | [], acc, hs, hf => ⟨G, Le.refl _, trivial, by simpa using hf⟩
  | x :: xs, acc, hs, hf => ⟨G, Le.refl _, trivial, hs x (List.mem_cons_self ..) _ _ fun y hy => ⟨f x, hy, sc_fma f (fun z hz => hs z (List.mem_cons_of_mem _ hz)) (by simpa using hf)⟩⟩
theorem ts_fma {α : Type} {g : α → D} {step : D → (D → HD → Prop) → (HD → Prop) → HD → Prop} {fin : List (List Int) → HD → Prop} (f : α → List Int) {G : HD} : ∀ {xs : List α} {acc : List (List Int)},
    (∀ x ∈ xs, ∀ (ky : D → HD → Prop) (kn : HD → Prop), (∀ y, keyTD y = some (f x) → ky y G) → step (g x) ky kn G) → fin (acc ++ xs.map f) G → tsD (fun _ => True) step fin (xs.map g) acc G
  | [], acc, hs, hf => ⟨G, Le.refl _, trivial, by simpa using hf⟩
  | x :: xs, acc, hs, hf => ⟨G, Le.refl _, trivial, hs x (List.mem_cons_self ..) _ _ fun y hy => ⟨f x, hy, ts_fma f (fun z hz => hs z (List.mem_cons_of_mem _ hz)) (by simpa using hf)⟩⟩
/-- an enumerated comprehension in a heap that stays -/
theorem lc_ena {α : Type} {g : α → D} {step : D → (D → HD → Prop) → (HD → Prop) → HD → Prop} {fin : List D → HD → Prop} {ok : HD → Prop} (f : Nat → α → Option D) {G : HD} (hok : ok G) : ∀ {xs : List α} {n : Nat} {acc : List D},
    (∀ x ∈ xs, ∀ (i : Nat) (ky : D → HD → Prop) (kn : HD → Prop), (∀ y, f i x = some y → ky y G) → (f i x = none → kn G) → step (.tup [.int i, g x]) ky kn G) → fin (acc ++ (xs.zipIdx n).filterMap fun p => f p.2 p.1) G → lcD ok step fin (enumD n (xs.map g)) acc G
  | [], n, acc, hs, hf => ⟨G, Le.refl _, hok, by simpa using hf⟩
  | x :: xs, n, acc, hs, hf => ⟨G, Le.refl _, hok, hs x (List.mem_cons_self ..) n _ _
      (fun y e => lc_ena f hok (n := n + 1) (fun z hz => hs z (List.mem_cons_of_mem _ hz)) (by rw [List.zipIdx_cons, List.filterMap_cons_some (by exact e)] at hf; simpa using hf))
      (fun e => lc_ena f hok (n := n + 1) (fun z hz => hs z (List.mem_cons_of_mem _ hz)) (by rw [List.zipIdx_cons, List.filterMap_cons_none (by exact e)] at hf; exact hf))⟩
end DL

namespace P
open PySem PySem.Spec L2 DL
/-! ### the addresses that the top gives -/
structure Env where
  F_is_dealing : Addr
  F_is_form : Addr
  F_is_reading : Addr
  P_newest_below : Addr
  K_newest_below : Addr
  P_reading_fits : Addr
  K_reading_fits : Addr
  P_reads_fit : Addr
  K_reads_fit : Addr
  ok : Addr → Str → Prop
  ic : String ⊕ Addr → String ⊕ Addr → Bool → Prop
/-- what holds of them -/
structure Env.Good (e : Env) : Prop where
  triv : True
  np_newest_below_reading_fits : e.P_newest_below ≠ e.P_reading_fits
  np_newest_below_reads_fit : e.P_newest_below ≠ e.P_reads_fit
  np_reading_fits_reads_fit : e.P_reading_fits ≠ e.P_reads_fit
def tabs (e : Env) : List (Addr × Str) := [(e.P_newest_below, qlam "newest_below"), (e.P_reading_fits, qlam "reading_fits"), (e.P_reads_fit, qlam "reads_fit")]
def tbl_LOOKS (e : Env) : List (Str × D) := [("dealing", .ref e.F_is_dealing), ("form", .ref e.F_is_form), ("read", .ref e.F_is_reading), ("now", .ref e.F_is_reading)]
/-! ### what each def does -/
-- _law_begun: slots 0 _law_script, 1 _law_k, 2 _law_cell, 3 _law_number, 4 _law_mixed,
def w_law_begun (e : Env) : SpD := wpf 2 3
    (sSeq (sSet 2 (dOp dIx (dOp dAddV (dSliceV (dVar 0) (oSome (dVar 1)) (oSome (dOp dAddV (dVar 1) (dC (.int 1))))) (dLstV (dCons (dC (.int 0)) (dNil)))) (dC (.int 0))))
    (sSeq (sSet 3 (dCB rMax2 (dCons (dVar 2) (dCons (dOp dSub (dUn dNeg (dC (.int 1))) (dVar 2)) (dNil)))))
    (sSeq (sSet 4 (dOp dMod (dOp dAddV (dOp dAddV (dOp dAddV (dOp dMod (dVar 3) (dC (.int 2147483629))) (dOp dMul (dC (.int 7919)) (dVar 1))) (dOp dMul (dOp dMul (dC (.int 104729)) (dVar 1)) (dVar 1))) (dC (.int 11))) (dC (.int 2147483629))))
    (sRet (dLst (dCons (dVar 3) (dCons (dVar 4) (dCons (dOp (dCmpI fun i j => decide (j ≤ i)) (dVar 3) (dOp dPow (dC (.int 10)) (dC (.int 18)))) (dNil)))))))))
-- _law_take: slots 0 _law_state, 1 _law_many, 2 _law_digit, 3 _law_made_here, 4 _law_turn,
def l_law_take_1 (e : Env) : TDS :=
    (sSeq (sSub (dVar 0) (dC (.int 1)) (dOp dMod (dOp dAddV (dOp dMul (dOp dIx (dVar 0) (dC (.int 1))) (dC (.int 48271))) (dC (.int 11))) (dC (.int 2147483647))) rSetD)
    (sSet 3 (dOp dAddV (dOp dMul (dVar 3) (dC (.int 2147483587))) (dOp dMod (dOp dMul (dOp dIx (dVar 0) (dC (.int 1))) (dOp dIx (dVar 0) (dC (.int 1)))) (dC (.int 2147483587))))))
def w_law_take (e : Env) : SpD := wpf 2 3
    (sSeq (sIf (dTru (dOp dIx (dVar 0) (dC (.int 2))))
    (sSeq (sSet 2 (dOp dMod (dOp dIx (dVar 0) (dC (.int 0))) (dVar 1)))
    (sSeq (sSub (dVar 0) (dC (.int 0)) (dOp dDiv (dOp dIx (dVar 0) (dC (.int 0))) (dVar 1)) rSetD)
    (sSeq (sSub (dVar 0) (dC (.int 2)) (dOp (dCmpI fun i j => decide (j < i)) (dOp dIx (dVar 0) (dC (.int 0))) (dC (.int 0))) rSetD)
    (sRet (dVar 2)))))
    (sNext))
    (sSeq (sSet 3 (dC (.int 0)))
    (sSeq (sFor (jRng1 (dCons (dOp dAddV (dC (.int 1)) (dCB rInt (dCons (dOp (dCmpI fun i j => decide (j < i)) (dVar 1) (dOp dPow (dC (.int 10)) (dC (.int 6)))) (dNil)))) (dNil))) (.one 4)
    (l_law_take_1 e))
    (sRet (dOp dMod (dOp dDiv (dVar 3) (dC (.int 64))) (dVar 1))))))
-- _law_worth_of: slots 0 _law_deals, 1 _law_key, 2 _law_most, 3 _law_some, 4 _law_one, 5 _law_stamp, 6 _law_worth,
def w_law_worth_of (e : Env) : SpD := wpf 3 4
    (sSeq (sSet 3 (dLcV (jSeq (dVar 0)) (.one 4) (dAnd (dTest (dOp (fun k o G Q => inP false k o G Q) (dVar 1) (dCB rDictPr (dCons (dOp dIx (dVar 4) (dC (.int 6))) (dNil))))) (dTest (dOp dLtD (dOp dIx (dVar 4) (dC (.int 4))) (dVar 2)))) (dTup (dCons (dOp dIx (dVar 4) (dC (.int 4))) (dCons (dDGet (dCB rDictPr (dCons (dOp dIx (dVar 4) (dC (.int 6))) (dNil))) (dVar 1)) (dNil)))) [4]))
    (sRet (dOp dIx (dOp dAddV (dLstV (dCons (dC .non) (dNil))) (dLcV (jSeq (dSortPr (dVar 3))) (.many [5, 6]) (dYes) (dVar 6) [5, 6])) (dUn dNeg (dC (.int 1))))))
-- _law_pairs: slots 0 _law_state, 1 _law_some, 2 _law_keys, 3 _law_turn, 4 _law_key, 5 _law_part,
def w_law_pairs (e : Env) : SpD := wpf 2 4
    (sSeq (sSet 2 (dSortSetS (dLcV (jRng1 (dCons (dCall (w_law_take e) [] (dCons (dVar 0) (dCons (dVar 1) (dNil)))) (dNil))) (.one 3) (dYes) (dOp dIx (dLstV (dCons (dC (.str "a")) (dCons (dC (.str "b")) (dCons (dC (.str "c")) (dCons (dC (.str "abcdef")) (dNil)))))) (dCall (w_law_take e) [] (dCons (dVar 0) (dCons (dC (.int 4)) (dNil))))) [3])))
    (sRet (dLcV (jSeq (dVar 2)) (.one 4) (dYes) (dTup (dCons (dVar 4) (dCons (dCB rTuple (dCons (dLcV (jRng1 (dCons (dOp dAddV (dC (.int 1)) (dCall (w_law_take e) [] (dCons (dVar 0) (dCons (dC (.int 3)) (dNil))))) (dNil))) (.one 5) (dYes) (dCall (w_law_take e) [] (dCons (dVar 0) (dCons (dC (.int 9)) (dNil)))) [5]) (dNil))) (dNil)))) [4])))
-- _law_made: slots 0 _law_state, 1 _law_size, 2 _law_deals, 3 _law_last, 4 _law_now, 5 _law_number, 6 _law_begun_here, 7 _law_reads_here, 8 _law_name, 9 _law_key, 10 _law_worth,
def l_law_made_1 (e : Env) : TDS :=
    (sSeq (sSet 6 (dVar 4))
    (sSeq (sSet 4 (dOp dAddV (dVar 4) (dCall (w_law_take e) [] (dCons (dVar 0) (dCons (dC (.int 3)) (dNil))))))
    (sSeq (sSet 3 (dTup (dCons (dOp dAddV (dOp dIx (dVar 3) (dC (.int 0))) (dCall (w_law_take e) [] (dCons (dVar 0) (dCons (dC (.int 4)) (dNil))))) (dCons (dOp dAddV (dOp dIx (dVar 3) (dC (.int 1))) (dC (.int 1))) (dCons (dCall (w_law_take e) [] (dCons (dVar 0) (dCons (dC (.int 4)) (dNil)))) (dNil))))))
    (sSeq (sSet 7 (dLcV (jSeq (dCall (w_law_pairs e) [] (dCons (dVar 0) (dCons (dC (.int 4)) (dNil))))) (.many [9, 10]) (dYes) (dTup (dCons (dVar 9) (dCons (dCall (w_law_worth_of e) [] (dCons (dVar 2) (dCons (dVar 9) (dCons (dVar 3) (dNil))))) (dNil)))) [9, 10]))
    (sSeq (sSet 8 (dOp dAddV (dOp dMul (dC (.int 10)) (dVar 5)) (dCall (w_law_take e) [] (dCons (dVar 0) (dCons (dC (.int 9)) (dNil))))))
    (sSeq (sDrop (dApp (dVar 2) (dCons (dTup (dCons (dC (.str "dealing")) (dCons (dVar 8) (dCons (dVar 6) (dCons (dVar 4) (dCons (dVar 3) (dCons (dVar 7) (dCons (dCall (w_law_pairs e) [] (dCons (dVar 0) (dCons (dC (.int 4)) (dNil)))) (dNil))))))))) (dNil))))
    (sSet 4 (dOp dAddV (dVar 4) (dCB rMax2 (dCons (dCall (w_law_take e) [] (dCons (dVar 0) (dCons (dC (.int 2)) (dNil)))) (dCons (dCB rInt (dCons (dOp (dEqX false) (dVar 4) (dVar 6)) (dNil))) (dNil))))))))))))
def w_law_made (e : Env) : SpD := wpf 2 9
    (sSeq (sSet 2 (dLst (dNil)))
    (sSeq (sSet 3 (dTup (dCons (dC (.int 0)) (dCons (dC (.int 0)) (dCons (dC (.int 0)) (dNil))))))
    (sSeq (sSet 4 (dC (.int 0)))
    (sSeq (sFor (jRng1 (dCons (dVar 1) (dNil))) (.one 5)
    (l_law_made_1 e))
    (sRet (dFrz (dVar 2)))))))
-- _law_formed: slots 0 _law_worth, 1 _law_fields_here,
def w_law_formed (e : Env) : SpD := wpf 2 0
    (sSeq (sIf (dOr (dTest (dOp (dIsX false) (dVar 0) (dC .non))) (dTest (dOp (dIsX false) (dVar 1) (dC .non))))
    (sRet (dVar 0))
    (sNext))
    (sRet (dOp dAddV (dSliceV (dVar 0) (oNone) (oSome (dVar 1))) (dOp dRepT (dTup (dCons (dC (.int 0)) (dNil))) (dOp dSub (dVar 1) (dCB rLen (dCons (dVar 0) (dNil))))))))
-- _law_fields: slots 0 _law_history_here, 1 _law_time, 2 _law_some, 3 _law_number, 4 _law_one,
def w_law_fields (e : Env) : SpD := wpf 2 3
    (sSeq (sSet 2 (dLcV (jEnumK (dCons (dVar 0) (dNil))) (.many [3, 4]) (dAnd (dTest (dOp (dEqX false) (dOp dIx (dVar 4) (dC (.int 0))) (dC (.str "form")))) (dTest (dOp (dCmpI fun i j => decide (i ≤ j)) (dOp dIx (dVar 4) (dC (.int 1))) (dVar 1)))) (dTup (dCons (dOp dIx (dVar 4) (dC (.int 1))) (dCons (dVar 3) (dCons (dOp dIx (dVar 4) (dC (.int 2))) (dNil))))) [3, 4]))
    (sSeq (sIf (dTest (dOp (dEqX false) (dVar 2) (dLstV (dNil))))
    (sRet (dC .non))
    (sNext))
    (sRet (dOp dIx (dCB rMaxT (dCons (dVar 2) (dNil))) (dC (.int 2))))))
-- _law_reads: slots 0 _law_state, 1 _law_deals, 2 _law_history_here, 3 _law_found, 4 _law_turn, 5 _law_key, 6 _law_time, 7 _law_worth, 8 _law_word, 9 _law_asked, 10 _law_late, 11 _law_one,
def l_law_reads_1 (e : Env) : TDS :=
    (sSeq (sSet 5 (dOp dIx (dLstV (dCons (dC (.str "a")) (dCons (dC (.str "b")) (dCons (dC (.str "c")) (dCons (dC (.str "e")) (dNil)))))) (dCall (w_law_take e) [] (dCons (dVar 0) (dCons (dC (.int 4)) (dNil))))))
    (sSeq (sSet 6 (dCall (w_law_take e) [] (dCons (dVar 0) (dCons (dOp dAddV (dOp dMul (dC (.int 3)) (dCB rLen (dCons (dVar 1) (dNil)))) (dC (.int 4))) (dNil)))))
    (sSeq (sSet 7 (dCall (w_law_worth_of e) [] (dCons (dVar 1) (dCons (dVar 5) (dCons (dTup (dCons (dOp dAddV (dVar 6) (dC (.int 1))) (dCons (dUn dNeg (dC (.int 1))) (dCons (dUn dNeg (dC (.int 1))) (dNil))))) (dNil))))))
    (sSeq (sSet 7 (dCall (w_law_formed e) [] (dCons (dVar 7) (dCons (dCall (w_law_fields e) [] (dCons (dVar 2) (dCons (dVar 6) (dNil)))) (dNil)))))
    (sSeq (sSet 8 (dOp dIx (dLstV (dCons (dC (.str "read")) (dCons (dC (.str "now")) (dNil)))) (dCall (w_law_take e) [] (dCons (dVar 0) (dCons (dC (.int 2)) (dNil))))))
    (sSeq (sSet 9 (dCall (w_law_take e) [] (dCons (dVar 0) (dCons (dC (.int 9)) (dNil)))))
    (sSeq (sSet 10 (dLcV (jSeq (dVar 1)) (.one 11) (dAnd (dTest (dOp (dCmpI fun i j => decide (i ≤ j)) (dOp dIx (dVar 11) (dC (.int 3))) (dVar 9))) (dTest (dOp (dCmpI fun i j => decide (j < i)) (dOp dIx (dOp dIx (dVar 11) (dC (.int 4))) (dC (.int 0))) (dVar 6)))) (dVar 11) [11]))
    (sSeqJ (sIf (dAnd (dTest (dOp (dEqX false) (dVar 8) (dC (.str "now")))) (dTest (dOp (dEqX true) (dVar 10) (dLstV (dNil)))))
    (sSet 8 (dC (.str "read")))
    (sNext))
    (sDrop (dApp (dVar 3) (dCons (dTup (dCons (dVar 8) (dCons (dVar 9) (dCons (dVar 6) (dCons (dVar 5) (dCons (dVar 7) (dNil))))))) (dNil))))))))))))
def w_law_reads (e : Env) : SpD := wpf 3 9
    (sSeq (sSet 3 (dLst (dNil)))
    (sSeq (sFor (jRng1 (dCons (dCall (w_law_take e) [] (dCons (dVar 0) (dCons (dC (.int 4)) (dNil)))) (dNil))) (.one 4)
    (l_law_reads_1 e))
    (sRet (dFrz (dVar 3)))))
-- _law_history: slots 0 _law_state, 1 _law_deals, 2 _law_forms, 3 _law_turn, 4 _law_history_here,
def l_law_history_1 (e : Env) : TDS :=
    (sDrop (dApp (dVar 2) (dCons (dTup (dCons (dC (.str "form")) (dCons (dCall (w_law_take e) [] (dCons (dVar 0) (dCons (dC (.int 14)) (dNil)))) (dCons (dOp dAddV (dC (.int 1)) (dCall (w_law_take e) [] (dCons (dVar 0) (dCons (dC (.int 4)) (dNil))))) (dNil))))) (dNil))))
def w_law_history (e : Env) : SpD := wpf 1 4
    (sSeq (sSet 1 (dCall (w_law_made e) [] (dCons (dVar 0) (dCons (dCall (w_law_take e) [] (dCons (dVar 0) (dCons (dC (.int 7)) (dNil)))) (dNil)))))
    (sSeq (sSet 2 (dLst (dNil)))
    (sSeq (sFor (jRng1 (dCons (dCall (w_law_take e) [] (dCons (dVar 0) (dCons (dC (.int 3)) (dNil)))) (dNil))) (.one 3)
    (l_law_history_1 e))
    (sSeq (sSet 4 (dOp dAddV (dVar 1) (dVar 2)))
    (sSeq (sSet 4 (dOp dAddV (dVar 4) (dCall (w_law_reads e) [] (dCons (dVar 0) (dCons (dVar 1) (dCons (dVar 4) (dNil)))))))
    (sRet (dOp dIx (dLstV (dCons (dVar 4) (dCons (dOp dAddV (dOp dAddV (dVar 2) (dVar 1)) (dSliceV (dVar 4) (oSome (dOp dAddV (dCB rLen (dCons (dVar 1) (dNil))) (dCB rLen (dCons (dVar 2) (dNil))))) (oNone))) (dNil)))) (dCall (w_law_take e) [] (dCons (dVar 0) (dCons (dC (.int 2)) (dNil)))))))))))
-- of_word: slots 0 history, 1 word, 2 one,
def w_of_word (e : Env) : SpD := wpf 2 1
    (sRet (dLcV (jSeq (dVar 0)) (.one 2) (dTest (dOp (dEqX false) (dOp dIx (dVar 2) (dC (.int 0))) (dVar 1))) (dVar 2) [2]))
-- go_as_time: slots 0 dealings, 1 one, 2 other,
def l_go_as_time_1 (e : Env) : TDS :=
    (sIf (dTest (dOp (dEqX true) (dLcV (jSeq (dVar 0)) (.one 2) (dAnd (dTest (dOp (dCmpI fun i j => decide (i ≤ j)) (dOp dIx (dVar 1) (dC (.int 3))) (dOp dIx (dVar 2) (dC (.int 2))))) (dAnd (dTest (dOp (dEqX true) (dVar 1) (dVar 2))) (dTest (dOp (dCmpT (fun i j => decide (j ≤ i)) fun ns ms => !PySem.W.listLt ns ms) (dOp dIx (dVar 1) (dC (.int 4))) (dOp dIx (dVar 2) (dC (.int 4))))))) (dVar 2) [2]) (dLstV (dNil))))
    (sRet (dC (.bl false)))
    (sNext))
def w_go_as_time (e : Env) : SpD := wpf 1 2
    (sSeq (sFor (jSeq (dVar 0)) (.one 1)
    (l_go_as_time_1 e))
    (sRet (dC (.bl true))))
-- newest_below: slots 0 dealings, 1 key, 2 fits, 3 some, 4 one,
def w_newest_below (e : Env) (v : LamV) (tb : TD) : SpD := wpf 3 2
    (sSeq (sSet 3 (dLcV (jSeq (dVar 0)) (.one 4) (dAnd (dTest (dOp (fun k o G Q => inP false k o G Q) (dVar 1) (dCB rDictPr (dCons (dOp dIx (dVar 4) (dC (.int 6))) (dNil))))) (dTru (dAct v tb 2 (dCons (dOp dIx (dVar 4) (dC (.int 4))) (dNil))))) (dTup (dCons (dOp dIx (dVar 4) (dC (.int 4))) (dCons (dDGet (dCB rDictPr (dCons (dOp dIx (dVar 4) (dC (.int 6))) (dNil))) (dVar 1)) (dNil)))) [4]))
    (sSeq (sIf (dTest (dOp (dEqX false) (dVar 3) (dLstV (dNil))))
    (sRet (dC .non))
    (sNext))
    (sRet (dOp dIx (dMaxKey e.P_newest_below (qlam "newest_below") 0 (dVar 3)) (dC (.int 1))))))
-- formed: slots 0 worth, 1 fields,
def w_formed (e : Env) : SpD := wpf 2 0
    (sSeq (sIf (dOr (dTest (dOp (dIsX false) (dVar 0) (dC .non))) (dTest (dOp (dIsX false) (dVar 1) (dC .non))))
    (sRet (dVar 0))
    (sNext))
    (sRet (dOp dAddV (dSliceV (dVar 0) (oNone) (oSome (dVar 1))) (dOp dRepT (dTup (dCons (dC (.int 0)) (dNil))) (dOp dSub (dVar 1) (dCB rLen (dCons (dVar 0) (dNil))))))))
-- fields_then: slots 0 history, 1 time, 2 some, 3 number, 4 one,
def w_fields_then (e : Env) : SpD := wpf 2 3
    (sSeq (sSet 2 (dLcV (jEnumK (dCons (dVar 0) (dNil))) (.many [3, 4]) (dAnd (dTest (dOp (dEqX false) (dOp dIx (dVar 4) (dC (.int 0))) (dC (.str "form")))) (dTest (dOp (dCmpI fun i j => decide (i ≤ j)) (dOp dIx (dVar 4) (dC (.int 1))) (dVar 1)))) (dTup (dCons (dOp dIx (dVar 4) (dC (.int 1))) (dCons (dVar 3) (dCons (dOp dIx (dVar 4) (dC (.int 2))) (dNil))))) [3, 4]))
    (sSeq (sIf (dTest (dOp (dEqX false) (dVar 2) (dLstV (dNil))))
    (sRet (dC .non))
    (sNext))
    (sRet (dOp dIx (dCB rMaxT (dCons (dVar 2) (dNil))) (dC (.int 2))))))
-- reading_fits: slots 0 history, 1 dealings, 2 one, 3 word, 4 asked, 5 time, 6 key, 7 worth, 8 found, 9 deal,
def w_reading_fits (e : Env) : SpD := wpf 3 7
    (sSeq (sUnp [3, 4, 5, 6, 7] (dVar 2))
    (sSeq (sSet 8 (dCallLam e.P_reading_fits (qlam "reading_fits") 5 (fun v => w_newest_below e v (dOp (dCmpI fun i j => decide (i ≤ j)) (dOp dIx (dVar 0) (dC (.int 0))) (dVar 1))) (dVar 1) (dVar 6)))
    (sSeq (sIf (dTest (dOp (dEqX true) (dVar 7) (dCall (w_formed e) [] (dCons (dVar 8) (dCons (dCall (w_fields_then e) [] (dCons (dVar 0) (dCons (dVar 5) (dNil)))) (dNil))))))
    (sRet (dC (.bl false)))
    (sNext))
    (sRet (dOrV (dOp (dEqX false) (dVar 3) (dC (.str "read"))) (dOp (dEqX false) (dLcV (jSeq (dVar 1)) (.one 9) (dAnd (dTest (dOp (dCmpI fun i j => decide (i ≤ j)) (dOp dIx (dVar 9) (dC (.int 3))) (dVar 4))) (dTest (dOp (dCmpI fun i j => decide (j < i)) (dOp dIx (dOp dIx (dVar 9) (dC (.int 4))) (dC (.int 0))) (dVar 5)))) (dVar 9) [9]) (dLstV (dNil))))))))
-- is_key: slots 0 thing, 1 sign,
def w_is_key (e : Env) : SpD := wpf 1 1
    (sRet (dAndV (dCB (rIsiE e.ic fun _ _ _ => False) (dCons (dVar 0) (dCons (dC (.ty "str")) (dNil)))) (dAndV (dChn (dC (.int 1)) (dLink (dCmpI fun i j => decide (i ≤ j)) (dCB rLen (dCons (dVar 0) (dNil))) (dLast (dCmpI fun i j => decide (i ≤ j)) (dC (.int 6))))) (dCB (rAllD fun bs => bs.all id) (dCons (dLcV (jStr (dVar 0)) (.one 1) (dYes) (dOp (dInS false) (dVar 1) (dC (.str "abcdefghijklmnopqrstuvwxyz"))) [1]) (dNil))))))
-- is_whole: slots 0 thing,
def w_is_whole (e : Env) : SpD := wpf 1 0
    (sRet (dAndV (dCB (rIsiE e.ic fun _ _ _ => False) (dCons (dVar 0) (dCons (dC (.ty "int")) (dNil)))) (dNotV (dCB (rIsiE e.ic fun _ _ _ => False) (dCons (dVar 0) (dCons (dC (.ty "bool")) (dNil)))))))
-- is_worth: slots 0 thing, 1 one,
def w_is_worth (e : Env) : SpD := wpf 1 1
    (sRet (dAndV (dCB (rIsiE e.ic fun _ _ _ => False) (dCons (dVar 0) (dCons (dC (.ty "tuple")) (dNil)))) (dAndV (dChn (dC (.int 1)) (dLink (dCmpI fun i j => decide (i ≤ j)) (dCB rLen (dCons (dVar 0) (dNil))) (dLast (dCmpI fun i j => decide (i ≤ j)) (dC (.int 4))))) (dCB (rAllD fun bs => bs.all id) (dCons (dLcV (jSeq (dVar 0)) (.one 1) (dYes) (dCall (w_is_whole e) [] (dCons (dVar 1) (dNil))) [1]) (dNil))))))
-- are_pairs: slots 0 thing, 1 none, 2 one,
def l_are_pairs_1 (e : Env) : TDS :=
    (sSeq (sIf (dOr (dNot (dTru (dCB (rIsiE e.ic fun _ _ _ => False) (dCons (dVar 2) (dCons (dC (.ty "tuple")) (dNil)))))) (dOr (dTest (dOp (dEqX true) (dCB rLen (dCons (dVar 2) (dNil))) (dC (.int 2)))) (dNot (dTru (dCall (w_is_key e) [] (dCons (dOp dIx (dVar 2) (dC (.int 0))) (dNil)))))))
    (sRet (dC (.bl false)))
    (sNext))
    (sIf (dAnd (dNot (dTru (dCall (w_is_worth e) [] (dCons (dOp dIx (dVar 2) (dC (.int 1))) (dNil))))) (dNot (dAnd (dTru (dVar 1)) (dTest (dOp (dIsX false) (dOp dIx (dVar 2) (dC (.int 1))) (dC .non))))))
    (sRet (dC (.bl false)))
    (sNext)))
def w_are_pairs (e : Env) : SpD := wpf 2 1
    (sSeq (sIf (dNot (dTru (dCB (rIsiE e.ic fun _ _ _ => False) (dCons (dVar 0) (dCons (dC (.ty "list")) (dNil))))))
    (sRet (dC (.bl false)))
    (sNext))
    (sSeq (sFor (jSeq (dVar 0)) (.one 2)
    (l_are_pairs_1 e))
    (sRet (dOp (dEqX false) (dLenSc (jSeq (dVar 0)) (.one 2) (dYes) (dOp dIx (dVar 2) (dC (.int 0))) [2]) (dCB rLen (dCons (dVar 0) (dNil)))))))
-- is_stamp: slots 0 thing, 1 one,
def w_is_stamp (e : Env) : SpD := wpf 1 1
    (sSeq (sIf (dOr (dNot (dTru (dCB (rIsiE e.ic fun _ _ _ => False) (dCons (dVar 0) (dCons (dC (.ty "tuple")) (dNil)))))) (dOr (dTest (dOp (dEqX true) (dCB rLen (dCons (dVar 0) (dNil))) (dC (.int 3)))) (dNot (dTru (dCB (rAllD fun bs => bs.all id) (dCons (dLcV (jSeq (dVar 0)) (.one 1) (dYes) (dCall (w_is_whole e) [] (dCons (dVar 1) (dNil))) [1]) (dNil)))))))
    (sRet (dC (.bl false)))
    (sNext))
    (sRet (dAndV (dOp (dCmpI fun i j => decide (j ≤ i)) (dOp dIx (dVar 0) (dC (.int 1))) (dC (.int 0))) (dOp (dCmpI fun i j => decide (j ≤ i)) (dOp dIx (dVar 0) (dC (.int 2))) (dC (.int 0))))))
-- is_dealing: slots 0 thing, 1 one,
def w_is_dealing (e : Env) : SpD := wpf 1 1
    (sSeq (sIf (dOr (dTest (dOp (dEqX true) (dCB rLen (dCons (dVar 0) (dNil))) (dC (.int 7)))) (dOr (dNot (dTru (dCB (rAllD fun bs => bs.all id) (dCons (dLcV (jSeq (dSliceV (dVar 0) (oSome (dC (.int 1))) (oSome (dC (.int 4))))) (.one 1) (dYes) (dCall (w_is_whole e) [] (dCons (dVar 1) (dNil))) [1]) (dNil))))) (dNot (dTru (dCall (w_is_stamp e) [] (dCons (dOp dIx (dVar 0) (dC (.int 4))) (dNil)))))))
    (sRet (dC (.bl false)))
    (sNext))
    (sRet (dAndV (dOp (dCmpI fun i j => decide (i ≤ j)) (dOp dIx (dVar 0) (dC (.int 2))) (dOp dIx (dVar 0) (dC (.int 3)))) (dAndV (dCall (w_are_pairs e) [] (dCons (dOp dIx (dVar 0) (dC (.int 5))) (dCons (dC (.bl true)) (dNil)))) (dCall (w_are_pairs e) [] (dCons (dOp dIx (dVar 0) (dC (.int 6))) (dCons (dC (.bl false)) (dNil))))))))
-- is_form: slots 0 thing,
def w_is_form (e : Env) : SpD := wpf 1 0
    (sRet (dAndV (dOp (dEqX false) (dCB rLen (dCons (dVar 0) (dNil))) (dC (.int 3))) (dAndV (dCall (w_is_whole e) [] (dCons (dOp dIx (dVar 0) (dC (.int 1))) (dNil))) (dAndV (dCall (w_is_whole e) [] (dCons (dOp dIx (dVar 0) (dC (.int 2))) (dNil))) (dChn (dC (.int 1)) (dLink (dCmpI fun i j => decide (i ≤ j)) (dOp dIx (dVar 0) (dC (.int 2))) (dLast (dCmpI fun i j => decide (i ≤ j)) (dC (.int 4)))))))))
-- is_reading: slots 0 thing,
def w_is_reading (e : Env) : SpD := wpf 1 0
    (sSeq (sIf (dOr (dTest (dOp (dEqX true) (dCB rLen (dCons (dVar 0) (dNil))) (dC (.int 5)))) (dOr (dNot (dTru (dCall (w_is_whole e) [] (dCons (dOp dIx (dVar 0) (dC (.int 1))) (dNil))))) (dOr (dNot (dTru (dCall (w_is_whole e) [] (dCons (dOp dIx (dVar 0) (dC (.int 2))) (dNil))))) (dNot (dTru (dCall (w_is_key e) [] (dCons (dOp dIx (dVar 0) (dC (.int 3))) (dNil))))))))
    (sRet (dC (.bl false)))
    (sNext))
    (sRet (dOrV (dOp (dIsX false) (dOp dIx (dVar 0) (dC (.int 4))) (dC .non)) (dCall (w_is_worth e) [] (dCons (dOp dIx (dVar 0) (dC (.int 4))) (dNil))))))
-- is_told: slots 0 thing, 1 look,
def w_is_told (e : Env) : SpD := wpf 1 1
    (sSeq (sIf (dOr (dNot (dTru (dCB (rIsiE e.ic fun _ _ _ => False) (dCons (dVar 0) (dCons (dC (.ty "tuple")) (dNil)))))) (dOr (dTest (dOp (dEqX false) (dCB rLen (dCons (dVar 0) (dNil))) (dC (.int 0)))) (dOr (dNot (dTru (dCB (rIsiE e.ic fun _ _ _ => False) (dCons (dOp dIx (dVar 0) (dC (.int 0))) (dCons (dC (.ty "str")) (dNil)))))) (dTest (dKIn true (tbl_LOOKS e) (dOp dIx (dVar 0) (dC (.int 0))))))))
    (sRet (dC (.bl false)))
    (sNext))
    (sSeq (sSet 1 (dKGet (tbl_LOOKS e) (dOp dIx (dVar 0) (dC (.int 0)))))
    (sRet (dCallL [(e.F_is_dealing, w_is_dealing e), (e.F_is_form, w_is_form e), (e.F_is_reading, w_is_reading e)] 1 (dCons (dVar 0) (dNil))))))
-- reads_fit: slots 0 dealings, 1 one, 2 stamp, 3 key, 4 worth,
def l_reads_fit_1 (e : Env) : TDS :=
    (sIf (dTest (dOp (dEqX true) (dVar 4) (dCallLam e.P_reads_fit (qlam "reads_fit") 2 (fun v => w_newest_below e v (dOp dLtD (dVar 0) (dVar 1))) (dVar 0) (dVar 3))))
    (sRet (dC (.bl false)))
    (sNext))
def w_reads_fit (e : Env) : SpD := wpf 2 3
    (sSeq (sSet 2 (dOp dIx (dVar 1) (dC (.int 4))))
    (sSeq (sFor (jSeq (dOp dIx (dVar 1) (dC (.int 5)))) (.many [3, 4])
    (l_reads_fit_1 e))
    (sRet (dC (.bl true)))))
-- is_ordered: slots 0 thing, 1 dealings, 2 readings, 3 one,
def w_is_ordered (e : Env) : SpD := wpf 1 3
    (sSeq (sIf (dOr (dNot (dTru (dCB (rIsiE e.ic fun _ _ _ => False) (dCons (dVar 0) (dCons (dC (.ty "list")) (dNil)))))) (dNot (dTru (dCB (rAllD fun bs => bs.all id) (dCons (dLcV (jSeq (dVar 0)) (.one 3) (dYes) (dCall (w_is_told e) [] (dCons (dVar 3) (dNil))) [3]) (dNil))))))
    (sRet (dC (.bl false)))
    (sNext))
    (sSeq (sSet 1 (dCall (w_of_word e) [] (dCons (dVar 0) (dCons (dC (.str "dealing")) (dNil)))))
    (sSeq (sIf (dOr (dTest (dOp dLtD (dLenSc (jSeq (dVar 1)) (.one 3) (dYes) (dOp dIx (dVar 3) (dC (.int 1))) [3]) (dCB rLen (dCons (dVar 1) (dNil))))) (dTest (dOp dLtD (dLenTs (jSeq (dVar 1)) (.one 3) (dYes) (dOp dIx (dVar 3) (dC (.int 4))) [3]) (dCB rLen (dCons (dVar 1) (dNil))))))
    (sRet (dC (.bl false)))
    (sNext))
    (sSeq (sIf (dOr (dNot (dTru (dCall (w_go_as_time e) [] (dCons (dVar 1) (dNil))))) (dNot (dTru (dCB (rAllD fun bs => bs.all id) (dCons (dLcV (jSeq (dVar 1)) (.one 3) (dYes) (dCall (w_reads_fit e) [] (dCons (dVar 1) (dCons (dVar 3) (dNil)))) [3]) (dNil))))))
    (sRet (dC (.bl false)))
    (sNext))
    (sSeq (sSet 2 (dOp dAddV (dCall (w_of_word e) [] (dCons (dVar 0) (dCons (dC (.str "read")) (dNil)))) (dCall (w_of_word e) [] (dCons (dVar 0) (dCons (dC (.str "now")) (dNil))))))
    (sRet (dCB (rAllD fun bs => bs.all id) (dCons (dLcV (jSeq (dVar 2)) (.one 3) (dYes) (dCall (w_reading_fits e) [] (dCons (dVar 0) (dCons (dVar 1) (dCons (dVar 3) (dNil))))) [3]) (dNil)))))))))
-- _law_fixed_right: slots 0 _law_deal, 1 _law_some, 2 _law_forms, 3 _law_one,
def w_law_fixed_right (e : Env) : SpD := wpf 0 4
    (sSeq (sSet 0 (dTup (dCons (dC (.str "dealing")) (dCons (dC (.int 1)) (dCons (dC (.int 0)) (dCons (dC (.int 4)) (dCons (dTup (dCons (dC (.int 9)) (dCons (dC (.int 1)) (dCons (dC (.int 0)) (dNil))))) (dCons (dLstV (dNil)) (dCons (dLstV (dCons (dTup (dCons (dC (.str "a")) (dCons (dTup (dCons (dC (.int 1)) (dCons (dC (.int 2)) (dCons (dC (.int 3)) (dNil))))) (dNil)))) (dNil))) (dNil))))))))))
    (sSeq (sSet 1 (dLst (dCons (dLstV (dCons (dVar 0) (dCons (dTup (dCons (dC (.str "now")) (dCons (dC (.int 4)) (dCons (dC (.int 8)) (dCons (dC (.str "a")) (dCons (dC .non) (dNil))))))) (dNil)))) (dCons (dLstV (dCons (dVar 0) (dCons (dTup (dCons (dC (.str "now")) (dCons (dC (.int 3)) (dCons (dC (.int 8)) (dCons (dC (.str "a")) (dCons (dC .non) (dNil))))))) (dNil)))) (dCons (dLstV (dCons (dVar 0) (dCons (dTup (dCons (dC (.str "now")) (dCons (dC (.int 4)) (dCons (dC (.int 9)) (dCons (dC (.str "a")) (dCons (dTup (dCons (dC (.int 1)) (dCons (dC (.int 2)) (dCons (dC (.int 3)) (dNil))))) (dNil))))))) (dNil)))) (dNil))))))
    (sSeq (sSet 2 (dLstV (dCons (dTup (dCons (dC (.str "form")) (dCons (dC (.int 9)) (dCons (dC (.int 1)) (dNil))))) (dCons (dTup (dCons (dC (.str "form")) (dCons (dC (.int 9)) (dCons (dC (.int 2)) (dNil))))) (dNil)))))
    (sSeq (sSet 1 (dOp dAdd (dVar 1) (dLst (dCons (dOp dAddV (dOp dAddV (dLstV (dCons (dVar 0) (dNil))) (dVar 2)) (dLstV (dCons (dTup (dCons (dC (.str "read")) (dCons (dC (.int 0)) (dCons (dC (.int 9)) (dCons (dC (.str "a")) (dCons (dTup (dCons (dC (.int 1)) (dCons (dC (.int 2)) (dNil)))) (dNil))))))) (dNil)))) (dCons (dOp dAddV (dOp dAddV (dLstV (dCons (dVar 0) (dNil))) (dRevV (dVar 2))) (dLstV (dCons (dTup (dCons (dC (.str "read")) (dCons (dC (.int 0)) (dCons (dC (.int 9)) (dCons (dC (.str "a")) (dCons (dTup (dCons (dC (.int 1)) (dNil))) (dNil))))))) (dNil)))) (dNil))))))
    (sSeq (sDrop (dApp (dVar 1) (dCons (dOp dAddV (dOp dAddV (dLstV (dCons (dVar 0) (dNil))) (dVar 2)) (dLstV (dCons (dTup (dCons (dC (.str "read")) (dCons (dC (.int 0)) (dCons (dC (.int 9)) (dCons (dC (.str "a")) (dCons (dTup (dCons (dC (.int 1)) (dNil))) (dNil))))))) (dNil)))) (dNil))))
    (sSeq (sDrop (dApp (dVar 1) (dCons (dLstV (dCons (dTup (dCons (dC (.str "dealing")) (dCons (dUn dNeg (dC (.int 7))) (dCons (dUn dNeg (dC (.int 9))) (dCons (dUn dNeg (dC (.int 9))) (dCons (dTup (dCons (dUn dNeg (dC (.int 3))) (dCons (dC (.int 0)) (dCons (dC (.int 0)) (dNil))))) (dCons (dLstV (dNil)) (dCons (dLstV (dCons (dTup (dCons (dC (.str "a")) (dCons (dTup (dCons (dC (.int 5)) (dNil))) (dNil)))) (dNil))) (dNil))))))))) (dCons (dTup (dCons (dC (.str "read")) (dCons (dUn dNeg (dC (.int 1))) (dCons (dUn dNeg (dC (.int 2))) (dCons (dC (.str "a")) (dCons (dTup (dCons (dC (.int 5)) (dNil))) (dNil))))))) (dCons (dVar 0) (dNil))))) (dNil))))
    (sRet (dOp (dEqX false) (dLcV (jSeq (dVar 1)) (.one 3) (dYes) (dCall (w_is_ordered e) [] (dCons (dVar 3) (dNil))) [3]) (dLstV (dCons (dC (.bl false)) (dCons (dC (.bl true)) (dCons (dC (.bl true)) (dCons (dC (.bl true)) (dCons (dC (.bl true)) (dCons (dC (.bl false)) (dCons (dC (.bl true)) (dNil)))))))))))))))))
-- _law_bent_deal: slots 0 _law_state, 1 _law_one, 2 _law_word, 3 _law_number, 4 _law_begun_here, 5 _law_told, 6 _law_stamp, 7 _law_reads_here, 8 _law_writes, 9 _law_way, 10 _law_key, 11 _law_worth,
def w_law_bent_deal (e : Env) : SpD := wpf 2 10
    (sSeq (sUnp [2, 3, 4, 5, 6, 7, 8] (dVar 1))
    (sSeq (sSet 9 (dCall (w_law_take e) [] (dCons (dVar 0) (dCons (dC (.int 10)) (dNil)))))
    (sSeq (sIf (dTest (dOp (dEqX false) (dVar 9) (dC (.int 0))))
    (sRet (dTup (dCons (dVar 2) (dCons (dVar 3) (dCons (dVar 4) (dCons (dVar 5) (dCons (dTup (dCons (dOp dSub (dOp dAddV (dOp dIx (dVar 6) (dC (.int 0))) (dCall (w_law_take e) [] (dCons (dVar 0) (dCons (dC (.int 7)) (dNil))))) (dC (.int 3))) (dCons (dOp dIx (dVar 6) (dC (.int 1))) (dCons (dOp dIx (dVar 6) (dC (.int 2))) (dNil))))) (dCons (dVar 7) (dCons (dVar 8) (dNil))))))))))
    (sNext))
    (sSeq (sIf (dTest (dOp (dEqX false) (dVar 9) (dC (.int 1))))
    (sRet (dTup (dCons (dVar 2) (dCons (dVar 3) (dCons (dVar 4) (dCons (dVar 5) (dCons (dTup (dCons (dOp dIx (dVar 6) (dC (.int 0))) (dCons (dCB rMax2 (dCons (dC (.int 0)) (dCons (dOp dSub (dOp dIx (dVar 6) (dC (.int 1))) (dCall (w_law_take e) [] (dCons (dVar 0) (dCons (dC (.int 3)) (dNil))))) (dNil)))) (dCons (dC (.int 0)) (dNil))))) (dCons (dVar 7) (dCons (dVar 8) (dNil))))))))))
    (sNext))
    (sSeq (sIf (dTest (dOp (dEqX false) (dVar 9) (dC (.int 2))))
    (sRet (dTup (dCons (dVar 2) (dCons (dVar 3) (dCons (dCB rMax2 (dCons (dC (.int 0)) (dCons (dOp dSub (dVar 4) (dCall (w_law_take e) [] (dCons (dVar 0) (dCons (dC (.int 9)) (dNil))))) (dNil)))) (dCons (dVar 5) (dCons (dVar 6) (dCons (dVar 7) (dCons (dVar 8) (dNil))))))))))
    (sNext))
    (sSeq (sIf (dTest (dOp (dEqX false) (dVar 9) (dC (.int 3))))
    (sRet (dTup (dCons (dVar 2) (dCons (dVar 3) (dCons (dVar 4) (dCons (dOp dSub (dVar 5) (dCall (w_law_take e) [] (dCons (dVar 0) (dCons (dC (.int 4)) (dNil))))) (dCons (dVar 6) (dCons (dVar 7) (dCons (dVar 8) (dNil))))))))))
    (sNext))
    (sSeq (sIf (dTest (dOp (dEqX false) (dVar 9) (dC (.int 4))))
    (sRet (dTup (dCons (dVar 2) (dCons (dVar 3) (dCons (dVar 4) (dCons (dVar 5) (dCons (dVar 6) (dCons (dOp dAddV (dVar 7) (dLstV (dCons (dTup (dCons (dC (.str "a")) (dCons (dTup (dCons (dCall (w_law_take e) [] (dCons (dVar 0) (dCons (dC (.int 9)) (dNil)))) (dNil))) (dNil)))) (dNil)))) (dCons (dVar 8) (dNil))))))))))
    (sNext))
    (sSeq (sIf (dTest (dOp (dEqX false) (dVar 9) (dC (.int 5))))
    (sRet (dTup (dCons (dVar 2) (dCons (dVar 3) (dCons (dVar 4) (dCons (dVar 5) (dCons (dVar 6) (dCons (dSliceV (dVar 7) (oSome (dC (.int 1))) (oNone)) (dCons (dVar 8) (dNil))))))))))
    (sNext))
    (sSeq (sIf (dTest (dOp (dEqX false) (dVar 9) (dC (.int 6))))
    (sRet (dTup (dCons (dVar 2) (dCons (dVar 3) (dCons (dVar 4) (dCons (dVar 5) (dCons (dVar 6) (dCons (dVar 7) (dCons (dOp dAddV (dVar 8) (dLstV (dCons (dTup (dCons (dC (.str "d")) (dCons (dTup (dCons (dC (.int 7)) (dCons (dC (.int 7)) (dNil)))) (dNil)))) (dNil)))) (dNil))))))))))
    (sNext))
    (sSeq (sIf (dTest (dOp (dEqX false) (dVar 9) (dC (.int 7))))
    (sRet (dTup (dCons (dVar 2) (dCons (dVar 3) (dCons (dVar 4) (dCons (dVar 5) (dCons (dVar 6) (dCons (dLcV (jSeq (dVar 7)) (.many [10, 11]) (dYes) (dTup (dCons (dVar 10) (dCons (dC .non) (dNil)))) [10, 11]) (dCons (dVar 8) (dNil))))))))))
    (sNext))
    (sSeq (sIf (dTest (dOp (dEqX false) (dVar 9) (dC (.int 8))))
    (sRet (dTup (dCons (dVar 2) (dCons (dVar 3) (dCons (dVar 4) (dCons (dOp dAddV (dVar 5) (dC (.int 40))) (dCons (dVar 6) (dCons (dVar 7) (dCons (dVar 8) (dNil))))))))))
    (sNext))
    (sRet (dTup (dCons (dVar 2) (dCons (dVar 3) (dCons (dVar 4) (dCons (dVar 5) (dCons (dVar 6) (dCons (dVar 7) (dCons (dRevV (dVar 8)) (dNil)))))))))))))))))))))
-- _law_bent: slots 0 _law_state, 1 _law_history_here, 2 _law_at, 3 _law_one, 4 _law_way, 5 _law_worth,
def w_law_bent (e : Env) : SpD := wpf 2 4
    (sSeq (sIf (dTest (dOp (dEqX false) (dVar 1) (dLstV (dNil))))
    (sRet (dVar 1))
    (sNext))
    (sSeq (sSet 2 (dCall (w_law_take e) [] (dCons (dVar 0) (dCons (dCB rLen (dCons (dVar 1) (dNil))) (dNil)))))
    (sSeq (sSet 3 (dOp dIx (dVar 1) (dVar 2)))
    (sSeq (sSet 4 (dCall (w_law_take e) [] (dCons (dVar 0) (dCons (dC (.int 5)) (dNil)))))
    (sSeq (sIf (dTest (dOp (dEqX false) (dVar 4) (dC (.int 0))))
    (sRet (dOp dAddV (dSliceV (dVar 1) (oNone) (oSome (dVar 2))) (dSliceV (dVar 1) (oSome (dOp dAddV (dVar 2) (dC (.int 1)))) (oNone))))
    (sNext))
    (sSeq (sIf (dTest (dOp (dEqX false) (dVar 4) (dC (.int 1))))
    (sRet (dOp dAddV (dOp dAddV (dSliceV (dVar 1) (oNone) (oSome (dVar 2))) (dLstV (dCons (dVar 3) (dNil)))) (dSliceV (dVar 1) (oSome (dVar 2)) (oNone))))
    (sNext))
    (sSeq (sIf (dTest (dOp (dEqX false) (dVar 4) (dC (.int 2))))
    (sRet (dRevV (dVar 1)))
    (sNext))
    (sSeqJ (sIf (dTest (dOp (dEqX false) (dOp dIx (dVar 3) (dC (.int 0))) (dC (.str "dealing"))))
    (sSet 3 (dCall (w_law_bent_deal e) [] (dCons (dVar 0) (dCons (dVar 3) (dNil)))))
    (sIf (dTest (dOp (dEqX false) (dOp dIx (dVar 3) (dC (.int 0))) (dC (.str "form"))))
    (sSet 3 (dTup (dCons (dC (.str "form")) (dCons (dOp dSub (dOp dAddV (dOp dIx (dVar 3) (dC (.int 1))) (dCall (w_law_take e) [] (dCons (dVar 0) (dCons (dC (.int 5)) (dNil))))) (dC (.int 2))) (dCons (dOp dAddV (dC (.int 1)) (dCall (w_law_take e) [] (dCons (dVar 0) (dCons (dC (.int 4)) (dNil))))) (dNil))))))
    (sSeq (sSet 5 (dOp dIx (dLstV (dCons (dOp dIx (dVar 3) (dC (.int 4))) (dCons (dC .non) (dCons (dTup (dCons (dCall (w_law_take e) [] (dCons (dVar 0) (dCons (dC (.int 9)) (dNil)))) (dNil))) (dNil))))) (dCall (w_law_take e) [] (dCons (dVar 0) (dCons (dC (.int 3)) (dNil))))))
    (sSet 3 (dTup (dCons (dOp dIx (dLstV (dCons (dC (.str "read")) (dCons (dC (.str "now")) (dNil)))) (dCall (w_law_take e) [] (dCons (dVar 0) (dCons (dC (.int 2)) (dNil))))) (dCons (dOp dIx (dVar 3) (dC (.int 1))) (dCons (dOp dSub (dOp dAddV (dOp dIx (dVar 3) (dC (.int 2))) (dCall (w_law_take e) [] (dCons (dVar 0) (dCons (dC (.int 5)) (dNil))))) (dC (.int 2))) (dCons (dOp dIx (dVar 3) (dC (.int 3))) (dCons (dVar 5) (dNil)))))))))))
    (sRet (dOp dAddV (dOp dAddV (dSliceV (dVar 1) (oNone) (oSome (dVar 2))) (dLstV (dCons (dVar 3) (dNil)))) (dSliceV (dVar 1) (oSome (dOp dAddV (dVar 2) (dC (.int 1)))) (oNone))))))))))))
-- _law_reading_fits: slots 0 _law_history_here, 1 _law_deals, 2 _law_one, 3 _law_word, 4 _law_asked, 5 _law_time, 6 _law_key, 7 _law_worth, 8 _law_newest, 9 _law_late, 10 _law_deal,
def w_law_reading_fits (e : Env) : SpD := wpf 3 8
    (sSeq (sUnp [3, 4, 5, 6, 7] (dVar 2))
    (sSeq (sSet 8 (dCall (w_law_worth_of e) [] (dCons (dVar 1) (dCons (dVar 6) (dCons (dTup (dCons (dOp dAddV (dVar 5) (dC (.int 1))) (dCons (dUn dNeg (dC (.int 1))) (dCons (dUn dNeg (dC (.int 1))) (dNil))))) (dNil))))))
    (sSeq (sIf (dTest (dOp (dEqX true) (dVar 7) (dCall (w_law_formed e) [] (dCons (dVar 8) (dCons (dCall (w_law_fields e) [] (dCons (dVar 0) (dCons (dVar 5) (dNil)))) (dNil))))))
    (sRet (dC (.bl false)))
    (sNext))
    (sSeq (sSet 9 (dLcV (jSeq (dVar 1)) (.one 10) (dAnd (dTest (dOp (dCmpI fun i j => decide (i ≤ j)) (dOp dIx (dVar 10) (dC (.int 3))) (dVar 4))) (dTest (dOp (dCmpI fun i j => decide (j < i)) (dOp dIx (dOp dIx (dVar 10) (dC (.int 4))) (dC (.int 0))) (dVar 5)))) (dVar 10) [10]))
    (sRet (dOrV (dOp (dEqX false) (dVar 3) (dC (.str "read"))) (dOp (dEqX false) (dVar 9) (dLstV (dNil)))))))))
-- _law_is_key: slots 0 _law_thing, 1 _law_sign,
def w_law_is_key (e : Env) : SpD := wpf 1 1
    (sSeq (sIf (dOr (dNot (dTru (dCB (rIsiE e.ic fun _ _ _ => False) (dCons (dVar 0) (dCons (dC (.ty "str")) (dNil)))))) (dNot (dChnT (dC (.int 1)) (dLink (dCmpI fun i j => decide (i ≤ j)) (dCB rLen (dCons (dVar 0) (dNil))) (dLast (dCmpI fun i j => decide (i ≤ j)) (dC (.int 6)))))))
    (sRet (dC (.bl false)))
    (sNext))
    (sRet (dOp (dEqX false) (dLcV (jStr (dVar 0)) (.one 1) (dNot (dChnT (dC (.str "a")) (dLink dLeX (dVar 1) (dLast dLeX (dC (.str "z")))))) (dVar 1) [1]) (dLstV (dNil)))))
-- _law_whole: slots 0 _law_thing,
def w_law_whole (e : Env) : SpD := wpf 1 0
    (sRet (dAndV (dCB (rIsiE e.ic fun _ _ _ => False) (dCons (dVar 0) (dCons (dC (.ty "int")) (dNil)))) (dNotV (dCB (rIsiE e.ic fun _ _ _ => False) (dCons (dVar 0) (dCons (dC (.ty "bool")) (dNil)))))))
-- _law_is_worth: slots 0 _law_thing, 1 _law_one,
def w_law_is_worth (e : Env) : SpD := wpf 1 1
    (sRet (dAndV (dCB (rIsiE e.ic fun _ _ _ => False) (dCons (dVar 0) (dCons (dC (.ty "tuple")) (dNil)))) (dAndV (dChn (dC (.int 1)) (dLink (dCmpI fun i j => decide (i ≤ j)) (dCB rLen (dCons (dVar 0) (dNil))) (dLast (dCmpI fun i j => decide (i ≤ j)) (dC (.int 4))))) (dOp (dEqX false) (dLcV (jSeq (dVar 0)) (.one 1) (dNot (dTru (dCall (w_law_whole e) [] (dCons (dVar 1) (dNil))))) (dVar 1) [1]) (dLstV (dNil))))))
-- _law_are_pairs: slots 0 _law_thing, 1 _law_or_none, 2 _law_one,
def l_law_are_pairs_1 (e : Env) : TDS :=
    (sSeq (sIf (dOr (dNot (dTru (dCB (rIsiE e.ic fun _ _ _ => False) (dCons (dVar 2) (dCons (dC (.ty "tuple")) (dNil)))))) (dOr (dTest (dOp (dEqX true) (dCB rLen (dCons (dVar 2) (dNil))) (dC (.int 2)))) (dNot (dTru (dCall (w_law_is_key e) [] (dCons (dOp dIx (dVar 2) (dC (.int 0))) (dNil)))))))
    (sRet (dC (.bl false)))
    (sNext))
    (sIf (dAnd (dNot (dTru (dCall (w_law_is_worth e) [] (dCons (dOp dIx (dVar 2) (dC (.int 1))) (dNil))))) (dNot (dAnd (dTru (dVar 1)) (dTest (dOp (dIsX false) (dOp dIx (dVar 2) (dC (.int 1))) (dC .non))))))
    (sRet (dC (.bl false)))
    (sNext)))
def w_law_are_pairs (e : Env) : SpD := wpf 2 1
    (sSeq (sIf (dNot (dTru (dCB (rIsiE e.ic fun _ _ _ => False) (dCons (dVar 0) (dCons (dC (.ty "list")) (dNil))))))
    (sRet (dC (.bl false)))
    (sNext))
    (sSeq (sFor (jSeq (dVar 0)) (.one 2)
    (l_law_are_pairs_1 e))
    (sRet (dOp (dEqX false) (dLenSetK (dLcV (jSeq (dVar 0)) (.one 2) (dYes) (dOp dIx (dVar 2) (dC (.int 0))) [2])) (dCB rLen (dCons (dVar 0) (dNil)))))))
-- _law_is_stamp: slots 0 _law_thing, 1 _law_one,
def w_law_is_stamp (e : Env) : SpD := wpf 1 1
    (sSeq (sIf (dOr (dNot (dTru (dCB (rIsiE e.ic fun _ _ _ => False) (dCons (dVar 0) (dCons (dC (.ty "tuple")) (dNil)))))) (dOr (dTest (dOp (dEqX true) (dCB rLen (dCons (dVar 0) (dNil))) (dC (.int 3)))) (dTest (dOp (dEqX true) (dLcV (jSeq (dVar 0)) (.one 1) (dNot (dTru (dCall (w_law_whole e) [] (dCons (dVar 1) (dNil))))) (dVar 1) [1]) (dLstV (dNil))))))
    (sRet (dC (.bl false)))
    (sNext))
    (sRet (dOp (dCmpI fun i j => decide (j ≤ i)) (dCB rMinT (dCons (dSliceV (dVar 0) (oSome (dC (.int 1))) (oNone)) (dNil))) (dC (.int 0)))))
-- _law_is_told: slots 0 _law_thing, 1 _law_one,
def w_law_is_told (e : Env) : SpD := wpf 1 1
    (sSeq (sIf (dOr (dNot (dTru (dCB (rIsiE e.ic fun _ _ _ => False) (dCons (dVar 0) (dCons (dC (.ty "tuple")) (dNil)))))) (dOr (dTest (dOp (dEqX false) (dVar 0) (dTup (dNil)))) (dNot (dTru (dCB (rIsiE e.ic fun _ _ _ => False) (dCons (dOp dIx (dVar 0) (dC (.int 0))) (dCons (dC (.ty "str")) (dNil))))))))
    (sRet (dC (.bl false)))
    (sNext))
    (sSeq (sIf (dAnd (dTest (dOp (dEqX false) (dOp dIx (dVar 0) (dC (.int 0))) (dC (.str "dealing")))) (dTest (dOp (dEqX false) (dCB rLen (dCons (dVar 0) (dNil))) (dC (.int 7)))))
    (sSeq (sIf (dOr (dTest (dOp (dEqX true) (dLcV (jSeq (dSliceV (dVar 0) (oSome (dC (.int 1))) (oSome (dC (.int 4))))) (.one 1) (dNot (dTru (dCall (w_law_whole e) [] (dCons (dVar 1) (dNil))))) (dVar 1) [1]) (dLstV (dNil)))) (dNot (dTru (dCall (w_law_is_stamp e) [] (dCons (dOp dIx (dVar 0) (dC (.int 4))) (dNil))))))
    (sRet (dC (.bl false)))
    (sNext))
    (sRet (dAndV (dOp (dCmpI fun i j => decide (i ≤ j)) (dOp dIx (dVar 0) (dC (.int 2))) (dOp dIx (dVar 0) (dC (.int 3)))) (dAndV (dCall (w_law_are_pairs e) [] (dCons (dOp dIx (dVar 0) (dC (.int 5))) (dCons (dC (.bl true)) (dNil)))) (dCall (w_law_are_pairs e) [] (dCons (dOp dIx (dVar 0) (dC (.int 6))) (dCons (dC (.bl false)) (dNil))))))))
    (sNext))
    (sSeq (sIf (dAnd (dTest (dOp (dEqX false) (dOp dIx (dVar 0) (dC (.int 0))) (dC (.str "form")))) (dTest (dOp (dEqX false) (dCB rLen (dCons (dVar 0) (dNil))) (dC (.int 3)))))
    (sRet (dAndV (dCall (w_law_whole e) [] (dCons (dOp dIx (dVar 0) (dC (.int 1))) (dNil))) (dAndV (dCall (w_law_whole e) [] (dCons (dOp dIx (dVar 0) (dC (.int 2))) (dNil))) (dChn (dC (.int 1)) (dLink (dCmpI fun i j => decide (i ≤ j)) (dOp dIx (dVar 0) (dC (.int 2))) (dLast (dCmpI fun i j => decide (i ≤ j)) (dC (.int 4))))))))
    (sNext))
    (sSeq (sIf (dAnd (dTest (dOp (dInT false) (dOp dIx (dVar 0) (dC (.int 0))) (dTup (dCons (dC (.str "read")) (dCons (dC (.str "now")) (dNil)))))) (dTest (dOp (dEqX false) (dCB rLen (dCons (dVar 0) (dNil))) (dC (.int 5)))))
    (sSeq (sIf (dOr (dNot (dTru (dCall (w_law_whole e) [] (dCons (dOp dIx (dVar 0) (dC (.int 1))) (dNil))))) (dOr (dNot (dTru (dCall (w_law_whole e) [] (dCons (dOp dIx (dVar 0) (dC (.int 2))) (dNil))))) (dNot (dTru (dCall (w_law_is_key e) [] (dCons (dOp dIx (dVar 0) (dC (.int 3))) (dNil)))))))
    (sRet (dC (.bl false)))
    (sNext))
    (sRet (dOrV (dOp (dIsX false) (dOp dIx (dVar 0) (dC (.int 4))) (dC .non)) (dCall (w_law_is_worth e) [] (dCons (dOp dIx (dVar 0) (dC (.int 4))) (dNil))))))
    (sNext))
    (sRet (dC (.bl false)))))))
-- _law_is_ordered: slots 0 _law_thing, 1 _law_deals, 2 _law_numbers, 3 _law_stamps, 4 _law_one, 5 _law_some, 6 _law_other, 7 _law_key, 8 _law_worth,
def l_law_is_ordered_1 (e : Env) : TDS :=
    (sSeq (sIf (dTest (dOp (dEqX true) (dLcV (jSeq (dVar 1)) (.one 6) (dAnd (dTest (dOp (dEqX true) (dVar 6) (dVar 4))) (dAnd (dTest (dOp (dCmpI fun i j => decide (i ≤ j)) (dOp dIx (dVar 4) (dC (.int 3))) (dOp dIx (dVar 6) (dC (.int 2))))) (dTest (dOp (dCmpT (fun i j => decide (j ≤ i)) fun ns ms => !PySem.W.listLt ns ms) (dOp dIx (dVar 4) (dC (.int 4))) (dOp dIx (dVar 6) (dC (.int 4))))))) (dVar 6) [6]) (dLstV (dNil))))
    (sRet (dC (.bl false)))
    (sNext))
    (sIf (dTest (dOp (dEqX true) (dLcV (jSeq (dOp dIx (dVar 4) (dC (.int 5)))) (.many [7, 8]) (dTest (dOp (dEqX true) (dVar 8) (dCall (w_law_worth_of e) [] (dCons (dVar 1) (dCons (dVar 7) (dCons (dOp dIx (dVar 4) (dC (.int 4))) (dNil))))))) (dVar 7) [7, 8]) (dLstV (dNil))))
    (sRet (dC (.bl false)))
    (sNext)))
def w_law_is_ordered (e : Env) : SpD := wpf 1 8
    (sSeq (sIf (dOr (dNot (dTru (dCB (rIsiE e.ic fun _ _ _ => False) (dCons (dVar 0) (dCons (dC (.ty "list")) (dNil)))))) (dTest (dOp (dEqX true) (dLcV (jSeq (dVar 0)) (.one 4) (dNot (dTru (dCall (w_law_is_told e) [] (dCons (dVar 4) (dNil))))) (dVar 4) [4]) (dLstV (dNil)))))
    (sRet (dC (.bl false)))
    (sNext))
    (sSeq (sSet 1 (dLcV (jSeq (dVar 0)) (.one 4) (dTest (dOp (dEqX false) (dOp dIx (dVar 4) (dC (.int 0))) (dC (.str "dealing")))) (dVar 4) [4]))
    (sSeq (sSet 2 (dLcV (jSeq (dVar 1)) (.one 4) (dYes) (dOp dIx (dVar 4) (dC (.int 1))) [4]))
    (sSeq (sSet 3 (dLcV (jSeq (dVar 1)) (.one 4) (dYes) (dOp dIx (dVar 4) (dC (.int 4))) [4]))
    (sSeq (sIf (dOr (dTest (dOp (dEqX true) (dLenSetK (dVar 2)) (dCB rLen (dCons (dVar 1) (dNil))))) (dTest (dOp (dEqX true) (dLenSetT (dVar 3)) (dCB rLen (dCons (dVar 1) (dNil))))))
    (sRet (dC (.bl false)))
    (sNext))
    (sSeq (sFor (jSeq (dVar 1)) (.one 4)
    (l_law_is_ordered_1 e))
    (sSeq (sSet 5 (dLcV (jSeq (dVar 0)) (.one 4) (dTest (dOp (dInT false) (dOp dIx (dVar 4) (dC (.int 0))) (dTup (dCons (dC (.str "read")) (dCons (dC (.str "now")) (dNil)))))) (dVar 4) [4]))
    (sRet (dOp (dEqX false) (dLcV (jSeq (dVar 5)) (.one 4) (dNot (dTru (dCall (w_law_reading_fits e) [] (dCons (dVar 0) (dCons (dVar 1) (dCons (dVar 4) (dNil))))))) (dVar 4) [4]) (dLstV (dNil)))))))))))
-- _law_right: slots 0 _law_history_here, 1 _law_kept, 2 _law_found,
def w_law_right (e : Env) : SpD := wpf 1 2
    (sSeq (sSet 1 (dCB rReprX (dCons (dVar 0) (dNil))))
    (sSeq (sSet 2 (dCall (w_is_ordered e) [] (dCons (dVar 0) (dNil))))
    (sSeq (sIf (dTest (dOp (dEqX true) (dCB rReprX (dCons (dVar 2) (dNil))) (dCB rReprX (dCons (dCall (w_law_is_ordered e) [] (dCons (dVar 0) (dNil))) (dNil)))))
    (sRet (dC (.bl false)))
    (sNext))
    (sRet (dOp (dEqX false) (dCB rReprX (dCons (dVar 0) (dNil))) (dVar 1))))))
-- law: slots 0 _law_script, 1 _law_k, 2 _law_state, 3 _law_history_here, 4 _law_turn, 5 _law_other,
def l_law_1 (e : Env) : TDS :=
    (sSeq (sSet 5 (dCall (w_law_bent e) [] (dCons (dVar 2) (dCons (dVar 3) (dNil)))))
    (sIf (dOr (dNot (dTru (dCall (w_law_right e) [] (dCons (dVar 5) (dNil))))) (dNot (dTru (dCall (w_law_right e) [] (dCons (dCall (w_law_bent e) [] (dCons (dVar 2) (dCons (dVar 5) (dNil)))) (dNil))))))
    (sRet (dC (.bl false)))
    (sNext)))
def l_law_2 (e : Env) : TDS :=
    (sSeq (sSet 2 (dCall (w_law_begun e) [] (dCons (dVar 0) (dCons (dVar 1) (dNil)))))
    (sSeq (sSet 3 (dCall (w_law_history e) [] (dCons (dVar 2) (dNil))))
    (sSeq (sIf (dOr (dTest (dOp (dIsX true) (dCall (w_is_ordered e) [] (dCons (dVar 3) (dNil))) (dC (.bl true)))) (dNot (dTru (dCall (w_law_right e) [] (dCons (dVar 3) (dNil))))))
    (sRet (dC (.bl false)))
    (sNext))
    (sFor (jRng1 (dCons (dC (.int 10)) (dNil))) (.one 4)
    (l_law_1 e)))))
def w_law (e : Env) : SpD := wpf 1 5
    (sSeq (sFor (jRng1 (dCons (dCB rMax2 (dCons (dC (.int 1)) (dCons (dCB rMin2 (dCons (dC (.int 20)) (dCons (dCB rLen (dCons (dVar 0) (dNil))) (dNil)))) (dNil)))) (dNil))) (.one 1)
    (l_law_2 e))
    (sRet (dAndV (dOp (dIsX false) (dCall (w_is_ordered e) [] (dCons (dLstV (dNil)) (dNil))) (dC (.bl true))) (dCall (w_law_fixed_right e) [] dNil))))
end P

section
open PySem PySem.Spec L2 DL
local macro_rules | `(tactic| exists $es:term,*) => `(tactic| try simp only [q_enumK, r_enumKP, q_act, r_fnP, r_argP, q_callLam, r_dictPrK, q_sortSetS, r_srtSetSO, q_sortPr, r_srtPrO, q_sortPi, r_srtPiO, q_lenSc, q_lenTs, r_dScG, r_dTsG, q_lenSetK, r_lenSetO, q_lenSetT, r_lenSetTO, q_sortKey, q_maxKey, q_kget, q_kin, r_kgS, r_kiS, q_callL, q_rev0, r_rev0T, q_popL, r_popLP, r_popLO, q_dispI, r_dispI, r_repT, q_starK, q_putNest, r_zipP, q_sidx, r_sidx, r_max3, r_max2T, r_maxTL, q_star, q_sortSet, r_srtSetO, q_dclr, r_clrDP, r_clrDO, q_upd, r_updP, r_updO, q_revV, r_asLK, r_revO, q_mkX, q_lstI, q_lstRg, r_lrg, r_lenD, r_frzD, q_pop1, r_pop1S, r_pop1I, r_popO1, q_eqE, r_inTT, r_inTN, r_inTK, r_inSo, r_inSn, q_srtI, q_dc, r_keyS, r_keyI, q_methK, r_metKd, r_metK, r_popS, r_popI, r_popO, r_sdfS, r_sdfI, q_items, r_itP, r_itO, r_inIR, r_inIq, r_inIo, q_disp, r_dkF, r_inF, q_augI, r_getP2, r_getO2, r_cmpA, q_makeK, q_enum, r_enumP, r_enumO, r_repK, r_addNK, r_inIK, r_inIT, q_get1, q_get2, q_dget, q_sdict, q_pop2, q_setd, q_dic, r_dictP, r_getS, r_getI, r_getO, r_dkS, r_dkI, r_dkO, r_inS, r_inI, r_inO, r_dpS, r_dpI, r_dpO, r_dicP, r_dicO, r_sortDic, r_listDic, r_dictDic, q_dapp, r_lstP, r_appP, r_appO, q_clear, r_clrP, r_clrO, q_truO, r_truOP, r_ownTru, r_boolOD, r_ownBool, q_notO, r_cmpTI, r_cmpT3, r_lenOD, r_ownLen, q_jkeys, q_jvals, r_fzP, r_fzO, q_jstr, r_strS, r_leXI, r_leXS, q_join, q_upper, r_joinP, r_upP, q_kw1, r_minT2, q_emp, q_mt1, r_isiEB, r_isiEb, r_isiEt, r_isiEs, r_isiEl, r_isiEd, r_isiER, r_isE_non, r_isX_non, r_isE_bl, r_isX_bl, r_isE_int, r_isX_int, r_isE_str, r_isX_str, r_isE_tup, r_isX_tup, r_isE_kl, r_isX_kl, r_isE_kc, r_isX_kc, r_isE_ref, r_isX_ref, r_rIsiET, r_rIsiER, r_rIsiXT, r_rIsiXR, r_isD_non_int, r_isD_non_bool, r_isD_non_tuple, r_isD_non_str, r_isD_non_list, r_isD_non_dict, r_isD_bl_int, r_isD_bl_bool, r_isD_bl_tuple, r_isD_bl_str, r_isD_bl_list, r_isD_bl_dict, r_isD_int_int, r_isD_int_bool, r_isD_int_tuple, r_isD_int_str, r_isD_int_list, r_isD_int_dict, r_isD_str_int, r_isD_str_bool, r_isD_str_tuple, r_isD_str_str, r_isD_str_list, r_isD_str_dict, r_isD_tup_int, r_isD_tup_bool, r_isD_tup_tuple, r_isD_tup_str, r_isD_tup_list, r_isD_tup_dict, r_isD_kl_int, r_isD_kl_bool, r_isD_kl_tuple, r_isD_kl_str, r_isD_kl_list, r_isD_kl_dict, r_isD_kc_int, r_isD_kc_bool, r_isD_kc_tuple, r_isD_kc_str, r_isD_kc_list, r_isD_kc_dict, r_isD_non_own, r_isD_bl_own, r_isD_int_own, r_isD_str_own, r_isD_tup_own, r_isD_kl_own, r_isD_kc_own, q_wpf, q_seq, q_set, q_ret, q_retN, q_if, q_drop, r_unp', r_par, q_next, q_brk, q_cont, q_for, sWhile, q_sub, sAug, q_rng1, r_rng1P, jRng2, q_jseq, r_seqT, r_seqK, r_seqR, r_seqL, r_ownP, q_op, r_var, r_varS, q_c, q_cons, q_nil, q_cb, q_tup, q_lst, r_test, r_tru, q_not, q_and, q_or, r_andV, r_orV, r_notV, q_if', q_un, q_call, q_slice, q_some, q_none, r_intP, r_chn, r_chnT, r_link, r_last, cp2, pw2, cp3, pw3, cp4, pw4, cp5, pw5, cp6, pw6, cp7, pw7, cp8, pw8, cp9, pw9, cp10, pw10, cp12, pw12, cp15, pw15, cp18, pw18, cp20, pw20, cp24, pw24, cp28, pw28, cp29, pw29, cp30, pw30, q_tryH, q_raise0, q_raiseX, q_xfld, r_xfld, q_setAs, q_setAs0, q_endsAs0, q_endsNx, q_endsRt, q_endsBk, q_endsCt, r_isNx, r_lcV, q_lstV, q_sliceV, q_frz, r_frzR, r_frzL, r_frzT, r_frzK, r_frzN, r_addVI, r_addVT, r_addVK, r_addVO, r_sliVK, r_sliVC, r_sliVT, r_sliVR, r_sliVL, r_listVK, r_listVC, r_listVT, r_truK, r_eqXS, r_eqXI, r_eqXT2, r_strI, r_seqC, r_ixC, r_lenC, r_sliC, q_lc, q_yes, q_make, r_nonP, q_fldg, r_eqT2, r_set0, r_set1, q_put1, q_putN, r_blP, r_boolP, r_unpP, r_parP, r_opt, r_pick, r_add, r_addT, r_addR, r_addL, r_sub, r_mul, r_div, r_mod, r_pow, r_cmp, r_lt, r_neg, r_isXB, r_isXN, r_isN, r_isNr, r_isNi, r_isNn, r_isNt, r_eqI, r_ixT, r_ixK, r_ixR, r_lstOf, r_sliT, r_sliK, r_sliR, r_sliL, r_truB, r_truI, r_truT, r_truN, r_truR, r_truL, r_max, r_min, r_intB, r_intI, r_abs, r_lenT, r_lenK, r_lenR, r_lenL, r_nat, r_set, r_setL, r_isI, r_isB, r_isT, r_fld, r_fldR, r_fldI, r_sfd, r_sfdR, r_sfdI, r_met, r_metR, r_met1, atI0, atI1, atI2, atI3, atI4, ixN1a, ixN2a, ixN2b, ixN3a, ixN3b, ixN3c, put_same, List.map_cons, List.map_nil, List.length_cons, List.length_nil, List.length_set, List.replicate, List.cons_append, List.nil_append, List.append_nil, List.getElem?_cons_zero, List.getElem?_cons_succ, List.set_cons_zero, List.set_cons_succ, true_and, and_true, Option.some.injEq, if_true, if_false, ite_true, ite_false, reduceIte, Bool.not_true, Bool.not_false, Bool.false_eq_true, Nat.reduceAdd, Nat.reduceLeDiff, $[$es:term],*])
namespace P
open PySem PySem.Spec L2 DL
/-! ### histories as data -/
abbrev Wo := Option (List Int)
structure Dl where
  num : Int
  beg : Int
  tol : Int
  t : Int
  s : Int
  h : Int
  rs : List (Str × Wo)
  ws : List (Str × List Int)
def Dl.st (d : Dl) : List Int := [d.t, d.s, d.h]
def Dl.wr (d : Dl) : List (Str × Wo) := d.ws.map fun p => (p.1, some p.2)
inductive Ev where
  | deal (d : Dl)
  | form (time n : Int)
  | read (now : Bool) (asked time : Int) (key : Str) (w : Wo)
def wD : Wo → D
  | none => .non
  | some l => .tup (l.map D.int)
def pD (p : Str × Wo) : D := .tup [.str p.1, wD p.2]
def prsD (l : List (Str × Wo)) : D := .kl (l.map pD)
def dlD (d : Dl) : D := .tup [.str "dealing", .int d.num, .int d.beg, .int d.tol, .tup [.int d.t, .int d.s, .int d.h], prsD d.rs, prsD d.wr]
def nowS : Bool → Str
  | true => "now"
  | false => "read"
def evD : Ev → D
  | .deal d => dlD d
  | .form t n => .tup [.str "form", .int t, .int n]
  | .read b a t k w => .tup [.str (nowS b), .int a, .int t, .str k, wD w]
def wordOf : Ev → Str
  | .deal _ => "dealing"
  | .form _ _ => "form"
  | .read b _ _ _ _ => nowS b
theorem atI5 {α : Type} {x y z u v w : α} {l : List α} : atI (x :: y :: z :: u :: v :: w :: l) 5 = some w := atI_nat (k := 5) rfl
theorem atI6 {α : Type} {x y z u v w t : α} {l : List α} : atI (x :: y :: z :: u :: v :: w :: t :: l) 6 = some t := atI_nat (k := 6) rfl
/-! ### what is good -/
def letter (c : Nat) : Bool := decide (97 ≤ c ∧ c ≤ 122)
def Gk (x : Str) : Prop := 1 ≤ x.length ∧ x.length ≤ 6 ∧ x.cps.toList.all letter = true
def In (n : Int) (x : Int) : Prop := -n ≤ x ∧ x ≤ n
structure WoOk (n : Int) (w : List Int) : Prop where
  l1 : 1 ≤ w.length
  l4 : w.length ≤ 4
  b : ∀ x ∈ w, In n x
def WOk (n : Int) (w : Wo) : Prop := ∀ l, w = some l → WoOk n l
structure DlOk (n : Int) (k : Nat) (d : Dl) : Prop where
  num : In n d.num
  beg : In n d.beg
  tol : In n d.tol
  t : In n d.t
  s : In n d.s
  h : In n d.h
  s0 : 0 ≤ d.s
  h0 : 0 ≤ d.h
  rl : d.rs.length ≤ k
  wl : d.ws.length ≤ k
  rk : ∀ p ∈ d.rs, Gk p.1 ∧ WOk n p.2
  wk : ∀ p ∈ d.ws, Gk p.1 ∧ WoOk n p.2
def EvOk (n : Int) (k : Nat) : Ev → Prop
  | .deal d => DlOk n k d
  | .form t m => In n t ∧ 1 ≤ m ∧ m ≤ 4
  | .read _ a t key w => In n a ∧ In n t ∧ Gk key ∧ WOk n w
theorem In.mono {n m x : Int} (h : In n x) (l : n ≤ m) : In m x := ⟨by have := h.1; omega, by have := h.2; omega⟩
theorem WoOk.mono {n m : Int} {w : List Int} (h : WoOk n w) (l : n ≤ m) : WoOk m w := ⟨h.l1, h.l4, fun x hx => (h.b x hx).mono l⟩
theorem WOk.mono {n m : Int} {w : Wo} (h : WOk n w) (l : n ≤ m) : WOk m w := fun x e => (h x e).mono l
theorem DlOk.mono {n m : Int} {k j : Nat} {d : Dl} (h : DlOk n k d) (l : n ≤ m) (lk : k ≤ j) : DlOk m j d :=
  ⟨h.num.mono l, h.beg.mono l, h.tol.mono l, h.t.mono l, h.s.mono l, h.h.mono l, h.s0, h.h0, Nat.le_trans h.rl lk, Nat.le_trans h.wl lk, fun p hp => ⟨(h.rk p hp).1, (h.rk p hp).2.mono l⟩, fun p hp => ⟨(h.wk p hp).1, (h.wk p hp).2.mono l⟩⟩
theorem EvOk.mono {n m : Int} {k j : Nat} {v : Ev} (h : EvOk n k v) (l : n ≤ m) (lk : k ≤ j) : EvOk m j v := by
  cases v with
  | deal d => exact DlOk.mono h l lk
  | form t f => exact ⟨h.1.mono l, h.2⟩
  | read b a t key w => exact ⟨h.1.mono l, h.2.1.mono l, h.2.2.1, h.2.2.2.mono l⟩
/-! ### pure, small, bounded -/
theorem int_small {n x : Int} (h : In n x) (hn : n ≤ 10 ^ 50) : x.natAbs < 10 ^ 60 := by
  have h1 := h.1
  have h2 := h.2
  have h3 : (10 : Int) ^ 50 < 10 ^ 60 := by decide
  have h4 : ((10 ^ 60 : Nat) : Int) = (10 : Int) ^ 60 := by decide
  omega
theorem all_map_t {α : Type} {f : D → Bool} {g : α → D} {l : List α} (h : ∀ x ∈ l, f (g x) = true) : (l.map g).all f = true := by
  rw [List.all_map, List.all_eq_true]
  exact h
theorem caps_le {α : Type} {g : α → D} {c : Nat} : ∀ {l : List α}, (∀ x ∈ l, capD (g x) ≤ c) → capDs (l.map g) ≤ l.length * (c + 2)
  | [], _ => by simp [capDs]
  | x :: l, h => by
    have h1 := h x (List.mem_cons_self ..)
    have h2 := caps_le (l := l) fun y hy => h y (List.mem_cons_of_mem _ hy)
    rw [List.map_cons, List.length_cons]
    unfold capDs
    rw [Nat.succ_mul]
    omega
theorem wD_pure (k : Nat) (w : Wo) : pureD (k + 2) (wD w) = true := by
  cases w with
  | none => rfl
  | some l => exact all_map_t (f := pureD (k + 1)) fun x _ => rfl
theorem so_deal : PyData.strOk "dealing" = true := by decide +kernel
theorem so_form : PyData.strOk "form" = true := by decide +kernel
theorem so_now (b : Bool) : PyData.strOk (nowS b) = true := by cases b <;> decide +kernel
theorem sl_deal : (("dealing" : Str).length ≤ 60) := by decide +kernel
theorem sl_form : (("form" : Str).length ≤ 60) := by decide +kernel
theorem sl_now (b : Bool) : ((nowS b).length ≤ 60) := by cases b <;> decide +kernel
theorem gk_str {x : Str} (h : Gk x) : PyData.strOk x = true := by
  unfold PyData.strOk
  rw [Array.all_eq_true']
  intro c hc
  have h3 := h.2.2
  rw [List.all_eq_true] at h3
  have := of_decide_eq_true (h3 c (by simpa using hc))
  exact decide_eq_true (by omega)
theorem pD_pure (k : Nat) {p : Str × Wo} (h : Gk p.1) : pureD (k + 3) (pD p) = true := by
  show (PyData.strOk p.1 && (pureD (k + 2) (wD p.2) && true)) = true
  rw [gk_str h, wD_pure k]; rfl
theorem prsD_pure (k : Nat) {l : List (Str × Wo)} (h : ∀ p ∈ l, Gk p.1) : pureD (k + 4) (prsD l) = true :=
  all_map_t (f := pureD (k + 3)) fun p hp => pD_pure k (h p hp)
theorem wD_small (k : Nat) {n : Int} {w : Wo} (h : WOk n w) (hn : n ≤ 10 ^ 50) : smallD (k + 2) (wD w) = true := by
  cases w with
  | none => rfl
  | some l => exact all_map_t (f := smallD (k + 1)) fun x hx => decide_eq_true (int_small ((h l rfl).b x hx) hn)
theorem pD_small (k : Nat) {n : Int} {p : Str × Wo} (h : Gk p.1) (hw : WOk n p.2) (hn : n ≤ 10 ^ 50) : smallD (k + 3) (pD p) = true := by
  show ((PyData.strOk p.1 && decide (p.1.length ≤ 60)) && (smallD (k + 2) (wD p.2) && true)) = true
  rw [gk_str h, wD_small k hw hn, decide_eq_true (by have := h.2.1; omega)]; rfl
theorem prsD_small (k : Nat) {n : Int} {l : List (Str × Wo)} (h : ∀ p ∈ l, Gk p.1 ∧ WOk n p.2) (hn : n ≤ 10 ^ 50) : smallD (k + 4) (prsD l) = true :=
  all_map_t (f := smallD (k + 3)) fun p hp => pD_small k (h p hp).1 (h p hp).2 hn
theorem wD_cap {n : Int} {w : Wo} (h : WOk n w) : capD (wD w) ≤ 2421 := by
  cases w with
  | none => show 602 ≤ 2421; omega
  | some l =>
    have h4 := (h l rfl).l4
    have := caps_le (g := D.int) (c := 602) (l := l) fun x _ => Nat.le_refl _
    show 5 + capDs (l.map D.int) ≤ 2421
    have : l.length * (602 + 2) ≤ 4 * (602 + 2) := Nat.mul_le_mul_right _ h4
    omega
theorem pD_cap {n : Int} {p : Str × Wo} (hw : WOk n p.2) : capD (pD p) ≤ 3032 := by
  have := wD_cap hw
  show 5 + (602 + 2 + (capD (wD p.2) + 2 + 0)) ≤ 3032
  omega
theorem prsD_cap {n : Int} {l : List (Str × Wo)} {k : Nat} (h : ∀ p ∈ l, WOk n p.2) (hl : l.length ≤ k) : capD (prsD l) ≤ 5 + k * 3034 := by
  have := caps_le (g := pD) (c := 3032) (l := l) fun p hp => pD_cap (h p hp)
  have h2 : l.length * (3032 + 2) ≤ k * 3034 := Nat.mul_le_mul_right _ hl
  show 5 + capDs (l.map pD) ≤ _
  omega
theorem wr_ok {n : Int} {k : Nat} {d : Dl} (h : DlOk n k d) : ∀ p ∈ d.wr, Gk p.1 ∧ WOk n p.2 := by
  intro p hp
  obtain ⟨q, hq, rfl⟩ := List.mem_map.mp hp
  exact ⟨(h.wk q hq).1, fun l e => by cases e; exact (h.wk q hq).2⟩
theorem evD_pure {n : Int} {k : Nat} {v : Ev} (h : EvOk n k v) (j : Nat) : pureD (j + 6) (evD v) = true := by
  cases v with
  | deal d =>
    show (PyData.strOk "dealing" && (true && (true && (true && ((true && (true && (true && true))) && (pureD (j + 5) (prsD d.rs) && (pureD (j + 5) (prsD d.wr) && true))))))) = true
    rw [so_deal, prsD_pure (j + 1) fun p hp => (h.rk p hp).1, prsD_pure (j + 1) fun p hp => (wr_ok h p hp).1]
    rfl
  | form t f =>
    show (PyData.strOk "form" && (true && (true && true))) = true
    rw [so_form]; rfl
  | read b a t key w =>
    show (PyData.strOk (nowS b) && (true && (true && (PyData.strOk key && (pureD (j + 5) (wD w) && true))))) = true
    rw [gk_str h.2.2.1, so_now, wD_pure (j + 3) w]
    rfl
theorem evD_small {n : Int} {k : Nat} {v : Ev} (h : EvOk n k v) (hn : n ≤ 10 ^ 50) (j : Nat) : smallD (j + 6) (evD v) = true := by
  cases v with
  | deal d =>
    show ((PyData.strOk "dealing" && decide (("dealing" : Str).length ≤ 60)) && (decide (d.num.natAbs < 10 ^ 60) && (decide (d.beg.natAbs < 10 ^ 60) && (decide (d.tol.natAbs < 10 ^ 60) && ((decide (d.t.natAbs < 10 ^ 60) && (decide (d.s.natAbs < 10 ^ 60) && (decide (d.h.natAbs < 10 ^ 60) && true))) && (smallD (j + 5) (prsD d.rs) && (smallD (j + 5) (prsD d.wr) && true))))))) = true
    rw [so_deal, decide_eq_true sl_deal, prsD_small (j + 1) h.rk hn, prsD_small (j + 1) (wr_ok h) hn, decide_eq_true (int_small h.num hn), decide_eq_true (int_small h.beg hn), decide_eq_true (int_small h.tol hn), decide_eq_true (int_small h.t hn), decide_eq_true (int_small h.s hn), decide_eq_true (int_small h.h hn)]
    rfl
  | form t f =>
    show ((PyData.strOk "form" && decide (("form" : Str).length ≤ 60)) && (decide (t.natAbs < 10 ^ 60) && (decide (f.natAbs < 10 ^ 60) && true))) = true
    rw [so_form, decide_eq_true sl_form, decide_eq_true (int_small h.1 hn), decide_eq_true (int_small (n := 4) ⟨by have := h.2.1; omega, by have := h.2.2; omega⟩ (by decide))]
    rfl
  | read b a t key w =>
    show ((PyData.strOk (nowS b) && decide ((nowS b).length ≤ 60)) && (decide (a.natAbs < 10 ^ 60) && (decide (t.natAbs < 10 ^ 60) && ((PyData.strOk key && decide (key.length ≤ 60)) && (smallD (j + 5) (wD w) && true))))) = true
    rw [so_now, decide_eq_true (sl_now b), gk_str h.2.2.1, wD_small (j + 3) h.2.2.2 hn, decide_eq_true (int_small h.1 hn), decide_eq_true (int_small h.2.1 hn), decide_eq_true (by have := h.2.2.1.2.1; omega)]
    rfl
theorem evD_cap {n : Int} {k : Nat} {v : Ev} (h : EvOk n k v) : capD (evD v) ≤ 7000 + k * 6068 := by
  cases v with
  | deal d =>
    have h1 := prsD_cap (fun p hp => (h.rk p hp).2) h.rl
    have h2 := prsD_cap (l := d.wr) (k := k) (fun p hp => (wr_ok h p hp).2) (by unfold Dl.wr; rw [List.length_map]; exact h.wl)
    show 5 + (602 + 2 + (602 + 2 + (602 + 2 + (602 + 2 + ((5 + (602 + 2 + (602 + 2 + (602 + 2 + 0)))) + 2 + (capD (prsD d.rs) + 2 + (capD (prsD d.wr) + 2 + 0))))))) ≤ _
    omega
  | form t f => show 5 + (602 + 2 + (602 + 2 + (602 + 2 + 0))) ≤ _; omega
  | read b a t key w =>
    have := wD_cap h.2.2.2
    show 5 + (602 + 2 + (602 + 2 + (602 + 2 + (602 + 2 + (capD (wD w) + 2 + 0))))) ≤ _
    omega
def hD (hs : List Ev) : D := .kl (hs.map evD)
structure HsOk (n : Int) (k m : Nat) (hs : List Ev) : Prop where
  ev : ∀ v ∈ hs, EvOk n k v
  len : hs.length ≤ m
theorem HsOk.mono {n n' : Int} {k k' m m' : Nat} {hs : List Ev} (h : HsOk n k m hs) (l1 : n ≤ n') (l2 : k ≤ k') (l3 : m ≤ m') : HsOk n' k' m' hs := ⟨fun v hv => (h.ev v hv).mono l1 l2, Nat.le_trans h.len l3⟩
theorem hD_pure {n : Int} {k m : Nat} {hs : List Ev} (h : HsOk n k m hs) (j : Nat) : pureD (j + 7) (hD hs) = true := all_map_t (f := pureD (j + 6)) fun v hv => evD_pure (h.ev v hv) j
theorem hD_small {n : Int} {k m : Nat} {hs : List Ev} (h : HsOk n k m hs) (hn : n ≤ 10 ^ 50) (j : Nat) : smallD (j + 7) (hD hs) = true := all_map_t (f := smallD (j + 6)) fun v hv => evD_small (h.ev v hv) hn j
theorem hD_cap {n : Int} {k m : Nat} {hs : List Ev} (h : HsOk n k m hs) (hk : k ≤ 9) (hm : m ≤ 15) : capD (hD hs) ≤ 1000000 := by
  have := caps_le (g := evD) (c := 61612) (l := hs) fun v hv => Nat.le_trans (evD_cap (h.ev v hv)) (by omega)
  have h2 : hs.length * (61612 + 2) ≤ 15 * 61614 := Nat.mul_le_mul_right _ (Nat.le_trans h.len hm)
  show 5 + capDs (hs.map evD) ≤ _
  omega
end P
namespace P
open PySem PySem.Spec L2 DL
/-! ### the row of draws -/
def Row (G : HD) (a : Addr) : Prop := ∃ (x y : Int) (z : Bool), 0 ≤ x ∧ G a = some (.lst [.int x, .int y, .bl z])
theorem Row.le {G G' : HD} {a : Addr} (h : Row G a) (l : Le G G') : Row G' a := let ⟨x, y, z, h0, h1⟩ := h; ⟨x, y, z, h0, l _ _ h1⟩
theorem Row.fr {G G' : HD} {a : Addr} {A : List Addr} (h : Row G a) (l : Fr A G G') (n : a ∉ A) : Row G' a := let ⟨x, y, z, h0, h1⟩ := h; ⟨x, y, z, h0, l _ _ n h1⟩
theorem Row.ins {G : HD} {a p C : Addr} {fs : List (Str × D)} (h : Row G a) (hp : G p = some (.ins C fs)) : a ≠ p := by
  obtain ⟨_, _, _, _, h1⟩ := h; rintro rfl; rw [h1] at hp; cases hp
theorem begun_ok {e : Env} {G : HD} {ns : List Int} {k : Nat} {Q : Post} {E : DX} (h9 : k < 100) (hl : ns.length ≤ 63) (hQ : ∀ p G', Row G' p → Le G G' → G p = none → Q (.ref p) G') : w_law_begun e [.kc (ns.map D.int), .int k] G Q E := by
  unfold w_law_begun
  exists if_true
  have hc : cutD (ns.map D.int) (some (k : Int)) (some ((k : Int) + 1)) = (((ns.drop (HT.sIx (ns.map D.int).length 0 (some (k : Int)))).take (HT.sIx (ns.map D.int).length (ns.map D.int).length (some ((k : Int) + 1)) - HT.sIx (ns.map D.int).length 0 (some (k : Int)))).map D.int) := by
    unfold cutD
    rw [List.map_take, List.map_drop]
  have hl : (cutD (ns.map D.int) (some (k : Int)) (some ((k : Int) + 1))).length ≤ 1 := by
    have hz : HT.sIx (ns.map D.int).length (ns.map D.int).length (some ((k : Int) + 1)) - HT.sIx (ns.map D.int).length 0 (some (k : Int)) ≤ 1 := by
      simp only [HT.sIx]; split <;> split <;> omega
    unfold cutD
    rw [List.length_take]; omega
  obtain ⟨c, hcc⟩ : ∃ c, atI (cutD (ns.map D.int) (some (k : Int)) (some ((k : Int) + 1)) ++ [D.int 0]) 0 = some (.int c) := by
    rw [hc]
    cases (ns.drop (HT.sIx (ns.map D.int).length 0 (some (k : Int)))).take (HT.sIx (ns.map D.int).length (ns.map D.int).length (some ((k : Int) + 1)) - HT.sIx (ns.map D.int).length 0 (some (k : Int))) with
    | nil => exact ⟨0, atI0⟩
    | cons c _ => exact ⟨c, atI0⟩
  exists hcc
  refine ⟨by have : sizeLine ≥ 100 := by decide
             omega, by omega, mul_l (by omega) (by omega), mul_l (by omega) (by omega), mul_r (by omega) (by omega), by omega, newL_in fun p G1 hp _ h1 l1 _ => fg_in (hQ _ _ ⟨_, _, _, ?_, h1⟩ l1 hp)⟩
  split <;> omega
theorem take_ok {e : Env} {G : HD} {a : Addr} {n : Int} {Q : Post} {E : DX} (hG : Row G a) (hn : 0 < n) (hn2 : n < 2 ^ 100) (hQ : ∀ r G', 0 ≤ r → r < n → Row G' a → Fr [a] G G' → Q (.int r) G') : w_law_take e [.ref a, .int n] G Q E := by
  obtain ⟨x, y, z, hx, hG⟩ := hG
  unfold w_law_take
  exists hG
  split
  · refine ⟨hn, wide_div (b := 100) hn (by omega) (by omega) (by omega), fg_in (hQ _ _ (Int.emod_nonneg _ (by omega)) (Int.emod_lt_of_pos _ hn) ⟨x / n, y, decide (0 < x / n), Int.ediv_nonneg hx (by omega), put_same⟩ (Fr.trans (Fr.put List.mem_cons_self) (Fr.put List.mem_cons_self)))⟩
  · refine ⟨by split <;> omega, by split <;> omega, ?_⟩
    refine forR_inv (I := fun _ σ G' => (∃ m : Int, ∃ w, 0 ≤ m ∧ σ = [some (.ref a), some (.int n), none, some (.int m), w]) ∧ Row G' a ∧ Fr [a] G G') (fun _ => trivial) (fun i k σ G' hi hI hk => ?_) (fun σ G' hI => ?_) ⟨⟨0, none, by omega, rfl⟩, ⟨x, y, z, hx, hG⟩, Fr.refl⟩
    · obtain ⟨⟨m, w, hm, rfl⟩, ⟨x', y', z', hx', hG'⟩, fr⟩ := hI
      unfold l_law_take_1
      exists hG'
      refine ⟨mul_r (by omega) (by omega), by omega, mul_r (by omega) (by omega), ?_, by omega, ?_⟩
      · exact mul_l (by omega) (by omega)
      · refine hk _ _ ⟨⟨_, _, ?_, rfl⟩, ⟨x', _, z', hx', put_same⟩, fr.trans (Fr.put List.mem_cons_self)⟩
        have := Int.emod_nonneg ((y' * 48271 + 11) % 2147483647 * ((y' * 48271 + 11) % 2147483647)) (b := 2147483587) (by omega)
        omega
    · obtain ⟨⟨m, w, hm, rfl⟩, hR, fr⟩ := hI
      exists if_true
      exact ⟨div_s (by omega) (by omega), hn, fg_in (hQ _ _ (Int.emod_nonneg _ (by omega)) (Int.emod_lt_of_pos _ hn) hR fr)⟩
theorem lc_none {step : D → (D → HD → Prop) → (HD → Prop) → HD → Prop} {fin : List D → HD → Prop} : ∀ {xs acc : List D} {G : HD}, (∀ x ∈ xs, ∀ ky kn G, kn G → step x ky kn G) → fin acc G → lcD (fun _ => True) step fin xs acc G
  | [], acc, G, _, hf => ⟨G, Le.refl _, trivial, hf⟩
  | x :: xs, acc, G, h, hf => ⟨G, Le.refl _, trivial, h x List.mem_cons_self _ _ _ (lc_none (fun y hy => h y (List.mem_cons_of_mem _ hy)) hf)⟩
theorem lc_map {step : D → (D → HD → Prop) → (HD → Prop) → HD → Prop} {fin : List D → HD → Prop} {f : D → D} : ∀ {xs acc : List D} {G : HD}, (∀ x ∈ xs, ∀ (ky : D → HD → Prop) (kn : HD → Prop) (G : HD), ky (f x) G → step x ky kn G) → fin (acc ++ xs.map f) G → lcD (fun _ => True) step fin xs acc G
  | [], acc, G, _, hf => ⟨G, Le.refl _, trivial, by simpa using hf⟩
  | x :: xs, acc, G, h, hf => ⟨G, Le.refl _, trivial, h x List.mem_cons_self _ _ _ (lc_map (fun y hy => h y (List.mem_cons_of_mem _ hy)) (by simpa using hf))⟩
theorem lc_all {step : D → (D → HD → Prop) → (HD → Prop) → HD → Prop} {fin : List D → HD → Prop} {I : List D → HD → Prop} (h : ∀ x acc (ky : D → HD → Prop) (kn : HD → Prop) (G : HD), I acc G → (∀ y G', I (acc ++ [y]) G' → ky y G') → step x ky kn G) : ∀ {xs acc : List D} {G : HD}, (∀ acc' G', I acc' G' → acc'.length = acc.length + xs.length → fin acc' G') → I acc G → lcD (fun _ => True) step fin xs acc G
  | [], acc, G, hf, hI => ⟨G, Le.refl _, trivial, hf _ _ hI (by simp)⟩
  | x :: xs, acc, G, hf, hI => ⟨G, Le.refl _, trivial, h x acc _ _ _ hI fun y G' hI' => lc_all h (fun acc' G'' h1 h2 => hf _ _ h1 (by simp at h2 ⊢; omega)) hI'⟩
theorem r_allB {p : List Bool → Bool} {bs : List Bool} {G : HD} {Q : Post} : rAllD p [.kl (bs.map D.bl)] G Q = Q (.bl (p bs)) G := by
  unfold rAllD
  show (match asBls (bs.map D.bl) with | some ns => Q (.bl (p ns)) G | none => False) = _
  rw [asBls_map]
end P
namespace P
open PySem PySem.Spec L2 DL
/-! ### keys -/
def letD : D → Bool
  | .str y => y.cps.toList.all letter
  | _ => false
theorem letD_c {c : Nat} : letD (.str ⟨#[c]⟩) = letter c := by simp [letD]
theorem abc : (Str.ofString "abcdefghijklmnopqrstuvwxyz").cps.toList = (List.range 26).map (· + 97) := by decide +kernel
theorem mem_abc {c : Nat} : decide (c ∈ (Str.ofString "abcdefghijklmnopqrstuvwxyz").cps.toList) = letter c := by
  unfold letter
  rw [abc, decide_eq_decide]
  simp only [List.mem_map, List.mem_range]
  constructor
  · rintro ⟨a, h, rfl⟩; omega
  · intro h; exact ⟨c - 97, by omega, by omega⟩
section
variable {e : Env} {G : HD} {Q : Post} {E : DX} {x : Str}
theorem i_lenS (h : x.length ≤ 1000000) (q : Q (.int (x.length : Nat)) G) : DL.rLen [.str x] G Q := by
  have hs := million h
  unfold DL.rLen DL.lenD
  simp only [hs, if_true]
  exact q
theorem key_ok (h : Gk x) (hQ : Q (.bl true) G) : w_is_key e [.str x] G Q E := by
  obtain ⟨h1, h2, h3⟩ := h
  unfold w_is_key
  exists if_true
  refine i_lenS (by omega) ?_
  exists show (1 : Int) ≤ (x.length : Nat) by omega, show ((x.length : Nat) : Int) ≤ 6 by omega, decide_true
  refine ⟨by rw [signs_len]; exact Nat.le_trans (show x.cps.size ≤ 6 from h2) (by decide), lc_map (f := fun d => .bl (letD d)) (fun z hz ky kn G hk => ?_) ?_⟩
  · exists dwipe
    unfold signs at hz
    obtain ⟨c, hc, rfl⟩ := List.mem_map.mp hz
    refine i_inS ?_
    rw [if_neg (by decide), mem_abc, ← letD_c]
    exact hk
  · have e1 : (signs x).map (fun d => D.bl (letD d)) = (x.cps.toList.map letter).map D.bl := by
      unfold signs
      rw [List.map_map, List.map_map]
      apply List.map_congr_left
      intro c _
      show D.bl (letD (.str ⟨#[c]⟩)) = D.bl (letter c)
      rw [letD_c]
    rw [List.nil_append, e1, r_allB]
    refine fg_in ?_
    rw [List.all_map]
    have : (x.cps.toList.all (id ∘ letter)) = true := h3
    rw [this]; exact hQ
theorem whole_ok {i : Int} (hQ : Q (.bl true) G) : w_is_whole e [.int i] G Q E := by
  unfold w_is_whole
  exists if_true
  exact fg_in hQ
theorem r_all3 {p : List Bool → Bool} {a b c : Bool} : rAllD p [.kl [.bl a, .bl b, .bl c]] G Q = Q (.bl (p [a, b, c])) G := propext ⟨fun h => h, fun h => h⟩
theorem stamp_ok {a b c : Int} (h1 : 0 ≤ b) (h2 : 0 ≤ c) (hQ : Q (.bl true) G) : w_is_stamp e [.tup [.int a, .int b, .int c]] G Q E := by
  unfold w_is_stamp
  exists show ((3 : Nat) : Int) = 3 from rfl, decide_true
  refine lc_map (f := fun _ => .bl true) (fun z hz ky kn G hk => ?_) ?_
  · exists dwipe
    simp only [List.mem_cons, List.not_mem_nil, or_false] at hz
    rcases hz with rfl | rfl | rfl <;> exact whole_ok hk
  · exists r_all3, List.all_cons, List.all_nil, Bool.and_true, id, h1, h2, decide_true
    exact fg_in hQ
theorem all_tt {α : Type} : ∀ l : List α, (l.map fun _ => true).all id = true
  | [] => rfl
  | _ :: l => all_tt l
theorem worth_ok {n : Int} {w : List Int} (h : WoOk n w) (hQ : Q (.bl true) G) : w_is_worth e [.tup (w.map D.int)] G Q E := by
  have h1 := h.l1
  have h4 := h.l4
  unfold w_is_worth
  exists List.length_map, show (1 : Int) ≤ (w.length : Nat) by omega, show ((w.length : Nat) : Int) ≤ 4 by omega, decide_true
  refine ⟨by omega, lc_map (f := fun _ => .bl true) (fun z hz ky kn G hk => ?_) ?_⟩
  · exists dwipe
    obtain ⟨i, _, rfl⟩ := List.mem_map.mp hz
    exact whole_ok hk
  · have e1 : (w.map D.int).map (fun _ => D.bl true) = ((w.map fun _ => true)).map D.bl := by rw [List.map_map, List.map_map]; rfl
    rw [List.nil_append, e1, r_allB]
    rw [all_tt]
    exact fg_in hQ
theorem worthN_ok {n : Int} {w : Wo} (h : WOk n w) (hQ : Q (.bl w.isSome) G) : w_is_worth e [wD w] G Q E := by
  cases w with
  | none =>
    unfold w_is_worth wD
    exists if_true
    exact fg_in hQ
  | some l => exact worth_ok (h l rfl) hQ
/-! ### pairs -/
def keyN (d : D) : Key := match d with
  | .tup (.str x :: _) => .inr x
  | _ => .inl 0
def pairsB (l : List (Str × Wo)) : Bool := decide ((unl (l.map fun p => (.inr p.1 : Key))).length = l.length)
theorem pairs_ok {n : Int} {l : List (Str × Wo)} {b : Bool} (hl : l.length ≤ 100) (hk : ∀ p ∈ l, Gk p.1 ∧ WOk n p.2) (hs : b = false → ∀ p ∈ l, p.2.isSome = true) (hQ : Q (.bl (pairsB l)) G) : w_are_pairs e [prsD l, .bl b] G Q E := by
  unfold w_are_pairs prsD
  exists if_true
  refine forD_inv (fun r σ G' => (∃ w, σ = [some (.kl (l.map pD)), some (.bl b), w]) ∧ (∀ d ∈ r, ∃ p ∈ l, d = pD p) ∧ G' = G) (fun _ _ _ _ => trivial) (fun x r k σ G' hI hk' => ?_) (fun σ G' hI => ?_) _ _ _ ⟨⟨none, rfl⟩, fun d hd => (by obtain ⟨p, hp, rfl⟩ := List.mem_map.mp hd; exact ⟨p, hp, rfl⟩), rfl⟩
  · obtain ⟨⟨w, rfl⟩, hr, rfl⟩ := hI
    obtain ⟨p, hp, rfl⟩ := hr x (List.mem_cons_self ..)
    obtain ⟨p1, p2⟩ := hk p hp
    have nxt := hk' [some (.kl (l.map pD)), some (.bl b), some (pD p)] G' ⟨⟨_, rfl⟩, fun d hd => hr d (List.mem_cons_of_mem _ hd), rfl⟩
    unfold l_are_pairs_1
    unfold pD at nxt ⊢
    exists show ((2 : Nat) : Int) = 2 from rfl, decide_true
    refine key_ok p1 ?_
    exists if_true
    refine worthN_ok p2 ?_
    cases hw : p.2.isSome with
    | true =>
      exists if_true
      exact nxt
    | false =>
      cases b with
      | false => rw [hs rfl p hp] at hw; cases hw
      | true =>
        have e2 : wD p.2 = .non := by
          cases h2 : p.2 with
          | none => rfl
          | some z => rw [h2] at hw; cases hw
        rw [e2] at nxt ⊢
        exists if_true
        exact nxt
  · obtain ⟨⟨w, rfl⟩, hr, rfl⟩ := hI
    exists List.length_map
    refine ⟨by omega, sc_fm keyN (fun x hx ky kn h => ?_) ?_⟩
    · obtain ⟨p, hp, rfl⟩ := List.mem_map.mp hx
      exists dwipe, pD
      exact h _ rfl
    · rw [List.nil_append, List.map_map]
      exists if_true
      refine ⟨by rw [List.length_map]; omega, fg_in ?_⟩
      have e1 : l.map (keyN ∘ pD) = l.map fun p => (.inr p.1 : Key) := rfl
      rw [e1]
      have e2 : (decide (((unl (l.map fun p => (.inr p.1 : Key))).length : Int) = (l.length : Int))) = pairsB l := by
        unfold pairsB
        rw [decide_eq_decide]; omega
      rw [e2]
      exact hQ
/-! ### each tuple -/
def dealB (d : Dl) : Bool := decide (d.beg ≤ d.tol) && (pairsB d.rs && pairsB d.wr)
def toldB : Ev → Bool
  | .deal d => dealB d
  | _ => true
theorem cut14 {a b c d f g h : D} : cutD [a, b, c, d, f, g, h] (some 1) (some 4) = [b, c, d] := rfl
theorem wr_len (d : Dl) : d.wr.length = d.ws.length := by unfold Dl.wr; rw [List.length_map]
theorem dealing_ok {n : Int} {k : Nat} {d : Dl} (h : DlOk n k d) (hk : k ≤ 100) (hQ : Q (.bl (dealB d)) G) : w_is_dealing e [dlD d] G Q E := by
  have hr := h.rl
  have hw := h.wl
  have wl := wr_len d
  unfold w_is_dealing dlD
  exists show ((7 : Nat) : Int) = 7 from rfl, decide_true, cut14
  refine lc_map (f := fun _ => .bl true) (fun z hz ky kn G hk => ?_) ?_
  · exists dwipe
    simp only [List.mem_cons, List.not_mem_nil, or_false] at hz
    rcases hz with rfl | rfl | rfl <;> exact whole_ok hk
  · exists r_all3, List.all_cons, List.all_nil, Bool.and_true, id
    refine stamp_ok h.s0 h.h0 ?_
    exists atI5, atI6
    unfold dealB at hQ
    by_cases h1 : d.beg ≤ d.tol
    · exists h1, decide_true
      rw [decide_eq_true h1, Bool.true_and] at hQ
      refine pairs_ok (by omega) h.rk (fun z => by cases z) ?_
      cases h2 : pairsB d.rs with
      | false =>
        exists if_true
        rw [h2] at hQ
        exact fg_in hQ
      | true =>
        exists if_true
        rw [h2, Bool.true_and] at hQ
        exact pairs_ok (by omega) (wr_ok h) (fun _ p hp => by obtain ⟨q, _, rfl⟩ := List.mem_map.mp hp; rfl) (fg_in hQ)
    · exists h1, decide_false
      rw [decide_eq_false h1, Bool.false_and] at hQ
      exact fg_in hQ
theorem form_ok {t n : Int} (h1 : 1 ≤ n) (h4 : n ≤ 4) (hQ : Q (.bl true) G) : w_is_form e [.tup [.str "form", .int t, .int n]] G Q E := by
  unfold w_is_form
  exists show ((3 : Nat) : Int) = 3 from rfl, decide_true
  refine whole_ok ?_
  exists if_true
  refine whole_ok ?_
  exists h1, h4, decide_true
  exact fg_in hQ
theorem reading_ok {n : Int} {x : Str} {a t : Int} {y : Str} {w : Wo} (hy : Gk y) (hw : WOk n w) (hQ : Q (.bl true) G) : w_is_reading e [.tup [.str x, .int a, .int t, .str y, wD w]] G Q E := by
  unfold w_is_reading
  exists show ((5 : Nat) : Int) = 5 from rfl, decide_true
  refine whole_ok ?_
  exists if_true
  refine whole_ok ?_
  exists if_true
  refine key_ok hy ?_
  exists if_true
  cases w with
  | none =>
    exists wD
    exact fg_in hQ
  | some l =>
    exists wD
    exact worth_ok (hw l rfl) (fg_in hQ)
theorem lk_deal {a b c d : D} : List.lookup (Str.ofString "dealing") [(Str.ofString "dealing", a), (Str.ofString "form", b), (Str.ofString "read", c), (Str.ofString "now", d)] = some a := by rfl
theorem lk_form {a b c d : D} : List.lookup (Str.ofString "form") [(Str.ofString "dealing", a), (Str.ofString "form", b), (Str.ofString "read", c), (Str.ofString "now", d)] = some b := by rfl
theorem lk_now {x : Bool} {a b c : D} : List.lookup (nowS x) [(Str.ofString "dealing", a), (Str.ofString "form", b), (Str.ofString "read", c), (Str.ofString "now", c)] = some c := by cases x <;> rfl
theorem told_ok {n : Int} {k : Nat} {v : Ev} (h : EvOk n k v) (hk : k ≤ 100) (hQ : Q (.bl (toldB v)) G) : w_is_told e [evD v] G Q E := by
  unfold w_is_told
  cases v with
  | deal d =>
    unfold evD dlD
    exists tbl_LOOKS, show ¬ ((7 : Nat) : Int) = 0 by omega, decide_false, lk_deal, Option.isSome
    refine ⟨_, List.mem_cons_self .., rfl, ?_⟩
    exists if_true
    exact dealing_ok h hk (fg_in hQ)
  | form t m =>
    unfold evD
    exists tbl_LOOKS, show ¬ ((3 : Nat) : Int) = 0 by omega, decide_false, lk_form, Option.isSome
    refine ⟨_, List.mem_cons_of_mem _ (List.mem_cons_self ..), rfl, ?_⟩
    exists if_true
    exact form_ok h.2.1 h.2.2 (fg_in hQ)
  | read b a t y w =>
    unfold evD
    exists tbl_LOOKS, show ¬ ((5 : Nat) : Int) = 0 by omega, decide_false, lk_now, Option.isSome
    refine ⟨_, List.mem_cons_of_mem _ (List.mem_cons_of_mem _ (List.mem_cons_self ..)), rfl, ?_⟩
    exists if_true
    exact reading_ok h.2.2.1 h.2.2.2 (fg_in hQ)
end
end P
namespace P
open PySem PySem.Spec L2 DL
/-! ### dicts of pairs -/
theorem valD_none {m : List (Key × D)} {k : Key} (h : k ∉ m.map (·.1)) : valD m k = none := by
  induction m with
  | nil => rfl
  | cons p m ih =>
    unfold valD
    rw [if_neg (fun e => h (by rw [← e]; exact List.mem_cons_self ..))]
    exact ih fun z => h (List.mem_cons_of_mem _ z)
theorem valD_merge {k : Key} : ∀ {m acc : List (Key × D)}, (m.map (·.1)).Nodup → valD (mergeKD acc m) k = (match valD m k with | some d => some d | none => valD acc k)
  | [], acc, _ => rfl
  | p :: m, acc, nd => by
    rw [List.map_cons, List.nodup_cons] at nd
    show valD (mergeKD (putKD acc p.1 p.2) m) k = _
    rw [valD_merge nd.2, valD_put]
    show _ = (match (if p.1 = k then some p.2 else valD m k) with | some d => some d | none => valD acc k)
    by_cases e : p.1 = k
    · rw [if_pos e, if_pos e.symm, valD_none (by rw [← e]; exact nd.1)]
    · rw [if_neg e, if_neg (fun z => e z.symm)]
def pK (p : Str × Wo) : Key × D := (.inr p.1, wD p.2)
theorem pairsK_p : ∀ l : List (Str × Wo), pairsK (l.map pD) = some (l.map pK)
  | [] => rfl
  | p :: l => by
    show (match pairOfD (pD p), pairsK (l.map pD) with | some p, some l => some (p :: l) | _, _ => none) = _
    rw [pairsK_p l]
    rfl
theorem keys_nd {l : List (Str × Wo)} (h : (l.map (·.1)).Nodup) : ((l.map pK).map (·.1)).Nodup := by
  rw [List.map_map]
  have e : (l.map ((·.1) ∘ pK)) = (l.map (·.1)).map (Sum.inr : Str → Key) := by rw [List.map_map]; rfl
  rw [e]
  unfold List.Nodup at h ⊢
  rw [List.pairwise_map]
  exact h.imp fun {a b} n z => n (by injection z)
theorem pairsB_nd {l : List (Str × Wo)} (h : pairsB l = true) : (l.map (·.1)).Nodup := by
  have h := of_decide_eq_true h
  have h2 : (unl (l.map fun p => (.inr p.1 : Key))).length = (l.map fun p => (.inr p.1 : Key)).length := by rw [h, List.length_map]
  have nd := unl_lt _ _ rfl h2
  unfold List.Nodup at nd ⊢
  rw [List.pairwise_map] at nd ⊢
  exact nd.imp fun {a b} n z => n (by rw [z])
theorem nd_pairsB {l : List (Str × Wo)} (h : (l.map (·.1)).Nodup) : pairsB l = true := by
  refine decide_eq_true ?_
  have nd : (l.map fun p => (.inr p.1 : Key)).Nodup := by
    unfold List.Nodup at h ⊢
    rw [List.pairwise_map] at h ⊢
    exact h.imp fun {a b} n z => n (by injection z)
  rw [unl_eq_len nd, List.length_map]
theorem val_wr {d : Dl} {k : Str} : valD (d.wr.map pK) (.inr k) = (d.ws.lookup k).map fun w => .tup (w.map D.int) := by
  unfold Dl.wr
  induction d.ws with
  | nil => rfl
  | cons p l ih =>
    rw [List.map_cons, List.map_cons, List.lookup_cons]
    unfold valD
    show (if (Sum.inr p.1 : Key) = Sum.inr k then some (wD (some p.2)) else _) = _
    by_cases e : p.1 = k
    · subst e
      rw [if_pos rfl, beq_self_eq_true]
      rfl
    · rw [if_neg (fun z => e (by injection z)), show (k == p.1) = false from beq_eq_false_iff_ne.mpr (Ne.symm e)]
      exact ih
def wsNd (d : Dl) : Prop := (d.ws.map (·.1)).Nodup
theorem wr_nd {d : Dl} (h : wsNd d) : (d.wr.map (·.1)).Nodup := by
  unfold Dl.wr; rw [List.map_map]; exact h
theorem val_dict {d : Dl} {k : Str} (h : wsNd d) : valD (mergeKD [] (d.wr.map pK)) (.inr k) = (d.ws.lookup k).map fun w => .tup (w.map D.int) := by
  rw [valD_merge (keys_nd (wr_nd h)), val_wr]
  cases d.ws.lookup k <;> rfl
end P
namespace P
open PySem PySem.Spec L2 DL
open LamY
/-! ### the newest worth below -/
def candF (k : Str) (fits : List Int → Bool) (d : Dl) : Option (List Int × List Int) := match d.ws.lookup k with
  | some w => if fits d.st = true then some (d.st, w) else none
  | none => none
def cand (ds : List Dl) (k : Str) (fits : List Int → Bool) : List (List Int × List Int) := ds.filterMap (candF k fits)
def newB (ds : List Dl) (k : Str) (fits : List Int → Bool) : Wo := if cand ds k fits = [] then none else ((cand ds k fits)[argBest (btK ((cand ds k fits).map (·.1))) ((cand ds k fits).length - 1)]?).map (·.2)
section
variable {e : Env} {G : HD} {Q : Post} {E : DX}
theorem argBest_le {bt : Nat → Nat → Bool} : ∀ n, argBest bt n ≤ n
  | 0 => Nat.le_refl _
  | n + 1 => by
    have := argBest_le (bt := bt) n
    unfold argBest
    split <;> omega
theorem keysAt_pr : ∀ l : List (List Int × List Int), keysAt 0 (l.map dPr) = some (l.map (·.1))
  | [] => rfl
  | p :: l => by
    show (match keyAt 0 (dPr p), keysAt 0 (l.map dPr) with | some x, some l => some (x :: l) | _, _ => none) = _
    rw [keysAt_pr l]
    have : keyAt 0 (dPr p) = some p.1 := by
      unfold keyAt dPr
      simp only [atI0]
      exact asInts_map p.1
    rw [this]
    rfl
theorem pr_pure (l : List (List Int × List Int)) : pureD 9 (.kl (l.map dPr)) = true :=
  all_map_t (f := pureD 8) fun p _ => by
    show ((p.1.map D.int).all (pureD 6) && ((p.2.map D.int).all (pureD 6) && true)) = true
    rw [all_map_t (f := pureD 6) (g := D.int) fun x _ => rfl, all_map_t (f := pureD 6) (g := D.int) fun x _ => rfl]
    rfl
theorem eqv_nil : eqvD (.kl []) (.kl []) = true := rfl
theorem eqv_cons {d : D} {l : List D} : eqvD (.kl (d :: l)) (.kl []) = false := rfl
theorem newest_ok {v : LamV} {tb : TD} {dc : D} {ds : List Dl} {k : Str} {fits : List Int → Bool} (hT : G e.P_newest_below = some (.tab (qlam "newest_below"))) (hn : ds.length ≤ 100) (hw : ∀ d ∈ ds, wsNd d)
    (htb : ∀ d ∈ ds, ∀ (G' : HD) (K : Post), Le G G' → K (.bl (fits d.st)) G' → tb W0 [some (.tup [.int d.t, .int d.s, .int d.h]), some dc] G' K) (hQ : Q (wD (newB ds k fits)) G) :
    w_newest_below e v tb [.kl (ds.map dlD), .str k, .fn v.f v.c v.q v.u dc] G Q E := by
  unfold w_newest_below
  exists List.length_map
  refine ⟨by omega, lc_fma (fun d => (candF k fits d).map dPr) (fun _ _ => trivial) (Le.refl _) (fun d hd ky kn G1 l1 hy hk => ?_) fun G1 l1 => ?_⟩
  · exists dwipe, dlD, atI5, atI6, prsD
    refine i_dictPr (pairsK_p _) (newD_in fun p G2 hp _ h2 l2 _ => ?_)
    exists h2, val_dict (hw d hd)
    unfold candF at hy hk
    cases hl : d.ws.lookup k with
    | none =>
      rw [hl] at hy hk
      exists Option.map, Option.isSome
      exact hk _ l2 rfl
    | some w =>
      rw [hl] at hy hk
      exists Option.map, Option.isSome
      refine htb d hd _ _ (l1.trans l2) ?_
      exists if_true
      cases hf : fits d.st with
      | false =>
        rw [hf] at hy hk
        exists if_true
        exact hk _ l2 rfl
      | true =>
        rw [hf] at hy hk
        exists if_true
        refine i_dictPr (pairsK_p _) (newD_in fun p2 G3 hp3 _ h3 l3 _ => ?_)
        exists h3, val_dict (hw d hd), hl, Option.map
        exact hy _ _ (l2.trans l3) rfl
  · rw [List.nil_append]
    have e1 : (ds.filterMap fun d => (candF k fits d).map dPr) = (cand ds k fits).map dPr := by
      unfold cand
      rw [List.map_filterMap]
    rw [e1]
    refine i_eqX (pr_pure _) (show pureD 9 (.kl []) = true from rfl) ?_
    unfold newB at hQ
    cases hc : cand ds k fits with
    | nil =>
      rw [hc, if_pos rfl] at hQ
      exists eqv_nil
      exact fg_le l1 hQ
    | cons c cs =>
      rw [hc, if_neg (by simp)] at hQ
      exists eqv_cons
      rw [← List.map_cons (f := dPr)]
      have hlt := argBest_le (bt := btK ((c :: cs).map (·.1))) ((c :: cs).length - 1)
      have hl : (c :: cs).length = cs.length + 1 := List.length_cons
      have hi : (c :: cs)[argBest (btK ((c :: cs).map (·.1))) ((c :: cs).length - 1)]? = some ((c :: cs)[argBest (btK ((c :: cs).map (·.1))) ((c :: cs).length - 1)]'(by omega)) := List.getElem?_eq_getElem _
      rw [hi] at hQ
      refine ⟨l1 _ _ hT, i_maxKey (keysAt_pr _) (by simp) (by rw [List.length_map, List.getElem?_map, hi]; rfl) ?_⟩
      unfold dPr
      exists if_true
      exact fg_le l1 hQ
end
end P
namespace P
open PySem PySem.Spec L2 DL
open LamY
/-! ### the parts of a look -/
def dealOf : Ev → Option Dl
  | .deal d => some d
  | _ => none
def dealsOf (hs : List Ev) : List Dl := hs.filterMap dealOf
def wordIs (x : Str) (v : Ev) : Bool := decide (wordOf v = x)
/-- the forms up to a time: (time, place, fields) -/
def formF (time : Int) (i : Nat) : Ev → Option (List Int)
  | .form t n => if t ≤ time then some [t, (i : Int), n] else none
  | _ => none
def formsL (hs : List Ev) (time : Int) : List (List Int) := (hs.zipIdx 0).filterMap fun p => formF time p.2 p.1
def thrd : List Int → Int
  | [_, _, n] => n
  | _ => 0
def fieldsB (hs : List Ev) (time : Int) : Option Int := match formsL hs time with
  | [] => none
  | x :: xs => some (thrd (maxI x xs))
def optI : Option Int → D
  | none => .non
  | some i => .int i
def fmW (w : List Int) (f : Int) : List Int := w.take f.toNat ++ List.replicate (f.toNat - w.length) 0
def formV : Wo → Option Int → Wo
  | some w, some f => some (fmW w f)
  | o, _ => o
def ltS (a b : List Int) : Bool := HT.lexLt a b
def readsB (ds : List Dl) (d : Dl) : Bool := d.rs.all fun p => decide (p.2 = newB ds p.1 fun st => ltS st d.st)
def upto (time : Int) (st : List Int) : Bool := match st with
  | x :: _ => decide (x ≤ time)
  | [] => false
def lateB (ds : List Dl) (asked time : Int) : Bool := ds.any fun d => decide (d.tol ≤ asked) && decide (time < d.t)
def fitB (hs : List Ev) (ds : List Dl) : Ev → Bool
  | .read b a t k w => decide (w = formV (newB ds k (upto t)) (fieldsB hs t)) && (!b || !lateB ds a t)
  | _ => true
def clash (d o : Dl) : Bool := decide (d.tol ≤ o.beg) && (!eqvD (dlD d) (dlD o) && !PySem.W.listLt d.st o.st)
def goB (ds : List Dl) : Bool := ds.all fun d => !ds.any (clash d)
def numsB (ds : List Dl) : Bool := decide ((unl (ds.map fun d => (.inl d.num : Key))).length = ds.length)
def stsB (ds : List Dl) : Bool := decide ((unl (ds.map Dl.st)).length = ds.length)
def readsOf (hs : List Ev) : List Ev := hs.filter (wordIs "read") ++ hs.filter (wordIs "now")
def ordB (hs : List Ev) : Bool := hs.all toldB && (numsB (dealsOf hs) && stsB (dealsOf hs) && (goB (dealsOf hs) && (dealsOf hs).all (readsB (dealsOf hs))) && (readsOf hs).all (fitB hs (dealsOf hs)))
/-! ### small facts -/
theorem wD_non {w : Wo} : DL.isNon (wD w) = w.isNone := by cases w <;> rfl
theorem optI_non {z : Option Int} : DL.isNon (optI z) = z.isNone := by cases z <;> rfl
theorem eqvI : ∀ (a b : List Int), PyData.eqvAll ((a.map D.int).map (toPy 8)) ((b.map D.int).map (toPy 8)) = decide (a = b)
  | [], [] => rfl
  | [], _ :: _ => by simp [PyData.eqvAll]
  | _ :: _, [] => by simp [PyData.eqvAll]
  | x :: a, y :: b => by
    have ih := eqvI a b
    show PyData.eqvAll (.int x :: (a.map D.int).map (toPy 8)) (.int y :: (b.map D.int).map (toPy 8)) = _
    rw [PyData.eqvAll, ih]
    show (decide (x = y) && decide (a = b)) = _
    by_cases h1 : x = y <;> by_cases h2 : a = b <;> simp [h1, h2]
theorem eqv_w {a b : Wo} : eqvD (wD a) (wD b) = decide (a = b) := by
  cases a with
  | none => cases b with
    | none => rfl
    | some b => unfold eqvD toPy; simp [PyData.eqv, wD]
  | some a => cases b with
    | none => unfold eqvD toPy; simp [PyData.eqv, wD]
    | some b =>
      unfold eqvD toPy
      show PyData.eqv (.tuple ((a.map D.int).map (toPy 8))) (.tuple ((b.map D.int).map (toPy 8))) = _
      rw [PyData.eqv, eqvI]
      simp
end P
namespace P
open PySem PySem.Spec L2 DL
open LamY
section
variable {e : Env} {G : HD} {Q : Post} {E : DX}
theorem cutD_to {l : List D} {n : Nat} : cutD l none (some (n : Int)) = l.take n := by
  unfold cutD
  simp only [HT.sIx]
  have h1 : ¬ ((n : Int) < 0) := by omega
  simp [h1]
theorem formed_ok {v : Wo} {f : Option Int} (hv : ∀ w, v = some w → w ≠ [] ∧ w.length ≤ 4) (hf : ∀ i, f = some i → 1 ≤ i ∧ i ≤ 4) (hQ : Q (wD (formV v f)) G) : w_formed e [wD v, optI f] G Q E := by
  unfold w_formed
  exists wD_non, optI_non
  cases v with
  | none =>
    exists Option.isNone_none
    exact fg_in hQ
  | some w =>
    cases f with
    | none =>
      exists Option.isNone_none, Option.isNone_some
      exact fg_in hQ
    | some i =>
      obtain ⟨w1, w2⟩ := hv w rfl
      obtain ⟨i1, i2⟩ := hf i rfl
      exists Option.isNone_some, wD, optI
      obtain ⟨j, rfl⟩ := Int.eq_ofNat_of_zero_le (show 0 ≤ i by omega)
      have e1 : (List.replicate ((j : Int) - ((w.map D.int).length : Nat)).toNat [D.int 0]).flatten = List.replicate (j - w.length) (D.int 0) := by
        have : ((j : Int) - ((w.map D.int).length : Nat)).toNat = j - w.length := by rw [List.length_map]; omega
        rw [this, List.flatten_replicate_singleton]
      rw [cutD_to, e1]
      have e2 : (w.map D.int).take j ++ List.replicate (j - w.length) (D.int 0) = (fmW w j).map D.int := by
        unfold fmW
        rw [List.map_append, List.map_take, List.map_replicate]; rfl
      rw [e2]
      refine ⟨by rw [List.length_map]; omega, by rw [List.length_map]; omega, by simp, million (by rw [List.length_take, List.length_replicate]; omega), fg_in hQ⟩
/-! ### forms -/
theorem asTups_map : ∀ l : List (List Int), asTups (l.map fun x => D.tup (x.map D.int)) = some l
  | [] => rfl
  | x :: l => by
    show (match asInts (x.map D.int), asTups (l.map fun x => D.tup (x.map D.int)) with | some ns, some nss => some (ns :: nss) | _, _ => none) = _
    rw [asInts_map, asTups_map l]
theorem maxI_mem : ∀ (l : List (List Int)) (x : List Int), maxI x l ∈ x :: l
  | [], x => List.mem_cons_self ..
  | y :: l, x => by
    have h : maxI x (y :: l) = maxI (if PySem.W.listLt x y then y else x) l := rfl
    rw [h]
    have := maxI_mem l (if PySem.W.listLt x y then y else x)
    rcases List.mem_cons.mp this with z | z
    · rw [z]
      split
      · exact List.mem_cons_of_mem _ (List.mem_cons_self ..)
      · exact List.mem_cons_self ..
    · exact List.mem_cons_of_mem _ (List.mem_cons_of_mem _ z)
theorem forms_mem {hs : List Ev} {t : Int} {x : List Int} (h : x ∈ formsL hs t) : ∃ a i n, x = [a, i, n] ∧ Ev.form a n ∈ hs := by
  unfold formsL at h
  obtain ⟨p, hp, e1⟩ := List.mem_filterMap.mp h
  obtain ⟨v, i⟩ := p
  cases v with
  | deal d => cases e1
  | read b a t k w => cases e1
  | form a n =>
    change (if a ≤ t then some [a, (i : Int), n] else none) = some x at e1
    by_cases h1 : a ≤ t
    · rw [if_pos h1] at e1
      injection e1 with e1
      have hv := (List.mem_zipIdx hp).2.2
      exact ⟨a, _, n, e1.symm, by rw [hv]; exact List.getElem_mem _⟩
    · rw [if_neg h1] at e1
      cases e1
theorem fields_bnd {n : Int} {k m : Nat} {hs : List Ev} {t i : Int} (h : HsOk n k m hs) (hi : fieldsB hs t = some i) : 1 ≤ i ∧ i ≤ 4 := by
  unfold fieldsB at hi
  split at hi
  · cases hi
  · rename_i x xs e1
    cases hi
    obtain ⟨a, j, f, e2, h2⟩ := forms_mem (hs := hs) (t := t) (x := maxI x xs) (by rw [e1]; exact maxI_mem xs x)
    rw [e2]
    exact (h.ev _ h2).2
theorem tup_pure (l : List (List Int)) : pureD 9 (.kl (l.map fun x => D.tup (x.map D.int))) = true :=
  all_map_t (f := pureD 8) fun p _ => all_map_t (f := pureD 7) fun x _ => rfl
theorem ne_df : ¬ (Str.ofString "dealing" = Str.ofString "form") := by decide +kernel
theorem ne_nf {b : Bool} : ¬ (nowS b = Str.ofString "form") := by cases b <;> decide +kernel
theorem fields_ok {hs : List Ev} {t : Int} (hn : hs.length ≤ 1000) (hQ : Q (optI (fieldsB hs t)) G) : w_fields_then e [hD hs, .int t] G Q E := by
  unfold w_fields_then hD
  exists enum_len, List.length_map
  refine ⟨by omega, lc_ena (fun i v => (formF t i v).map fun x => D.tup (x.map D.int)) trivial (fun v hv i ky kn hy hk => ?_) ?_⟩
  · cases v with
    | deal d =>
      exists dwipe, evD, dlD, ne_df, decide_false
      exact hk rfl
    | read b a t2 k w =>
      exists dwipe, evD, ne_nf, decide_false
      exact hk rfl
    | form a n =>
      exists dwipe, evD, decide_true
      by_cases h1 : a ≤ t
      · exists h1, decide_true
        refine hy _ ?_
        show (if a ≤ t then some [a, (i : Int), n] else none).map _ = _
        rw [if_pos h1]; rfl
      · exists h1, decide_false
        refine hk ?_
        show (if a ≤ t then some [a, (i : Int), n] else none).map _ = _
        rw [if_neg h1]; rfl
  · rw [List.nil_append]
    have e1 : ((hs.zipIdx 0).filterMap fun p => (formF t p.2 p.1).map fun x => D.tup (x.map D.int)) = (formsL hs t).map fun x => D.tup (x.map D.int) := by
      unfold formsL
      rw [List.map_filterMap]
    rw [e1]
    refine i_eqX (tup_pure _) (show pureD 9 (.kl []) = true from rfl) ?_
    unfold fieldsB at hQ
    cases hf : formsL hs t with
    | nil =>
      rw [hf] at hQ
      exists eqv_nil
      exact fg_in hQ
    | cons x xs =>
      rw [hf] at hQ
      obtain ⟨a, i, n, e2, h2⟩ := forms_mem (hs := hs) (t := t) (x := maxI x xs) (by rw [hf]; exact maxI_mem xs x)
      exists eqv_cons
      have e3 : asTups (D.tup (x.map D.int) :: xs.map fun x => D.tup (x.map D.int)) = some (x :: xs) := asTups_map (x :: xs)
      unfold mxLO
      dsimp only
      rw [e3]
      unfold mxTO
      dsimp only
      change Q (.int (thrd (maxI x xs))) G at hQ
      rw [e2] at hQ ⊢
      exists if_true
      exact fg_in hQ
end
end P
namespace P
open PySem PySem.Spec L2 DL
open LamY
section
variable {e : Env} {G : HD} {Q : Post} {E : DX}
def Tb (e : Env) (G : HD) : Prop := ∀ p ∈ tabs e, G p.1 = some (.tab p.2)
theorem Tb.le {G' : HD} (h : Tb e G) (l : Le G G') : Tb e G' := fun p hp => l _ _ (h p hp)
theorem Tb.fr {G' : HD} {A : List Addr} (h : Tb e G) (l : Fr A G G') (hA : ∀ a ∈ A, ∃ xs, G a = some (.lst xs)) : Tb e G' := fun p hp => l _ _ (fun z => by obtain ⟨xs, hx⟩ := hA _ z; rw [h p hp] at hx; cases hx) (h p hp)
theorem Tb.nb (h : Tb e G) : G e.P_newest_below = some (.tab (qlam "newest_below")) := h _ (List.mem_cons_self ..)
theorem Tb.rg (h : Tb e G) : G e.P_reading_fits = some (.tab (qlam "reading_fits")) := h _ (List.mem_cons_of_mem _ (List.mem_cons_self ..))
theorem Tb.rf (h : Tb e G) : G e.P_reads_fit = some (.tab (qlam "reads_fit")) := h _ (List.mem_cons_of_mem _ (List.mem_cons_of_mem _ (List.mem_cons_self ..)))
theorem lt3 {a b c x y z : Int} : dLtD (.tup [.int a, .int b, .int c]) (.tup [.int x, .int y, .int z]) G Q = Q (.bl (ltS [a, b, c] [x, y, z])) G := propext ⟨fun h => h, fun h => h⟩
theorem w_pure9 {w : Wo} : pureD 9 (wD w) = true := wD_pure 7 w
theorem reads_ok {ds : List Dl} {d : Dl} (hT : Tb e G) (hn : ds.length ≤ 100) (hw : ∀ d ∈ ds, wsNd d) (hQ : Q (.bl (readsB ds d)) G) : w_reads_fit e [.kl (ds.map dlD), dlD d] G Q E := by
  unfold w_reads_fit dlD
  exists atI5, prsD
  refine forD_inv (fun r σ G' => (∃ w1 w2, σ = [some (.kl (ds.map dlD)), some (dlD d), some (.tup [.int d.t, .int d.s, .int d.h]), w1, w2]) ∧ (∃ l, r = l.map pD ∧ readsB ds d = l.all fun p => decide (p.2 = newB ds p.1 fun st => ltS st d.st)) ∧ G' = G) (fun _ _ _ _ => trivial) (fun x r k σ G' hI hk' => ?_) (fun σ G' hI => ?_) _ _ _ ⟨⟨none, none, rfl⟩, ⟨d.rs, rfl, rfl⟩, rfl⟩
  · obtain ⟨⟨w1, w2, rfl⟩, ⟨l, hl, hB⟩, rfl⟩ := hI
    cases l with
    | nil => cases hl
    | cons p l =>
      injection hl with h1 h2
      subst h1
      unfold l_reads_fit_1 pD
      exists if_true
      refine i_tabP hT.rf rfl (fun v hv => newest_ok hT.nb hn hw (fits := fun st => ltS st d.st) (fun d2 _ G2 K2 _ hK => ?_) ?_)
      · exists lt3
        exact hK
      · refine i_eqX w_pure9 w_pure9 ?_
        exists eqv_w
        by_cases h3 : p.2 = newB ds p.1 fun st => ltS st d.st
        · exists h3, decide_true
          rw [← h3]
          refine hk' _ _ ⟨⟨_, _, rfl⟩, ⟨l, h2, ?_⟩, rfl⟩
          rw [hB, List.all_cons, decide_eq_true h3, Bool.true_and]
        · exists h3, decide_false
          refine fg_in ?_
          rw [hB, List.all_cons, decide_eq_false h3, Bool.false_and] at hQ
          exact hQ
  · obtain ⟨⟨w1, w2, rfl⟩, ⟨l, hl, hB⟩, rfl⟩ := hI
    have : l = [] := List.map_eq_nil_iff.mp hl.symm
    subst this
    exists if_true
    rw [hB] at hQ
    exact fg_in hQ
theorem filterD {p : Ev → Bool} : ∀ hs : List Ev, (hs.filterMap fun v => if p v = true then some (evD v) else none) = (hs.filter p).map evD
  | [] => rfl
  | v :: hs => by
    cases h : p v with
    | true => rw [List.filterMap_cons_some (b := evD v) (by rw [h]; rfl), List.filter_cons_of_pos h, List.map_cons, filterD hs]
    | false => rw [List.filterMap_cons_none (by rw [h]; rfl), List.filter_cons_of_neg (by rw [h]; decide), filterD hs]
theorem ofword_ok {hs : List Ev} {x : Str} (hn : hs.length ≤ 1000) (hQ : Q (.kl ((hs.filter (wordIs x)).map evD)) G) : w_of_word e [hD hs, .str x] G Q E := by
  unfold w_of_word hD
  exists List.length_map
  refine ⟨by omega, lc_pma (fun v => if wordIs x v = true then some (evD v) else none) trivial (fun v hv ky kn hy hk => ?_) ?_⟩
  · have hw : ∃ l, evD v = .tup (.str (wordOf v) :: l) := by cases v <;> exact ⟨_, rfl⟩
    obtain ⟨l, hl⟩ := hw
    exists dwipe, hl
    unfold wordIs at hy hk
    by_cases h : wordOf v = x
    · exists h, decide_true
      rw [decide_eq_true h, if_pos rfl, hl] at hy
      have := hy _ rfl
      rw [h] at this
      exact this
    · exists h, decide_false
      rw [decide_eq_false h, if_neg (by decide)] at hk
      exact hk rfl
  · rw [List.nil_append, filterD]
    exact fg_in hQ
theorem ne_fd : ¬ (Str.ofString "form" = Str.ofString "dealing") := by decide +kernel
theorem ne_nd {b : Bool} : ¬ (nowS b = Str.ofString "dealing") := by cases b <;> decide +kernel
theorem deals_map (hs : List Ev) : (hs.filter (wordIs "dealing")).map evD = (dealsOf hs).map dlD := by
  unfold dealsOf
  induction hs with
  | nil => rfl
  | cons v hs ih =>
    cases v with
    | deal d =>
      rw [List.filter_cons_of_pos (by exact decide_eq_true rfl), List.filterMap_cons_some (f := dealOf) (a := .deal d) (b := d) rfl, List.map_cons, List.map_cons, ih]
      rfl
    | form t n =>
      rw [List.filter_cons_of_neg (by exact fun z => ne_fd (of_decide_eq_true z)), List.filterMap_cons_none (f := dealOf) (a := .form t n) rfl, ih]
    | read b a t k w =>
      rw [List.filter_cons_of_neg (by exact fun z => ne_nd (of_decide_eq_true z)), List.filterMap_cons_none (f := dealOf) (a := .read b a t k w) rfl, ih]
/-! ### time -/
theorem filterDl {p : Dl → Bool} : ∀ hs : List Dl, (hs.filterMap fun v => if p v = true then some (dlD v) else none) = (hs.filter p).map dlD
  | [] => rfl
  | v :: hs => by
    cases h : p v with
    | true => rw [List.filterMap_cons_some (b := dlD v) (by rw [h]; rfl), List.filter_cons_of_pos h, List.map_cons, filterDl hs]
    | false => rw [List.filterMap_cons_none (by rw [h]; rfl), List.filter_cons_of_neg (by rw [h]; decide), filterDl hs]
theorem dl_pure {n : Int} {k : Nat} {d : Dl} (h : DlOk n k d) : pureD 9 (dlD d) = true := evD_pure (v := .deal d) h 3
theorem go_ok {n : Int} {k : Nat} {ds : List Dl} (hd : ∀ d ∈ ds, DlOk n k d) (hn : ds.length ≤ 1000) (hQ : Q (.bl (goB ds)) G) : w_go_as_time e [.kl (ds.map dlD)] G Q E := by
  unfold w_go_as_time
  exists if_true
  refine forD_inv (fun r σ G' => (∃ w1 w2, σ = [some (.kl (ds.map dlD)), w1, w2]) ∧ (∃ l, r = l.map dlD ∧ (∀ d ∈ l, d ∈ ds) ∧ goB ds = l.all fun d => !ds.any (clash d)) ∧ G' = G) (fun _ _ _ _ => trivial) (fun x r k σ G' hI hk' => ?_) (fun σ G' hI => ?_) _ _ _ ⟨⟨none, none, rfl⟩, ⟨ds, rfl, fun d h => h, rfl⟩, rfl⟩
  · obtain ⟨⟨w1, w2, rfl⟩, ⟨l, hl, hm, hB⟩, rfl⟩ := hI
    cases l with
    | nil => cases hl
    | cons d l =>
      injection hl with h1 h2
      subst h1
      have hdd := hd d (hm d (List.mem_cons_self ..))
      unfold l_go_as_time_1
      exists List.length_map
      refine ⟨by omega, lc_pma (fun o => if clash d o = true then some (dlD o) else none) trivial (fun o ho ky kn hy hk => ?_) ?_⟩
      · unfold clash at hy hk
        have e1 : dlD d = .tup [.str "dealing", .int d.num, .int d.beg, .int d.tol, .tup [.int d.t, .int d.s, .int d.h], prsD d.rs, prsD d.wr] := rfl
        have e2 : dlD o = .tup [.str "dealing", .int o.num, .int o.beg, .int o.tol, .tup [.int o.t, .int o.s, .int o.h], prsD o.rs, prsD o.wr] := rfl
        exists dwipe
        rw [e1, e2]
        exists if_true
        by_cases h1 : d.tol ≤ o.beg
        · exists h1, decide_true
          refine i_eqX (dl_pure hdd) (dl_pure (hd o ho)) ?_
          rw [decide_eq_true h1, Bool.true_and] at hy hk
          rw [← e1, ← e2]
          exists if_true
          cases h2 : !eqvD (dlD d) (dlD o) with
          | false =>
            rw [h2, Bool.false_and] at hk
            exists if_true
            exact hk rfl
          | true =>
            rw [h2, Bool.true_and] at hk hy
            exists if_true
            cases h3 : !PySem.W.listLt d.st o.st with
            | false =>
              rw [h3] at hk
              have h3' : (!PySem.W.listLt [d.t, d.s, d.h] [o.t, o.s, o.h]) = false := h3
              exists h3'
              exact hk rfl
            | true =>
              rw [h3] at hy
              have h3' : (!PySem.W.listLt [d.t, d.s, d.h] [o.t, o.s, o.h]) = true := h3
              exists h3'
              exact hy _ rfl
        · exists h1, decide_false
          rw [decide_eq_false h1, Bool.false_and] at hk
          exact hk rfl
      · rw [List.nil_append, filterDl]
        have hp : pureD 9 (.kl ((ds.filter (clash d)).map dlD)) = true := all_map_t (f := pureD 8) fun o ho => evD_pure (v := .deal o) (hd o (List.mem_filter.mp ho).1) 2
        refine i_eqX hp (show pureD 9 (.kl []) = true from rfl) ?_
        rw [List.all_cons] at hB
        cases hf : ds.filter (clash d) with
        | nil =>
          exists List.map_nil, eqv_nil
          refine hk' _ _ ⟨⟨_, _, rfl⟩, ⟨l, h2, fun d hd => hm d (List.mem_cons_of_mem _ hd), ?_⟩, rfl⟩
          have : ds.any (clash d) = false := by
            rw [List.any_eq_false]
            intro o ho hc
            have : o ∈ ds.filter (clash d) := List.mem_filter.mpr ⟨ho, hc⟩
            rw [hf] at this; cases this
          rw [hB, this]; rfl
        | cons o os =>
          exists List.map_cons, eqv_cons
          have ho : o ∈ ds.filter (clash d) := by rw [hf]; exact List.mem_cons_self ..
          have : ds.any (clash d) = true := List.any_eq_true.mpr ⟨o, (List.mem_filter.mp ho).1, (List.mem_filter.mp ho).2⟩
          rw [this] at hB
          rw [hB] at hQ
          exact fg_in hQ
  · obtain ⟨⟨w1, w2, rfl⟩, ⟨l, hl, _, hB⟩, rfl⟩ := hI
    have : l = [] := List.map_eq_nil_iff.mp hl.symm
    subst this
    exists if_true
    rw [hB] at hQ
    exact fg_in hQ
end
end P
namespace P
open PySem PySem.Spec L2 DL
open LamY
section
variable {e : Env} {G : HD} {Q : Post} {E : DX}
theorem look_mem {k : Str} {w : List Int} : ∀ {ws : List (Str × List Int)}, ws.lookup k = some w → ∃ k', (k', w) ∈ ws
  | [], h => by cases h
  | p :: ws, h => by
    rw [List.lookup_cons] at h
    split at h
    · cases h; exact ⟨p.1, List.mem_cons_self ..⟩
    · obtain ⟨k', h'⟩ := look_mem h
      exact ⟨k', List.mem_cons_of_mem _ h'⟩
theorem cand_ok {n : Int} {j : Nat} {ds : List Dl} {k : Str} {fits : List Int → Bool} (hd : ∀ d ∈ ds, DlOk n j d) {p : List Int × List Int} (h : p ∈ cand ds k fits) : WoOk n p.2 ∧ ∃ d ∈ ds, p.1 = d.st ∧ fits d.st = true ∧ d.ws.lookup k = some p.2 := by
  obtain ⟨d, hm, e1⟩ := List.mem_filterMap.mp h
  unfold candF at e1
  cases hl : d.ws.lookup k with
  | none => rw [hl] at e1; cases e1
  | some w =>
    rw [hl] at e1
    cases hf : fits d.st with
    | false => rw [hf] at e1; cases e1
    | true =>
      rw [hf] at e1
      cases e1
      obtain ⟨k', hk'⟩ := look_mem hl
      exact ⟨((hd d hm).wk _ hk').2, d, hm, rfl, hf, hl⟩
theorem newB_ok {n : Int} {j : Nat} {ds : List Dl} {k : Str} {fits : List Int → Bool} (hd : ∀ d ∈ ds, DlOk n j d) : WOk n (newB ds k fits) := by
  intro l hl
  unfold newB at hl
  split at hl
  · cases hl
  · rw [Option.map_eq_some_iff] at hl
    obtain ⟨p, hp, rfl⟩ := hl
    exact (cand_ok hd (List.mem_of_getElem? hp)).1
theorem late_pure {n : Int} {k : Nat} {l : List Dl} (hd : ∀ d ∈ l, DlOk n k d) : pureD 9 (.kl (l.map dlD)) = true := all_map_t (f := pureD 8) fun o ho => evD_pure (v := .deal o) (hd o ho) 2
theorem ne_nr : ¬ (Str.ofString "now" = Str.ofString "read") := by decide +kernel
theorem fit_ok {n : Int} {k m : Nat} {hs : List Ev} {ds : List Dl} {b : Bool} {a t : Int} {y : Str} {w : Wo} (hT : Tb e G) (hH : HsOk n k m hs) (hm : m ≤ 100) (hd : ∀ d ∈ ds, DlOk n k d) (hn : ds.length ≤ 100) (hw : ∀ d ∈ ds, wsNd d) (hQ : Q (.bl (fitB hs ds (.read b a t y w))) G) :
    w_reading_fits e [hD hs, .kl (ds.map dlD), evD (.read b a t y w)] G Q E := by
  unfold w_reading_fits evD
  exists if_true
  refine i_tabP hT.rg rfl (fun v hv => newest_ok hT.nb hn hw (fits := upto t) (fun d2 _ G2 K2 _ hK => ?_) ?_)
  · exists if_true
    exact hK
  · exists if_true
    refine fields_ok (Nat.le_trans hH.len (by omega)) ?_
    exists if_true
    refine formed_ok (fun w2 hw2 => ⟨fun z => ?_, ((newB_ok hd) w2 hw2).l4⟩) (fun i hi => fields_bnd hH hi) ?_
    · have := ((newB_ok hd) w2 hw2).l1
      rw [z] at this; exact absurd this (by decide)
    refine i_eqX w_pure9 w_pure9 ?_
    exists eqv_w
    change Q (.bl (decide (w = formV (newB ds y (upto t)) (fieldsB hs t)) && (!b || !lateB ds a t))) G at hQ
    by_cases h1 : w = formV (newB ds y (upto t)) (fieldsB hs t)
    · rw [decide_eq_true h1, Bool.true_and] at hQ
      exists decide_eq_true h1
      cases b with
      | false =>
        exists nowS, decide_true
        exact fg_in hQ
      | true =>
        exists nowS, ne_nr, decide_false, List.length_map
        refine ⟨by omega, lc_pma (fun o => if (decide (o.tol ≤ a) && decide (t < o.t)) = true then some (dlD o) else none) trivial (fun o ho ky kn hy hk => ?_) ?_⟩
        · have e2 : dlD o = .tup [.str "dealing", .int o.num, .int o.beg, .int o.tol, .tup [.int o.t, .int o.s, .int o.h], prsD o.rs, prsD o.wr] := rfl
          exists dwipe
          rw [e2]
          exists if_true
          by_cases h2 : o.tol ≤ a
          · rw [decide_eq_true h2, Bool.true_and] at hy hk
            exists h2, decide_true
            by_cases h3 : t < o.t
            · rw [decide_eq_true h3] at hy
              exists h3, decide_true
              exact hy _ rfl
            · rw [decide_eq_false h3] at hk
              exists h3, decide_false
              exact hk rfl
          · rw [decide_eq_false h2, Bool.false_and] at hk
            exists h2, decide_false
            exact hk rfl
        · rw [List.nil_append, filterDl]
          refine i_eqX (late_pure fun o ho => hd o (List.mem_filter.mp ho).1) (show pureD 9 (.kl []) = true from rfl) ?_
          cases hf : ds.filter fun o => decide (o.tol ≤ a) && decide (t < o.t) with
          | nil =>
            exists List.map_nil, eqv_nil
            have : lateB ds a t = false := by
              unfold lateB
              rw [List.any_eq_false]
              intro o ho hc
              have : o ∈ ds.filter fun o => decide (o.tol ≤ a) && decide (t < o.t) := List.mem_filter.mpr ⟨ho, hc⟩
              rw [hf] at this; cases this
            rw [this] at hQ
            exact fg_in hQ
          | cons o os =>
            exists List.map_cons, eqv_cons
            have ho : o ∈ ds.filter fun o => decide (o.tol ≤ a) && decide (t < o.t) := by rw [hf]; exact List.mem_cons_self ..
            have : lateB ds a t = true := List.any_eq_true.mpr ⟨o, (List.mem_filter.mp ho).1, (List.mem_filter.mp ho).2⟩
            rw [this] at hQ
            exact fg_in hQ
    · rw [decide_eq_false h1, Bool.false_and] at hQ
      exists decide_eq_false h1
      exact fg_in hQ
/-! ### the look -/
theorem deals_ok {n : Int} {k m : Nat} {hs : List Ev} (h : HsOk n k m hs) : (∀ d ∈ dealsOf hs, DlOk n k d) ∧ (dealsOf hs).length ≤ m := by
  refine ⟨fun d hd => ?_, Nat.le_trans (List.length_filterMap_le _ _) h.len⟩
  obtain ⟨v, hv, e1⟩ := List.mem_filterMap.mp hd
  cases v with
  | deal d2 => cases e1; exact h.ev _ hv
  | form t n => cases e1
  | read b a t k w => cases e1
theorem told_nd {hs : List Ev} (h : hs.all toldB = true) : ∀ d ∈ dealsOf hs, wsNd d ∧ d.beg ≤ d.tol ∧ (d.rs.map (·.1)).Nodup := by
  intro d hd
  obtain ⟨v, hv, e1⟩ := List.mem_filterMap.mp hd
  rw [List.all_eq_true] at h
  cases v with
  | deal d2 =>
    cases e1
    have := h _ hv
    change (decide (d.beg ≤ d.tol) && (pairsB d.rs && pairsB d.wr)) = true at this
    rw [Bool.and_eq_true, Bool.and_eq_true] at this
    have h2 := pairsB_nd this.2.2
    unfold Dl.wr at h2
    rw [List.map_map] at h2
    exact ⟨h2, of_decide_eq_true this.1, pairsB_nd this.2.1⟩
  | form t n => cases e1
  | read b a t k w => cases e1
theorem all_bl {α : Type} {f : α → Bool} (l : List α) : (l.map fun v => D.bl (f v)) = (l.map f).map D.bl := by rw [List.map_map]; rfl
theorem ne_dr : ¬ (Str.ofString "dealing" = Str.ofString "read") := by decide +kernel
theorem ne_fr : ¬ (Str.ofString "form" = Str.ofString "read") := by decide +kernel
theorem ne_dn : ¬ (Str.ofString "dealing" = Str.ofString "now") := by decide +kernel
theorem ne_fn : ¬ (Str.ofString "form" = Str.ofString "now") := by decide +kernel
theorem ord_ok {n : Int} {k m : Nat} {hs : List Ev} (hT : Tb e G) (h : HsOk n k m hs) (hk : k ≤ 50) (hm : m ≤ 50) (hQ : Q (.bl (ordB hs)) G) : w_is_ordered e [hD hs] G Q E := by
  have hlen := h.len
  obtain ⟨hd, hdl⟩ := deals_ok h
  unfold w_is_ordered hD
  exists List.length_map
  refine ⟨by omega, lc_pma (fun v => some (.bl (toldB v))) trivial (fun v hv ky kn hy hk2 => ?_) ?_⟩
  · exists dwipe
    exact told_ok (h.ev v hv) (by omega) (hy _ rfl)
  · rw [List.nil_append, List.filterMap_eq_map', all_bl, r_allB]
    exists List.all_map
    have e0 : hs.all (id ∘ toldB) = hs.all toldB := rfl
    rw [e0]
    unfold ordB at hQ
    cases ha : hs.all toldB with
    | false =>
      rw [ha, Bool.false_and] at hQ
      exists if_true
      exact fg_in hQ
    | true =>
      have nd := told_nd ha
      rw [ha, Bool.true_and] at hQ
      exists if_true
      refine ofword_ok (by omega) ?_
      rw [deals_map]
      generalize dealsOf hs = ds at hQ hd hdl nd ⊢
      exists List.length_map
      refine ⟨by omega, sc_fma (fun d => .inl d.num) (fun d hd ky kn h => ?_) ?_⟩
      · exists dwipe, dlD
        exact h _ rfl
      · rw [List.nil_append]
        exists List.length_map
        refine ⟨by omega, ?_⟩
        have u1 := unl_len (ds.map fun d => (.inl d.num : Key))
        rw [List.length_map] at u1
        by_cases h1 : (unl (ds.map fun d => (.inl d.num : Key))).length = ds.length
        · have h1' : numsB ds = true := decide_eq_true h1
          rw [h1', Bool.true_and] at hQ
          exists show ¬ (((unl (ds.map fun d => (.inl d.num : Key))).length : Int) < (ds.length : Int)) by omega, decide_false, List.length_map
          refine ⟨by omega, ts_fma Dl.st (fun d hd ky kn h => ?_) ?_⟩
          · exists dwipe, dlD
            exact h _ rfl
          · rw [List.nil_append]
            exists List.length_map
            have u2 := unl_len (ds.map Dl.st)
            rw [List.length_map] at u2
            by_cases h2 : (unl (ds.map Dl.st)).length = ds.length
            · have h2' : stsB ds = true := decide_eq_true h2
              rw [h2', Bool.true_and] at hQ
              exists show ¬ (((unl (ds.map Dl.st)).length : Int) < (ds.length : Int)) by omega, decide_false
              refine go_ok hd (by omega) ?_
              cases h3 : goB ds with
              | false =>
                rw [h3, Bool.false_and, Bool.false_and] at hQ
                exists if_true
                exact fg_in hQ
              | true =>
                rw [h3, Bool.true_and] at hQ
                exists List.length_map
                refine ⟨by omega, lc_pma (fun d => some (.bl (readsB ds d))) trivial (fun d hd2 ky kn hy hk2 => ?_) ?_⟩
                · exists dwipe
                  exact reads_ok hT (by omega) (fun d hd => (nd d hd).1) (hy _ rfl)
                · rw [List.nil_append, List.filterMap_eq_map', all_bl, r_allB]
                  exists List.all_map
                  have e1 : ds.all (id ∘ readsB ds) = ds.all (readsB ds) := rfl
                  rw [e1]
                  cases h4 : ds.all (readsB ds) with
                  | false =>
                    rw [h4, Bool.false_and] at hQ
                    exists if_true
                    exact fg_in hQ
                  | true =>
                    rw [h4, Bool.true_and] at hQ
                    exists if_true
                    refine ofword_ok (by omega) ?_
                    exists if_true
                    refine ofword_ok (by omega) ?_
                    have l1 := List.length_filter_le (wordIs "read") hs
                    have l2 := List.length_filter_le (wordIs "now") hs
                    have hsz : sizeLine ≥ 100 := by decide
                    exists List.length_map
                    rw [← List.map_append]
                    change Q (.bl ((readsOf hs).all (fitB hs ds))) G at hQ
                    have hr : ∀ v ∈ readsOf hs, v ∈ hs ∧ ∃ b a t y w, v = .read b a t y w := by
                      intro v hv
                      rcases List.mem_append.mp hv with z | z
                      · obtain ⟨z1, z2⟩ := List.mem_filter.mp z
                        refine ⟨z1, ?_⟩
                        cases v with
                        | deal d => exact absurd (of_decide_eq_true z2) ne_dr
                        | form t n => exact absurd (of_decide_eq_true z2) ne_fr
                        | read b a t y w => exact ⟨b, a, t, y, w, rfl⟩
                      · obtain ⟨z1, z2⟩ := List.mem_filter.mp z
                        refine ⟨z1, ?_⟩
                        cases v with
                        | deal d => exact absurd (of_decide_eq_true z2) ne_dn
                        | form t n => exact absurd (of_decide_eq_true z2) ne_fn
                        | read b a t y w => exact ⟨b, a, t, y, w, rfl⟩
                    have e2 : hs.filter (wordIs "read") ++ hs.filter (wordIs "now") = readsOf hs := rfl
                    rw [e2]
                    have l3 : (readsOf hs).length ≤ 100 := by rw [← e2, List.length_append]; omega
                    refine ⟨by omega, by rw [List.length_map]; omega, lc_pma (fun v => some (.bl (fitB hs ds v))) trivial (fun v hv ky kn hy hk2 => ?_) ?_⟩
                    · obtain ⟨hv1, b, a, t, y, w, rfl⟩ := hr v hv
                      exists dwipe
                      exact fit_ok hT h (by omega) hd (by omega) (fun d hd => (nd d hd).1) (hy _ rfl)
                    · rw [List.nil_append, List.filterMap_eq_map', all_bl, r_allB]
                      refine fg_in ?_
                      rw [List.all_map]
                      exact hQ
            · have h2' : stsB ds = false := decide_eq_false h2
              rw [h2', Bool.false_and, Bool.false_and] at hQ
              exists show (((unl (ds.map Dl.st)).length : Int) < (ds.length : Int)) by omega, decide_true
              exact fg_in hQ
        · have h1' : numsB ds = false := decide_eq_false h1
          rw [h1', Bool.false_and, Bool.false_and] at hQ
          exists show (((unl (ds.map fun d => (.inl d.num : Key))).length : Int) < (ds.length : Int)) by omega, decide_true
          exact fg_in hQ
end
end P
namespace P
open PySem PySem.Spec L2 DL
open LamY
/-! ### the order of stamps -/
theorem lx_lt : ∀ a b : List Int, HT.lexLt a b = PySem.W.listLt a b
  | [], [] => rfl
  | [], _ :: _ => rfl
  | _ :: _, [] => rfl
  | x :: a, y :: b => by
    rw [HT.lexLt_cons, lx_lt a b]
    rfl
theorem lx_irr : ∀ a : List Int, HT.lexLt a a = false
  | [] => rfl
  | x :: a => by rw [HT.lexLt_cons, if_pos rfl, lx_irr a]
theorem lx_tot : ∀ {a b : List Int}, HT.lexLt a b = false → HT.lexLt b a = false → a = b
  | [], [], _, _ => rfl
  | [], _ :: _, h, _ => by cases h
  | _ :: _, [], _, h => by cases h
  | x :: a, y :: b, h1, h2 => by
    rw [HT.lexLt_cons] at h1 h2
    by_cases e : x = y
    · rw [if_pos e] at h1
      rw [if_pos e.symm] at h2
      rw [e, lx_tot h1 h2]
    · rw [if_neg e] at h1
      rw [if_neg (Ne.symm e)] at h2
      have := of_decide_eq_false h1
      have := of_decide_eq_false h2
      omega
theorem lx_tr : ∀ {a b c : List Int}, HT.lexLt a b = true → HT.lexLt b c = true → HT.lexLt a c = true
  | [], [], _, h, _ => by cases h
  | [], _ :: _, [], _, h => by cases h
  | [], _ :: _, _ :: _, _, _ => rfl
  | _ :: _, [], _, h, _ => by cases h
  | _ :: _, _ :: _, [], _, h => by cases h
  | x :: a, y :: b, z :: c, h1, h2 => by
    rw [HT.lexLt_cons] at h1 h2 ⊢
    by_cases e1 : x = y
    · rw [if_pos e1] at h1
      by_cases e2 : y = z
      · rw [if_pos e2] at h2
        rw [if_pos (e1.trans e2)]
        exact lx_tr h1 h2
      · rw [if_neg e2] at h2
        rw [if_neg (by rw [e1]; exact e2), e1]
        exact h2
    · rw [if_neg e1] at h1
      have h1 := of_decide_eq_true h1
      by_cases e2 : y = z
      · rw [if_neg (by rw [← e2]; exact e1), ← e2]
        exact decide_eq_true h1
      · rw [if_neg e2] at h2
        have h2 := of_decide_eq_true h2
        rw [if_neg (by omega)]
        exact decide_eq_true (by omega)
theorem best_max {ks : List (List Int)} : ∀ n j : Nat, j ≤ n → HT.lexLt (ks.getD (argBest (btK ks) n) []) (ks.getD j []) = false
  | 0, j, h => by
    obtain rfl : j = 0 := by omega
    exact lx_irr _
  | n + 1, j, h => by
    have hb : argBest (btK ks) (n + 1) = if btK ks (n + 1) (argBest (btK ks) n) then n + 1 else argBest (btK ks) n := rfl
    rw [hb]
    cases hc : btK ks (n + 1) (argBest (btK ks) n) with
    | true =>
      rw [if_pos rfl]
      have hc' : HT.lexLt (ks.getD (argBest (btK ks) n) []) (ks.getD (n + 1) []) = true := by rw [lx_lt]; exact hc
      by_cases e : j = n + 1
      · rw [e]; exact lx_irr _
      · have ih := best_max (ks := ks) n j (by omega)
        cases h2 : HT.lexLt (ks.getD (n + 1) []) (ks.getD j []) with
        | false => rfl
        | true => rw [lx_tr hc' h2] at ih; cases ih
    | false =>
      rw [if_neg (by decide)]
      have hc' : HT.lexLt (ks.getD (argBest (btK ks) n) []) (ks.getD (n + 1) []) = false := by rw [lx_lt]; exact hc
      by_cases e : j = n + 1
      · rw [e]; exact hc'
      · exact best_max (ks := ks) n j (by omega)
/-- the newest of the candidates -/
def newC (c : List (List Int × List Int)) : Wo := if c = [] then none else (c[argBest (btK (c.map (·.1))) (c.length - 1)]?).map (·.2)
theorem newB_eq {ds : List Dl} {k : Str} {fits : List Int → Bool} : newB ds k fits = newC (cand ds k fits) := rfl
/-- the greatest one -/
def Top (c : List (List Int × List Int)) (p : List Int × List Int) : Prop := p ∈ c ∧ ∀ q ∈ c, HT.lexLt p.1 q.1 = false
theorem newC_top {c : List (List Int × List Int)} (h : c ≠ []) : ∃ p, newC c = some p.2 ∧ Top c p := by
  have hl : 0 < c.length := List.length_pos_iff.mpr h
  have hlt := argBest_le (bt := btK (c.map (·.1))) (c.length - 1)
  have hi : c[argBest (btK (c.map (·.1))) (c.length - 1)]? = some (c[argBest (btK (c.map (·.1))) (c.length - 1)]'(by omega)) := List.getElem?_eq_getElem _
  refine ⟨_, by unfold newC; rw [if_neg h, hi]; rfl, List.getElem_mem _, fun q hq => ?_⟩
  obtain ⟨j, hj, rfl⟩ := List.getElem_of_mem hq
  have := best_max (ks := c.map (·.1)) (c.length - 1) j (by omega)
  rw [List.getD_eq_getElem?_getD, List.getD_eq_getElem?_getD, List.getElem?_map, List.getElem?_map, hi, List.getElem?_eq_getElem hj] at this
  exact this
theorem nd_inj {α β : Type} {f : α → β} : ∀ {c : List α} {p q : α}, (c.map f).Nodup → p ∈ c → q ∈ c → f p = f q → p = q
  | x :: c, p, q, nd, hp, hq, e => by
    rw [List.map_cons, List.nodup_cons] at nd
    rcases List.mem_cons.mp hp with h1 | h1
    · rcases List.mem_cons.mp hq with h2 | h2
      · rw [h1, h2]
      · exact absurd (List.mem_map.mpr ⟨q, h2, by rw [← e, h1]⟩) nd.1
    · rcases List.mem_cons.mp hq with h2 | h2
      · exact absurd (List.mem_map.mpr ⟨p, h1, by rw [e, h2]⟩) nd.1
      · exact nd_inj nd.2 h1 h2 e
theorem top_uniq {c : List (List Int × List Int)} (nd : (c.map (·.1)).Nodup) {p q : List Int × List Int} (hp : Top c p) (hq : Top c q) : p = q :=
  nd_inj (f := (·.1)) nd hp.1 hq.1 (lx_tot (hp.2 q hq.1) (hq.2 p hp.1))
theorem newC_of {c : List (List Int × List Int)} (nd : (c.map (·.1)).Nodup) {p : List Int × List Int} (hp : Top c p) : newC c = some p.2 := by
  obtain ⟨q, e, hq⟩ := newC_top (c := c) (fun z => by rw [z] at hp; cases hp.1)
  rw [e, top_uniq nd hp hq]
theorem cand_sub {k : Str} {fits : List Int → Bool} : ∀ ds : List Dl, ((cand ds k fits).map (·.1)).Sublist (ds.map Dl.st)
  | [] => List.Sublist.slnil
  | d :: ds => by
    have ih := cand_sub (k := k) (fits := fits) ds
    unfold cand at ih ⊢
    cases h : candF k fits d with
    | none => rw [List.filterMap_cons_none h, List.map_cons]; exact ih.cons _
    | some p =>
      rw [List.filterMap_cons_some h, List.map_cons, List.map_cons]
      have e : p.1 = d.st := by
        unfold candF at h
        cases hl : d.ws.lookup k with
        | none => rw [hl] at h; cases h
        | some w =>
          rw [hl] at h
          cases hf : fits d.st with
          | false => rw [hf] at h; cases h
          | true => rw [hf] at h; cases h; rfl
      rw [e]
      exact ih.cons₂ _
theorem cand_nd {ds : List Dl} {k : Str} {fits : List Int → Bool} (h : (ds.map Dl.st).Nodup) : ((cand ds k fits).map (·.1)).Nodup := h.sublist (cand_sub ds)
/-- the last one of a sorted row -/
theorem sorted_last {c ms : List (List Int × List Int)} (hp : ms.Perm c) (hs : ms.Pairwise fun x y => PySem.W.dataLe false encP2 x y = true) (nd : (c.map (·.1)).Nodup) : ms.getLast?.map (·.2) = newC c := by
  cases hm : ms.getLast? with
  | none =>
    have : ms = [] := List.getLast?_eq_none_iff.mp hm
    subst this
    have : c = [] := hp.nil_eq.symm
    rw [this]
    rfl
  | some p =>
    obtain ⟨ys, rfl⟩ := List.getLast?_eq_some_iff.mp hm
    have hpm : p ∈ c := hp.mem_iff.mp (by simp)
    rw [newC_of nd (p := p) ⟨hpm, fun q hq => ?_⟩]
    · rfl
    · have hq' := hp.mem_iff.mpr hq
      rcases List.mem_append.mp hq' with z | z
      · have := (List.pairwise_append.mp hs).2.2 q z p (List.mem_singleton.mpr rfl)
        by_cases e : q.1 = p.1
        · rw [e]; exact lx_irr _
        · rw [lx_lt]
          exact le_pr_fst this e
      · rw [List.mem_singleton.mp z]; exact lx_irr _
theorem at_last {l : List D} {x : D} : atI (l ++ [x]) (-1) = some x := by
  unfold atI ixN
  rw [if_neg (by omega)]
  have hl : (l ++ [x]).length = l.length + 1 := by simp
  rw [hl, if_pos (by omega)]
  have e : (-1 + ((l.length : Int) + 1)).toNat = l.length := by omega
  simp [e]
/-- `([None] + [.. for .. in sorted(..)])[-1]` -/
theorem at_sorted {c ms : List (List Int × List Int)} (hp : ms.Perm c) (hs : ms.Pairwise fun x y => PySem.W.dataLe false encP2 x y = true) (nd : (c.map (·.1)).Nodup) : atI (D.non :: ms.map fun p => D.tup (p.2.map D.int)) (-1) = some (wD (newC c)) := by
  have h := sorted_last hp hs nd
  cases hm : ms.getLast? with
  | none =>
    have : ms = [] := List.getLast?_eq_none_iff.mp hm
    subst this
    rw [← h]
    exact at_last (l := [])
  | some p =>
    rw [hm] at h
    obtain ⟨ys, rfl⟩ := List.getLast?_eq_some_iff.mp hm
    rw [← h, List.map_append, ← List.cons_append]
    exact at_last
end P
namespace P
open PySem PySem.Spec L2 DL
open LamY
section
variable {e : Env} {G : HD} {Q : Post} {E : DX} {b : Addr}
theorem lformed_eq : w_law_formed e = w_formed e := rfl
theorem lfields_eq : w_law_fields e = w_fields_then e := rfl
theorem prL_map : ∀ l : List (List Int × List Int), prL (l.map dPr) = some l
  | [] => rfl
  | p :: l => by
    show (match prD (dPr p), prL (l.map dPr) with | some k, some l => some (k :: l) | _, _ => none) = _
    rw [prL_map l]
    have : prD (dPr p) = some p := by
      show (match asInts (p.1.map D.int), asInts (p.2.map D.int) with | some a, some b => some (a, b) | _, _ => none) = _
      rw [asInts_map, asInts_map]
    rw [this]
theorem candF_n {k : Str} {fits : List Int → Bool} {d : Dl} (h : d.ws.lookup k = none) : candF k fits d = none := by unfold candF; rw [h]
theorem candF_f {k : Str} {fits : List Int → Bool} {d : Dl} {w : List Int} (h : d.ws.lookup k = some w) (hf : fits d.st = false) : candF k fits d = none := by unfold candF; rw [h]; exact if_neg (by rw [hf]; decide)
theorem candF_t {k : Str} {fits : List Int → Bool} {d : Dl} {w : List Int} (h : d.ws.lookup k = some w) (hf : fits d.st = true) : candF k fits d = some (d.st, w) := by unfold candF; rw [h]; exact if_pos hf
theorem lworth_ok {d0 : D} {ok : HD → Prop} {ds : List Dl} {k : Str} {a b c : Int} (hseq : ∀ R : ItD → HD → Prop, R ⟨ds.map dlD, ok⟩ G → seqP d0 G R) (hok : ∀ G', Le G G' → ok G') (hn : ds.length ≤ 100) (hw : ∀ d ∈ ds, wsNd d) (nd : (ds.map Dl.st).Nodup)
    (hQ : Q (wD (newB ds k fun st => ltS st [a, b, c])) G) : w_law_worth_of e [d0, .str k, .tup [.int a, .int b, .int c]] G Q E := by
  unfold w_law_worth_of
  exists if_true
  refine hseq _ ?_
  refine ⟨by rw [List.length_map]; omega, lc_fma (fun d => (candF k (fun st => ltS st [a, b, c]) d).map dPr) hok (Le.refl _) (fun d hd ky kn G1 l1 hy hk => ?_) fun G1 l1 => ?_⟩
  · exists dwipe, dlD, atI5, atI6, prsD
    refine i_dictPr (pairsK_p _) (newD_in fun p G2 hp _ h2 l2 _ => ?_)
    exists h2, val_dict (hw d hd)
    cases hl : d.ws.lookup k with
    | none =>
      exists Option.map, Option.isSome
      exact hk _ l2 (by rw [candF_n hl]; rfl)
    | some w =>
      exists Option.map, Option.isSome, lt3
      cases hf : ltS [d.t, d.s, d.h] [a, b, c] with
      | false =>
        exists if_true
        exact hk _ l2 (by rw [candF_f hl hf]; rfl)
      | true =>
        exists if_true
        refine i_dictPr (pairsK_p _) (newD_in fun p2 G3 hp3 _ h3 l3 _ => ?_)
        exists h3, val_dict (hw d hd), hl, Option.map
        exact hy _ _ (l2.trans l3) (by rw [candF_t hl hf]; rfl)
  · rw [List.nil_append]
    have e1 : (ds.filterMap fun d => (candF k (fun st => ltS st [a, b, c]) d).map dPr) = (cand ds k fun st => ltS st [a, b, c]).map dPr := by
      unfold cand
      rw [List.map_filterMap]
    rw [e1]
    have hcl : (cand ds k fun st => ltS st [a, b, c]).length ≤ ds.length := List.length_filterMap_le _ _
    exists prL_map
    refine i_srtPr (by omega) fun ms hp hs => ?_
    have hml := hp.length_eq
    exists List.length_map
    refine ⟨by omega, lc_pma (fun p => some (.tup (p.2.map D.int))) trivial (fun p hp ky kn hy hk => ?_) ?_⟩
    · unfold dPr
      exists dwipe
      exact hy _ rfl
    · rw [List.nil_append, List.filterMap_eq_map']
      exists at_sorted hp hs (cand_nd nd)
      have hsz : sizeLine ≥ 200 := by decide
      exact ⟨by rw [List.length_map]; omega, fg_le l1 hQ⟩
/-! ### pairs drawn -/
theorem gk_a : Gk "a" := ⟨by decide +kernel, by decide +kernel, by decide +kernel⟩
theorem gk_b : Gk "b" := ⟨by decide +kernel, by decide +kernel, by decide +kernel⟩
theorem gk_c : Gk "c" := ⟨by decide +kernel, by decide +kernel, by decide +kernel⟩
theorem gk_d : Gk "d" := ⟨by decide +kernel, by decide +kernel, by decide +kernel⟩
theorem gk_e : Gk "e" := ⟨by decide +kernel, by decide +kernel, by decide +kernel⟩
theorem gk_af : Gk "abcdef" := ⟨by decide +kernel, by decide +kernel, by decide +kernel⟩
theorem at4 {x y z w : Str} (hx : Gk x) (hy : Gk y) (hz : Gk z) (hw : Gk w) {r : Int} (h0 : 0 ≤ r) (h4 : r < 4) : ∃ k, Gk k ∧ atI [D.str x, .str y, .str z, .str w] r = some (.str k) := by
  have : r = 0 ∨ r = 1 ∨ r = 2 ∨ r = 3 := by omega
  rcases this with rfl | rfl | rfl | rfl
  · exact ⟨x, hx, atI0⟩
  · exact ⟨y, hy, atI1⟩
  · exact ⟨z, hz, atI2⟩
  · exact ⟨w, hw, atI3⟩
theorem lc_keys {α β : Type} {g : α → D} {r : β → D} {key : β → α} {step : D → (D → HD → Prop) → (HD → Prop) → HD → Prop} {fin : List D → HD → Prop} {P : β → Prop} {J : HD → Prop} : ∀ {xs : List α} {acc : List D} {G : HD}, (∀ x ∈ xs, ∀ (ky : D → HD → Prop) (kn : HD → Prop) (G : HD), J G → (∀ (y : β) (G' : HD), key y = x → P y → J G' → ky (r y) G') → step (g x) ky kn G) →
    J G → (∀ (ys : List β) (G' : HD), ys.map key = xs → (∀ y ∈ ys, P y) → J G' → fin (acc ++ ys.map r) G') → lcD (fun _ => True) step fin (xs.map g) acc G
  | [], acc, G, _, hJ, hf => ⟨G, Le.refl _, trivial, by simpa using hf [] G rfl (fun _ h => nomatch h) hJ⟩
  | x :: xs, acc, G, h, hJ, hf => ⟨G, Le.refl _, trivial, h x (List.mem_cons_self ..) _ _ G hJ fun y G' hy hP hJ' => lc_keys (key := key) (P := P) (J := J) (fun z hz => h z (List.mem_cons_of_mem _ hz)) hJ' fun ys G2 h1 h2 h3 => by
      have := hf (y :: ys) G2 (by rw [List.map_cons, hy, h1]) (fun z hz => by rcases List.mem_cons.mp hz with rfl | hz; (· exact hP); exact h2 z hz) h3
      simpa using this⟩
structure Prs (n : Nat) (l : List (Str × List Int)) : Prop where
  nd : (l.map (·.1)).Nodup
  len : l.length ≤ n
  ok : ∀ p ∈ l, Gk p.1 ∧ WoOk 8 p.2
theorem lpairs_ok {n : Int} (hn0 : 0 < n) (hn1 : n ≤ 50) (R : Row G b) (hQ : ∀ l G', Prs (n.toNat - 1) l → Row G' b → Fr [b] G G' → Q (prsD (l.map fun p => (p.1, some p.2))) G') : w_law_pairs e [.ref b, .int n] G Q E := by
  unfold w_law_pairs
  exists if_true
  refine take_ok R hn0 (by omega) fun m G1 m0 m1 R1 f1 => ?_
  exists if_true
  have hle : (intsD 0 m.toNat).length = m.toNat := by simp [intsD]
  refine ⟨by omega, by omega, by omega, lc_all (I := fun acc G' => Row G' b ∧ Fr [b] G G' ∧ ∃ ks : List Str, acc = ks.map D.str ∧ ∀ k ∈ ks, Gk k) (fun x acc ky kn G' hI hk => ?_) (fun acc G' hI hl => ?_) ⟨R1, f1, [], rfl, fun _ h => nomatch h⟩⟩
  · obtain ⟨R2, f2, ks, rfl, hks⟩ := hI
    exists dwipe
    refine take_ok R2 (by decide) (by decide) fun y G3 y0 y1 R3 f3 => ?_
    obtain ⟨k, hk1, hk2⟩ := at4 gk_a gk_b gk_c gk_af y0 y1
    exists hk2
    refine hk _ _ ⟨R3, f2.trans f3, ks ++ [k], by simp, fun i hi => ?_⟩
    rcases List.mem_append.mp hi with hi | hi
    · exact hks i hi
    · rw [List.mem_singleton.mp hi]; exact hk1
  · obtain ⟨R2, f2, ks, rfl, hks⟩ := hI
    rw [asStrs_map]
    have hkl : ks.length = m.toNat := by simpa [hle] using hl
    refine i_srtSetS (by omega) fun ms h1 h2 h3 => ?_
    have hml : ms.length ≤ ks.length := by rw [nodup_len h2 h3]; exact unl_len ks
    exists List.length_map
    refine ⟨by omega, lc_keys (key := fun p : Str × List Int => p.1) (r := fun p => pD (p.1, some p.2)) (P := fun p => Gk p.1 ∧ WoOk 8 p.2) (J := fun G' => Row G' b ∧ Fr [b] G G') (fun k hk ky kn G2 hJ hy => ?_) ⟨R2, f2⟩ fun ys G2 hk hP hJ => ?_⟩
    · obtain ⟨R4, f4⟩ := hJ
      exists dwipe
      refine take_ok R4 (by decide) (by decide) fun n2 G3 n0 n1 R5 f5 => ?_
      exists if_true
      have hle2 : (intsD 0 (1 + n2).toNat).length = (1 + n2).toNat := by simp [intsD]
      refine ⟨by omega, by omega, by omega, lc_all (I := fun acc G' => Row G' b ∧ Fr [b] G G' ∧ ∃ ws : List Int, acc = ws.map D.int ∧ ∀ i ∈ ws, 0 ≤ i ∧ i ≤ 8) (fun x acc ky kn G' hI hk => ?_) (fun acc G' hI hl => ?_) ⟨R5, f4.trans f5, [], rfl, fun _ h => nomatch h⟩⟩
      · obtain ⟨R6, f6, ws, rfl, hws⟩ := hI
        exists dwipe
        refine take_ok R6 (by decide) (by decide) fun y G7 y0 y1 R7 f7 => ?_
        refine hk _ _ ⟨R7, f6.trans f7, ws ++ [y], by simp, fun i hi => ?_⟩
        rcases List.mem_append.mp hi with hi | hi
        · exact hws i hi
        · rw [List.mem_singleton.mp hi]; omega
      · obtain ⟨R6, f6, ws, rfl, hws⟩ := hI
        unfold rTuple
        simp only [asQ, DL.asL]
        have hn : ws.length = (1 + n2).toNat := by simpa [hle2] using hl
        exists if_true
        exact hy (k, ws) _ rfl ⟨hks k ((h3 k).mp hk), show 1 ≤ ws.length by omega, show ws.length ≤ 4 by omega, fun i hi => ⟨by have := hws i hi; omega, (hws i hi).2⟩⟩ ⟨R6, f6⟩
    · rw [List.nil_append]
      have e1 : ys.map (fun p => pD (p.1, some p.2)) = (ys.map fun p => (p.1, some p.2)).map pD := by rw [List.map_map]; rfl
      rw [e1]
      have hyl : ys.length = ms.length := by rw [← hk, List.length_map]
      exact fg_in (hQ ys G2 ⟨by rw [hk]; exact h2, by omega, hP⟩ hJ.1 hJ.2)
end
end P
namespace P
open PySem PySem.Spec L2 DL
open LamY
/-! ### dealings made one behind the other -/
inductive Made : List Dl → Int → Int → Int → Prop
  | nil : Made [] 0 0 0
  | snoc {ds : List Dl} {t s now now' : Int} {d : Dl} (h : Made ds t s now) (hb : d.beg = now) (ht : now ≤ d.tol ∧ d.tol ≤ now + 2) (h1 : t ≤ d.t ∧ d.t ≤ t + 3) (hs : d.s = s + 1) (hh : 0 ≤ d.h ∧ d.h ≤ 3)
      (hn : 10 * (ds.length : Int) ≤ d.num ∧ d.num ≤ 10 * (ds.length : Int) + 8) (hr : ∃ l : List (Str × List Int), Prs 3 l ∧ d.rs = l.map fun p => (p.1, newB ds p.1 fun st => ltS st d.st)) (hw : Prs 3 d.ws)
      (hn' : d.tol ≤ now' ∧ now' ≤ d.tol + 1 ∧ (d.tol = d.beg → d.tol < now')) : Made (ds ++ [d]) d.t d.s now'
theorem Made.bnd {ds : List Dl} {t s now : Int} (h : Made ds t s now) : 0 ≤ t ∧ t ≤ 3 * ds.length ∧ s = ds.length ∧ 0 ≤ now ∧ now ≤ 3 * ds.length ∧
    ∀ d ∈ ds, 0 ≤ d.t ∧ d.t ≤ t ∧ 1 ≤ d.s ∧ d.s ≤ s ∧ 0 ≤ d.h ∧ d.h ≤ 3 ∧ 0 ≤ d.beg ∧ d.beg ≤ d.tol ∧ d.tol ≤ now ∧ 0 ≤ d.num ∧ d.num < 10 * (ds.length : Int) := by
  induction h with
  | nil => exact ⟨by decide, by decide, rfl, by decide, by decide, fun d hd => nomatch hd⟩
  | @snoc ds t s now now' d h hb ht h1 hs hh hn hr hw hn' ih =>
    obtain ⟨a1, a2, a3, a4, a5, a6⟩ := ih
    have hl : ((ds ++ [d]).length : Int) = ds.length + 1 := by simp
    refine ⟨by omega, by omega, by omega, by omega, by omega, fun d2 hd => ?_⟩
    rcases List.mem_append.mp hd with z | z
    · have := a6 d2 z
      exact ⟨by omega, by omega, by omega, by omega, by omega, by omega, by omega, by omega, by omega, by omega, by omega⟩
    · rw [List.mem_singleton.mp z]
      exact ⟨by omega, by omega, by omega, by omega, by omega, by omega, by omega, by omega, by omega, by omega, by omega⟩
theorem Made.wsOk {ds : List Dl} {t s now : Int} (h : Made ds t s now) : ∀ d ∈ ds, Prs 3 d.ws := by
  induction h with
  | nil => exact fun d hd => nomatch hd
  | snoc h hb ht h1 hs hh hn hr hw hn' ih =>
    intro d2 hd
    rcases List.mem_append.mp hd with z | z
    · exact ih d2 z
    · rw [List.mem_singleton.mp z]; exact hw
theorem Made.nd {ds : List Dl} {t s now : Int} (h : Made ds t s now) : (ds.map Dl.st).Nodup := by
  induction h with
  | nil => exact List.nodup_nil
  | @snoc ds t s now now' d h hb ht h1 hs hh hn hr hw hn' ih =>
    rw [List.map_append, List.nodup_append]
    refine ⟨ih, by simp, fun a ha b hb2 e => ?_⟩
    obtain ⟨x, hx, rfl⟩ := List.mem_map.mp ha
    have e2 : b = d.st := by simpa using hb2
    rw [e2] at e
    have e3 : x.s = d.s := by injection e with _ e; injection e with e _
    have := h.bnd.2.2.2.2.2 x hx
    omega
theorem prs_wr {n : Nat} {l : List (Str × List Int)} (h : Prs n l) : ∀ p ∈ l, Gk p.1 ∧ WoOk 100 p.2 := fun p hp => ⟨(h.ok p hp).1, (h.ok p hp).2.mono (by decide)⟩
theorem Made.ok {ds : List Dl} {t s now : Int} (h : Made ds t s now) (hl : ds.length ≤ 7) : ∀ d ∈ ds, DlOk 100 3 d := by
  induction h with
  | nil => exact fun d hd => nomatch hd
  | @snoc ds t s now now' d h hb ht h1 hs hh hn hr hw hn' ih =>
    rw [List.length_append, List.length_singleton] at hl
    have ih := ih (by omega)
    intro d2 hd
    rcases List.mem_append.mp hd with z | z
    · exact ih d2 z
    · rw [List.mem_singleton.mp z]
      obtain ⟨a1, a2, a3, a4, a5, a6⟩ := h.bnd
      obtain ⟨l, hl1, hl2⟩ := hr
      refine ⟨⟨by omega, by omega⟩, ⟨by omega, by omega⟩, ⟨by omega, by omega⟩, ⟨by omega, by omega⟩, ⟨by omega, by omega⟩, ⟨by omega, by omega⟩, by omega, by omega, by rw [hl2, List.length_map]; exact hl1.len, hw.len, fun p hp => ?_, prs_wr hw⟩
      rw [hl2] at hp
      obtain ⟨q, hq, rfl⟩ := List.mem_map.mp hp
      exact ⟨(hl1.ok q hq).1, newB_ok ih⟩
theorem Made.wsNd {ds : List Dl} {t s now : Int} (h : Made ds t s now) : ∀ d ∈ ds, wsNd d := fun d hd => (h.wsOk d hd).nd
section
variable {e : Env} {G : HD} {Q : Post} {E : DX} {b : Addr}
theorem lmade_ok {n : Int} (hn0 : 0 ≤ n) (hn7 : n ≤ 7) (R : Row G b) (hQ : ∀ ds t s now G', (ds.length : Int) = n → Made ds t s now → Row G' b → Fr [b] G G' → Q (.kl (ds.map dlD)) G') : w_law_made e [.ref b, .int n] G Q E := by
  unfold w_law_made
  exists if_true
  refine newL_in fun p G1 hp _ h1 l1 _ => ?_
  have hne : b ≠ p := by obtain ⟨_, _, _, _, z⟩ := R; rintro rfl; rw [hp] at z; cases z
  exists if_true
  refine ⟨by omega, by omega, ?_⟩
  refine forR_inv (I := fun i σ G' => ∃ ds t s now, ∃ h w5 w6 w7 w8, ds.length = i ∧ Made ds t s now ∧ σ = [some (.ref b), some (.int n), some (.ref p), some (.tup [.int t, .int s, .int h]), some (.int now), w5, w6, w7, w8, none, none] ∧ G' p = some (.lst (ds.map dlD)) ∧ Row G' b ∧ Fr [b] G G') (fun _ => trivial) (fun i k σ G' hi hI hk => ?_) (fun σ G' hI => ?_) ⟨[], 0, 0, 0, 0, none, none, none, none, rfl, .nil, rfl, h1, R.le l1, fun a o _ ha => l1 _ _ ha⟩
  · obtain ⟨ds, t, s, now, h, w5, w6, w7, w8, hl, hM, rfl, hpl, R1, f1⟩ := hI
    obtain ⟨a1, a2, a3, a4, a5, a6⟩ := hM.bnd
    unfold l_law_made_1
    exists if_true
    refine take_ok R1 (by decide) (by decide) fun d1 G2 d10 d11 R2 f2 => ?_
    exists if_true
    refine take_ok R2 (by decide) (by decide) fun d2 G3 d20 d21 R3 f3 => ?_
    exists if_true
    refine take_ok R3 (by decide) (by decide) fun d3 G4 d30 d31 R4 f4 => ?_
    exists if_true
    refine lpairs_ok (by decide) (by decide) R4 fun l G5 hl5 R5 f5 => ?_
    unfold prsD
    exists List.length_map
    have hpl5 : G5 p = some (.lst (ds.map dlD)) := (((f2.trans f3).trans f4).trans f5) _ _ (by simp [Ne.symm hne]) hpl
    have fr5 := (((f2.trans f3).trans f4).trans f5)
    rw [List.map_map]
    have hl3 := hl5.len
    refine ⟨by omega, lc_pma (fun q : Str × List Int => some (pD (q.1, newB ds q.1 fun st => ltS st [t + d2, s + 1, d3]))) trivial (fun q hq ky kn hy hk2 => ?_) ?_⟩
    · unfold pD
      exists dwipe, Function.comp
      refine lworth_ok (fun R hR => by rw [r_seqR, hpl5, r_seqL]; exact hR) (fun G' l => l _ _ hpl5) (by omega) hM.wsNd hM.nd ?_
      exists if_true
      exact hy _ rfl
    · rw [List.nil_append, List.filterMap_eq_map']
      exists if_true
      refine ⟨mul_l (by omega) (by omega), ?_⟩
      refine take_ok R5 (by decide) (by decide) fun d4 G6 d40 d41 R6 f6 => ?_
      have hpl6 : G6 p = some (.lst (ds.map dlD)) := f6 _ _ (by simp [Ne.symm hne]) hpl5
      exists hpl6
      refine ⟨⟨_, rfl⟩, ?_⟩
      refine lpairs_ok (by decide) (by decide) R6 fun l7 G7 hl7 R7 f7 => ?_
      have hpl7 : G7 p = some (.lst (ds.map dlD)) := f7 _ _ (by simp [Ne.symm hne]) hpl6
      exists hpl7
      refine ⟨by rw [List.length_map]; omega, ?_⟩
      have R7' : Row (put G7 p (MO.lst (ds.map dlD ++ [D.tup [D.str (Str.ofString "dealing"), D.int (10 * (0 + (i : Int)) + d4), D.int now, D.int (now + d1), D.tup [D.int (t + d2), D.int (s + 1), D.int d3], D.kl (l.map fun q => pD (q.1, newB ds q.1 fun st => ltS st [t + d2, s + 1, d3])), prsD (l7.map fun p => (p.1, some p.2))]]))) b := by
        obtain ⟨x, y, z, h0, hr⟩ := R7
        exact ⟨x, y, z, h0, (put_ne hne).trans hr⟩
      refine take_ok R7' (by decide) (by decide) fun d5 G8 d50 d51 R8 f8 => ?_
      have hpl8 := f8 p _ (by simp [Ne.symm hne]) put_same
      have fall : Fr [b] G G8 := fun a o ha hG => f8 _ _ ha ((put_ne (by rintro rfl; rw [hp] at hG; cases hG)).trans (((f1.trans fr5).trans (f6.trans f7)) _ _ ha hG))
      have hi2 : (0 : Int) + (i : Int) = (ds.length : Int) := by omega
      obtain ⟨mx, m0, m1, m2, em⟩ : ∃ m : Int, 0 ≤ m ∧ m ≤ 1 ∧ (now + d1 = now → 1 ≤ m) ∧ (if (if decide (now + d1 = now) = true then (1 : Int) else 0) > d5 then (if decide (now + d1 = now) = true then (1 : Int) else 0) else d5) = m := by
        by_cases hz : now + d1 = now
        · rw [decide_eq_true hz, if_pos rfl]
          by_cases h5 : (1 : Int) > d5
          · rw [if_pos h5]; exact ⟨1, by decide, by decide, fun _ => by decide, rfl⟩
          · rw [if_neg h5]; exact ⟨d5, by omega, by omega, fun _ => by omega, rfl⟩
        · refine ⟨d5, by omega, by omega, fun z => absurd z hz, ?_⟩
          rw [decide_eq_false hz]
          exact if_neg (show ¬ ((if false = true then (1 : Int) else 0) > d5) by rw [if_neg (show ¬ (false = true) by decide)]; omega)
      exists if_true
      rw [em]
      refine hk _ _ ⟨ds ++ [⟨10 * (0 + (i : Int)) + d4, now, now + d1, t + d2, s + 1, d3, l.map fun q => (q.1, newB ds q.1 fun st => ltS st [t + d2, s + 1, d3]), l7⟩], t + d2, s + 1, _, d3, _, _, _, _, ?_, .snoc hM rfl ⟨show now ≤ now + d1 by omega, show now + d1 ≤ now + 2 by omega⟩ ⟨show t ≤ t + d2 by omega, show t + d2 ≤ t + 3 by omega⟩ rfl ⟨d30, show d3 ≤ 3 by omega⟩ ⟨?_, ?_⟩ ⟨l, hl5, rfl⟩ (show Prs 3 l7 from hl7) ⟨?_, ?_, ?_⟩, rfl, ?_, R8, fall⟩
      · rw [List.length_append, hl]; rfl
      · show 10 * (ds.length : Int) ≤ 10 * (0 + (i : Int)) + d4
        omega
      · show 10 * (0 + (i : Int)) + d4 ≤ 10 * (ds.length : Int) + 8
        omega
      · show now + d1 ≤ now + d1 + mx
        omega
      · show now + d1 + mx ≤ now + d1 + 1
        omega
      · show now + d1 = now → now + d1 < now + d1 + mx
        intro hz
        have := m2 hz
        omega
      · have e1 : D.kl (l.map fun q => pD (q.1, newB ds q.1 fun st => ltS st [t + d2, s + 1, d3])) = prsD (l.map fun q => (q.1, newB ds q.1 fun st => ltS st [t + d2, s + 1, d3])) := by
          unfold prsD
          rw [List.map_map]
          rfl
        rw [hpl8, List.map_append, List.map_cons, List.map_nil, e1]
        rfl
  · obtain ⟨ds, t, s, now, h, w5, w6, w7, w8, hl, hM, rfl, hpl, R1, f1⟩ := hI
    exists hpl
    obtain ⟨x, y, z, h0, hr⟩ := R1
    exact fg_in (hQ ds t s now _ (by omega) hM ⟨x, y, z, h0, (if_neg hne).trans hr⟩ fun a o ha hG => (if_neg (by rintro rfl; rw [hp] at hG; cases hG)).trans (f1 _ _ ha hG))
end
end P
namespace P
open PySem PySem.Spec L2 DL
open LamY
/-- a read as the law makes it -/
structure Rd (ds : List Dl) (hs : List Ev) (m : Int) (v : Ev) : Prop where
  ex : ∃ b a t k, Gk k ∧ 0 ≤ a ∧ a ≤ 8 ∧ 0 ≤ t ∧ t ≤ m ∧ v = .read b a t k (formV (newB ds k fun st => ltS st [t + 1, -1, -1]) (fieldsB hs t)) ∧ (b = true → lateB ds a t = false)
theorem formV_ok {n : Int} {v : Wo} {f : Option Int} (hn : 0 ≤ n) (hv : WOk n v) (hf : ∀ i, f = some i → 1 ≤ i ∧ i ≤ 4) : WOk n (formV v f) := by
  intro l hl
  cases v with
  | none => cases f <;> cases hl
  | some w =>
    have h1 := hv w rfl
    cases f with
    | none => cases hl; exact h1
    | some i =>
      obtain ⟨i1, i4⟩ := hf i rfl
      cases hl
      unfold fmW
      have hlen : (w.take i.toNat ++ List.replicate (i.toNat - w.length) (0 : Int)).length = i.toNat := by
        rw [List.length_append, List.length_take, List.length_replicate]; omega
      refine ⟨by omega, by omega, fun x hx => ?_⟩
      rcases List.mem_append.mp hx with z | z
      · exact h1.b x (List.mem_of_mem_take z)
      · rw [(List.mem_replicate.mp z).2]; exact ⟨by omega, hn⟩
section
variable {e : Env} {G : HD} {Q : Post} {E : DX} {b : Addr}
theorem at2rn {r : Int} (h0 : 0 ≤ r) (h2 : r < 2) : ∃ bb : Bool, atI [D.str "read", .str "now"] r = some (.str (nowS bb)) := by
  have : r = 0 ∨ r = 1 := by omega
  rcases this with rfl | rfl
  · exact ⟨false, atI0⟩
  · exact ⟨true, atI1⟩
theorem ne_rn : ¬ (Str.ofString "read" = Str.ofString "now") := by decide +kernel
theorem lreads_ok {t0 s0 n0 : Int} {ds : List Dl} {hs : List Ev} {n : Int} {kk m : Nat} (hM : Made ds t0 s0 n0) (hd7 : ds.length ≤ 7) (hH : HsOk n kk m hs) (hm : m ≤ 20) (R : Row G b)
    (hQ : ∀ (rs : List Ev) (G' : HD), rs.length ≤ 3 → (∀ v ∈ rs, Rd ds hs (3 * ds.length + 3) v) → Row G' b → Fr [b] G G' → Q (.kl (rs.map evD)) G') : w_law_reads e [.ref b, .kl (ds.map dlD), hD hs] G Q E := by
  have hdok := hM.ok hd7
  unfold w_law_reads
  exists if_true
  refine newL_in fun p G1 hp _ h1 l1 _ => ?_
  have hne : b ≠ p := by obtain ⟨_, _, _, _, z⟩ := R; rintro rfl; rw [hp] at z; cases z
  exists if_true
  refine take_ok (R.le l1) (by decide) (by decide) fun j G2 j0 j4 R2 f2 => ?_
  exists if_true
  refine ⟨by omega, by omega, ?_⟩
  refine forR_inv (I := fun i σ G' => ∃ rs : List Ev, ∃ w5 w6 w7 w8 w9 w10 wt, rs.length = i ∧ (∀ v ∈ rs, Rd ds hs (3 * ds.length + 3) v) ∧ σ = [some (.ref b), some (.kl (ds.map dlD)), some (hD hs), some (.ref p), wt, w5, w6, w7, w8, w9, w10, none] ∧ G' p = some (.lst (rs.map evD)) ∧ Row G' b ∧ Fr [b] G G') (fun _ => trivial) (fun i k σ G' hi hI hk => ?_) (fun σ G' hI => ?_) ⟨[], none, none, none, none, none, none, none, rfl, List.forall_mem_nil _, rfl, f2 _ _ (by simp [Ne.symm hne]) h1, R2, fun a o ha hG => f2 _ _ ha (l1 _ _ hG)⟩
  · obtain ⟨rs, w5, w6, w7, w8, w9, w10, wt, hl, hrs, rfl, hpl, R1, f1⟩ := hI
    unfold l_law_reads_1
    exists if_true
    refine take_ok R1 (by decide) (by decide) fun d1 G3 d10 d11 R3 f3 => ?_
    obtain ⟨k1, gk1, hk1⟩ := at4 gk_a gk_b gk_c gk_e d10 d11
    exists hk1, List.length_map
    refine ⟨mul_l (by omega) (by omega), ?_⟩
    refine take_ok R3 (by omega) (by omega) fun tm G4 tm0 tm1 R4 f4 => ?_
    exists if_true
    refine lworth_ok (ok := fun _ => True) (fun R hR => by rw [r_seqK]; exact hR) (fun _ _ => trivial) (by omega) hM.wsNd hM.nd ?_
    exists if_true
    rw [lfields_eq, lformed_eq]
    refine fields_ok (Nat.le_trans hH.len (by omega)) ?_
    exists if_true
    have hnb : WOk 100 (newB ds k1 fun st => ltS st [tm + 1, -1, -1]) := newB_ok hdok
    refine formed_ok (fun w2 hw2 => ⟨fun z => ?_, (hnb w2 hw2).l4⟩) (fun i hi => fields_bnd hH hi) ?_
    · have := (hnb w2 hw2).l1
      rw [z] at this; exact absurd this (by decide)
    exists if_true
    refine take_ok R4 (by decide) (by decide) fun d5 G5 d50 d51 R5 f5 => ?_
    obtain ⟨bb, hbb⟩ := at2rn d50 d51
    exists hbb
    refine take_ok R5 (by decide) (by decide) fun d6 G6 d60 d61 R6 f6 => ?_
    exists List.length_map
    refine ⟨by omega, lc_pma (fun o => if (decide (o.tol ≤ d6) && decide (tm < o.t)) = true then some (dlD o) else none) trivial (fun o ho ky kn hy hk => ?_) ?_⟩
    · have e2 : dlD o = .tup [.str "dealing", .int o.num, .int o.beg, .int o.tol, .tup [.int o.t, .int o.s, .int o.h], prsD o.rs, prsD o.wr] := rfl
      exists dwipe
      rw [e2]
      exists if_true
      by_cases h2 : o.tol ≤ d6
      · rw [decide_eq_true h2, Bool.true_and] at hy hk
        exists h2, decide_true
        by_cases h3 : tm < o.t
        · rw [decide_eq_true h3] at hy
          exists h3, decide_true
          exact hy _ rfl
        · rw [decide_eq_false h3] at hk
          exists h3, decide_false
          exact hk rfl
      · rw [decide_eq_false h2, Bool.false_and] at hk
        exists h2, decide_false
        exact hk rfl
    · rw [List.nil_append, filterDl]
      have fr6 := (f3.trans f4).trans (f5.trans f6)
      have hpl6 : G6 p = some (.lst (rs.map evD)) := fr6 _ _ (by simp [Ne.symm hne]) hpl
      have fin : ∀ (b2 : Bool) (w10' : D), (b2 = true → lateB ds d6 tm = false) → k [some (.ref b), some (.kl (ds.map dlD)), some (hD hs), some (.ref p), some (.int (0 + (i : Nat))), some (.str k1), some (.int tm), some (wD (formV (newB ds k1 fun st => ltS st [tm + 1, -1, -1]) (fieldsB hs tm))), some (.str (nowS b2)), some (.int d6), some w10', none]
          (put G6 p (.lst (rs.map evD ++ [D.tup [.str (nowS b2), .int d6, .int tm, .str k1, wD (formV (newB ds k1 fun st => ltS st [tm + 1, -1, -1]) (fieldsB hs tm))]]))) := fun b2 w10' hb2 => by
        refine hk _ _ ⟨rs ++ [.read b2 d6 tm k1 (formV (newB ds k1 fun st => ltS st [tm + 1, -1, -1]) (fieldsB hs tm))], _, _, _, _, _, _, _, by rw [List.length_append, hl]; rfl, fun v hv => ?_, rfl, ?_, ?_, ?_⟩
        · rcases List.mem_append.mp hv with z | z
          · exact hrs v z
          · rw [List.mem_singleton.mp z]
            exact ⟨b2, d6, tm, k1, gk1, d60, by omega, tm0, by omega, rfl, hb2⟩
        · rw [put_same, List.map_append]
          rfl
        · obtain ⟨x, y, z, h0, hr⟩ := R6
          exact ⟨x, y, z, h0, (put_ne hne).trans hr⟩
        · exact fun a o ha hG => (put_ne (by rintro rfl; rw [hp] at hG; cases hG)).trans ((f1.trans fr6) _ _ ha hG)
      have hlate : ∀ {c : Bool}, (ds.filter fun o => decide (o.tol ≤ d6) && decide (tm < o.t)).isEmpty = c → lateB ds d6 tm = !c := by
        intro c hc
        subst hc
        unfold lateB
        cases hf : ds.filter fun o => decide (o.tol ≤ d6) && decide (tm < o.t) with
        | nil =>
          show _ = false
          rw [List.any_eq_false]
          intro o ho hc
          have : o ∈ ds.filter fun o => decide (o.tol ≤ d6) && decide (tm < o.t) := List.mem_filter.mpr ⟨ho, hc⟩
          rw [hf] at this; cases this
        | cons o os =>
          have ho : o ∈ ds.filter fun o => decide (o.tol ≤ d6) && decide (tm < o.t) := by rw [hf]; exact List.mem_cons_self ..
          exact List.any_eq_true.mpr ⟨o, (List.mem_filter.mp ho).1, (List.mem_filter.mp ho).2⟩
      have hsz : rs.length < 1000000 := by omega
      cases bb with
      | false =>
        exists q_seqJ, nowS, ne_rn, decide_false
        exists hpl6, List.length_map
        exact ⟨⟨_, rfl⟩, hsz, fin false _ fun z => nomatch z⟩
      | true =>
        exists q_seqJ, nowS, decide_true
        refine i_eqX (late_pure fun o ho => hdok o (List.mem_filter.mp ho).1) (show pureD 9 (.kl []) = true from rfl) ?_
        cases hf : ds.filter fun o => decide (o.tol ≤ d6) && decide (tm < o.t) with
        | nil =>
          have hl2 := hlate (c := true) (by rw [hf]; rfl)
          exists List.map_nil, eqv_nil, hpl6, List.length_map
          exact ⟨⟨_, rfl⟩, hsz, fin true _ fun _ => hl2⟩
        | cons o os =>
          exists List.map_cons, eqv_cons, hpl6, List.length_map
          exact ⟨⟨_, rfl⟩, hsz, fin false _ fun z => nomatch z⟩
  · obtain ⟨rs, w5, w6, w7, w8, w9, w10, wt, hl, hrs, rfl, hpl, R1, f1⟩ := hI
    exists hpl
    obtain ⟨x, y, z, h0, hr⟩ := R1
    exact fg_in (hQ rs _ (by omega) hrs ⟨x, y, z, h0, (if_neg hne).trans hr⟩ fun a o ha hG => (if_neg (by rintro rfl; rw [hp] at hG; cases hG)).trans (f1 _ _ ha hG))
/-! ### a history -/
structure Hist (ds : List Dl) (fs rs : List Ev) (hs : List Ev) : Prop where
  made : ∃ t s n, Made ds t s n
  d6 : ds.length ≤ 6
  f2 : fs.length ≤ 2
  fm : ∀ v ∈ fs, ∃ t n, v = .form t n ∧ 0 ≤ t ∧ t ≤ 13 ∧ 1 ≤ n ∧ n ≤ 4
  r3 : rs.length ≤ 3
  rd : ∀ v ∈ rs, Rd ds (ds.map .deal ++ fs) (3 * ds.length + 3) v
  hs : hs = ds.map .deal ++ fs ++ rs ∨ hs = fs ++ ds.map .deal ++ rs
theorem Rd.ok {ds : List Dl} {hs : List Ev} {m : Int} {v : Ev} {n : Int} {k j : Nat} (h : Rd ds hs m v) (hn : 10 ≤ n) (hm : m ≤ n) (hd : ∀ d ∈ ds, DlOk n k d) (hH : HsOk n k j hs) : EvOk n k v := by
  obtain ⟨b, a, t, y, gk, a0, a8, t0, tm, rfl, _⟩ := h.ex
  exact ⟨⟨by omega, by omega⟩, ⟨by omega, by omega⟩, gk, formV_ok (by omega) (newB_ok hd) fun i hi => fields_bnd hH hi⟩
theorem HsOk.app {n : Int} {k m j : Nat} {a b : List Ev} (h1 : HsOk n k m a) (h2 : HsOk n k j b) : HsOk n k (m + j) (a ++ b) :=
  ⟨fun v hv => by rcases List.mem_append.mp hv with z | z; (· exact h1.ev v z); exact h2.ev v z, by rw [List.length_append]; have := h1.len; have := h2.len; omega⟩
theorem dsOk {n : Int} {k m : Nat} {ds : List Dl} (h : ∀ d ∈ ds, DlOk n k d) (hl : ds.length ≤ m) : HsOk n k m (ds.map .deal) :=
  ⟨fun v hv => by obtain ⟨d, hd, rfl⟩ := List.mem_map.mp hv; exact h d hd, by rw [List.length_map]; exact hl⟩
theorem fsOk {k : Nat} {fs : List Ev} (h : ∀ v ∈ fs, ∃ t n, v = .form t n ∧ 0 ≤ t ∧ t ≤ 13 ∧ 1 ≤ n ∧ n ≤ 4) (hl : fs.length ≤ 2) : HsOk 100 k 2 fs :=
  ⟨fun v hv => by obtain ⟨t, n, rfl, h1, h2, h3, h4⟩ := h v hv; exact ⟨⟨by omega, by omega⟩, h3, h4⟩, hl⟩
theorem Hist.ok {ds : List Dl} {fs rs hs : List Ev} (h : Hist ds fs rs hs) : HsOk 100 3 11 hs := by
  obtain ⟨t, s, n, hM⟩ := h.made
  have h6 := h.d6
  have hd := hM.ok (by omega)
  have o1 := dsOk hd h.d6
  have o2 := fsOk (k := 3) h.fm h.f2
  have o3 : HsOk 100 3 3 rs := ⟨fun v hv => (h.rd v hv).ok (by decide) (by omega) hd (o1.app o2), h.r3⟩
  rcases h.hs with z | z
  · rw [z]; exact (o1.app o2).app o3
  · rw [z]; exact (o2.app o1).app o3
theorem map_deal (ds : List Dl) : (ds.map Ev.deal).map evD = ds.map dlD := by rw [List.map_map]; rfl
theorem cut_from {α : Type} {xs ys : List D} {n : Int} (hn : n = xs.length) : cutD (xs ++ ys) (some n) none = ys := by
  subst hn
  unfold cutD
  simp only [HT.sIx]
  have h1 : ¬ ((xs.length : Int) < 0) := by omega
  simp [h1]
theorem addKR {p : Addr} {xs ys : List D} (h : G p = some (.lst ys)) (q : xs.length + ys.length ≤ sizeLine ∧ Q (.kl (xs ++ ys)) G) : dAddV (.kl xs) (.ref p) G Q := by
  have e : asW G (.ref p) = some ys := by show lstOf (G p) = _; rw [h]; rfl
  have e2 : asW G (.kl xs) = some xs := rfl
  unfold dAddV
  rw [e, e2]
  exact q
theorem addRK {p : Addr} {xs ys : List D} (h : G p = some (.lst xs)) (q : xs.length + ys.length ≤ sizeLine ∧ Q (.kl (xs ++ ys)) G) : dAddV (.ref p) (.kl ys) G Q := by
  have e : asW G (.ref p) = some xs := by show lstOf (G p) = _; rw [h]; rfl
  have e2 : asW G (.kl ys) = some ys := rfl
  unfold dAddV
  rw [e, e2]
  exact q
theorem lhistory_ok (R : Row G b) (hQ : ∀ ds fs rs hs G', Hist ds fs rs hs → Row G' b → Fr [b] G G' → Q (hD hs) G') : w_law_history e [.ref b] G Q E := by
  unfold w_law_history
  exists if_true
  refine take_ok R (by decide) (by decide) fun m G1 m0 m1 R1 f1 => ?_
  refine lmade_ok m0 (by omega) R1 fun ds t s now G2 hl hM R2 f2 => ?_
  exists if_true
  refine newL_in fun p G3 hp _ h3 l3 _ => ?_
  have hne : b ≠ p := by obtain ⟨_, _, _, _, z⟩ := R2; rintro rfl; rw [hp] at z; cases z
  have R3 := R2.le l3
  exists if_true
  refine take_ok R3 (by decide) (by decide) fun j G4 j0 j1 R4 f4 => ?_
  exists if_true
  refine ⟨by omega, by omega, ?_⟩
  refine forR_inv (I := fun i σ G' => ∃ fs : List Ev, ∃ wt, fs.length = i ∧ (∀ v ∈ fs, ∃ t n, v = .form t n ∧ 0 ≤ t ∧ t ≤ 13 ∧ 1 ≤ n ∧ n ≤ 4) ∧ σ = [some (.ref b), some (.kl (ds.map dlD)), some (.ref p), wt, none] ∧ G' p = some (.lst (fs.map evD)) ∧ Row G' b ∧ Fr [b] G G') (fun _ => trivial) (fun i k σ G' hi hI hk => ?_) (fun σ G' hI => ?_) ⟨[], none, rfl, List.forall_mem_nil _, rfl, f4 _ _ (by simp [Ne.symm hne]) h3, R4, fun a o ha hG => f4 _ _ ha (l3 _ _ ((f1.trans f2) _ _ ha hG))⟩
  · obtain ⟨fs, wt, hfl, hfs, rfl, hpl, R5, f5⟩ := hI
    unfold l_law_history_1
    exists hpl
    refine ⟨⟨_, rfl⟩, ?_⟩
    refine take_ok R5 (by decide) (by decide) fun x G6 x0 x1 R6 f6 => ?_
    exists if_true
    refine take_ok R6 (by decide) (by decide) fun y G7 y0 y1 R7 f7 => ?_
    have hpl7 : G7 p = some (.lst (fs.map evD)) := (f6.trans f7) _ _ (by simp [Ne.symm hne]) hpl
    exists hpl7, List.length_map
    refine ⟨by omega, hk _ _ ⟨fs ++ [.form x (1 + y)], _, by rw [List.length_append, hfl]; rfl, fun v hv => ?_, rfl, ?_, ?_, fun a o ha hG => (put_ne (fun z => ?_)).trans (((f5.trans f6).trans f7) _ _ ha hG)⟩⟩
    · rcases List.mem_append.mp hv with z | z
      · exact hfs v z
      · exact ⟨x, 1 + y, List.mem_singleton.mp z, x0, by omega, by omega, by omega⟩
    · rw [put_same, List.map_append]; rfl
    · obtain ⟨x, y, z, h0, hr⟩ := R7
      exact ⟨x, y, z, h0, (put_ne hne).trans hr⟩
    · subst z
      have := (f1.trans f2) _ _ ha hG
      rw [hp] at this; cases this
  · obtain ⟨fs, wt, hfl, hfs, rfl, hpl, R5, f5⟩ := hI
    exists if_true
    have hsz : sizeLine ≥ 100 := by decide
    have hl6 : ds.length ≤ 6 := by omega
    have hf2 : fs.length ≤ 2 := by omega
    refine addKR hpl ⟨by rw [List.length_map, List.length_map]; omega, ?_⟩
    rw [← map_deal, ← List.map_append]
    have hd := hM.ok (by omega)
    have o1 := dsOk hd hl6
    have o2 := fsOk (k := 3) hfs hf2
    rw [show D.kl ((ds.map Ev.deal ++ fs).map evD) = hD (ds.map Ev.deal ++ fs) from rfl, map_deal]
    refine lreads_ok hM (by omega) (o1.app o2) (by omega) R5 fun rs G8 hr3 hrs R8 f8 => ?_
    have hpl8 : G8 p = some (.lst (fs.map evD)) := f8 _ _ (by simp [Ne.symm hne]) hpl
    unfold hD
    exists List.length_map, List.length_append
    refine ⟨by omega, addRK hpl8 ⟨by rw [List.length_map, List.length_map]; omega, ?_⟩⟩
    exists hpl8, List.length_map
    rw [cut_from (α := D) (by rw [List.length_map, List.length_append, List.length_map]; omega)]
    exists List.length_map, List.length_append
    refine ⟨by omega, ?_⟩
    refine take_ok R8 (by decide) (by decide) fun z G9 z0 z1 R9 f9 => ?_
    have HH : ∀ hs, (hs = ds.map .deal ++ fs ++ rs ∨ hs = fs ++ ds.map .deal ++ rs) → Hist ds fs rs hs := fun hs h => ⟨⟨_, _, _, hM⟩, hl6, hf2, hfs, hr3, hrs, h⟩
    have : z = 0 ∨ z = 1 := by omega
    rcases this with rfl | rfl
    · exists if_true
      rw [← List.map_append]
      exact fg_in (hQ ds fs rs _ _ (HH _ (.inl rfl)) R9 (f5.trans (f8.trans f9)))
    · exists if_true
      rw [← map_deal, ← List.map_append, ← List.map_append]
      exact fg_in (hQ ds fs rs _ _ (HH _ (.inr rfl)) R9 (f5.trans (f8.trans f9)))
end
end P
namespace P
open PySem PySem.Spec L2 DL
open LamY
section
variable {e : Env} {G : HD} {Q : Post} {E : DX} {b : Addr}
theorem cutD_drop {l : List D} {n : Nat} : cutD l (some (n : Int)) none = l.drop n := by
  unfold cutD
  simp only [HT.sIx]
  have h1 : ¬ ((n : Int) < 0) := by omega
  simp only [h1, if_false]
  by_cases h : n ≤ l.length
  · rw [show min (n : Int).toNat l.length = n by omega]
    exact List.take_of_length_le (by rw [List.length_drop]; omega)
  · rw [show min (n : Int).toNat l.length = l.length by omega, List.drop_eq_nil_of_le (Nat.le_refl _), List.drop_eq_nil_of_le (by omega)]
    exact List.take_nil
theorem bdeal_ok {n : Int} {k : Nat} {d : Dl} (h : DlOk n k d) (hn : 50 ≤ n) (hk : k ≤ 40) (R : Row G b) (hQ : ∀ d' G', DlOk (n + 50) (k + 1) d' → Row G' b → Fr [b] G G' → Q (dlD d') G') : w_law_bent_deal e [.ref b, dlD d] G Q E := by
  have hm : DlOk (n + 50) (k + 1) d := h.mono (by omega) (by omega)
  have hx : ∀ {x : Int}, In n x → In (n + 50) x := fun h => h.mono (by omega)
  have hrl := h.rl
  have hwl := h.wl
  have hsz : sizeLine ≥ 100 := by decide
  unfold w_law_bent_deal dlD
  exists if_true
  refine take_ok R (by decide) (by decide) fun w G1 w0 w1 R1 f1 => ?_
  exists if_true
  by_cases c0 : w = 0
  · subst c0
    exists decide_true
    refine take_ok R1 (by decide) (by decide) fun x G2 x0 x1 R2 f2 => ?_
    exists if_true
    refine fg_in (hQ { d with t := d.t + x - 3 } _ { hm with t := ?_ } R2 (f1.trans f2))
    have := h.t.1
    have := h.t.2
    exact ⟨by show -(n + 50) ≤ d.t + x - 3; omega, by show d.t + x - 3 ≤ n + 50; omega⟩
  by_cases c1 : w = 1
  · subst c1
    exists decide_true, c0, decide_false
    refine take_ok R1 (by decide) (by decide) fun x G2 x0 x1 R2 f2 => ?_
    exists if_true
    refine fg_in (hQ { d with s := if d.s - x > 0 then d.s - x else 0, h := 0 } _ { hm with s := ?_, h := ⟨show -(n + 50) ≤ 0 by omega, show 0 ≤ n + 50 by omega⟩, s0 := ?_, h0 := Int.le_refl 0 } R2 (f1.trans f2))
    · have := h.s.1
      have := h.s.2
      have := h.s0
      show In (n + 50) (if d.s - x > 0 then d.s - x else 0)
      split <;> exact ⟨by omega, by omega⟩
    · show 0 ≤ (if d.s - x > 0 then d.s - x else 0)
      split <;> omega
  by_cases c2 : w = 2
  · subst c2
    exists decide_true, c0, c1, decide_false
    refine take_ok R1 (by decide) (by decide) fun x G2 x0 x1 R2 f2 => ?_
    exists if_true
    refine fg_in (hQ { d with beg := if d.beg - x > 0 then d.beg - x else 0 } _ { hm with beg := ?_ } R2 (f1.trans f2))
    have := h.beg.1
    have := h.beg.2
    show In (n + 50) (if d.beg - x > 0 then d.beg - x else 0)
    split <;> exact ⟨by omega, by omega⟩
  by_cases c3 : w = 3
  · subst c3
    exists decide_true, c0, c1, c2, decide_false
    refine take_ok R1 (by decide) (by decide) fun x G2 x0 x1 R2 f2 => ?_
    exists if_true
    refine fg_in (hQ { d with tol := d.tol - x } _ { hm with tol := ?_ } R2 (f1.trans f2))
    have := h.tol.1
    have := h.tol.2
    exact ⟨by show -(n + 50) ≤ d.tol - x; omega, by show d.tol - x ≤ n + 50; omega⟩
  by_cases c4 : w = 4
  · subst c4
    exists decide_true, c0, c1, c2, c3, decide_false
    refine take_ok R1 (by decide) (by decide) fun x G2 x0 x1 R2 f2 => ?_
    unfold prsD
    exists List.length_map
    refine ⟨by omega, ?_⟩
    have := fg_in (Q := Q) (hQ { d with rs := d.rs ++ [((Str.ofString "a", some [x]) : Str × Wo)] } _ { hm with rl := ?_, rk := ?_ } R2 (f1.trans f2))
    · unfold dlD prsD at this
      rw [List.map_append] at this
      exact this
    · show (d.rs ++ [_]).length ≤ k + 1
      rw [List.length_append, List.length_singleton]; omega
    · intro p hp
      rcases List.mem_append.mp hp with z | z
      · exact hm.rk p z
      · rw [List.mem_singleton.mp z]
        exact ⟨gk_a, fun l e => by cases e; exact ⟨show 1 ≤ 1 by decide, show 1 ≤ 4 by decide, fun y hy => by rw [List.mem_singleton.mp hy]; exact ⟨by omega, by omega⟩⟩⟩
  by_cases c5 : w = 5
  · subst c5
    unfold prsD
    exists decide_true, c0, c1, c2, c3, c4, decide_false
    rw [show cutD (d.rs.map pD) (some 1) none = (d.rs.drop 1).map pD by rw [← List.map_drop.symm]; exact cutD_drop (n := 1)]
    exact fg_in (hQ { d with rs := d.rs.drop 1 } _ { hm with rl := by show (d.rs.drop 1).length ≤ k + 1; rw [List.length_drop]; omega, rk := fun p hp => hm.rk p (List.mem_of_mem_drop hp) } R1 f1)
  by_cases c6 : w = 6
  · subst c6
    unfold prsD
    exists decide_true, c0, c1, c2, c3, c4, c5, decide_false, List.length_map, wr_len
    refine ⟨by omega, ?_⟩
    have := fg_in (Q := Q) (hQ { d with ws := d.ws ++ [((Str.ofString "d", [7, 7]) : Str × List Int)] } _ { hm with wl := ?_, wk := ?_ } R1 f1)
    · unfold dlD prsD Dl.wr at this
      rw [List.map_append, List.map_append] at this
      exact this
    · show (d.ws ++ [_]).length ≤ k + 1
      rw [List.length_append, List.length_singleton]; omega
    · intro p hp
      rcases List.mem_append.mp hp with z | z
      · exact hm.wk p z
      · rw [List.mem_singleton.mp z]
        refine ⟨gk_d, by decide, by decide, fun y hy => ?_⟩
        have : y = 7 := by simpa using hy
        subst this
        exact ⟨by omega, by omega⟩
  by_cases c7 : w = 7
  · subst c7
    unfold prsD
    exists decide_true, c0, c1, c2, c3, c4, c5, c6, decide_false, List.length_map
    refine ⟨by omega, lc_pma (fun p : Str × Wo => some (pD (p.1, none))) trivial (fun p hp ky kn hy hk2 => ?_) ?_⟩
    · unfold pD
      exists dwipe
      exact hy _ rfl
    · rw [List.nil_append, List.filterMap_eq_map']
      have := fg_in (Q := Q) (hQ { d with rs := d.rs.map fun p => (p.1, none) } _ { hm with rl := ?_, rk := ?_ } R1 f1)
      · unfold dlD prsD at this
        rw [List.map_map] at this
        exact this
      · show (d.rs.map _).length ≤ k + 1
        rw [List.length_map]; omega
      · intro p hp
        obtain ⟨q, hq, rfl⟩ := List.mem_map.mp hp
        exact ⟨(hm.rk q hq).1, fun l e => nomatch e⟩
  by_cases c8 : w = 8
  · subst c8
    exists decide_true, c0, c1, c2, c3, c4, c5, c6, c7, decide_false
    refine fg_in (hQ { d with tol := d.tol + 40 } _ { hm with tol := ?_ } R1 f1)
    have := h.tol.1
    have := h.tol.2
    exact ⟨by show -(n + 50) ≤ d.tol + 40; omega, by show d.tol + 40 ≤ n + 50; omega⟩
  unfold prsD
  exists c0, c1, c2, c3, c4, c5, c6, c7, c8, decide_false
  have := fg_in (Q := Q) (hQ { d with ws := d.ws.reverse } _ { hm with wl := by show d.ws.reverse.length ≤ k + 1; rw [List.length_reverse]; omega, wk := fun p hp => hm.wk p (List.mem_reverse.mp hp) } R1 f1)
  unfold dlD prsD Dl.wr at this
  rw [List.map_reverse, List.map_reverse] at this
  exact this
theorem get_mem {α : Type} {l : List α} {i : Int} (h0 : 0 ≤ i) (h1 : i < l.length) : ∃ v ∈ l, ∃ j : Nat, i = j ∧ l[j]? = some v ∧ j < l.length := by
  obtain ⟨j, rfl⟩ := Int.eq_ofNat_of_zero_le h0
  have hj : j < l.length := by omega
  exact ⟨l[j], List.getElem_mem _, j, rfl, List.getElem?_eq_getElem hj, hj⟩
theorem bent_ok {n : Int} {k m : Nat} {hs : List Ev} (H : HsOk n k m hs) (hn : 50 ≤ n) (hk : k ≤ 40) (hm : m ≤ 40) (R : Row G b) (hQ : ∀ hs' G', HsOk (n + 50) (k + 1) (m + 1) hs' → Row G' b → Fr [b] G G' → Q (hD hs') G') : w_law_bent e [.ref b, hD hs] G Q E := by
  have hlen := H.len
  have hsz : sizeLine ≥ 100 := by decide
  unfold w_law_bent hD
  exists if_true
  refine i_eqX (hD_pure H 2) (show pureD 9 (.kl []) = true from rfl) ?_
  cases hh : hs with
  | nil =>
    exists List.map_nil, eqv_nil
    exact fg_in (hQ [] _ ⟨List.forall_mem_nil _, by simp⟩ R Fr.refl)
  | cons v0 hs0 =>
    exists List.map_cons, eqv_cons
    rw [← List.map_cons, ← hh]
    have hlh : hs.length = hs0.length + 1 := by rw [hh]; rfl
    exists List.length_map
    refine take_ok R (by omega) (by omega) fun i G1 i0 i1 R1 f1 => ?_
    obtain ⟨v, hv, j, rfl, hj, hjl⟩ := get_mem (l := hs) i0 (by omega)
    have hat : atI (hs.map evD) (j : Int) = some (evD v) := DL.atI_nat (by rw [List.getElem?_map, hj]; rfl)
    exists hat
    refine take_ok R1 (by decide) (by decide) fun w G2 w0 w1 R2 f2 => ?_
    have hv' := H.ev v hv
    have H' : HsOk (n + 50) (k + 1) (m + 1) hs := H.mono (by omega) (by omega) (by omega)
    have tk : ∀ x ∈ hs.take j, EvOk (n + 50) (k + 1) x := fun x hx => H'.ev x (List.mem_of_mem_take hx)
    have dr : ∀ {i : Nat}, ∀ x ∈ hs.drop i, EvOk (n + 50) (k + 1) x := fun x hx => H'.ev x (List.mem_of_mem_drop hx)
    exists if_true
    by_cases c0 : w = 0
    · subst c0
      exists decide_true, cutD_to
      rw [show ((j : Int) + 1) = ((j + 1 : Nat) : Int) by omega, cutD_drop, ← List.map_take, ← List.map_drop, ← List.map_append]
      refine ⟨by rw [List.length_map, List.length_map, List.length_take, List.length_drop]; omega, fg_in (hQ (hs.take j ++ hs.drop (j + 1)) _ ⟨fun x hx => ?_, ?_⟩ R2 (f1.trans f2))⟩
      · rcases List.mem_append.mp hx with z | z
        · exact tk x z
        · exact dr x z
      · rw [List.length_append, List.length_take, List.length_drop]; omega
    by_cases c1 : w = 1
    · subst c1
      exists decide_true, c0, decide_false, cutD_to, cutD_drop
      rw [← List.map_take, ← List.map_drop]
      have := fg_in (Q := Q) (hQ (hs.take j ++ [v] ++ hs.drop j) G2 ⟨fun x hx => ?_, ?_⟩ R2 (f1.trans f2))
      · unfold hD at this
        rw [List.map_append, List.map_append] at this
        exact ⟨by rw [List.length_map, List.length_take]; omega, by rw [List.length_append, List.length_map, List.length_take, List.length_map, List.length_drop, List.length_singleton]; omega, this⟩
      · rcases List.mem_append.mp hx with z | z
        · rcases List.mem_append.mp z with z | z
          · exact tk x z
          · rw [List.mem_singleton.mp z]; exact H'.ev v hv
        · exact dr x z
      · rw [List.length_append, List.length_append, List.length_take, List.length_drop, List.length_singleton]; omega
    by_cases c2 : w = 2
    · subst c2
      exists decide_true, c0, c1, decide_false
      rw [← List.map_reverse]
      exact fg_in (hQ hs.reverse _ ⟨fun x hx => H'.ev x (List.mem_reverse.mp hx), by rw [List.length_reverse]; omega⟩ R2 (f1.trans f2))
    have fin : ∀ (v' : Ev) (G3 : HD), EvOk (n + 50) (k + 1) v' → Row G3 b → Fr [b] G G3 → ((hs.take j).map evD).length + 1 ≤ sizeLine ∧ ((hs.take j).map evD ++ [evD v']).length + ((hs.drop (j + 1)).map evD).length ≤ sizeLine ∧ fg Q (.kl ((hs.take j).map evD ++ [evD v'] ++ (hs.drop (j + 1)).map evD)) G3 := fun v' G3 h1 h2 h3 => by
      have := fg_in (Q := Q) (hQ (hs.take j ++ [v'] ++ hs.drop (j + 1)) G3 ⟨fun x hx => ?_, ?_⟩ h2 h3)
      · unfold hD at this
        rw [List.map_append, List.map_append] at this
        exact ⟨by rw [List.length_map, List.length_take]; omega, by rw [List.length_append, List.length_map, List.length_take, List.length_map, List.length_drop, List.length_singleton]; omega, this⟩
      · rcases List.mem_append.mp hx with z | z
        · rcases List.mem_append.mp z with z | z
          · exact tk x z
          · rw [List.mem_singleton.mp z]; exact h1
        · exact dr x z
      · rw [List.length_append, List.length_append, List.length_take, List.length_drop, List.length_singleton]; omega
    exists q_seqJ, c0, c1, c2, decide_false
    have ec : ((j : Int) + 1) = ((j + 1 : Nat) : Int) := by omega
    rw [ec, cutD_to, cutD_drop, ← List.map_take, ← List.map_drop]
    have f12 := f1.trans f2
    cases v with
    | deal d =>
      exists evD, dlD, decide_true
      refine bdeal_ok (d := d) hv' hn hk R2 fun d' G3 hd' R3 f3 => ?_
      exists if_true
      exact fin (.deal d') G3 hd' R3 (f12.trans f3)
    | form t m2 =>
      exists evD, ne_fd, decide_false, decide_true
      refine take_ok R2 (by decide) (by decide) fun x G3 x0 x1 R3 f3 => ?_
      exists if_true
      refine take_ok R3 (by decide) (by decide) fun y G4 y0 y1 R4 f4 => ?_
      exists if_true
      refine fin (.form (t + x - 2) (1 + y)) G4 ⟨?_, by omega, by omega⟩ R4 (f12.trans (f3.trans f4))
      have := hv'.1.1
      have := hv'.1.2
      exact ⟨by omega, by omega⟩
    | read bb a t y w4 =>
      exists evD, ne_nd, ne_nf, decide_false
      refine take_ok R2 (by decide) (by decide) fun x G3 x0 x1 R3 f3 => ?_
      exists if_true
      refine take_ok R3 (by decide) (by decide) fun z G4 z0 z1 R4 f4 => ?_
      have hw : ∃ w' : Wo, WOk (n + 50) w' ∧ atI [wD w4, .non, .tup [.int x]] z = some (wD w') := by
        have : z = 0 ∨ z = 1 ∨ z = 2 := by omega
        rcases this with rfl | rfl | rfl
        · exact ⟨w4, hv'.2.2.2.mono (by omega), atI0⟩
        · exact ⟨none, (show WOk (n + 50) none from fun l e => by cases e), atI1⟩
        · exact ⟨some [x], (show WOk (n + 50) (some [x]) from fun l e => by cases e; exact ⟨show 1 ≤ 1 by decide, show 1 ≤ 4 by decide, fun y hy => by rw [List.mem_singleton.mp hy]; exact ⟨by omega, by omega⟩⟩), atI2⟩
      obtain ⟨w', hw1, hw2⟩ := hw
      exists hw2
      refine take_ok R4 (by decide) (by decide) fun r G5 r0 r1 R5 f5 => ?_
      obtain ⟨b2, hb2⟩ := at2rn r0 r1
      exists hb2
      refine take_ok R5 (by decide) (by decide) fun s G6 s0 s1 R6 f6 => ?_
      exists if_true
      refine fin (.read b2 a (t + s - 2) y w') G6 ⟨hv'.1.mono (by omega), ?_, hv'.2.2.1, hw1⟩ R6 (f12.trans ((f3.trans f4).trans (f5.trans f6)))
      have := hv'.2.1.1
      have := hv'.2.1.2
      exact ⟨by omega, by omega⟩
end
end P
namespace P
open PySem PySem.Spec L2 DL
open LamY
section
variable {e : Env} {G : HD} {Q : Post} {E : DX} {x : Str}
/-! ### the law's own looks -/
theorem lwhole_ok {i : Int} (hQ : Q (.bl true) G) : w_law_whole e [.int i] G Q E := by
  unfold w_law_whole
  exists if_true
  exact fg_in hQ
theorem cpa : (Str.ofString "a").cps.toList = [97] := by decide +kernel
theorem cpz : (Str.ofString "z").cps.toList = [122] := by decide +kernel
theorem lt1 {a b : Nat} : ([a] < [b]) ↔ a < b := by
  constructor
  · intro h
    rcases List.cons_lt_cons_iff.mp h with h | ⟨_, h⟩
    · exact h
    · exact absurd h (List.not_lt_nil _)
  · intro h; exact List.cons_lt_cons_iff.mpr (.inl h)
theorem pure_nil : pureD 9 (.kl []) = true := rfl
theorem lkey_ok (h : Gk x) (hQ : Q (.bl true) G) : w_law_is_key e [.str x] G Q E := by
  obtain ⟨h1, h2, h3⟩ := h
  unfold w_law_is_key
  exists if_true
  refine i_lenS (by omega) ?_
  exists show (1 : Int) ≤ (x.length : Nat) by omega, show ((x.length : Nat) : Int) ≤ 6 by omega, decide_true
  refine ⟨by rw [signs_len]; exact Nat.le_trans (show x.cps.size ≤ 6 from h2) (by decide), lc_none (fun z hz ky kn G hk => ?_) ?_⟩
  · unfold signs at hz
    obtain ⟨c, hc, rfl⟩ := List.mem_map.mp hz
    exists dwipe, cpa, cpz, lt1
    unfold letter at h3
    rw [List.all_eq_true] at h3
    have h4 := of_decide_eq_true (h3 c hc)
    exists show ¬ c < 97 by omega, show ¬ 122 < c by omega, decide_false
    exact hk
  · refine i_eqX pure_nil pure_nil ?_
    exists eqv_nil
    exact fg_in hQ
theorem cut13 {a b c : D} : cutD [a, b, c] (some 1) none = [b, c] := rfl
theorem lstamp_ok {a b c : Int} (h1 : 0 ≤ b) (h2 : 0 ≤ c) (hQ : Q (.bl true) G) : w_law_is_stamp e [.tup [.int a, .int b, .int c]] G Q E := by
  unfold w_law_is_stamp
  exists show ((3 : Nat) : Int) = 3 from rfl, decide_true
  refine lc_none (fun z hz ky kn G hk => ?_) ?_
  · exists dwipe
    simp only [List.mem_cons, List.not_mem_nil, or_false] at hz
    rcases hz with rfl | rfl | rfl
    all_goals
      refine lwhole_ok ?_
      exists if_true
      exact hk
  · refine i_eqX pure_nil pure_nil ?_
    exists eqv_nil, cut13, r_minT2
    have : decide (0 ≤ min b c) = true := decide_eq_true (by omega)
    rw [this]
    exact fg_in hQ
theorem lisworth_ok {n : Int} {w : List Int} (h : WoOk n w) (hQ : Q (.bl true) G) : w_law_is_worth e [.tup (w.map D.int)] G Q E := by
  have h1 := h.l1
  have h4 := h.l4
  unfold w_law_is_worth
  exists List.length_map, show (1 : Int) ≤ (w.length : Nat) by omega, show ((w.length : Nat) : Int) ≤ 4 by omega, decide_true
  refine ⟨by omega, lc_none (fun z hz ky kn G hk => ?_) ?_⟩
  · exists dwipe
    obtain ⟨i, _, rfl⟩ := List.mem_map.mp hz
    refine lwhole_ok ?_
    exists if_true
    exact hk
  · refine i_eqX pure_nil pure_nil ?_
    exists eqv_nil
    exact fg_in hQ
theorem lworthN_ok {n : Int} {w : Wo} (h : WOk n w) (hQ : Q (.bl w.isSome) G) : w_law_is_worth e [wD w] G Q E := by
  cases w with
  | none =>
    unfold w_law_is_worth wD
    exists if_true
    exact fg_in hQ
  | some l => exact lisworth_ok (h l rfl) hQ
theorem keyL_map : ∀ l : List (Str × Wo), keyL (l.map fun p => D.str p.1) = some (l.map fun p => (.inr p.1 : Key))
  | [] => rfl
  | p :: l => by
    show (match keyOfD (.str p.1), keyL (l.map fun p => D.str p.1) with | some k, some l => some (k :: l) | _, _ => none) = _
    rw [keyL_map l]
    rfl
theorem lpairs2_ok {n : Int} {l : List (Str × Wo)} {b : Bool} (hl : l.length ≤ 100) (hk : ∀ p ∈ l, Gk p.1 ∧ WOk n p.2) (hs : b = false → ∀ p ∈ l, p.2.isSome = true) (hQ : Q (.bl (pairsB l)) G) : w_law_are_pairs e [prsD l, .bl b] G Q E := by
  unfold w_law_are_pairs prsD
  exists if_true
  refine forD_inv (fun r σ G' => (∃ w, σ = [some (.kl (l.map pD)), some (.bl b), w]) ∧ (∀ d ∈ r, ∃ p ∈ l, d = pD p) ∧ G' = G) (fun _ _ _ _ => trivial) (fun x r k σ G' hI hk' => ?_) (fun σ G' hI => ?_) _ _ _ ⟨⟨none, rfl⟩, fun d hd => (by obtain ⟨p, hp, rfl⟩ := List.mem_map.mp hd; exact ⟨p, hp, rfl⟩), rfl⟩
  · obtain ⟨⟨w, rfl⟩, hr, rfl⟩ := hI
    obtain ⟨p, hp, rfl⟩ := hr x (List.mem_cons_self ..)
    obtain ⟨p1, p2⟩ := hk p hp
    have nxt := hk' [some (.kl (l.map pD)), some (.bl b), some (pD p)] G' ⟨⟨_, rfl⟩, fun d hd => hr d (List.mem_cons_of_mem _ hd), rfl⟩
    unfold l_law_are_pairs_1
    unfold pD at nxt ⊢
    exists show ((2 : Nat) : Int) = 2 from rfl, decide_true
    refine lkey_ok p1 ?_
    exists if_true
    refine lworthN_ok p2 ?_
    cases hw : p.2.isSome with
    | true =>
      exists if_true
      exact nxt
    | false =>
      cases b with
      | false => rw [hs rfl p hp] at hw; cases hw
      | true =>
        have e2 : wD p.2 = .non := by
          cases h2 : p.2 with
          | none => rfl
          | some z => rw [h2] at hw; cases hw
        rw [e2] at nxt ⊢
        exists if_true
        exact nxt
  · obtain ⟨⟨w, rfl⟩, hr, rfl⟩ := hI
    exists List.length_map
    refine ⟨by omega, lc_pma (fun p : Str × Wo => some (.str p.1)) trivial (fun p hp ky kn hy hk2 => ?_) ?_⟩
    · exists dwipe, pD
      exact hy _ rfl
    · rw [List.nil_append, List.filterMap_eq_map', keyL_map]
      refine i_lenSetI (by rw [List.length_map]; omega) ?_
      exists List.length_map
      have e2 : (decide (((unl (l.map fun p => (.inr p.1 : Key))).length : Int) = (l.length : Int))) = pairsB l := by
        unfold pairsB
        rw [decide_eq_decide]; omega
      rw [e2]
      exact fg_in hQ
end
end P
namespace P
open PySem PySem.Spec L2 DL
open LamY
section
variable {e : Env} {G : HD} {Q : Post} {E : DX} {x : Str}
theorem eqv_tn {d : D} {l : List D} : eqvD (.tup (d :: l)) (.tup []) = false := rfl
theorem ltold_ok {n : Int} {k : Nat} {v : Ev} (h : EvOk n k v) (hk : k ≤ 100) (hQ : Q (.bl (toldB v)) G) : w_law_is_told e [evD v] G Q E := by
  have hp := evD_pure h 3
  unfold w_law_is_told
  cases v with
  | deal d =>
    have hr := DlOk.rl (d := d) h
    have hw := DlOk.wl (d := d) h
    have wl := wr_len d
    unfold evD dlD at hp ⊢
    exists if_true
    refine i_eqX hp (show pureD 9 (.tup []) = true from rfl) ?_
    exists eqv_tn, decide_true, show ((7 : Nat) : Int) = 7 from rfl, cut14
    refine lc_none (fun z hz ky kn G hk => ?_) ?_
    · exists dwipe
      simp only [List.mem_cons, List.not_mem_nil, or_false] at hz
      rcases hz with rfl | rfl | rfl
      all_goals
        refine lwhole_ok ?_
        exists if_true
        exact hk
    · refine i_eqX pure_nil pure_nil ?_
      exists eqv_nil
      refine lstamp_ok (DlOk.s0 h) (DlOk.h0 h) ?_
      exists atI5, atI6
      change Q (.bl (dealB d)) G at hQ
      unfold dealB at hQ
      by_cases h1 : d.beg ≤ d.tol
      · exists h1, decide_true
        rw [decide_eq_true h1, Bool.true_and] at hQ
        refine lpairs2_ok (by omega) (DlOk.rk h) (fun z => by cases z) ?_
        cases h2 : pairsB d.rs with
        | false =>
          exists if_true
          rw [h2] at hQ
          exact fg_in hQ
        | true =>
          exists if_true
          rw [h2, Bool.true_and] at hQ
          exact lpairs2_ok (by omega) (wr_ok h) (fun _ p hp => by obtain ⟨q, _, rfl⟩ := List.mem_map.mp hp; rfl) (fg_in hQ)
      · exists h1, decide_false
        rw [decide_eq_false h1, Bool.false_and] at hQ
        exact fg_in hQ
  | form t m =>
    unfold evD at hp ⊢
    exists if_true
    refine i_eqX hp (show pureD 9 (.tup []) = true from rfl) ?_
    exists eqv_tn, ne_fd, decide_false, decide_true, show ((3 : Nat) : Int) = 3 from rfl
    refine lwhole_ok ?_
    exists if_true
    refine lwhole_ok ?_
    exists h.2.1, h.2.2, decide_true
    exact fg_in hQ
  | read b a t y w =>
    unfold evD at hp ⊢
    exists if_true
    refine i_eqX hp (show pureD 9 (.tup []) = true from rfl) ?_
    have hin : decide (nowS b ∈ [Str.ofString "read", Str.ofString "now"]) = true := by cases b <;> exact decide_eq_true (by simp [nowS])
    exists eqv_tn, ne_nd, ne_nf, decide_false, decide_true, show ((5 : Nat) : Int) = 5 from rfl, asStrs, Option.map, hin
    refine lwhole_ok ?_
    exists if_true
    refine lwhole_ok ?_
    exists if_true
    refine lkey_ok h.2.2.1 ?_
    exists if_true
    cases w with
    | none =>
      exists wD
      exact fg_in hQ
    | some l =>
      exists wD
      exact lisworth_ok (h.2.2.2 l rfl) (fg_in hQ)
/-! ### reads -/
theorem fm_congr {α β : Type} {f g : α → Option β} : ∀ {l : List α}, (∀ x ∈ l, f x = g x) → l.filterMap f = l.filterMap g
  | [], _ => rfl
  | x :: l, h => by
    have ih := fm_congr (l := l) fun y hy => h y (List.mem_cons_of_mem _ hy)
    have h1 := h x (List.mem_cons_self ..)
    cases e : f x with
    | none => rw [List.filterMap_cons_none e, List.filterMap_cons_none (by rw [← h1]; exact e), ih]
    | some b => rw [List.filterMap_cons_some e, List.filterMap_cons_some (by rw [← h1]; exact e), ih]
theorem newB_congr {ds : List Dl} {k : Str} {f g : List Int → Bool} (h : ∀ d ∈ ds, f d.st = g d.st) : newB ds k f = newB ds k g := by
  have : cand ds k f = cand ds k g := by
    unfold cand
    refine fm_congr fun d hd => ?_
    unfold candF
    rw [h d hd]
  unfold newB
  rw [this]
theorem upto_lt {d : Dl} (h : 0 ≤ d.s) (t : Int) : ltS d.st [t + 1, -1, -1] = upto t d.st := by
  show HT.lexLt [d.t, d.s, d.h] [t + 1, -1, -1] = decide (d.t ≤ t)
  rw [HT.lexLt_cons, HT.lexLt_cons]
  by_cases e1 : d.t = t + 1
  · rw [if_pos e1, if_neg (by omega), decide_eq_false (by omega), decide_eq_false (by omega)]
  · rw [if_neg e1, decide_eq_decide]; omega
theorem newB_upto {n : Int} {k : Nat} {ds : List Dl} {y : Str} {t : Int} (hd : ∀ d ∈ ds, DlOk n k d) : (newB ds y fun st => ltS st [t + 1, -1, -1]) = newB ds y (upto t) :=
  newB_congr fun d h => upto_lt (hd d h).s0 t
theorem lfit_ok {n : Int} {k m : Nat} {hs : List Ev} {ds : List Dl} {b : Bool} {a t : Int} {y : Str} {w : Wo} (hH : HsOk n k m hs) (hm : m ≤ 100) (hd : ∀ d ∈ ds, DlOk n k d) (hn : ds.length ≤ 100) (hw : ∀ d ∈ ds, wsNd d) (nd : (ds.map Dl.st).Nodup) (hQ : Q (.bl (fitB hs ds (.read b a t y w))) G) :
    w_law_reading_fits e [hD hs, .kl (ds.map dlD), evD (.read b a t y w)] G Q E := by
  unfold w_law_reading_fits evD
  exists if_true
  refine lworth_ok (ok := fun _ => True) (fun R hR => by rw [r_seqK]; exact hR) (fun _ _ => trivial) hn hw nd ?_
  rw [newB_upto hd]
  exists if_true
  rw [lfields_eq, lformed_eq]
  refine fields_ok (Nat.le_trans hH.len (by omega)) ?_
  exists if_true
  refine formed_ok (fun w2 hw2 => ⟨fun z => ?_, ((newB_ok hd) w2 hw2).l4⟩) (fun i hi => fields_bnd hH hi) ?_
  · have := ((newB_ok hd) w2 hw2).l1
    rw [z] at this; exact absurd this (by decide)
  refine i_eqX w_pure9 w_pure9 ?_
  exists eqv_w
  change Q (.bl (decide (w = formV (newB ds y (upto t)) (fieldsB hs t)) && (!b || !lateB ds a t))) G at hQ
  by_cases h1 : w = formV (newB ds y (upto t)) (fieldsB hs t)
  · rw [decide_eq_true h1, Bool.true_and] at hQ
    exists decide_eq_true h1, List.length_map
    refine ⟨by omega, lc_pma (fun o => if (decide (o.tol ≤ a) && decide (t < o.t)) = true then some (dlD o) else none) trivial (fun o ho ky kn hy hk => ?_) ?_⟩
    · have e2 : dlD o = .tup [.str "dealing", .int o.num, .int o.beg, .int o.tol, .tup [.int o.t, .int o.s, .int o.h], prsD o.rs, prsD o.wr] := rfl
      exists dwipe
      rw [e2]
      exists if_true
      by_cases h2 : o.tol ≤ a
      · rw [decide_eq_true h2, Bool.true_and] at hy hk
        exists h2, decide_true
        by_cases h3 : t < o.t
        · rw [decide_eq_true h3] at hy
          exists h3, decide_true
          exact hy _ rfl
        · rw [decide_eq_false h3] at hk
          exists h3, decide_false
          exact hk rfl
      · rw [decide_eq_false h2, Bool.false_and] at hk
        exists h2, decide_false
        exact hk rfl
    · rw [List.nil_append, filterDl]
      exists if_true
      cases b with
      | false =>
        exists nowS, decide_true
        exact fg_in hQ
      | true =>
        exists nowS, ne_nr, decide_false
        refine i_eqX (late_pure fun o ho => hd o (List.mem_filter.mp ho).1) (show pureD 9 (.kl []) = true from rfl) ?_
        cases hf : ds.filter fun o => decide (o.tol ≤ a) && decide (t < o.t) with
        | nil =>
          exists List.map_nil, eqv_nil
          have : lateB ds a t = false := by
            unfold lateB
            rw [List.any_eq_false]
            intro o ho hc
            have : o ∈ ds.filter fun o => decide (o.tol ≤ a) && decide (t < o.t) := List.mem_filter.mpr ⟨ho, hc⟩
            rw [hf] at this; cases this
          rw [this] at hQ
          exact fg_in hQ
        | cons o os =>
          exists List.map_cons, eqv_cons
          have ho : o ∈ ds.filter fun o => decide (o.tol ≤ a) && decide (t < o.t) := by rw [hf]; exact List.mem_cons_self ..
          have : lateB ds a t = true := List.any_eq_true.mpr ⟨o, (List.mem_filter.mp ho).1, (List.mem_filter.mp ho).2⟩
          rw [this] at hQ
          exact fg_in hQ
  · rw [decide_eq_false h1, Bool.false_and] at hQ
    exists decide_eq_false h1
    exact fg_in hQ
end
end P
namespace P
open PySem PySem.Spec L2 DL
open LamY
theorem filt_all {α : Type} {f : α → Bool} : ∀ {l : List α}, (l.filter fun x => !f x).isEmpty = l.all f
  | [] => rfl
  | x :: l => by
    have ih := filt_all (f := f) (l := l)
    cases hx : f x with
    | true => rw [List.filter_cons_of_neg (by simp [hx]), List.all_cons, hx, ih]; rfl
    | false => rw [List.filter_cons_of_pos (by simp [hx]), List.all_cons, hx]; rfl
section
variable {e : Env} {G : HD} {Q : Post} {E : DX} {x : Str}
theorem eq_emp {α : Type} {g : α → D} {l : List α} {neg : Bool} (hp : ∀ x ∈ l, pureD 8 (g x) = true) (hQ : Q (.bl (if neg then !l.isEmpty else l.isEmpty)) G) : dEqX neg (.kl (l.map g)) (.kl []) G Q := by
  refine i_eqX (all_map_t (f := pureD 8) hp) pure_nil ?_
  cases l with
  | nil => rw [List.map_nil, eqv_nil]; exact hQ
  | cons x l => rw [List.map_cons, eqv_cons]; exact hQ
theorem filtF {α : Type} {p : α → Bool} {g : α → D} : ∀ l : List α, (l.filterMap fun v => if p v = true then some (g v) else none) = (l.filter p).map g
  | [] => rfl
  | v :: hs => by
    cases h : p v with
    | true => rw [List.filterMap_cons_some (b := g v) (by rw [h]; rfl), List.filter_cons_of_pos h, List.map_cons, filtF hs]
    | false => rw [List.filterMap_cons_none (by rw [h]; rfl), List.filter_cons_of_neg (by rw [h]; decide), filtF hs]
/-! ### the law's own order -/
def clashL (d o : Dl) : Bool := !eqvD (dlD o) (dlD d) && (decide (d.tol ≤ o.beg) && !PySem.W.listLt d.st o.st)
theorem clash_eq (d o : Dl) : clashL d o = clash d o := by
  unfold clashL clash eqvD
  rw [PySem.W.eqv_comm]
  cases decide (d.tol ≤ o.beg) <;> cases PyData.eqv (toPy 9 (dlD d)) (toPy 9 (dlD o)) <;> rfl
def isRd (v : Ev) : Bool := decide (wordOf v ∈ [Str.ofString "read", Str.ofString "now"])
theorem rd_all {hs : List Ev} {f : Ev → Bool} : (hs.filter isRd).all f = (readsOf hs).all f := by
  unfold readsOf
  rw [List.all_append, Bool.eq_iff_iff, Bool.and_eq_true, List.all_eq_true, List.all_eq_true, List.all_eq_true]
  constructor
  · intro h
    refine ⟨fun v hv => h v ?_, fun v hv => h v ?_⟩
    · obtain ⟨h1, h2⟩ := List.mem_filter.mp hv
      refine List.mem_filter.mpr ⟨h1, decide_eq_true ?_⟩
      rw [of_decide_eq_true h2]; simp
    · obtain ⟨h1, h2⟩ := List.mem_filter.mp hv
      refine List.mem_filter.mpr ⟨h1, decide_eq_true ?_⟩
      rw [of_decide_eq_true h2]; simp
  · rintro ⟨h1, h2⟩ v hv
    obtain ⟨h3, h4⟩ := List.mem_filter.mp hv
    have h4 := of_decide_eq_true h4
    simp only [List.mem_cons, List.not_mem_nil, or_false] at h4
    rcases h4 with z | z
    · exact h1 v (List.mem_filter.mpr ⟨h3, decide_eq_true z⟩)
    · exact h2 v (List.mem_filter.mpr ⟨h3, decide_eq_true z⟩)
theorem keyTL_map : ∀ l : List Dl, keyTL (l.map fun d => D.tup [.int d.t, .int d.s, .int d.h]) = some (l.map Dl.st)
  | [] => rfl
  | d :: l => by
    show (match keyTD (.tup [.int d.t, .int d.s, .int d.h]), keyTL (l.map fun d => D.tup [.int d.t, .int d.s, .int d.h]) with | some k, some l => some (k :: l) | _, _ => none) = _
    rw [keyTL_map l]
    rfl
theorem keyLn_map : ∀ l : List Dl, keyL (l.map fun d => D.int d.num) = some (l.map fun d => (.inl d.num : Key))
  | [] => rfl
  | d :: l => by
    show (match keyOfD (.int d.num), keyL (l.map fun d => D.int d.num) with | some k, some l => some (k :: l) | _, _ => none) = _
    rw [keyLn_map l]
    rfl
theorem all_go (ds l : List Dl) : (l.all fun d => !ds.any (clash d) && readsB ds d) = ((l.all fun d => !ds.any (clash d)) && l.all (readsB ds)) := by
  induction l with
  | nil => rfl
  | cons d l ih =>
    rw [List.all_cons, List.all_cons, List.all_cons, ih]
    cases ds.any (clash d) <;> cases readsB ds d <;> cases (l.all fun d => !ds.any (clash d)) <;> cases l.all (readsB ds) <;> rfl
theorem lord_ok {n : Int} {k m : Nat} {hs : List Ev} (h : HsOk n k m hs) (hk : k ≤ 50) (hm : m ≤ 50) (hQ : Q (.bl (ordB hs)) G) : w_law_is_ordered e [hD hs] G Q E := by
  have hlen := h.len
  obtain ⟨hd, hdl⟩ := deals_ok h
  have hp8 : ∀ v ∈ hs, pureD 8 (evD v) = true := fun v hv => evD_pure (h.ev v hv) 2
  unfold w_law_is_ordered hD
  exists List.length_map
  refine ⟨by omega, lc_pma (fun v => if (!toldB v) = true then some (evD v) else none) trivial (fun v hv ky kn hy hk2 => ?_) ?_⟩
  · exists dwipe
    refine ltold_ok (h.ev v hv) (by omega) ?_
    exists if_true
    cases ht : toldB v with
    | true =>
      rw [ht] at hk2
      exists if_true
      exact hk2 rfl
    | false =>
      rw [ht] at hy
      exists if_true
      exact hy _ rfl
  · rw [List.nil_append, filtF]
    refine eq_emp (fun v hv => hp8 v (List.mem_filter.mp hv).1) ?_
    rw [filt_all]
    unfold ordB at hQ
    cases ha : hs.all toldB with
    | false =>
      rw [ha, Bool.false_and] at hQ
      exists if_true
      exact fg_in hQ
    | true =>
      have nd := told_nd ha
      rw [ha, Bool.true_and] at hQ
      exists List.length_map
      refine ⟨by omega, lc_pma (fun v => if wordIs "dealing" v = true then some (evD v) else none) trivial (fun v hv ky kn hy hk2 => ?_) ?_⟩
      · obtain ⟨l, hl⟩ : ∃ l, evD v = .tup (.str (wordOf v) :: l) := by cases v <;> exact ⟨_, rfl⟩
        exists dwipe, hl
        unfold wordIs at hy hk2
        by_cases h : wordOf v = Str.ofString "dealing"
        · exists h, decide_true
          rw [decide_eq_true h, if_pos rfl, hl] at hy
          have := hy _ rfl
          rw [h] at this
          exact this
        · exists h, decide_false
          rw [decide_eq_false h, if_neg (by decide)] at hk2
          exact hk2 rfl
      · rw [List.nil_append, filterD, deals_map]
        generalize hds : dealsOf hs = ds at hQ hd hdl nd ⊢
        exists List.length_map
        refine ⟨by omega, lc_pma (fun d => some (.int d.num)) trivial (fun d hd ky kn hy hk2 => ?_) ?_⟩
        · exists dwipe, dlD
          exact hy _ rfl
        · rw [List.nil_append, List.filterMap_eq_map']
          exists List.length_map, keyLn_map
          refine ⟨by omega, lc_pma (fun d => some (.tup [.int d.t, .int d.s, .int d.h])) trivial (fun d hd ky kn hy hk2 => ?_) ?_⟩
          · exists dwipe, dlD
            exact hy _ rfl
          · rw [List.nil_append, List.filterMap_eq_map', keyTL_map]
            refine i_lenSetI (by rw [List.length_map]; omega) ?_
            exists List.length_map
            by_cases h1 : (unl (ds.map fun d => (.inl d.num : Key))).length = ds.length
            · have h1' : numsB ds = true := decide_eq_true h1
              rw [h1', Bool.true_and] at hQ
              exists show (((unl (ds.map fun d => (.inl d.num : Key))).length : Int) = (ds.length : Int)) by omega, decide_true
              refine i_lenSetTI (by rw [List.length_map]; omega) ?_
              exists List.length_map
              by_cases h2 : (unl (ds.map Dl.st)).length = ds.length
              · have h2' : stsB ds = true := decide_eq_true h2
                have ndS : (ds.map Dl.st).Nodup := unl_lt _ _ rfl (by rw [h2, List.length_map])
                rw [h2', Bool.true_and] at hQ
                exists show (((unl (ds.map Dl.st)).length : Int) = (ds.length : Int)) by omega, decide_true
                have eall : (goB ds && ds.all (readsB ds)) = ds.all fun d => !ds.any (clash d) && readsB ds d := (all_go ds ds).symm
                rw [eall] at hQ
                have hwn : ∀ d ∈ ds, wsNd d := fun d hd => (nd d hd).1
                refine forD_inv (fun r σ G' => (∃ w2 w3 w4 w6 w7 w8, σ = [some (.kl (hs.map evD)), some (.kl (ds.map dlD)), w2, w3, w4, none, w6, w7, w8]) ∧ (∃ l, r = l.map dlD ∧ (∀ d ∈ l, d ∈ ds) ∧ (ds.all fun d => !ds.any (clash d) && readsB ds d) = l.all fun d => !ds.any (clash d) && readsB ds d) ∧ G' = G) (fun _ _ _ _ => trivial) (fun x r k2 σ G' hI hk' => ?_) (fun σ G' hI => ?_) _ _ _ ⟨⟨_, _, _, _, _, _, rfl⟩, ⟨ds, rfl, fun d h => h, rfl⟩, rfl⟩
                · obtain ⟨⟨w2, w3, w4, w6, w7, w8, rfl⟩, ⟨l, hl, hmm, hB⟩, rfl⟩ := hI
                  cases l with
                  | nil => cases hl
                  | cons d l =>
                    injection hl with g1 g2
                    subst g1
                    have hdd := hd d (hmm d (List.mem_cons_self ..))
                    rw [List.all_cons] at hB
                    unfold l_law_is_ordered_1
                    exists List.length_map
                    refine ⟨by omega, lc_pma (fun o => if clashL d o = true then some (dlD o) else none) trivial (fun o ho ky kn hy hk => ?_) ?_⟩
                    · unfold clashL at hy hk
                      have e1 : dlD d = .tup [.str "dealing", .int d.num, .int d.beg, .int d.tol, .tup [.int d.t, .int d.s, .int d.h], prsD d.rs, prsD d.wr] := rfl
                      have e2 : dlD o = .tup [.str "dealing", .int o.num, .int o.beg, .int o.tol, .tup [.int o.t, .int o.s, .int o.h], prsD o.rs, prsD o.wr] := rfl
                      exists dwipe
                      refine i_eqX (dl_pure (hd o ho)) (dl_pure hdd) ?_
                      exists if_true
                      cases h2 : !eqvD (dlD o) (dlD d) with
                      | false =>
                        rw [h2, Bool.false_and] at hk
                        exists if_true
                        exact hk rfl
                      | true =>
                        rw [h2, Bool.true_and] at hk hy
                        rw [e1, e2]
                        exists if_true
                        by_cases h1 : d.tol ≤ o.beg
                        · rw [decide_eq_true h1, Bool.true_and] at hy hk
                          exists h1, decide_true
                          cases h3 : !PySem.W.listLt d.st o.st with
                          | false =>
                            rw [h3] at hk
                            have h3' : (!PySem.W.listLt [d.t, d.s, d.h] [o.t, o.s, o.h]) = false := h3
                            exists h3'
                            exact hk rfl
                          | true =>
                            rw [h3] at hy
                            have h3' : (!PySem.W.listLt [d.t, d.s, d.h] [o.t, o.s, o.h]) = true := h3
                            exists h3'
                            exact hy _ rfl
                        · exists h1, decide_false
                          rw [decide_eq_false h1, Bool.false_and] at hk
                          exact hk rfl
                    · rw [List.nil_append, filterDl]
                      refine eq_emp (fun o ho => evD_pure (v := .deal o) (hd o (List.mem_filter.mp ho).1) 2) ?_
                      have ecl : (ds.filter (clashL d)).isEmpty = !ds.any (clash d) := by
                        rw [show clashL d = clash d from funext (clash_eq d)]
                        rw [Bool.eq_iff_iff, List.isEmpty_iff, List.filter_eq_nil_iff, Bool.not_eq_true', List.any_eq_false]
                      rw [ecl]
                      cases hc : ds.any (clash d) with
                      | true =>
                        rw [hc] at hB
                        rw [hB] at hQ
                        exists if_true
                        exact fg_in hQ
                      | false =>
                        rw [hc] at hB
                        have hrl := hdd.rl
                        have enx : ∀ w6 w7 w8 w4', k2 [some (.kl (hs.map evD)), some (.kl (ds.map dlD)), w2, w3, w4', none, w6, w7, w8] G' ∨ readsB ds d = false := fun w6 w7 w8 w4' => by
                          cases hr : readsB ds d with
                          | false => exact .inr rfl
                          | true =>
                            refine .inl (hk' _ _ ⟨⟨_, _, _, _, _, _, rfl⟩, ⟨l, g2, fun d hd => hmm d (List.mem_cons_of_mem _ hd), ?_⟩, rfl⟩)
                            rw [hB, hr]; rfl
                        exists dlD, atI5, prsD, List.length_map
                        refine ⟨by omega, lc_pma (fun p : Str × Wo => if (!decide (p.2 = newB ds p.1 fun st => ltS st d.st)) = true then some (D.str p.1) else none) trivial (fun p hp ky kn hy hk => ?_) ?_⟩
                        · unfold pD
                          exists dwipe
                          refine lworth_ok (ok := fun _ => True) (fun R hR => by rw [r_seqK]; exact hR) (fun _ _ => trivial) (by omega) hwn ndS ?_
                          refine i_eqX w_pure9 w_pure9 ?_
                          exists eqv_w
                          have est : (newB ds p.1 fun st => ltS st [d.t, d.s, d.h]) = newB ds p.1 fun st => ltS st d.st := rfl
                          rw [est]
                          cases hc2 : decide (p.2 = newB ds p.1 fun st => ltS st d.st) with
                          | true =>
                            rw [hc2] at hk
                            exists if_true
                            exact hk rfl
                          | false =>
                            rw [hc2] at hy
                            exists if_true
                            exact hy _ rfl
                        · rw [List.nil_append, filtF]
                          refine eq_emp (fun p hp => gk_str (hdd.rk p (List.mem_filter.mp hp).1).1) ?_
                          rw [filt_all]
                          have er : (d.rs.all fun p => decide (p.2 = newB ds p.1 fun st => ltS st d.st)) = readsB ds d := rfl
                          rw [er]
                          cases hr : readsB ds d with
                          | true =>
                            exists if_true
                            rcases enx w6 w7 w8 _ with z | z
                            · exact z
                            · rw [hr] at z; cases z
                          | false =>
                            rw [hr] at hB
                            rw [hB] at hQ
                            exists if_true
                            exact fg_in hQ
                · obtain ⟨⟨w2, w3, w4, w6, w7, w8, rfl⟩, ⟨l, hl, _, hB⟩, rfl⟩ := hI
                  have : l = [] := List.map_eq_nil_iff.mp hl.symm
                  subst this
                  rw [hB] at hQ
                  change Q (.bl ((readsOf hs).all (fitB hs ds))) G' at hQ
                  rw [← rd_all] at hQ
                  have hrd : ∀ v ∈ hs.filter isRd, v ∈ hs ∧ ∃ b a t y w, v = .read b a t y w := by
                    intro v hv
                    obtain ⟨z1, z2⟩ := List.mem_filter.mp hv
                    refine ⟨z1, ?_⟩
                    have z2 := of_decide_eq_true z2
                    simp only [List.mem_cons, List.not_mem_nil, or_false] at z2
                    cases v with
                    | deal d => rcases z2 with z | z; (· exact absurd z ne_dr); exact absurd z ne_dn
                    | form t n => rcases z2 with z | z; (· exact absurd z ne_fr); exact absurd z ne_fn
                    | read b a t y w => exact ⟨b, a, t, y, w, rfl⟩
                  have hfl := List.length_filter_le isRd hs
                  exists List.length_map
                  refine ⟨by omega, lc_pma (fun v => if isRd v = true then some (evD v) else none) trivial (fun v hv ky kn hy hk2 => ?_) ?_⟩
                  · obtain ⟨l, hl⟩ : ∃ l, evD v = .tup (.str (wordOf v) :: l) := by cases v <;> exact ⟨_, rfl⟩
                    unfold isRd at hy hk2
                    exists dwipe, hl, asStrs, Option.map
                    cases hc : decide (wordOf v ∈ [Str.ofString "read", Str.ofString "now"]) with
                    | true =>
                      rw [hc, if_pos rfl, hl] at hy
                      exists if_true
                      exact hy _ rfl
                    | false =>
                      rw [hc] at hk2
                      exists if_true
                      exact hk2 rfl
                  · rw [List.nil_append, filtF]
                    exists List.length_map
                    refine ⟨by omega, lc_pma (fun v => if (!fitB hs ds v) = true then some (evD v) else none) trivial (fun v hv ky kn hy hk2 => ?_) ?_⟩
                    · obtain ⟨hv1, b, a, t, y, w, rfl⟩ := hrd v hv
                      exists dwipe
                      refine lfit_ok h (by omega) hd (by omega) hwn ndS ?_
                      exists if_true
                      cases hf : fitB hs ds (.read b a t y w) with
                      | true =>
                        rw [hf] at hk2
                        exists if_true
                        exact hk2 rfl
                      | false =>
                        rw [hf] at hy
                        exists if_true
                        exact hy _ rfl
                    · rw [List.nil_append, filtF]
                      refine eq_emp (fun v hv => hp8 v (List.mem_filter.mp (List.mem_filter.mp hv).1).1) ?_
                      rw [filt_all]
                      exists if_true
                      exact fg_in hQ
              · have h2' : stsB ds = false := decide_eq_false h2
                rw [h2', Bool.false_and, Bool.false_and] at hQ
                exists show ¬ (((unl (ds.map Dl.st)).length : Int) = (ds.length : Int)) by omega, decide_false
                exact fg_in hQ
            · have h1' : numsB ds = false := decide_eq_false h1
              rw [h1', Bool.false_and, Bool.false_and] at hQ
              exists show ¬ (((unl (ds.map fun d => (.inl d.num : Key))).length : Int) = (ds.length : Int)) by omega, decide_false
              exact fg_in hQ
end
end P
namespace P
open PySem PySem.Spec L2 DL
open LamY
theorem lx_cons {x y : Int} {a b : List Int} (h : x ≤ y) (h2 : x = y → HT.lexLt a b = true) : HT.lexLt (x :: a) (y :: b) = true := by
  rw [HT.lexLt_cons]
  by_cases e : x = y
  · rw [if_pos e]; exact h2 e
  · rw [if_neg e]; exact decide_eq_true (by omega)
theorem lx_asym {a b : List Int} (h : HT.lexLt a b = true) : HT.lexLt b a = false := by
  cases h2 : HT.lexLt b a with
  | false => rfl
  | true => have := lx_tr h h2; rw [lx_irr] at this; cases this
theorem st_lt {d o : Dl} (h1 : d.t ≤ o.t) (h2 : d.s < o.s) : HT.lexLt d.st o.st = true :=
  lx_cons h1 fun _ => lx_cons (by omega) fun z => by omega
theorem Made.idle {ds : List Dl} {t s now : Int} (h : Made ds t s now) : ∀ d ∈ ds, d.tol = d.beg → d.tol < now := by
  induction h with
  | nil => exact fun d hd => nomatch hd
  | @snoc ds t s now now' d h hb ht h1 hs hh hn hr hw hn' ih =>
    intro d2 hd e
    rcases List.mem_append.mp hd with z | z
    · have := ih d2 z e
      omega
    · rw [List.mem_singleton.mp z] at e ⊢
      exact hn'.2.2 e
theorem Made.go {ds : List Dl} {t s now : Int} (h : Made ds t s now) : ∀ d ∈ ds, ∀ o ∈ ds, d.tol ≤ o.beg → d = o ∨ HT.lexLt d.st o.st = true := by
  induction h with
  | nil => exact fun d hd => nomatch hd
  | @snoc ds t s now now' x h hb ht h1 hs hh hn hr hw hn' ih =>
    intro d hd o ho hle
    have B := h.bnd.2.2.2.2.2
    rcases List.mem_append.mp hd with z | z
    · rcases List.mem_append.mp ho with y | y
      · exact ih d z o y hle
      · rw [List.mem_singleton.mp y]
        have := B d z
        exact .inr (st_lt (by omega) (by omega))
    · rcases List.mem_append.mp ho with y | y
      · rw [List.mem_singleton.mp z] at hle
        have b1 := B o y
        have b2 := h.idle o y
        by_cases e : o.tol = o.beg
        · have := b2 e; omega
        · omega
      · rw [List.mem_singleton.mp z, List.mem_singleton.mp y]; exact .inl rfl
theorem cand_snoc {ds : List Dl} {x : Dl} {k : Str} {f : List Int → Bool} (h : f x.st = false) : cand (ds ++ [x]) k f = cand ds k f := by
  unfold cand
  rw [List.filterMap_append]
  have : candF k f x = none := by
    cases hl : x.ws.lookup k with
    | none => exact candF_n hl
    | some w => exact candF_f hl h
  rw [List.filterMap_cons_none this]
  simp
theorem newB_snoc {ds : List Dl} {x : Dl} {k : Str} {f : List Int → Bool} (h : f x.st = false) : newB (ds ++ [x]) k f = newB ds k f := by rw [newB_eq, newB_eq, cand_snoc h]
theorem Made.reads {ds : List Dl} {t s now : Int} (h : Made ds t s now) : ∀ d ∈ ds, readsB ds d = true := by
  induction h with
  | nil => exact fun d hd => nomatch hd
  | @snoc ds t s now now' x h hb ht h1 hs hh hn hr hw hn' ih =>
    intro d hd
    have B := h.bnd.2.2.2.2.2
    rcases List.mem_append.mp hd with z | z
    · have h2 := ih d z
      unfold readsB at h2 ⊢
      rw [List.all_eq_true] at h2 ⊢
      intro p hp
      have := B d z
      rw [newB_snoc (by exact lx_asym (st_lt (by omega) (by omega)))]
      exact h2 p hp
    · rw [List.mem_singleton.mp z]
      unfold readsB
      rw [List.all_eq_true]
      intro p hp
      rw [newB_snoc (by exact lx_irr _)]
      obtain ⟨l, _, hl⟩ := hr
      rw [hl] at hp
      obtain ⟨q, _, rfl⟩ := List.mem_map.mp hp
      exact decide_eq_true rfl
theorem Made.nums {ds : List Dl} {t s now : Int} (h : Made ds t s now) : (ds.map fun d => (.inl d.num : Key)).Nodup := by
  induction h with
  | nil => exact List.nodup_nil
  | @snoc ds t s now now' x h hb ht h1 hs hh hn hr hw hn' ih =>
    rw [List.map_append, List.nodup_append]
    refine ⟨ih, by simp, fun a ha b hb2 e => ?_⟩
    obtain ⟨d, hd, rfl⟩ := List.mem_map.mp ha
    have e2 : b = .inl x.num := by simpa using hb2
    rw [e2] at e
    have e3 : d.num = x.num := by injection e
    have := h.bnd.2.2.2.2.2 d hd
    omega
theorem Made.told {ds : List Dl} {t s now : Int} (h : Made ds t s now) : ∀ d ∈ ds, dealB d = true := by
  induction h with
  | nil => exact fun d hd => nomatch hd
  | @snoc ds t s now now' x h hb ht h1 hs hh hn hr hw hn' ih =>
    intro d hd
    rcases List.mem_append.mp hd with z | z
    · exact ih d z
    · rw [List.mem_singleton.mp z]
      obtain ⟨l, hl1, hl2⟩ := hr
      unfold dealB
      rw [decide_eq_true (by omega), nd_pairsB, nd_pairsB]
      · rfl
      · exact wr_nd (d := x) hw.nd
      · rw [hl2, List.map_map]; exact hl1.nd
/-! ### forms by place -/
def formsO (n : Nat) (hs : List Ev) (t : Int) : List (List Int) := (hs.zipIdx n).filterMap fun p => formF t p.2 p.1
def shF (c : Int) : List Int → List Int
  | [a, i, n] => [a, i + c, n]
  | l => l
theorem formsO_app (n : Nat) (a b : List Ev) (t : Int) : formsO n (a ++ b) t = formsO n a t ++ formsO (n + a.length) b t := by
  unfold formsO
  rw [List.zipIdx_append, List.filterMap_append]
theorem formsO_none {l : List Ev} {t : Int} (h : ∀ v ∈ l, ∀ i, formF t i v = none) : ∀ n, formsO n l t = [] := by
  intro n
  unfold formsO
  rw [List.filterMap_eq_nil_iff]
  rintro ⟨v, i⟩ hv
  have := (List.mem_zipIdx hv).2.2
  exact h v (by rw [this]; exact List.getElem_mem _) i
theorem formsO_sh (t : Int) (c : Nat) : ∀ (l : List Ev) (n : Nat), formsO (n + c) l t = (formsO n l t).map (shF c)
  | [], n => rfl
  | v :: l, n => by
    have ih := formsO_sh t c l (n + 1)
    unfold formsO at ih ⊢
    rw [List.zipIdx_cons, List.zipIdx_cons]
    have e : n + c + 1 = n + 1 + c := by omega
    rw [e]
    cases v with
    | deal d => rw [List.filterMap_cons_none rfl, List.filterMap_cons_none rfl]; exact ih
    | read b a t2 k w => rw [List.filterMap_cons_none rfl, List.filterMap_cons_none rfl]; exact ih
    | form a m =>
      by_cases h : a ≤ t
      · have h1 : formF t (n + c) (.form a m) = some [a, ((n + c : Nat) : Int), m] := if_pos h
        have h2 : formF t n (.form a m) = some [a, (n : Int), m] := if_pos h
        rw [List.filterMap_cons_some (by exact h1), List.filterMap_cons_some (by exact h2), List.map_cons, ih]
        have : ((n + c : Nat) : Int) = (n : Int) + (c : Int) := by omega
        rw [this]
        rfl
      · have h1 : formF t (n + c) (.form a m) = none := if_neg h
        have h2 : formF t n (.form a m) = none := if_neg h
        rw [List.filterMap_cons_none (by exact h1), List.filterMap_cons_none (by exact h2)]
        exact ih
theorem formsO_tri {n : Nat} {l : List Ev} {t : Int} {x : List Int} (h : x ∈ formsO n l t) : ∃ a i m, x = [a, i, m] := by
  unfold formsO at h
  obtain ⟨⟨v, i⟩, hp, e1⟩ := List.mem_filterMap.mp h
  cases v with
  | deal d => cases e1
  | read b a t2 k w => cases e1
  | form a m =>
    change (if a ≤ t then some [a, (i : Int), m] else none) = some x at e1
    by_cases h1 : a ≤ t
    · rw [if_pos h1] at e1
      injection e1 with e1
      exact ⟨a, _, m, e1.symm⟩
    · rw [if_neg h1] at e1; cases e1
theorem sh_lt {c : Int} {x y : List Int} (hx : ∃ a i m, x = [a, i, m]) (hy : ∃ a i m, y = [a, i, m]) : PySem.W.listLt (shF c x) (shF c y) = PySem.W.listLt x y := by
  obtain ⟨a, i, m, rfl⟩ := hx
  obtain ⟨b, j, k, rfl⟩ := hy
  rw [← lx_lt, ← lx_lt]
  show HT.lexLt [a, i + c, m] [b, j + c, k] = HT.lexLt [a, i, m] [b, j, k]
  simp only [HT.lexLt_cons, HT.lexLt_nil_nil]
  have e1 : (i + c = j + c) ↔ i = j := by omega
  have e2 : (i + c < j + c) ↔ i < j := by omega
  simp only [e1, e2]
theorem maxI_sh (c : Int) : ∀ (l : List (List Int)) (x : List Int), (∃ a i m, x = [a, i, m]) → (∀ y ∈ l, ∃ a i m, y = [a, i, m]) → maxI (shF c x) (l.map (shF c)) = shF c (maxI x l)
  | [], x, _, _ => rfl
  | y :: l, x, hx, hl => by
    have hy := hl y (List.mem_cons_self ..)
    have e1 : maxI (shF c x) ((y :: l).map (shF c)) = maxI (if PySem.W.listLt (shF c x) (shF c y) then shF c y else shF c x) (l.map (shF c)) := rfl
    have e2 : maxI x (y :: l) = maxI (if PySem.W.listLt x y then y else x) l := rfl
    rw [e1, e2, sh_lt hx hy]
    cases PySem.W.listLt x y with
    | true => exact maxI_sh c l y hy fun z hz => hl z (List.mem_cons_of_mem _ hz)
    | false => exact maxI_sh c l x hx fun z hz => hl z (List.mem_cons_of_mem _ hz)
def fieldsL : List (List Int) → Option Int
  | [] => none
  | x :: xs => some (thrd (maxI x xs))
theorem fieldsB_eq (hs : List Ev) (t : Int) : fieldsB hs t = fieldsL (formsO 0 hs t) := rfl
theorem fieldsL_sh {c : Int} {l : List (List Int)} (h : ∀ x ∈ l, ∃ a i m, x = [a, i, m]) : fieldsL (l.map (shF c)) = fieldsL l := by
  cases l with
  | nil => rfl
  | cons x xs =>
    have hx := h x (List.mem_cons_self ..)
    have hxs := fun y hy => h y (List.mem_cons_of_mem x hy)
    show some (thrd (maxI (shF c x) (xs.map (shF c)))) = some (thrd (maxI x xs))
    rw [maxI_sh c xs x hx hxs]
    have : ∃ a i m, maxI x xs = [a, i, m] := h _ (maxI_mem xs x)
    obtain ⟨a, i, m, e⟩ := this
    rw [e]
    rfl
/-! ### a history that was made is ordered -/
theorem rd_none {ds : List Dl} {hs rs : List Ev} {m : Int} (h : ∀ v ∈ rs, Rd ds hs m v) {t : Int} : ∀ v ∈ rs, ∀ i, formF t i v = none := by
  intro v hv i
  obtain ⟨b, a, t2, k, _, _, _, _, _, rfl, _⟩ := (h v hv).ex
  rfl
theorem dl_none {ds : List Dl} {t : Int} : ∀ v ∈ ds.map Ev.deal, ∀ i, formF t i v = none := by
  intro v hv i
  obtain ⟨d, _, rfl⟩ := List.mem_map.mp hv
  rfl
theorem Hist.fields {ds : List Dl} {fs rs hs : List Ev} (h : Hist ds fs rs hs) (t : Int) : fieldsB hs t = fieldsB (ds.map .deal ++ fs) t := by
  rw [fieldsB_eq, fieldsB_eq]
  have hr := rd_none h.rd (t := t)
  have e0 : formsO 0 (ds.map .deal ++ fs) t = (formsO 0 fs t).map (shF (ds.length : Nat)) := by
    rw [formsO_app, formsO_none dl_none, List.nil_append, List.length_map, formsO_sh]
  rcases h.hs with z | z
  · rw [z, formsO_app, formsO_none hr, List.append_nil]
  · rw [z, formsO_app, formsO_app, formsO_none hr, formsO_none dl_none, List.append_nil, List.append_nil, e0, fieldsL_sh fun x hx => formsO_tri hx]
theorem dealsOf_map (ds : List Dl) : dealsOf (ds.map .deal) = ds := by
  unfold dealsOf
  rw [List.filterMap_map]
  have : (dealOf ∘ Ev.deal) = some := rfl
  rw [this, List.filterMap_some]
theorem dealsOf_none {l : List Ev} (h : ∀ v ∈ l, dealOf v = none) : dealsOf l = [] := List.filterMap_eq_nil_iff.mpr h
theorem Hist.deals {ds : List Dl} {fs rs hs : List Ev} (h : Hist ds fs rs hs) : dealsOf hs = ds := by
  have h1 : dealsOf fs = [] := dealsOf_none fun v hv => by obtain ⟨t, n, rfl, _⟩ := h.fm v hv; rfl
  have h2 : dealsOf rs = [] := dealsOf_none fun v hv => by obtain ⟨b, a, t2, k, _, _, _, _, _, rfl, _⟩ := (h.rd v hv).ex; rfl
  have ha : ∀ a b, dealsOf (a ++ b) = dealsOf a ++ dealsOf b := fun a b => List.filterMap_append
  rcases h.hs with z | z
  · rw [z, ha, ha, dealsOf_map, h1, h2]; simp
  · rw [z, ha, ha, dealsOf_map, h1, h2]; simp
theorem Hist.mem {ds : List Dl} {fs rs hs : List Ev} (h : Hist ds fs rs hs) {v : Ev} (hv : v ∈ hs) : (∃ d ∈ ds, v = .deal d) ∨ (∃ t n, v = .form t n) ∨ v ∈ rs := by
  have key : v ∈ ds.map Ev.deal ∨ v ∈ fs ∨ v ∈ rs := by
    rcases h.hs with z | z
    · rw [z] at hv
      rcases List.mem_append.mp hv with y | y
      · rcases List.mem_append.mp y with x | x
        · exact .inl x
        · exact .inr (.inl x)
      · exact .inr (.inr y)
    · rw [z] at hv
      rcases List.mem_append.mp hv with y | y
      · rcases List.mem_append.mp y with x | x
        · exact .inr (.inl x)
        · exact .inl x
      · exact .inr (.inr y)
  rcases key with y | y | y
  · obtain ⟨d, hd, rfl⟩ := List.mem_map.mp y; exact .inl ⟨d, hd, rfl⟩
  · obtain ⟨t, n, rfl, _⟩ := h.fm v y; exact .inr (.inl ⟨t, n, rfl⟩)
  · exact .inr (.inr y)
theorem eqvD_same {x : D} (h : pureD 9 x = true) : eqvD x x = true := PySem.SeqAt.eqv_refl _ (pyD_lay (G := fun _ => none) 9 x _ (pyD_pure 9 x h))
theorem Hist.ord {ds : List Dl} {fs rs hs : List Ev} (h : Hist ds fs rs hs) : ordB hs = true := by
  obtain ⟨t, s, n, hM⟩ := h.made
  have h6 := h.d6
  have hd := hM.ok (by omega)
  unfold ordB
  rw [h.deals]
  have a1 : hs.all toldB = true := List.all_eq_true.mpr fun v hv => by
    rcases h.mem hv with ⟨d, hd, rfl⟩ | ⟨t, n, rfl⟩ | hr
    · exact hM.told d hd
    · rfl
    · obtain ⟨b, a, t2, k, _, _, _, _, _, rfl, _⟩ := (h.rd v hr).ex; rfl
  have a2 : numsB ds = true := decide_eq_true (by rw [unl_eq_len hM.nums, List.length_map])
  have a3 : stsB ds = true := decide_eq_true (by rw [unl_eq_len hM.nd, List.length_map])
  have a4 : goB ds = true := List.all_eq_true.mpr fun d hd1 => by
    rw [Bool.not_eq_true', List.any_eq_false]
    intro o ho hc
    unfold clash at hc
    rw [Bool.and_eq_true, Bool.and_eq_true] at hc
    rcases hM.go d hd1 o ho (of_decide_eq_true hc.1) with rfl | z
    · rw [eqvD_same (dl_pure (hd d hd1))] at hc
      exact absurd hc.2.1 (by decide)
    · rw [lx_lt] at z
      rw [z] at hc
      exact absurd hc.2.2 (by decide)
  have a5 : ds.all (readsB ds) = true := List.all_eq_true.mpr hM.reads
  have a6 : (readsOf hs).all (fitB hs ds) = true := List.all_eq_true.mpr fun v hv => by
    have hv2 : v ∈ hs ∧ (wordOf v = "read" ∨ wordOf v = "now") := by
      rcases List.mem_append.mp hv with z | z
      · exact ⟨(List.mem_filter.mp z).1, .inl (of_decide_eq_true (List.mem_filter.mp z).2)⟩
      · exact ⟨(List.mem_filter.mp z).1, .inr (of_decide_eq_true (List.mem_filter.mp z).2)⟩
    rcases h.mem hv2.1 with ⟨d, hd, rfl⟩ | ⟨t, n, rfl⟩ | hr
    · rcases hv2.2 with z | z; (· exact absurd z ne_dr); exact absurd z ne_dn
    · rcases hv2.2 with z | z; (· exact absurd z ne_fr); exact absurd z ne_fn
    · obtain ⟨b, a, t2, k, _, _, _, _, _, rfl, hl⟩ := (h.rd v hr).ex
      show (decide (_ = formV (newB ds k (upto t2)) (fieldsB hs t2)) && (!b || !lateB ds a t2)) = true
      rw [newB_upto hd, h.fields, decide_eq_true rfl, Bool.true_and]
      cases b with
      | false => rfl
      | true => rw [hl rfl]; rfl
  rw [a1, a2, a3, a4, a5, a6]
  rfl
end P
namespace P
open PySem PySem.Spec L2 DL
open LamY
section
variable {e : Env} {G : HD} {Q : Post} {E : DX} {b : Addr}
theorem right_ok {n : Int} {k m : Nat} {hs : List Ev} (hT : Tb e G) (h : HsOk n k m hs) (hn : n ≤ 10 ^ 50) (hk : k ≤ 9) (hm : m ≤ 15) (hQ : Q (.bl true) G) : w_law_right e [hD hs] G Q E := by
  have hp := hD_pure h 2
  have hsm := hD_small h hn 2
  have hc := hD_cap h hk hm
  have hb : ∀ x : Bool, smallD 9 (.bl x) = true ∧ capD (.bl x) ≤ 1000000 := fun x => ⟨rfl, by show 602 ≤ 1000000; omega⟩
  unfold w_law_right
  exists if_true
  refine i_reprS (.inl hp) hsm hc ?_
  exists if_true
  refine ord_ok hT h (by omega) (by omega) ?_
  exists if_true
  refine i_reprS (.inl rfl) (hb _).1 (hb _).2 ?_
  refine lord_ok h (by omega) (by omega) ?_
  exists if_true
  refine i_reprS (.inl rfl) (hb _).1 (hb _).2 ?_
  exists decide_true
  refine i_reprS (.inl hp) hsm hc ?_
  exists decide_true
  exact fg_in hQ
def dl1 : Dl := ⟨1, 0, 4, 9, 1, 0, [], [(Str.ofString "a", [1, 2, 3])]⟩
def dl2 : Dl := ⟨-7, -9, -9, -3, 0, 0, [], [(Str.ofString "a", [5])]⟩
def hsF : List (List Ev) :=
  [[.deal dl1, .read true 4 8 (Str.ofString "a") none], [.deal dl1, .read true 3 8 (Str.ofString "a") none], [.deal dl1, .read true 4 9 (Str.ofString "a") (some [1, 2, 3])],
   [.deal dl1, .form 9 1, .form 9 2, .read false 0 9 (Str.ofString "a") (some [1, 2])], [.deal dl1, .form 9 2, .form 9 1, .read false 0 9 (Str.ofString "a") (some [1])],
   [.deal dl1, .form 9 1, .form 9 2, .read false 0 9 (Str.ofString "a") (some [1])], [.deal dl2, .read false (-1) (-2) (Str.ofString "a") (some [5]), .deal dl1]]
theorem ordF : hsF.map ordB = [false, true, true, true, true, false, true] := by decide +kernel
theorem woF {l : List Int} (h1 : 1 ≤ l.length) (h4 : l.length ≤ 4) (h : ∀ x ∈ l, -100 ≤ x ∧ x ≤ 100) : WoOk 100 l := ⟨h1, h4, h⟩
theorem dlOk1 : DlOk 100 3 dl1 := ⟨⟨by decide, by decide⟩, ⟨by decide, by decide⟩, ⟨by decide, by decide⟩, ⟨by decide, by decide⟩, ⟨by decide, by decide⟩, ⟨by decide, by decide⟩, by decide, by decide, by decide, by decide, List.forall_mem_nil _, fun p hp => by rw [List.mem_singleton.mp hp]; exact ⟨gk_a, woF (by decide) (by decide) (by decide)⟩⟩
theorem dlOk2 : DlOk 100 3 dl2 := ⟨⟨by decide, by decide⟩, ⟨by decide, by decide⟩, ⟨by decide, by decide⟩, ⟨by decide, by decide⟩, ⟨by decide, by decide⟩, ⟨by decide, by decide⟩, by decide, by decide, by decide, by decide, List.forall_mem_nil _, fun p hp => by rw [List.mem_singleton.mp hp]; exact ⟨gk_a, woF (by decide) (by decide) (by decide)⟩⟩
theorem rdF {b : Bool} {a t : Int} {w : Wo} (ha : -100 ≤ a ∧ a ≤ 100) (ht : -100 ≤ t ∧ t ≤ 100) (hw : ∀ l, w = some l → WoOk 100 l) : EvOk 100 3 (.read b a t (Str.ofString "a") w) := ⟨ha, ht, gk_a, hw⟩
theorem hsF_ok : ∀ hs ∈ hsF, HsOk 100 3 11 hs := by
  have w1 : ∀ l : List Int, some [1, 2, 3] = some l → WoOk 100 l := fun l e => by cases e; exact woF (by decide) (by decide) (by decide)
  have w2 : ∀ l : List Int, some [1, 2] = some l → WoOk 100 l := fun l e => by cases e; exact woF (by decide) (by decide) (by decide)
  have w3 : ∀ l : List Int, some [1] = some l → WoOk 100 l := fun l e => by cases e; exact woF (by decide) (by decide) (by decide)
  have w5 : ∀ l : List Int, some [5] = some l → WoOk 100 l := fun l e => by cases e; exact woF (by decide) (by decide) (by decide)
  have w0 : ∀ l : List Int, none = some l → WoOk 100 l := fun l e => by cases e
  have f1 : EvOk 100 3 (.form 9 1) := ⟨⟨by decide, by decide⟩, by decide, by decide⟩
  have f2 : EvOk 100 3 (.form 9 2) := ⟨⟨by decide, by decide⟩, by decide, by decide⟩
  intro hs hh
  simp only [hsF, List.mem_cons, List.not_mem_nil, or_false] at hh
  rcases hh with rfl | rfl | rfl | rfl | rfl | rfl | rfl
  all_goals
    refine ⟨fun v hv => ?_, by simp⟩
    simp only [List.mem_cons, List.not_mem_nil, or_false] at hv
  · rcases hv with rfl | rfl <;> first | exact dlOk1 | exact dlOk2 | exact f1 | exact f2 | exact rdF (by decide) (by decide) w0 | exact rdF (by decide) (by decide) w1 | exact rdF (by decide) (by decide) w2 | exact rdF (by decide) (by decide) w3 | exact rdF (by decide) (by decide) w5
  · rcases hv with rfl | rfl <;> first | exact dlOk1 | exact dlOk2 | exact f1 | exact f2 | exact rdF (by decide) (by decide) w0 | exact rdF (by decide) (by decide) w1 | exact rdF (by decide) (by decide) w2 | exact rdF (by decide) (by decide) w3 | exact rdF (by decide) (by decide) w5
  · rcases hv with rfl | rfl <;> first | exact dlOk1 | exact dlOk2 | exact f1 | exact f2 | exact rdF (by decide) (by decide) w0 | exact rdF (by decide) (by decide) w1 | exact rdF (by decide) (by decide) w2 | exact rdF (by decide) (by decide) w3 | exact rdF (by decide) (by decide) w5
  · rcases hv with rfl | rfl | rfl | rfl <;> first | exact dlOk1 | exact dlOk2 | exact f1 | exact f2 | exact rdF (by decide) (by decide) w0 | exact rdF (by decide) (by decide) w1 | exact rdF (by decide) (by decide) w2 | exact rdF (by decide) (by decide) w3 | exact rdF (by decide) (by decide) w5
  · rcases hv with rfl | rfl | rfl | rfl <;> first | exact dlOk1 | exact dlOk2 | exact f1 | exact f2 | exact rdF (by decide) (by decide) w0 | exact rdF (by decide) (by decide) w1 | exact rdF (by decide) (by decide) w2 | exact rdF (by decide) (by decide) w3 | exact rdF (by decide) (by decide) w5
  · rcases hv with rfl | rfl | rfl | rfl <;> first | exact dlOk1 | exact dlOk2 | exact f1 | exact f2 | exact rdF (by decide) (by decide) w0 | exact rdF (by decide) (by decide) w1 | exact rdF (by decide) (by decide) w2 | exact rdF (by decide) (by decide) w3 | exact rdF (by decide) (by decide) w5
  · rcases hv with rfl | rfl | rfl <;> first | exact dlOk1 | exact dlOk2 | exact f1 | exact f2 | exact rdF (by decide) (by decide) w0 | exact rdF (by decide) (by decide) w1 | exact rdF (by decide) (by decide) w2 | exact rdF (by decide) (by decide) w3 | exact rdF (by decide) (by decide) w5
theorem bl_pure (l : List Bool) : pureD 9 (.kl (l.map D.bl)) = true := all_map_t (f := pureD 8) fun _ _ => rfl
theorem fixed_ok (hT : Tb e G) (hQ : Q (.bl true) G) : w_law_fixed_right e [] G Q E := by
  have hsz : sizeLine ≥ 100 := by decide
  unfold w_law_fixed_right
  exists if_true
  refine newL_in fun p G1 hp _ h1 l1 _ => ?_
  exists h1
  refine ⟨by omega, by omega, by simp; omega, by simp; omega, newL_in fun q G2 hq _ h2 l2 _ => ?_⟩
  have h12 := l2 _ _ h1
  exists h12, h2
  refine ⟨by omega, newL_in fun r G3 hr _ h3 l3 _ => ?_⟩
  exists h3
  have hT3 : Tb e G3 := ((hT.le l1).le l2).le l3
  have hne : ∀ p ∈ tabs e, p.1 ≠ r := fun x hx z => by
    have := (hT.le l1).le l2 x hx
    rw [z, hr] at this; cases this
  have hTp : ∀ X Y, Tb e (put (put G3 r X) r Y) := fun X Y x hx => (put_ne (hne x hx)).trans ((put_ne (hne x hx)).trans (hT3 x hx))
  refine ⟨⟨_, rfl⟩, by omega, by omega, by decide, ⟨_, rfl⟩, by decide, lc_pma (xs := hsF) (g := hD) (fun h => some (.bl (ordB h))) put_same (fun h hh ky kn hy hk2 => ?_) ?_⟩
  · exists dwipe
    exact ord_ok (hTp _ _) (hsF_ok h hh) (by decide) (by decide) (hy _ rfl)
  · rw [List.nil_append, List.filterMap_eq_map', all_bl, ordF]
    refine i_eqX (bl_pure _) (bl_pure [false, true, true, true, true, false, true]) ?_
    have : eqvD (.kl ([false, true, true, true, true, false, true].map D.bl)) (.kl [.bl false, .bl true, .bl true, .bl true, .bl true, .bl false, .bl true]) = true := eqvD_same (bl_pure _)
    rw [this]
    refine fg_le (G0 := G) (fun x o hx => ?_) hQ
    have hxr : x ≠ r := fun z => by
      have := (l1.trans l2) _ _ hx
      rw [z, hr] at this; cases this
    exact (put_ne hxr).trans ((put_ne hxr).trans (((l1.trans l2).trans l3) _ _ hx))
/-! ### the law -/
theorem law_ok (g : e.Good) {ns : List Int} (hl : ns.length ≤ 63) : w_law e [.kc (ns.map D.int)] (tabG (tabs e)) (fun d _ => d = .bl true) fun _ _ _ => False := by
  have hT : Tb e (tabG (tabs e)) := by
    have n1 := g.np_newest_below_reading_fits
    have n2 := g.np_newest_below_reads_fit
    have n4 := g.np_reading_fits_reads_fit
    intro p hp
    unfold tabs at hp
    unfold tabG tabs
    simp only [List.mem_cons, List.not_mem_nil, or_false] at hp
    rcases hp with rfl | rfl | rfl
    · simp [List.lookup_cons]
    · simp [List.lookup_cons, beq_eq_false_iff_ne.mpr (Ne.symm n1)]
    · simp [List.lookup_cons, beq_eq_false_iff_ne.mpr (Ne.symm n2), beq_eq_false_iff_ne.mpr (Ne.symm n4)]
  unfold w_law
  exists List.length_map
  refine ⟨by split <;> (try split) <;> omega, by split <;> (try split) <;> omega, ?_⟩
  refine forR_inv (I := fun i σ G' => (∃ w1 w2 w3 w4 w5, σ = [some (.kc (ns.map D.int)), w1, w2, w3, w4, w5]) ∧ Tb e G') (fun _ => trivial) (fun i k σ G' hi hI hk => ?_) (fun σ G' hI => ?_) ⟨⟨none, none, none, none, none, rfl⟩, hT⟩
  · obtain ⟨⟨w1, w2, w3, w4, w5, rfl⟩, hT1⟩ := hI
    unfold l_law_2
    exists if_true
    rw [show ((0 : Int) + (i : Int)) = (i : Int) by omega]
    refine begun_ok (by omega) hl fun a G1 R1 l1 ha => ?_
    have hTa : Tb e G1 := hT1.le l1
    exists if_true
    refine lhistory_ok R1 fun ds fs rs hs G2 hH R2 f2 => ?_
    have hO := hH.ok
    have hT2 : Tb e G2 := hTa.fr f2 fun x hx => by obtain ⟨p, q, r, _, z⟩ := R1; rw [List.mem_singleton.mp hx]; exact ⟨_, z⟩
    exists if_true
    refine ord_ok hT2 hO (by decide) (by decide) ?_
    rw [hH.ord]
    exists if_true
    refine right_ok hT2 hO (by decide) (by decide) (by decide) ?_
    exists if_true
    refine ⟨by decide, by decide, ?_⟩
    refine forR_inv (I := fun i2 σ G' => (∃ w4 w5, σ = [some (.kc (ns.map D.int)), some (.int (i : Nat)), some (.ref a), some (hD hs), w4, w5]) ∧ Tb e G' ∧ Row G' a) (fun _ => trivial) (fun i2 κ σ G' hi2 hI hk2 => ?_) (fun σ G' hI => ?_) ⟨⟨_, _, rfl⟩, hT2, R2⟩
    · obtain ⟨⟨w4', w5', rfl⟩, hT3, R3⟩ := hI
      unfold l_law_1
      exists if_true
      refine bent_ok hO (by decide) (by decide) (by decide) R3 fun b1 G4 hb1 R4 f4 => ?_
      have hT4 : Tb e G4 := hT3.fr f4 fun x hx => by obtain ⟨p, q, r, _, z⟩ := R3; rw [List.mem_singleton.mp hx]; exact ⟨_, z⟩
      exists if_true
      refine right_ok hT4 hb1 (by decide) (by decide) (by decide) ?_
      exists if_true
      refine bent_ok hb1 (by decide) (by decide) (by decide) R4 fun b2 G5 hb2 R5 f5 => ?_
      have hT5 : Tb e G5 := hT4.fr f5 fun x hx => by obtain ⟨p, q, r, _, z⟩ := R4; rw [List.mem_singleton.mp hx]; exact ⟨_, z⟩
      refine right_ok hT5 hb2 (by decide) (by decide) (by decide) ?_
      exists if_true
      exact hk2 _ _ ⟨⟨_, _, rfl⟩, hT5, R5⟩
    · obtain ⟨⟨w4', w5', rfl⟩, hT3, R3⟩ := hI
      exact hk _ _ ⟨⟨_, _, _, _, _, rfl⟩, hT3⟩
  · obtain ⟨⟨w1, w2, w3, w4, w5, rfl⟩, hT1⟩ := hI
    exists if_true
    refine ord_ok (hs := []) (n := 0) (k := 0) (m := 0) hT1 ⟨List.forall_mem_nil _, by simp⟩ (by decide) (by decide) ?_
    have : ordB [] = true := by decide +kernel
    rw [this]
    exists if_true
    exact fixed_ok hT1 (fg_in rfl)
theorem main (e : P.Env) (g : e.Good) (ns : List Int) (h : ns.length ≤ 63) : w_law e [.kc (ns.map D.int)] (tabG (tabs e)) (fun d _ => d = .bl true) fun _ _ _ => False := law_ok g h
end
end P

end

set_option maxHeartbeats 4000000
namespace P
open PySem PySem.Spec L2 DL LamX LamY
open PyProof.Rows hiding St
def top (i : Nat) : Stmt := PySem.Challenge.pw_stampedwait_k67_histories_looked_at.main.body.getD i (.Pass ⟨0, 0, 0, 0⟩)
abbrev s_law_begun : Stmt := top 26
abbrev N_law_begun : List Str := ["_law_script", "_law_k", "_law_cell", "_law_number", "_law_mixed"]
abbrev s_law_take : Stmt := top 27
abbrev N_law_take : List Str := ["_law_state", "_law_many", "_law_digit", "_law_made_here", "_law_turn"]
abbrev s_law_worth_of : Stmt := top 30
abbrev N_law_worth_of : List Str := ["_law_deals", "_law_key", "_law_most", "_law_some", "_law_one", "_law_stamp", "_law_worth"]
abbrev s_law_pairs : Stmt := top 31
abbrev N_law_pairs : List Str := ["_law_state", "_law_some", "_law_keys", "_law_turn", "_law_key", "_law_part"]
abbrev s_law_made : Stmt := top 32
abbrev N_law_made : List Str := ["_law_state", "_law_size", "_law_deals", "_law_last", "_law_now", "_law_number", "_law_begun_here", "_law_reads_here", "_law_name", "_law_key", "_law_worth"]
abbrev s_law_formed : Stmt := top 28
abbrev N_law_formed : List Str := ["_law_worth", "_law_fields_here"]
abbrev s_law_fields : Stmt := top 29
abbrev N_law_fields : List Str := ["_law_history_here", "_law_time", "_law_some", "_law_number", "_law_one"]
abbrev s_law_reads : Stmt := top 33
abbrev N_law_reads : List Str := ["_law_state", "_law_deals", "_law_history_here", "_law_found", "_law_turn", "_law_key", "_law_time", "_law_worth", "_law_word", "_law_asked", "_law_late", "_law_one"]
abbrev s_law_history : Stmt := top 34
abbrev N_law_history : List Str := ["_law_state", "_law_deals", "_law_forms", "_law_turn", "_law_history_here"]
abbrev s_of_word : Stmt := top 18
abbrev N_of_word : List Str := ["history", "word", "one"]
abbrev s_go_as_time : Stmt := top 23
abbrev N_go_as_time : List Str := ["dealings", "one", "other"]
abbrev s_newest_below : Stmt := top 19
abbrev N_newest_below : List Str := ["dealings", "key", "fits", "some", "one"]
abbrev s_formed : Stmt := top 10
abbrev N_formed : List Str := ["worth", "fields"]
abbrev s_fields_then : Stmt := top 21
abbrev N_fields_then : List Str := ["history", "time", "some", "number", "one"]
abbrev s_reading_fits : Stmt := top 22
abbrev N_reading_fits : List Str := ["history", "dealings", "one", "word", "asked", "time", "key", "worth", "found", "deal"]
abbrev s_is_key : Stmt := top 7
abbrev N_is_key : List Str := ["thing", "sign"]
abbrev s_is_whole : Stmt := top 1
abbrev N_is_whole : List Str := ["thing"]
abbrev s_is_worth : Stmt := top 8
abbrev N_is_worth : List Str := ["thing", "one"]
abbrev s_are_pairs : Stmt := top 12
abbrev N_are_pairs : List Str := ["thing", "none", "one"]
abbrev s_is_stamp : Stmt := top 2
abbrev N_is_stamp : List Str := ["thing", "one"]
abbrev s_is_dealing : Stmt := top 13
abbrev N_is_dealing : List Str := ["thing", "one"]
abbrev s_is_form : Stmt := top 14
abbrev N_is_form : List Str := ["thing"]
abbrev s_is_reading : Stmt := top 15
abbrev N_is_reading : List Str := ["thing"]
abbrev s_is_told : Stmt := top 17
abbrev N_is_told : List Str := ["thing", "look"]
abbrev s_reads_fit : Stmt := top 20
abbrev N_reads_fit : List Str := ["dealings", "one", "stamp", "key", "worth"]
abbrev s_is_ordered : Stmt := top 24
abbrev N_is_ordered : List Str := ["thing", "dealings", "readings", "one"]
abbrev s_law_fixed_right : Stmt := top 46
abbrev N_law_fixed_right : List Str := ["_law_deal", "_law_some", "_law_forms", "_law_one"]
abbrev s_law_bent_deal : Stmt := top 43
abbrev N_law_bent_deal : List Str := ["_law_state", "_law_one", "_law_word", "_law_number", "_law_begun_here", "_law_told", "_law_stamp", "_law_reads_here", "_law_writes", "_law_way", "_law_key", "_law_worth"]
abbrev s_law_bent : Stmt := top 44
abbrev N_law_bent : List Str := ["_law_state", "_law_history_here", "_law_at", "_law_one", "_law_way", "_law_worth"]
abbrev s_law_reading_fits : Stmt := top 41
abbrev N_law_reading_fits : List Str := ["_law_history_here", "_law_deals", "_law_one", "_law_word", "_law_asked", "_law_time", "_law_key", "_law_worth", "_law_newest", "_law_late", "_law_deal"]
abbrev s_law_is_key : Stmt := top 37
abbrev N_law_is_key : List Str := ["_law_thing", "_law_sign"]
abbrev s_law_whole : Stmt := top 35
abbrev N_law_whole : List Str := ["_law_thing"]
abbrev s_law_is_worth : Stmt := top 36
abbrev N_law_is_worth : List Str := ["_law_thing", "_law_one"]
abbrev s_law_are_pairs : Stmt := top 38
abbrev N_law_are_pairs : List Str := ["_law_thing", "_law_or_none", "_law_one"]
abbrev s_law_is_stamp : Stmt := top 39
abbrev N_law_is_stamp : List Str := ["_law_thing", "_law_one"]
abbrev s_law_is_told : Stmt := top 40
abbrev N_law_is_told : List Str := ["_law_thing", "_law_one"]
abbrev s_law_is_ordered : Stmt := top 42
abbrev N_law_is_ordered : List Str := ["_law_thing", "_law_deals", "_law_numbers", "_law_stamps", "_law_one", "_law_some", "_law_other", "_law_key", "_law_worth"]
abbrev s_law_right : Stmt := top 45
abbrev N_law_right : List Str := ["_law_history_here", "_law_kept", "_law_found"]
abbrev s_law : Stmt := top 47
abbrev N_law : List Str := ["_law_script", "_law_k", "_law_state", "_law_history_here", "_law_turn", "_law_other"]
theorem bt_bool : bootBuiltins "bool" = some (.type "bool") := by decide +kernel
theorem bt_int : bootBuiltins "int" = some (.type "int") := by decide +kernel
theorem bt_list : bootBuiltins "list" = some (.type "list") := by decide +kernel
theorem bt_str : bootBuiltins "str" = some (.type "str") := by decide +kernel
theorem bt_tuple : bootBuiltins "tuple" = some (.type "tuple") := by decide +kernel
/-! ### what the top has left of them -/
structure Txt0 (w : World) (K : PySem.W.Frag) (mg : Str → Option Value) (e : Env) : Prop where
  hok : ∀ C f, e.ok C f → AttrOk K C f
  hic : ∀ a c b, e.ic a c b → IsiOk K a c b
  n_all : mg "all" = none
  n_bool : mg "bool" = none
  n_dict : mg "dict" = none
  n_enumerate : mg "enumerate" = none
  n_int : mg "int" = none
  n_isinstance : mg "isinstance" = none
  n_len : mg "len" = none
  n_list : mg "list" = none
  n_max : mg "max" = none
  n_min : mg "min" = none
  n_range : mg "range" = none
  n_repr : mg "repr" = none
  n_set : mg "set" = none
  n_sorted : mg "sorted" = none
  n_str : mg "str" = none
  n_tuple : mg "tuple" = none
  kd_LOOKS : KDic K mg w "LOOKS" (tbl_LOOKS e)
  fa_is_dealing : mg "is_dealing" = some (.ref e.F_is_dealing)
  fa_is_form : mg "is_form" = some (.ref e.F_is_form)
  fa_is_reading : mg "is_reading" = some (.ref e.F_is_reading)
  k_LETTERS : ConstF K mg "LETTERS" (.str "abcdefghijklmnopqrstuvwxyz")
  k_LONGEST : ConstF K mg "LONGEST" (.int 6)
  k_MOST_FIELDS : ConstF K mg "MOST_FIELDS" (.int 4)
  f_law_begun : DefF K mg "_law_begun" s_law_begun ([])
  f_law_take : DefF K mg "_law_take" s_law_take ([])
  f_law_worth_of : DefF K mg "_law_worth_of" s_law_worth_of ([])
  f_law_pairs : DefF K mg "_law_pairs" s_law_pairs ([])
  f_law_made : DefF K mg "_law_made" s_law_made ([])
  f_law_formed : DefF K mg "_law_formed" s_law_formed ([])
  f_law_fields : DefF K mg "_law_fields" s_law_fields ([])
  f_law_reads : DefF K mg "_law_reads" s_law_reads ([])
  f_law_history : DefF K mg "_law_history" s_law_history ([])
  f_of_word : DefF K mg "of_word" s_of_word ([])
  f_go_as_time : DefF K mg "go_as_time" s_go_as_time ([])
  f_newest_below : DefF K mg "newest_below" s_newest_below ([])
  f_formed : DefF K mg "formed" s_formed ([])
  f_fields_then : DefF K mg "fields_then" s_fields_then ([])
  f_reading_fits : DefF K mg "reading_fits" s_reading_fits ([])
  f_is_key : DefF K mg "is_key" s_is_key ([])
  f_is_whole : DefF K mg "is_whole" s_is_whole ([])
  f_is_worth : DefF K mg "is_worth" s_is_worth ([])
  f_are_pairs : DefF K mg "are_pairs" s_are_pairs ([])
  f_is_stamp : DefF K mg "is_stamp" s_is_stamp ([])
  f_is_dealing : DefF K mg "is_dealing" s_is_dealing ([])
  f_is_form : DefF K mg "is_form" s_is_form ([])
  f_is_reading : DefF K mg "is_reading" s_is_reading ([])
  f_is_told : DefF K mg "is_told" s_is_told ([])
  f_reads_fit : DefF K mg "reads_fit" s_reads_fit ([])
  f_is_ordered : DefF K mg "is_ordered" s_is_ordered ([])
  f_law_fixed_right : DefF K mg "_law_fixed_right" s_law_fixed_right ([])
  f_law_bent_deal : DefF K mg "_law_bent_deal" s_law_bent_deal ([])
  f_law_bent : DefF K mg "_law_bent" s_law_bent ([])
  f_law_reading_fits : DefF K mg "_law_reading_fits" s_law_reading_fits ([])
  f_law_is_key : DefF K mg "_law_is_key" s_law_is_key ([])
  f_law_whole : DefF K mg "_law_whole" s_law_whole ([])
  f_law_is_worth : DefF K mg "_law_is_worth" s_law_is_worth ([])
  f_law_are_pairs : DefF K mg "_law_are_pairs" s_law_are_pairs ([])
  f_law_is_stamp : DefF K mg "_law_is_stamp" s_law_is_stamp ([])
  f_law_is_told : DefF K mg "_law_is_told" s_law_is_told ([])
  f_law_is_ordered : DefF K mg "_law_is_ordered" s_law_is_ordered ([])
  f_law_right : DefF K mg "_law_right" s_law_right ([])
  f_law : DefF K mg "law" s_law ([])
  cd_newest_below : ∀ (f : Addr) (fd : FuncData) (oc : Value) (od : Option Addr) (osl : Array (Option Value)), mg "newest_below" = some (.ref f) → K.lookup f = some ⟨oc, od, .func fd, osl⟩ → fd.code = .ref e.K_newest_below
  cd_reading_fits : ∀ (f : Addr) (fd : FuncData) (oc : Value) (od : Option Addr) (osl : Array (Option Value)), mg "reading_fits" = some (.ref f) → K.lookup f = some ⟨oc, od, .func fd, osl⟩ → fd.code = .ref e.K_reading_fits
  cd_reads_fit : ∀ (f : Addr) (fd : FuncData) (oc : Value) (od : Option Addr) (osl : Array (Option Value)), mg "reads_fit" = some (.ref f) → K.lookup f = some ⟨oc, od, .func fd, osl⟩ → fd.code = .ref e.K_reads_fit
structure Txt (base : Heap) (w : World) (K : PySem.W.Frag) (mg : Str → Option Value) (e : Env) : Prop extends Txt0 w K mg e where
  tb_newest_below : TabB base mg e.K_newest_below e.P_newest_below
  tb_reading_fits : TabB base mg e.K_reading_fits e.P_reading_fits
  tb_reads_fit : TabB base mg e.K_reads_fit e.P_reads_fit
theorem Txt.up {base base' : Heap} {w : World} {K : PySem.W.Frag} {mg : Str → Option Value} {e : Env} (T : Txt base w K mg e) (k : ∀ b o, base.get? b = some o → base'.get? b = some o) : Txt base' w K mg e := ⟨T.toTxt0, T.tb_newest_below.up k, T.tb_reading_fits.up k, T.tb_reads_fit.up k⟩
theorem gc_LETTERS {X : Cx} {e : Env} (T : Txt X.base X.w X.K X.mg e) (hg : Gl X "LETTERS" := by rfl) {pos : Pos} : DE X (.Name "LETTERS" pos) (dC (.str "abcdefghijklmnopqrstuvwxyz")) := T.k_LETTERS.de hg
theorem gc_LONGEST {X : Cx} {e : Env} (T : Txt X.base X.w X.K X.mg e) (hg : Gl X "LONGEST" := by rfl) {pos : Pos} : DE X (.Name "LONGEST" pos) (dC (.int 6)) := T.k_LONGEST.de hg
theorem gc_MOST_FIELDS {X : Cx} {e : Env} (T : Txt X.base X.w X.K X.mg e) (hg : Gl X "MOST_FIELDS" := by rfl) {pos : Pos} : DE X (.Name "MOST_FIELDS" pos) (dC (.int 4)) := T.k_MOST_FIELDS.de hg
section
variable {P : Program} {w : World} {K : PySem.W.Frag} {mg : Str → Option Value} {base : Heap} {e : Env}
theorem sc_law_begun : FnScope N_law_begun ["_law_script", "_law_k"] (defScope s_law_begun) := ⟨rfl, rfl, rfl, by decide +kernel, rfl, by decide +kernel, by decide +kernel⟩
theorem ok_law_begun (T : Txt base w K mg e) {f : Addr} {fd : FuncData} {dvs : List V} (F : L2.FunD K "_law_begun" "_law_begun" (defArgs s_law_begun) (defBody s_law_begun) (defScope s_law_begun) dvs [] f fd) : FnK P w K mg base 1 f fd ["_law_script", "_law_k"] (w_law_begun e) :=
  fnd (k := 0) F sc_law_begun rfl rfl fun cdv A outer s H E hr =>
    (dss_cons (ds_set (i := 2) (de_item (de_addV (de_sliceV (dv 0) (do_some (dv 1)) (do_some (de_addV (dv 1) de_int))) (de_lstV (da_cons de_int da_nil))) de_int) sc_law_begun.nd)
    (dss_cons (ds_set (i := 3) (bc_max rfl T.n_max (da_cons (dv 2) (da_cons (de_sub (de_neg de_int) (dv 2)) da_nil))) sc_law_begun.nd)
    (dss_cons (ds_set (i := 4) (de_mod (de_addV (de_addV (de_addV (de_mod (dv 3) de_int) (de_mul de_int (dv 1))) (de_mul (de_mul de_int (dv 1)) (dv 1))) de_int) de_int) sc_law_begun.nd)
    (dss_one (ds_ret (de_lst (da_cons (dv 3) (da_cons (dv 4) (da_cons (de_c1 (c_ge hr.units) (dv 3) (de_pow de_int de_int)) da_nil)))))))))
theorem c_law_begun_2 (T : Txt base w K mg e) : DefK P w K mg base 1 "_law_begun" (w_law_begun e) [] := by
    obtain ⟨f, fd, dvs, hdd, F, hm⟩ := T.f_law_begun
    have hdl : dvs.length = 0 := (hdd.rel (fun _ => none)).length
    obtain ⟨ds, hv, hb⟩ : ∃ ds, Vals (dvs.drop 0) ds ∧ Binds K fd ["_law_script", "_law_k"] ds := by
      obtain rfl : dvs = [] := List.eq_nil_of_length_eq_zero hdl
      exact ⟨[], .nil, F.bindsN (ps := ["_law_script", "_law_k"]) fun _ _ _ _ _ _ us hl => match us, hl with | [_, _], _ => rfl⟩
    exact ⟨f, fd, _, _, _, ok_law_begun T F, hm, F.kp, hb, hv, hdd.drop 0, wpf_len⟩
theorem sc_law_take : FnScope N_law_take ["_law_state", "_law_many"] (defScope s_law_take) := ⟨rfl, rfl, rfl, by decide +kernel, rfl, by decide +kernel, by decide +kernel⟩
theorem ok_law_take (T : Txt base w K mg e) {f : Addr} {fd : FuncData} {dvs : List V} (F : L2.FunD K "_law_take" "_law_take" (defArgs s_law_take) (defBody s_law_take) (defScope s_law_take) dvs [] f fd) : FnK P w K mg base 1 f fd ["_law_state", "_law_many"] (w_law_take e) :=
  fnd (k := 0) F sc_law_take rfl rfl fun cdv A outer s H E hr =>
    (dss_cons (ds_if (dt_tru (de_item (dv 0) de_int))
    (dss_cons (ds_set (i := 2) (de_mod (de_item (dv 0) de_int) (dv 1)) sc_law_take.nd)
    (dss_cons (ds_sub set_list (sd_list _) (dv 0) de_int (de_div (de_item (dv 0) de_int) (dv 1)))
    (dss_cons (ds_sub set_list (sd_list _) (dv 0) de_int (de_c1 (c_gt hr.units) (de_item (dv 0) de_int) de_int))
    (dss_one (ds_ret (dv 2))))))
    dss_nil)
    (dss_cons (ds_set (i := 3) de_int sc_law_take.nd)
    (dss_cons (ds_for (passes_of rfl) rfl (di_range1 T.n_range (da_cons (de_addV de_int (bc_int T.n_int (da_cons (de_c1 (c_gt hr.units) (dv 1) (de_pow de_int de_int)) da_nil))) da_nil)) (tg_one sc_law_take.nd 4)
    (dss_cons (ds_sub set_list (sd_list _) (dv 0) de_int (de_mod (de_addV (de_mul (de_item (dv 0) de_int) de_int) de_int) de_int))
    (dss_one (ds_set (i := 3) (de_addV (de_mul (dv 3) de_int) (de_mod (de_mul (de_item (dv 0) de_int) (de_item (dv 0) de_int)) de_int)) sc_law_take.nd))))
    (dss_one (ds_ret (de_mod (de_div (dv 3) de_int) (dv 1)))))))
theorem c_law_take_2 (T : Txt base w K mg e) : DefK P w K mg base 1 "_law_take" (w_law_take e) [] := by
    obtain ⟨f, fd, dvs, hdd, F, hm⟩ := T.f_law_take
    have hdl : dvs.length = 0 := (hdd.rel (fun _ => none)).length
    obtain ⟨ds, hv, hb⟩ : ∃ ds, Vals (dvs.drop 0) ds ∧ Binds K fd ["_law_state", "_law_many"] ds := by
      obtain rfl : dvs = [] := List.eq_nil_of_length_eq_zero hdl
      exact ⟨[], .nil, F.bindsN (ps := ["_law_state", "_law_many"]) fun _ _ _ _ _ _ us hl => match us, hl with | [_, _], _ => rfl⟩
    exact ⟨f, fd, _, _, _, ok_law_take T F, hm, F.kp, hb, hv, hdd.drop 0, wpf_len⟩
theorem sc_law_worth_of : FnScope N_law_worth_of ["_law_deals", "_law_key", "_law_most"] (defScope s_law_worth_of) := ⟨rfl, rfl, rfl, by decide +kernel, rfl, by decide +kernel, by decide +kernel⟩
theorem ok_law_worth_of (T : Txt base w K mg e) {f : Addr} {fd : FuncData} {dvs : List V} (F : L2.FunD K "_law_worth_of" "_law_worth_of" (defArgs s_law_worth_of) (defBody s_law_worth_of) (defScope s_law_worth_of) dvs [] f fd) : FnK P w K mg base 1 f fd ["_law_deals", "_law_key", "_law_most"] (w_law_worth_of e) :=
  fnd (k := 0) F sc_law_worth_of rfl rfl fun cdv A outer s H E hr =>
    (dss_cons (ds_setLcV (i := 3) (own := [("_law_one", 4)]) rfl sc_law_worth_of.nd rfl rfl (sw_true rfl rfl rfl (by decide +kernel)) (di_seq (dv 0)) (blkOk_by (N := N_law_worth_of) (sc := defScope s_law_worth_of) (by decide +kernel)) (fun _ _ _ _ _ => pg_name (i := 4) sc_law_worth_of.nd rfl (Or.inl rfl)) tr_one (by decide) (fun _ _ _ _ _ => (dts_one (dt_w (dtw_and (dt_c1 (c_din hr.units) (dv 1) (bc_dictPr rfl T.n_dict (da_cons (de_item (dv 4) de_int) da_nil))) (dtw_and1 (dt_c1 (c_lt hr.units) (de_item (dv 4) de_int) (dv 2))))))) (fun _ _ _ _ _ => (de_tup (da_cons (de_item (dv 4) de_int) (da_cons (de_dget hr.units (bc_dictPr rfl T.n_dict (da_cons (de_item (dv 4) de_int) da_nil)) (dv 1)) da_nil)))))
    (dss_one (ds_ret (de_item (de_addV (de_lstV (da_cons de_non da_nil)) (de_lcV (own := [("_law_stamp", 5), ("_law_worth", 6)]) rfl sc_law_worth_of.nd (di_seq (de_sortPr hr.units (dv 3) T.n_sorted)) (blkOk_by (N := N_law_worth_of) (sc := defScope s_law_worth_of) (by decide +kernel)) (fun _ _ _ _ _ => pg_tup rfl (pgs_cons (pg_name (i := 5) sc_law_worth_of.nd rfl (Or.inl rfl)) (pgs_cons (pg_name (i := 6) sc_law_worth_of.nd rfl (Or.inl rfl)) pgs_nil))) tr_many (by decide) (fun _ _ _ _ _ => dts_nil) (fun _ _ _ _ _ => (dv 6)))) (de_neg de_int)))))
theorem c_law_worth_of_3 (T : Txt base w K mg e) : DefK P w K mg base 1 "_law_worth_of" (w_law_worth_of e) [] := by
    obtain ⟨f, fd, dvs, hdd, F, hm⟩ := T.f_law_worth_of
    have hdl : dvs.length = 0 := (hdd.rel (fun _ => none)).length
    obtain ⟨ds, hv, hb⟩ : ∃ ds, Vals (dvs.drop 0) ds ∧ Binds K fd ["_law_deals", "_law_key", "_law_most"] ds := by
      obtain rfl : dvs = [] := List.eq_nil_of_length_eq_zero hdl
      exact ⟨[], .nil, F.bindsN (ps := ["_law_deals", "_law_key", "_law_most"]) fun _ _ _ _ _ _ us hl => match us, hl with | [_, _, _], _ => rfl⟩
    exact ⟨f, fd, _, _, _, ok_law_worth_of T F, hm, F.kp, hb, hv, hdd.drop 0, wpf_len⟩
theorem sc_law_pairs : FnScope N_law_pairs ["_law_state", "_law_some"] (defScope s_law_pairs) := ⟨rfl, rfl, rfl, by decide +kernel, rfl, by decide +kernel, by decide +kernel⟩
theorem ok_law_pairs (T : Txt base w K mg e) {f : Addr} {fd : FuncData} {dvs : List V} (F : L2.FunD K "_law_pairs" "_law_pairs" (defArgs s_law_pairs) (defBody s_law_pairs) (defScope s_law_pairs) dvs [] f fd) : FnK P w K mg base 2 f fd ["_law_state", "_law_some"] (w_law_pairs e) :=
  fnd (k := 1) F sc_law_pairs rfl rfl fun cdv A outer s H E hr =>
    (dss_cons (ds_set (i := 2) (de_sortSetS (de_lcV (own := [("_law_turn", 3)]) rfl sc_law_pairs.nd (di_range1 T.n_range (da_cons (dk_call (c_law_take_2 T) hr (da_cons (dv 0) (da_cons (dv 1) da_nil))) da_nil)) (blkOk_by (N := N_law_pairs) (sc := defScope s_law_pairs) (by decide +kernel)) (fun _ _ _ _ _ => pg_name (i := 3) sc_law_pairs.nd rfl (Or.inl rfl)) tr_one (by decide) (fun _ _ _ _ _ => dts_nil) (fun _ _ _ _ _ => (de_item (de_lstV (da_cons de_str (da_cons de_str (da_cons de_str (da_cons de_str da_nil))))) (dk_call (c_law_take_2 T) hr (da_cons (dv 0) (da_cons de_int da_nil)))))) rfl T.n_sorted T.n_set) sc_law_pairs.nd)
    (dss_one (ds_ret (de_lcV (own := [("_law_key", 4)]) rfl sc_law_pairs.nd (di_seq (dv 2)) (blkOk_by (N := N_law_pairs) (sc := defScope s_law_pairs) (by decide +kernel)) (fun _ _ _ _ _ => pg_name (i := 4) sc_law_pairs.nd rfl (Or.inl rfl)) tr_one (by decide) (fun _ _ _ _ _ => dts_nil) (fun _ _ _ _ _ => (de_tup (da_cons (dv 4) (da_cons (bc_tuple T.n_tuple (da_cons (de_lcV (own := [("_law_part", 5)]) rfl sc_law_pairs.nd (di_range1 T.n_range (da_cons (de_addV de_int (dk_call (c_law_take_2 T) hr (da_cons (dv 0) (da_cons de_int da_nil)))) da_nil)) (blkOk_by (by first | rfl | kernel_rfl)) (fun _ _ _ _ _ => pg_name (i := 5) sc_law_pairs.nd rfl (Or.inl rfl)) tr_one (by decide) (fun _ _ _ _ _ => dts_nil) (fun _ _ _ _ _ => (dk_call (c_law_take_2 T) hr (da_cons (dv 0) (da_cons de_int da_nil))))) da_nil)) da_nil))))))))
theorem c_law_pairs_2 (T : Txt base w K mg e) : DefK P w K mg base 2 "_law_pairs" (w_law_pairs e) [] := by
    obtain ⟨f, fd, dvs, hdd, F, hm⟩ := T.f_law_pairs
    have hdl : dvs.length = 0 := (hdd.rel (fun _ => none)).length
    obtain ⟨ds, hv, hb⟩ : ∃ ds, Vals (dvs.drop 0) ds ∧ Binds K fd ["_law_state", "_law_some"] ds := by
      obtain rfl : dvs = [] := List.eq_nil_of_length_eq_zero hdl
      exact ⟨[], .nil, F.bindsN (ps := ["_law_state", "_law_some"]) fun _ _ _ _ _ _ us hl => match us, hl with | [_, _], _ => rfl⟩
    exact ⟨f, fd, _, _, _, ok_law_pairs T F, hm, F.kp, hb, hv, hdd.drop 0, wpf_len⟩
theorem sc_law_made : FnScope N_law_made ["_law_state", "_law_size"] (defScope s_law_made) := ⟨rfl, rfl, rfl, by decide +kernel, rfl, by decide +kernel, by decide +kernel⟩
theorem ok_law_made (T : Txt base w K mg e) {f : Addr} {fd : FuncData} {dvs : List V} (F : L2.FunD K "_law_made" "_law_made" (defArgs s_law_made) (defBody s_law_made) (defScope s_law_made) dvs [] f fd) : FnK P w K mg base 3 f fd ["_law_state", "_law_size"] (w_law_made e) :=
  fnd (k := 2) F sc_law_made rfl rfl fun cdv A outer s H E hr =>
    (dss_cons (ds_set (i := 2) (de_lst da_nil) sc_law_made.nd)
    (dss_cons (ds_set (i := 3) (de_tup (da_cons de_int (da_cons de_int (da_cons de_int da_nil)))) sc_law_made.nd)
    (dss_cons (ds_set (i := 4) de_int sc_law_made.nd)
    (dss_cons (ds_for (passes_of rfl) rfl (di_range1 T.n_range (da_cons (dv 1) da_nil)) (tg_one sc_law_made.nd 5)
    (dss_cons (ds_set (i := 6) (dv 4) sc_law_made.nd)
    (dss_cons (ds_set (i := 4) (de_addV (dv 4) (dk_call (c_law_take_2 T) hr (da_cons (dv 0) (da_cons de_int da_nil)))) sc_law_made.nd)
    (dss_cons (ds_set (i := 3) (de_tup (da_cons (de_addV (de_item (dv 3) de_int) (dk_call (c_law_take_2 T) hr (da_cons (dv 0) (da_cons de_int da_nil)))) (da_cons (de_addV (de_item (dv 3) de_int) de_int) (da_cons (dk_call (c_law_take_2 T) hr (da_cons (dv 0) (da_cons de_int da_nil))) da_nil)))) sc_law_made.nd)
    (dss_cons (ds_setLcV (i := 7) (own := [("_law_key", 9), ("_law_worth", 10)]) rfl sc_law_made.nd rfl rfl (sw_true rfl rfl rfl (by decide +kernel)) (di_seq (dk_call (c_law_pairs_2 T) hr (da_cons (dv 0) (da_cons de_int da_nil)))) (blkOk_by (N := N_law_made) (sc := defScope s_law_made) (by decide +kernel)) (fun _ _ _ _ _ => pg_tup rfl (pgs_cons (pg_name (i := 9) sc_law_made.nd rfl (Or.inl rfl)) (pgs_cons (pg_name (i := 10) sc_law_made.nd rfl (Or.inl rfl)) pgs_nil))) tr_many (by decide) (fun _ _ _ _ _ => dts_nil) (fun _ _ _ _ _ => (de_tup (da_cons (dv 9) (da_cons (dk_call (c_law_worth_of_3 T) hr (da_cons (dv 2) (da_cons (dv 9) (da_cons (dv 3) da_nil)))) da_nil)))))
    (dss_cons (ds_set (i := 8) (de_addV (de_mul de_int (dv 5)) (dk_call (c_law_take_2 T) hr (da_cons (dv 0) (da_cons de_int da_nil)))) sc_law_made.nd)
    (dss_cons (ds_expr (de_app (dv 2) (da_cons (de_tup (da_cons de_str (da_cons (dv 8) (da_cons (dv 6) (da_cons (dv 4) (da_cons (dv 3) (da_cons (dv 7) (da_cons (dk_call (c_law_pairs_2 T) hr (da_cons (dv 0) (da_cons de_int da_nil))) da_nil)))))))) da_nil)))
    (dss_one (ds_set (i := 4) (de_addV (dv 4) (bc_max rfl T.n_max (da_cons (dk_call (c_law_take_2 T) hr (da_cons (dv 0) (da_cons de_int da_nil))) (da_cons (bc_int T.n_int (da_cons (de_c1 (c_eqX hr.units) (dv 4) (dv 6)) da_nil)) da_nil)))) sc_law_made.nd)))))))))
    (dss_one (ds_ret (de_frz (dv 2))))))))
theorem c_law_made_2 (T : Txt base w K mg e) : DefK P w K mg base 3 "_law_made" (w_law_made e) [] := by
    obtain ⟨f, fd, dvs, hdd, F, hm⟩ := T.f_law_made
    have hdl : dvs.length = 0 := (hdd.rel (fun _ => none)).length
    obtain ⟨ds, hv, hb⟩ : ∃ ds, Vals (dvs.drop 0) ds ∧ Binds K fd ["_law_state", "_law_size"] ds := by
      obtain rfl : dvs = [] := List.eq_nil_of_length_eq_zero hdl
      exact ⟨[], .nil, F.bindsN (ps := ["_law_state", "_law_size"]) fun _ _ _ _ _ _ us hl => match us, hl with | [_, _], _ => rfl⟩
    exact ⟨f, fd, _, _, _, ok_law_made T F, hm, F.kp, hb, hv, hdd.drop 0, wpf_len⟩
theorem sc_law_formed : FnScope N_law_formed ["_law_worth", "_law_fields_here"] (defScope s_law_formed) := ⟨rfl, rfl, rfl, by decide +kernel, rfl, by decide +kernel, by decide +kernel⟩
theorem ok_law_formed (T : Txt base w K mg e) {f : Addr} {fd : FuncData} {dvs : List V} (F : L2.FunD K "_law_formed" "_law_formed" (defArgs s_law_formed) (defBody s_law_formed) (defScope s_law_formed) dvs [] f fd) : FnK P w K mg base 1 f fd ["_law_worth", "_law_fields_here"] (w_law_formed e) :=
  fnd (k := 0) F sc_law_formed rfl rfl fun cdv A outer s H E hr =>
    (dss_cons (ds_if (dt_w (dtw_or (dt_c1 (c_isX hr.units) (dv 0) de_non) (dtw_or1 (dt_c1 (c_isX hr.units) (dv 1) de_non))))
    (dss_one (ds_ret (dv 0)))
    dss_nil)
    (dss_one (ds_ret (de_addV (de_sliceV (dv 0) do_none (do_some (dv 1))) (de_repT (de_tup (da_cons de_int da_nil)) (de_sub (dv 1) (bc_len T.n_len (da_cons (dv 0) da_nil))))))))
theorem c_law_formed_2 (T : Txt base w K mg e) : DefK P w K mg base 1 "_law_formed" (w_law_formed e) [] := by
    obtain ⟨f, fd, dvs, hdd, F, hm⟩ := T.f_law_formed
    have hdl : dvs.length = 0 := (hdd.rel (fun _ => none)).length
    obtain ⟨ds, hv, hb⟩ : ∃ ds, Vals (dvs.drop 0) ds ∧ Binds K fd ["_law_worth", "_law_fields_here"] ds := by
      obtain rfl : dvs = [] := List.eq_nil_of_length_eq_zero hdl
      exact ⟨[], .nil, F.bindsN (ps := ["_law_worth", "_law_fields_here"]) fun _ _ _ _ _ _ us hl => match us, hl with | [_, _], _ => rfl⟩
    exact ⟨f, fd, _, _, _, ok_law_formed T F, hm, F.kp, hb, hv, hdd.drop 0, wpf_len⟩
theorem sc_law_fields : FnScope N_law_fields ["_law_history_here", "_law_time"] (defScope s_law_fields) := ⟨rfl, rfl, rfl, by decide +kernel, rfl, by decide +kernel, by decide +kernel⟩
theorem ok_law_fields (T : Txt base w K mg e) {f : Addr} {fd : FuncData} {dvs : List V} (F : L2.FunD K "_law_fields" "_law_fields" (defArgs s_law_fields) (defBody s_law_fields) (defScope s_law_fields) dvs [] f fd) : FnK P w K mg base 1 f fd ["_law_history_here", "_law_time"] (w_law_fields e) :=
  fnd (k := 0) F sc_law_fields rfl rfl fun cdv A outer s H E hr =>
    (dss_cons (ds_setLcV (i := 2) (own := [("_law_number", 3), ("_law_one", 4)]) rfl sc_law_fields.nd rfl rfl (sw_true rfl rfl rfl (by decide +kernel)) (di_enumK T.n_enumerate (da_cons (dv 0) da_nil)) (blkOk_by (N := N_law_fields) (sc := defScope s_law_fields) (by decide +kernel)) (fun _ _ _ _ _ => pg_tup rfl (pgs_cons (pg_name (i := 3) sc_law_fields.nd rfl (Or.inl rfl)) (pgs_cons (pg_name (i := 4) sc_law_fields.nd rfl (Or.inl rfl)) pgs_nil))) tr_many (by decide) (fun _ _ _ _ _ => (dts_one (dt_w (dtw_and (dt_c1 (c_eqX hr.units) (de_item (dv 4) de_int) de_str) (dtw_and1 (dt_c1 (c_le hr.units) (de_item (dv 4) de_int) (dv 1))))))) (fun _ _ _ _ _ => (de_tup (da_cons (de_item (dv 4) de_int) (da_cons (dv 3) (da_cons (de_item (dv 4) de_int) da_nil))))))
    (dss_cons (ds_if (dt_c1 (c_eqX hr.units) (dv 2) (de_lstV da_nil))
    (dss_one (ds_ret de_non))
    dss_nil)
    (dss_one (ds_ret (de_item (bc_maxT rfl hr.units T.n_max (da_cons (dv 2) da_nil)) de_int)))))
theorem c_law_fields_2 (T : Txt base w K mg e) : DefK P w K mg base 1 "_law_fields" (w_law_fields e) [] := by
    obtain ⟨f, fd, dvs, hdd, F, hm⟩ := T.f_law_fields
    have hdl : dvs.length = 0 := (hdd.rel (fun _ => none)).length
    obtain ⟨ds, hv, hb⟩ : ∃ ds, Vals (dvs.drop 0) ds ∧ Binds K fd ["_law_history_here", "_law_time"] ds := by
      obtain rfl : dvs = [] := List.eq_nil_of_length_eq_zero hdl
      exact ⟨[], .nil, F.bindsN (ps := ["_law_history_here", "_law_time"]) fun _ _ _ _ _ _ us hl => match us, hl with | [_, _], _ => rfl⟩
    exact ⟨f, fd, _, _, _, ok_law_fields T F, hm, F.kp, hb, hv, hdd.drop 0, wpf_len⟩
theorem sc_law_reads : FnScope N_law_reads ["_law_state", "_law_deals", "_law_history_here"] (defScope s_law_reads) := ⟨rfl, rfl, rfl, by decide +kernel, rfl, by decide +kernel, by decide +kernel⟩
theorem ok_law_reads (T : Txt base w K mg e) {f : Addr} {fd : FuncData} {dvs : List V} (F : L2.FunD K "_law_reads" "_law_reads" (defArgs s_law_reads) (defBody s_law_reads) (defScope s_law_reads) dvs [] f fd) : FnK P w K mg base 2 f fd ["_law_state", "_law_deals", "_law_history_here"] (w_law_reads e) :=
  fnd (k := 1) F sc_law_reads rfl rfl fun cdv A outer s H E hr =>
    (dss_cons (ds_set (i := 3) (de_lst da_nil) sc_law_reads.nd)
    (dss_cons (ds_for (passes_of rfl) rfl (di_range1 T.n_range (da_cons (dk_call (c_law_take_2 T) hr (da_cons (dv 0) (da_cons de_int da_nil))) da_nil)) (tg_one sc_law_reads.nd 4)
    (dss_cons (ds_set (i := 5) (de_item (de_lstV (da_cons de_str (da_cons de_str (da_cons de_str (da_cons de_str da_nil))))) (dk_call (c_law_take_2 T) hr (da_cons (dv 0) (da_cons de_int da_nil)))) sc_law_reads.nd)
    (dss_cons (ds_set (i := 6) (dk_call (c_law_take_2 T) hr (da_cons (dv 0) (da_cons (de_addV (de_mul de_int (bc_len T.n_len (da_cons (dv 1) da_nil))) de_int) da_nil))) sc_law_reads.nd)
    (dss_cons (ds_set (i := 7) (dk_call (c_law_worth_of_3 T) hr (da_cons (dv 1) (da_cons (dv 5) (da_cons (de_tup (da_cons (de_addV (dv 6) de_int) (da_cons (de_neg de_int) (da_cons (de_neg de_int) da_nil)))) da_nil)))) sc_law_reads.nd)
    (dss_cons (ds_set (i := 7) (dk_call (c_law_formed_2 T) hr (da_cons (dv 7) (da_cons (dk_call (c_law_fields_2 T) hr (da_cons (dv 2) (da_cons (dv 6) da_nil))) da_nil))) sc_law_reads.nd)
    (dss_cons (ds_set (i := 8) (de_item (de_lstV (da_cons de_str (da_cons de_str da_nil))) (dk_call (c_law_take_2 T) hr (da_cons (dv 0) (da_cons de_int da_nil)))) sc_law_reads.nd)
    (dss_cons (ds_set (i := 9) (dk_call (c_law_take_2 T) hr (da_cons (dv 0) (da_cons de_int da_nil))) sc_law_reads.nd)
    (dss_cons (ds_setLcV (i := 10) (own := [("_law_one", 11)]) rfl sc_law_reads.nd rfl rfl (sw_true rfl rfl rfl (by decide +kernel)) (di_seq (dv 1)) (blkOk_by (N := N_law_reads) (sc := defScope s_law_reads) (by decide +kernel)) (fun _ _ _ _ _ => pg_name (i := 11) sc_law_reads.nd rfl (Or.inl rfl)) tr_one (by decide) (fun _ _ _ _ _ => (dts_one (dt_w (dtw_and (dt_c1 (c_le hr.units) (de_item (dv 11) de_int) (dv 9)) (dtw_and1 (dt_c1 (c_gt hr.units) (de_item (de_item (dv 11) de_int) de_int) (dv 6))))))) (fun _ _ _ _ _ => (dv 11)))
    (dss_consJ (ds_if (dt_w (dtw_and (dt_c1 (c_eqX hr.units) (dv 8) de_str) (dtw_and1 (dt_c1 (c_neX hr.units) (dv 10) (de_lstV da_nil)))))
    (dss_one (ds_set (i := 8) de_str sc_law_reads.nd))
    dss_nil)
    (dss_one (ds_expr (de_app (dv 3) (da_cons (de_tup (da_cons (dv 8) (da_cons (dv 9) (da_cons (dv 6) (da_cons (dv 5) (da_cons (dv 7) da_nil)))))) da_nil)))))))))))))
    (dss_one (ds_ret (de_frz (dv 3))))))
theorem c_law_reads_3 (T : Txt base w K mg e) : DefK P w K mg base 2 "_law_reads" (w_law_reads e) [] := by
    obtain ⟨f, fd, dvs, hdd, F, hm⟩ := T.f_law_reads
    have hdl : dvs.length = 0 := (hdd.rel (fun _ => none)).length
    obtain ⟨ds, hv, hb⟩ : ∃ ds, Vals (dvs.drop 0) ds ∧ Binds K fd ["_law_state", "_law_deals", "_law_history_here"] ds := by
      obtain rfl : dvs = [] := List.eq_nil_of_length_eq_zero hdl
      exact ⟨[], .nil, F.bindsN (ps := ["_law_state", "_law_deals", "_law_history_here"]) fun _ _ _ _ _ _ us hl => match us, hl with | [_, _, _], _ => rfl⟩
    exact ⟨f, fd, _, _, _, ok_law_reads T F, hm, F.kp, hb, hv, hdd.drop 0, wpf_len⟩
theorem sc_law_history : FnScope N_law_history ["_law_state"] (defScope s_law_history) := ⟨rfl, rfl, rfl, by decide +kernel, rfl, by decide +kernel, by decide +kernel⟩
theorem ok_law_history (T : Txt base w K mg e) {f : Addr} {fd : FuncData} {dvs : List V} (F : L2.FunD K "_law_history" "_law_history" (defArgs s_law_history) (defBody s_law_history) (defScope s_law_history) dvs [] f fd) : FnK P w K mg base 4 f fd ["_law_state"] (w_law_history e) :=
  fnd (k := 3) F sc_law_history rfl rfl fun cdv A outer s H E hr =>
    (dss_cons (ds_set (i := 1) (dk_call (c_law_made_2 T) hr (da_cons (dv 0) (da_cons (dk_call (c_law_take_2 T) hr (da_cons (dv 0) (da_cons de_int da_nil))) da_nil))) sc_law_history.nd)
    (dss_cons (ds_set (i := 2) (de_lst da_nil) sc_law_history.nd)
    (dss_cons (ds_for (passes_of rfl) rfl (di_range1 T.n_range (da_cons (dk_call (c_law_take_2 T) hr (da_cons (dv 0) (da_cons de_int da_nil))) da_nil)) (tg_one sc_law_history.nd 3)
    (dss_one (ds_expr (de_app (dv 2) (da_cons (de_tup (da_cons de_str (da_cons (dk_call (c_law_take_2 T) hr (da_cons (dv 0) (da_cons de_int da_nil))) (da_cons (de_addV de_int (dk_call (c_law_take_2 T) hr (da_cons (dv 0) (da_cons de_int da_nil)))) da_nil)))) da_nil)))))
    (dss_cons (ds_set (i := 4) (de_addV (dv 1) (dv 2)) sc_law_history.nd)
    (dss_cons (ds_set (i := 4) (de_addV (dv 4) (dk_call (c_law_reads_3 T) hr (da_cons (dv 0) (da_cons (dv 1) (da_cons (dv 4) da_nil))))) sc_law_history.nd)
    (dss_one (ds_ret (de_item (de_lstV (da_cons (dv 4) (da_cons (de_addV (de_addV (dv 2) (dv 1)) (de_sliceV (dv 4) (do_some (de_addV (bc_len T.n_len (da_cons (dv 1) da_nil)) (bc_len T.n_len (da_cons (dv 2) da_nil)))) do_none)) da_nil))) (dk_call (c_law_take_2 T) hr (da_cons (dv 0) (da_cons de_int da_nil)))))))))))
theorem c_law_history_1 (T : Txt base w K mg e) : DefK P w K mg base 4 "_law_history" (w_law_history e) [] := by
    obtain ⟨f, fd, dvs, hdd, F, hm⟩ := T.f_law_history
    have hdl : dvs.length = 0 := (hdd.rel (fun _ => none)).length
    obtain ⟨ds, hv, hb⟩ : ∃ ds, Vals (dvs.drop 0) ds ∧ Binds K fd ["_law_state"] ds := by
      obtain rfl : dvs = [] := List.eq_nil_of_length_eq_zero hdl
      exact ⟨[], .nil, F.bindsN (ps := ["_law_state"]) fun _ _ _ _ _ _ us hl => match us, hl with | [_], _ => rfl⟩
    exact ⟨f, fd, _, _, _, ok_law_history T F, hm, F.kp, hb, hv, hdd.drop 0, wpf_len⟩
theorem sc_of_word : FnScope N_of_word ["history", "word"] (defScope s_of_word) := ⟨rfl, rfl, rfl, by decide +kernel, rfl, by decide +kernel, by decide +kernel⟩
theorem ok_of_word (T : Txt base w K mg e) {f : Addr} {fd : FuncData} {dvs : List V} (F : L2.FunD K "of_word" "of_word" (defArgs s_of_word) (defBody s_of_word) (defScope s_of_word) dvs [] f fd) : FnK P w K mg base 1 f fd ["history", "word"] (w_of_word e) :=
  fnd (k := 0) F sc_of_word rfl rfl fun cdv A outer s H E hr =>
    (dss_one (ds_ret (de_lcV (own := [("one", 2)]) rfl sc_of_word.nd (di_seq (dv 0)) (blkOk_by (N := N_of_word) (sc := defScope s_of_word) (by decide +kernel)) (fun _ _ _ _ _ => pg_name (i := 2) sc_of_word.nd rfl (Or.inl rfl)) tr_one (by decide) (fun _ _ _ _ _ => (dts_one (dt_c1 (c_eqX hr.units) (de_item (dv 2) de_int) (dv 1)))) (fun _ _ _ _ _ => (dv 2)))))
theorem c_of_word_2 (T : Txt base w K mg e) : DefK P w K mg base 1 "of_word" (w_of_word e) [] := by
    obtain ⟨f, fd, dvs, hdd, F, hm⟩ := T.f_of_word
    have hdl : dvs.length = 0 := (hdd.rel (fun _ => none)).length
    obtain ⟨ds, hv, hb⟩ : ∃ ds, Vals (dvs.drop 0) ds ∧ Binds K fd ["history", "word"] ds := by
      obtain rfl : dvs = [] := List.eq_nil_of_length_eq_zero hdl
      exact ⟨[], .nil, F.bindsN (ps := ["history", "word"]) fun _ _ _ _ _ _ us hl => match us, hl with | [_, _], _ => rfl⟩
    exact ⟨f, fd, _, _, _, ok_of_word T F, hm, F.kp, hb, hv, hdd.drop 0, wpf_len⟩
theorem sc_go_as_time : FnScope N_go_as_time ["dealings"] (defScope s_go_as_time) := ⟨rfl, rfl, rfl, by decide +kernel, rfl, by decide +kernel, by decide +kernel⟩
theorem ok_go_as_time (T : Txt base w K mg e) {f : Addr} {fd : FuncData} {dvs : List V} (F : L2.FunD K "go_as_time" "go_as_time" (defArgs s_go_as_time) (defBody s_go_as_time) (defScope s_go_as_time) dvs [] f fd) : FnK P w K mg base 1 f fd ["dealings"] (w_go_as_time e) :=
  fnd (k := 0) F sc_go_as_time rfl rfl fun cdv A outer s H E hr =>
    (dss_cons (ds_for (passes_of rfl) rfl (di_seq (dv 0)) (tg_one sc_go_as_time.nd 1)
    (dss_one (ds_if (dt_c1 (c_neX hr.units) (de_lcV (own := [("other", 2)]) rfl sc_go_as_time.nd (di_seq (dv 0)) (blkOk_by (N := N_go_as_time) (sc := defScope s_go_as_time) (by decide +kernel)) (fun _ _ _ _ _ => pg_name (i := 2) sc_go_as_time.nd rfl (Or.inl rfl)) tr_one (by decide) (fun _ _ _ _ _ => (dts_cons (dt_c1 (c_le hr.units) (de_item (dv 1) de_int) (de_item (dv 2) de_int)) (dts_cons (dt_c1 (c_neX hr.units) (dv 1) (dv 2)) (dts_one (dt_c1 (c_geT hr.units) (de_item (dv 1) de_int) (de_item (dv 2) de_int)))))) (fun _ _ _ _ _ => (dv 2))) (de_lstV da_nil))
    (dss_one (ds_ret de_bl))
    dss_nil)))
    (dss_one (ds_ret de_bl)))
theorem c_go_as_time_1 (T : Txt base w K mg e) : DefK P w K mg base 1 "go_as_time" (w_go_as_time e) [] := by
    obtain ⟨f, fd, dvs, hdd, F, hm⟩ := T.f_go_as_time
    have hdl : dvs.length = 0 := (hdd.rel (fun _ => none)).length
    obtain ⟨ds, hv, hb⟩ : ∃ ds, Vals (dvs.drop 0) ds ∧ Binds K fd ["dealings"] ds := by
      obtain rfl : dvs = [] := List.eq_nil_of_length_eq_zero hdl
      exact ⟨[], .nil, F.bindsN (ps := ["dealings"]) fun _ _ _ _ _ _ us hl => match us, hl with | [_], _ => rfl⟩
    exact ⟨f, fd, _, _, _, ok_go_as_time T F, hm, F.kp, hb, hv, hdd.drop 0, wpf_len⟩
theorem sc_newest_below : FnScope N_newest_below ["dealings", "key", "fits"] (defScope s_newest_below) := ⟨rfl, rfl, rfl, by decide +kernel, rfl, by decide +kernel, by decide +kernel⟩
theorem ok_newest_below (T : Txt base w K mg e) {f : Addr} {fd : FuncData} {dvs : List V} (F : L2.FunD K "newest_below" "newest_below" (defArgs s_newest_below) (defBody s_newest_below) (defScope s_newest_below) dvs [] f fd) (hmg : mg "newest_below" = some (.ref f)) {q : Str} {params : Arguments} {body : Expr} {scope : Scope} {a y : Str} {tb : TD} {v : LamV} (hq : v.q = q) (hB : LamB base v params body scope y) (LO : LamOk q params body scope a y tb) : FnK P w K mg base 3 f fd ["dealings", "key", "fits"] (w_newest_below e v tb) :=
  fndT (k := 2) (c := e.K_newest_below) (DL.FunD.code F fun oc od osl h => T.cd_newest_below f fd oc od osl hmg h) F sc_newest_below rfl rfl fun A outer s H E hr =>
    (dss_cons (ds_setLcV (i := 3) (own := [("one", 4)]) rfl sc_newest_below.nd rfl rfl (sw_true rfl rfl rfl (by decide +kernel)) (di_seq (dv 0)) (blkOk_by (N := N_newest_below) (sc := defScope s_newest_below) (by decide +kernel)) (fun _ _ _ _ _ => pg_name (i := 4) sc_newest_below.nd rfl (Or.inl rfl)) tr_one (by decide) (fun _ _ _ _ _ => (dts_cons (dt_c1 (c_din hr.units) (dv 1) (bc_dictPr rfl T.n_dict (da_cons (de_item (dv 4) de_int) da_nil))) (dts_one (dt_tru (dk_act hq hB LO hr (da_cons (de_item (dv 4) de_int) da_nil)))))) (fun _ _ _ _ _ => (de_tup (da_cons (de_item (dv 4) de_int) (da_cons (de_dget hr.units (bc_dictPr rfl T.n_dict (da_cons (de_item (dv 4) de_int) da_nil)) (dv 1)) da_nil)))))
    (dss_cons (ds_if (dt_c1 (c_eqX hr.units) (dv 3) (de_lstV da_nil))
    (dss_one (ds_ret de_non))
    dss_nil)
    (dss_one (ds_ret (de_item (dk_maxLam (P := e.P_newest_below) (c := e.K_newest_below) hr T.tb_newest_below rfl (dv 3) T.n_max (fun _ _ _ _ _ => rfl)) de_int)))))
theorem cl_newest_below (T : Txt base w K mg e) {q : Str} {params : Arguments} {body : Expr} {scope : Scope} {a y : Str} {tb : TD} (LO : LamOk q params body scope a y tb) : DefKL P w K mg base 3 "newest_below" q params body scope y (fun v => w_newest_below e v tb) := by
    obtain ⟨f, fd, dvs, hdd, F, hm⟩ := T.f_newest_below
    have hdl : dvs.length = 0 := (hdd.rel (fun _ => none)).length
    obtain rfl : dvs = [] := List.eq_nil_of_length_eq_zero hdl
    exact ⟨⟨f, fd, ["dealings", "key", "fits"], hm, F.kp, F.bindsN (ps := ["dealings", "key", "fits"]) fun _ _ _ _ _ _ us hl => match us, hl with | [_, _, _], _ => rfl, rfl, fun b2 v hv hB hK hN up => ok_newest_below (T.up up) F hm hv hB LO⟩, a, tb, LO⟩
theorem sc_formed : FnScope N_formed ["worth", "fields"] (defScope s_formed) := ⟨rfl, rfl, rfl, by decide +kernel, rfl, by decide +kernel, by decide +kernel⟩
theorem ok_formed (T : Txt base w K mg e) {f : Addr} {fd : FuncData} {dvs : List V} (F : L2.FunD K "formed" "formed" (defArgs s_formed) (defBody s_formed) (defScope s_formed) dvs [] f fd) : FnK P w K mg base 1 f fd ["worth", "fields"] (w_formed e) :=
  fnd (k := 0) F sc_formed rfl rfl fun cdv A outer s H E hr =>
    (dss_cons (ds_if (dt_w (dtw_or (dt_c1 (c_isX hr.units) (dv 0) de_non) (dtw_or1 (dt_c1 (c_isX hr.units) (dv 1) de_non))))
    (dss_one (ds_ret (dv 0)))
    dss_nil)
    (dss_one (ds_ret (de_addV (de_sliceV (dv 0) do_none (do_some (dv 1))) (de_repT (de_tup (da_cons de_int da_nil)) (de_sub (dv 1) (bc_len T.n_len (da_cons (dv 0) da_nil))))))))
theorem c_formed_2 (T : Txt base w K mg e) : DefK P w K mg base 1 "formed" (w_formed e) [] := by
    obtain ⟨f, fd, dvs, hdd, F, hm⟩ := T.f_formed
    have hdl : dvs.length = 0 := (hdd.rel (fun _ => none)).length
    obtain ⟨ds, hv, hb⟩ : ∃ ds, Vals (dvs.drop 0) ds ∧ Binds K fd ["worth", "fields"] ds := by
      obtain rfl : dvs = [] := List.eq_nil_of_length_eq_zero hdl
      exact ⟨[], .nil, F.bindsN (ps := ["worth", "fields"]) fun _ _ _ _ _ _ us hl => match us, hl with | [_, _], _ => rfl⟩
    exact ⟨f, fd, _, _, _, ok_formed T F, hm, F.kp, hb, hv, hdd.drop 0, wpf_len⟩
theorem sc_fields_then : FnScope N_fields_then ["history", "time"] (defScope s_fields_then) := ⟨rfl, rfl, rfl, by decide +kernel, rfl, by decide +kernel, by decide +kernel⟩
theorem ok_fields_then (T : Txt base w K mg e) {f : Addr} {fd : FuncData} {dvs : List V} (F : L2.FunD K "fields_then" "fields_then" (defArgs s_fields_then) (defBody s_fields_then) (defScope s_fields_then) dvs [] f fd) : FnK P w K mg base 1 f fd ["history", "time"] (w_fields_then e) :=
  fnd (k := 0) F sc_fields_then rfl rfl fun cdv A outer s H E hr =>
    (dss_cons (ds_setLcV (i := 2) (own := [("number", 3), ("one", 4)]) rfl sc_fields_then.nd rfl rfl (sw_true rfl rfl rfl (by decide +kernel)) (di_enumK T.n_enumerate (da_cons (dv 0) da_nil)) (blkOk_by (N := N_fields_then) (sc := defScope s_fields_then) (by decide +kernel)) (fun _ _ _ _ _ => pg_tup rfl (pgs_cons (pg_name (i := 3) sc_fields_then.nd rfl (Or.inl rfl)) (pgs_cons (pg_name (i := 4) sc_fields_then.nd rfl (Or.inl rfl)) pgs_nil))) tr_many (by decide) (fun _ _ _ _ _ => (dts_cons (dt_c1 (c_eqX hr.units) (de_item (dv 4) de_int) de_str) (dts_one (dt_c1 (c_le hr.units) (de_item (dv 4) de_int) (dv 1))))) (fun _ _ _ _ _ => (de_tup (da_cons (de_item (dv 4) de_int) (da_cons (dv 3) (da_cons (de_item (dv 4) de_int) da_nil))))))
    (dss_cons (ds_if (dt_c1 (c_eqX hr.units) (dv 2) (de_lstV da_nil))
    (dss_one (ds_ret de_non))
    dss_nil)
    (dss_one (ds_ret (de_item (bc_maxT rfl hr.units T.n_max (da_cons (dv 2) da_nil)) de_int)))))
theorem c_fields_then_2 (T : Txt base w K mg e) : DefK P w K mg base 1 "fields_then" (w_fields_then e) [] := by
    obtain ⟨f, fd, dvs, hdd, F, hm⟩ := T.f_fields_then
    have hdl : dvs.length = 0 := (hdd.rel (fun _ => none)).length
    obtain ⟨ds, hv, hb⟩ : ∃ ds, Vals (dvs.drop 0) ds ∧ Binds K fd ["history", "time"] ds := by
      obtain rfl : dvs = [] := List.eq_nil_of_length_eq_zero hdl
      exact ⟨[], .nil, F.bindsN (ps := ["history", "time"]) fun _ _ _ _ _ _ us hl => match us, hl with | [_, _], _ => rfl⟩
    exact ⟨f, fd, _, _, _, ok_fields_then T F, hm, F.kp, hb, hv, hdd.drop 0, wpf_len⟩
theorem sc_reading_fits : FnScope N_reading_fits ["history", "dealings", "one"] (defScope s_reading_fits) := ⟨rfl, rfl, rfl, by decide +kernel, rfl, by decide +kernel, by decide +kernel⟩
theorem ok_reading_fits (T : Txt base w K mg e) {f : Addr} {fd : FuncData} {dvs : List V} (F : L2.FunD K "reading_fits" "reading_fits" (defArgs s_reading_fits) (defBody s_reading_fits) (defScope s_reading_fits) dvs [] f fd) (hmg : mg "reading_fits" = some (.ref f)) : FnK P w K mg base 4 f fd ["history", "dealings", "one"] (w_reading_fits e) :=
  fndT (k := 3) (c := e.K_reading_fits) (DL.FunD.code F fun oc od osl h => T.cd_reading_fits f fd oc od osl hmg h) F sc_reading_fits rfl rfl fun A outer s H E hr =>
    (dss_cons (ds_unp (is := [3, 4, 5, 6, 7]) (dv 2) rfl (.one sc_reading_fits.nd 3 (.one sc_reading_fits.nd 4 (.one sc_reading_fits.nd 5 (.one sc_reading_fits.nd 6 (.one sc_reading_fits.nd 7 .nil))))))
    (dss_cons (ds_set (i := 8) (dk_callLam (P := e.P_reading_fits) (c := e.K_reading_fits) (j := 5) (cl_newest_below T (.mk2 (a := "other") (y := "time") (by decide) rfl (fun _ _ _ _ _ => rfl) (fun X A outer s H E f c cl hr => (de_c1 (c_le hr.units) (de_item (dv 0) de_int) (dv 1))) rfl rfl rfl)) hr T.tb_reading_fits (dv 1) (dv 6)) sc_reading_fits.nd)
    (dss_cons (ds_if (dt_c1 (c_neX hr.units) (dv 7) (dk_call (c_formed_2 T) hr (da_cons (dv 8) (da_cons (dk_call (c_fields_then_2 T) hr (da_cons (dv 0) (da_cons (dv 5) da_nil))) da_nil))))
    (dss_one (ds_ret de_bl))
    dss_nil)
    (dss_one (ds_ret (de_or (de_c1 (c_eqX hr.units) (dv 3) de_str) (de_one (de_c1 (c_eqX hr.units) (de_lcV (own := [("deal", 9)]) rfl sc_reading_fits.nd (di_seq (dv 1)) (blkOk_by (N := N_reading_fits) (sc := defScope s_reading_fits) (by decide +kernel)) (fun _ _ _ _ _ => pg_name (i := 9) sc_reading_fits.nd rfl (Or.inl rfl)) tr_one (by decide) (fun _ _ _ _ _ => (dts_cons (dt_c1 (c_le hr.units) (de_item (dv 9) de_int) (dv 4)) (dts_one (dt_c1 (c_gt hr.units) (de_item (de_item (dv 9) de_int) de_int) (dv 5))))) (fun _ _ _ _ _ => (dv 9))) (de_lstV da_nil)))))))))
theorem c_reading_fits_3 (T : Txt base w K mg e) : DefK P w K mg base 4 "reading_fits" (w_reading_fits e) [] := by
    obtain ⟨f, fd, dvs, hdd, F, hm⟩ := T.f_reading_fits
    have hdl : dvs.length = 0 := (hdd.rel (fun _ => none)).length
    obtain ⟨ds, hv, hb⟩ : ∃ ds, Vals (dvs.drop 0) ds ∧ Binds K fd ["history", "dealings", "one"] ds := by
      obtain rfl : dvs = [] := List.eq_nil_of_length_eq_zero hdl
      exact ⟨[], .nil, F.bindsN (ps := ["history", "dealings", "one"]) fun _ _ _ _ _ _ us hl => match us, hl with | [_, _, _], _ => rfl⟩
    exact ⟨f, fd, _, _, _, ok_reading_fits T F hm, hm, F.kp, hb, hv, hdd.drop 0, wpf_len⟩
theorem sc_is_key : FnScope N_is_key ["thing"] (defScope s_is_key) := ⟨rfl, rfl, rfl, by decide +kernel, rfl, by decide +kernel, by decide +kernel⟩
theorem ok_is_key (T : Txt base w K mg e) {f : Addr} {fd : FuncData} {dvs : List V} (F : L2.FunD K "is_key" "is_key" (defArgs s_is_key) (defBody s_is_key) (defScope s_is_key) dvs [] f fd) : FnK P w K mg base 1 f fd ["thing"] (w_is_key e) :=
  fnd (k := 0) F sc_is_key rfl rfl fun cdv A outer s H E hr =>
    (dss_one (ds_ret (de_and (bc_isiE T.hic (fun _ _ _ h => h.elim) T.n_isinstance (da_cons (dv 0) (da_cons (de_bty rfl T.n_str bt_str) da_nil))) (de_and (de_chain de_int (dch_link (c_le hr.units) (bc_len T.n_len (da_cons (dv 0) da_nil)) (dch_last (c_le hr.units) (gc_LONGEST T)))) (de_one (bc_all rfl T.n_all (da_cons (de_lcV (own := [("sign", 1)]) rfl sc_is_key.nd (di_str (dv 0)) (blkOk_by (N := N_is_key) (sc := defScope s_is_key) (by decide +kernel)) (fun _ _ _ _ _ => pg_name (i := 1) sc_is_key.nd rfl (Or.inl rfl)) tr_one (by decide) (fun _ _ _ _ _ => dts_nil) (fun _ _ _ _ _ => (de_c1 c_inS (dv 1) (gc_LETTERS T)))) da_nil)))))))
theorem c_is_key_1 (T : Txt base w K mg e) : DefK P w K mg base 1 "is_key" (w_is_key e) [] := by
    obtain ⟨f, fd, dvs, hdd, F, hm⟩ := T.f_is_key
    have hdl : dvs.length = 0 := (hdd.rel (fun _ => none)).length
    obtain ⟨ds, hv, hb⟩ : ∃ ds, Vals (dvs.drop 0) ds ∧ Binds K fd ["thing"] ds := by
      obtain rfl : dvs = [] := List.eq_nil_of_length_eq_zero hdl
      exact ⟨[], .nil, F.bindsN (ps := ["thing"]) fun _ _ _ _ _ _ us hl => match us, hl with | [_], _ => rfl⟩
    exact ⟨f, fd, _, _, _, ok_is_key T F, hm, F.kp, hb, hv, hdd.drop 0, wpf_len⟩
theorem sc_is_whole : FnScope N_is_whole ["thing"] (defScope s_is_whole) := ⟨rfl, rfl, rfl, by decide +kernel, rfl, by decide +kernel, by decide +kernel⟩
theorem ok_is_whole (T : Txt base w K mg e) {f : Addr} {fd : FuncData} {dvs : List V} (F : L2.FunD K "is_whole" "is_whole" (defArgs s_is_whole) (defBody s_is_whole) (defScope s_is_whole) dvs [] f fd) : FnK P w K mg base 1 f fd ["thing"] (w_is_whole e) :=
  fnd (k := 0) F sc_is_whole rfl rfl fun cdv A outer s H E hr =>
    (dss_one (ds_ret (de_and (bc_isiE T.hic (fun _ _ _ h => h.elim) T.n_isinstance (da_cons (dv 0) (da_cons (de_bty rfl T.n_int bt_int) da_nil))) (de_one (de_not (bc_isiE T.hic (fun _ _ _ h => h.elim) T.n_isinstance (da_cons (dv 0) (da_cons (de_bty rfl T.n_bool bt_bool) da_nil))))))))
theorem c_is_whole_1 (T : Txt base w K mg e) : DefK P w K mg base 1 "is_whole" (w_is_whole e) [] := by
    obtain ⟨f, fd, dvs, hdd, F, hm⟩ := T.f_is_whole
    have hdl : dvs.length = 0 := (hdd.rel (fun _ => none)).length
    obtain ⟨ds, hv, hb⟩ : ∃ ds, Vals (dvs.drop 0) ds ∧ Binds K fd ["thing"] ds := by
      obtain rfl : dvs = [] := List.eq_nil_of_length_eq_zero hdl
      exact ⟨[], .nil, F.bindsN (ps := ["thing"]) fun _ _ _ _ _ _ us hl => match us, hl with | [_], _ => rfl⟩
    exact ⟨f, fd, _, _, _, ok_is_whole T F, hm, F.kp, hb, hv, hdd.drop 0, wpf_len⟩
theorem sc_is_worth : FnScope N_is_worth ["thing"] (defScope s_is_worth) := ⟨rfl, rfl, rfl, by decide +kernel, rfl, by decide +kernel, by decide +kernel⟩
theorem ok_is_worth (T : Txt base w K mg e) {f : Addr} {fd : FuncData} {dvs : List V} (F : L2.FunD K "is_worth" "is_worth" (defArgs s_is_worth) (defBody s_is_worth) (defScope s_is_worth) dvs [] f fd) : FnK P w K mg base 2 f fd ["thing"] (w_is_worth e) :=
  fnd (k := 1) F sc_is_worth rfl rfl fun cdv A outer s H E hr =>
    (dss_one (ds_ret (de_and (bc_isiE T.hic (fun _ _ _ h => h.elim) T.n_isinstance (da_cons (dv 0) (da_cons (de_bty rfl T.n_tuple bt_tuple) da_nil))) (de_and (de_chain de_int (dch_link (c_le hr.units) (bc_len T.n_len (da_cons (dv 0) da_nil)) (dch_last (c_le hr.units) (gc_MOST_FIELDS T)))) (de_one (bc_all rfl T.n_all (da_cons (de_lcV (own := [("one", 1)]) rfl sc_is_worth.nd (di_seq (dv 0)) (blkOk_by (N := N_is_worth) (sc := defScope s_is_worth) (by decide +kernel)) (fun _ _ _ _ _ => pg_name (i := 1) sc_is_worth.nd rfl (Or.inl rfl)) tr_one (by decide) (fun _ _ _ _ _ => dts_nil) (fun _ _ _ _ _ => (dk_call (c_is_whole_1 T) hr (da_cons (dv 1) da_nil)))) da_nil)))))))
theorem c_is_worth_1 (T : Txt base w K mg e) : DefK P w K mg base 2 "is_worth" (w_is_worth e) [] := by
    obtain ⟨f, fd, dvs, hdd, F, hm⟩ := T.f_is_worth
    have hdl : dvs.length = 0 := (hdd.rel (fun _ => none)).length
    obtain ⟨ds, hv, hb⟩ : ∃ ds, Vals (dvs.drop 0) ds ∧ Binds K fd ["thing"] ds := by
      obtain rfl : dvs = [] := List.eq_nil_of_length_eq_zero hdl
      exact ⟨[], .nil, F.bindsN (ps := ["thing"]) fun _ _ _ _ _ _ us hl => match us, hl with | [_], _ => rfl⟩
    exact ⟨f, fd, _, _, _, ok_is_worth T F, hm, F.kp, hb, hv, hdd.drop 0, wpf_len⟩
theorem sc_are_pairs : FnScope N_are_pairs ["thing", "none"] (defScope s_are_pairs) := ⟨rfl, rfl, rfl, by decide +kernel, rfl, by decide +kernel, by decide +kernel⟩
theorem ok_are_pairs (T : Txt base w K mg e) {f : Addr} {fd : FuncData} {dvs : List V} (F : L2.FunD K "are_pairs" "are_pairs" (defArgs s_are_pairs) (defBody s_are_pairs) (defScope s_are_pairs) dvs [] f fd) : FnK P w K mg base 3 f fd ["thing", "none"] (w_are_pairs e) :=
  fnd (k := 2) F sc_are_pairs rfl rfl fun cdv A outer s H E hr =>
    (dss_cons (ds_if (dt_not (dt_tru (bc_isiE T.hic (fun _ _ _ h => h.elim) T.n_isinstance (da_cons (dv 0) (da_cons (de_bty rfl T.n_list bt_list) da_nil)))))
    (dss_one (ds_ret de_bl))
    dss_nil)
    (dss_cons (ds_for (passes_of rfl) rfl (di_seq (dv 0)) (tg_one sc_are_pairs.nd 2)
    (dss_cons (ds_if (dt_w (dtw_or (dt_not (dt_tru (bc_isiE T.hic (fun _ _ _ h => h.elim) T.n_isinstance (da_cons (dv 2) (da_cons (de_bty rfl T.n_tuple bt_tuple) da_nil))))) (dtw_or (dt_c1 (c_neX hr.units) (bc_len T.n_len (da_cons (dv 2) da_nil)) de_int) (dtw_or1 (dt_not (dt_tru (dk_call (c_is_key_1 T) hr (da_cons (de_item (dv 2) de_int) da_nil))))))))
    (dss_one (ds_ret de_bl))
    dss_nil)
    (dss_one (ds_if (dt_w (dtw_and (dt_not (dt_tru (dk_call (c_is_worth_1 T) hr (da_cons (de_item (dv 2) de_int) da_nil)))) (dtw_and1 (dt_not (dt_w (dtw_and (dt_tru (dv 1)) (dtw_and1 (dt_c1 (c_isX hr.units) (de_item (dv 2) de_int) de_non))))))))
    (dss_one (ds_ret de_bl))
    dss_nil))))
    (dss_one (ds_ret (de_c1 (c_eqX hr.units) (de_lenSc (own := [("one", 2)]) rfl sc_are_pairs.nd T.n_len (di_seq (dv 0)) (blkOk_by (N := N_are_pairs) (sc := defScope s_are_pairs) (by decide +kernel)) (fun _ _ _ _ _ => pg_name (i := 2) sc_are_pairs.nd rfl (Or.inl rfl)) tr_one (by decide) (fun _ _ _ _ _ => dts_nil) (fun _ _ _ _ _ => (de_item (dv 2) de_int))) (bc_len T.n_len (da_cons (dv 0) da_nil)))))))
theorem c_are_pairs_2 (T : Txt base w K mg e) : DefK P w K mg base 3 "are_pairs" (w_are_pairs e) [] := by
    obtain ⟨f, fd, dvs, hdd, F, hm⟩ := T.f_are_pairs
    have hdl : dvs.length = 0 := (hdd.rel (fun _ => none)).length
    obtain ⟨ds, hv, hb⟩ : ∃ ds, Vals (dvs.drop 0) ds ∧ Binds K fd ["thing", "none"] ds := by
      obtain rfl : dvs = [] := List.eq_nil_of_length_eq_zero hdl
      exact ⟨[], .nil, F.bindsN (ps := ["thing", "none"]) fun _ _ _ _ _ _ us hl => match us, hl with | [_, _], _ => rfl⟩
    exact ⟨f, fd, _, _, _, ok_are_pairs T F, hm, F.kp, hb, hv, hdd.drop 0, wpf_len⟩
theorem sc_is_stamp : FnScope N_is_stamp ["thing"] (defScope s_is_stamp) := ⟨rfl, rfl, rfl, by decide +kernel, rfl, by decide +kernel, by decide +kernel⟩
theorem ok_is_stamp (T : Txt base w K mg e) {f : Addr} {fd : FuncData} {dvs : List V} (F : L2.FunD K "is_stamp" "is_stamp" (defArgs s_is_stamp) (defBody s_is_stamp) (defScope s_is_stamp) dvs [] f fd) : FnK P w K mg base 2 f fd ["thing"] (w_is_stamp e) :=
  fnd (k := 1) F sc_is_stamp rfl rfl fun cdv A outer s H E hr =>
    (dss_cons (ds_if (dt_w (dtw_or (dt_not (dt_tru (bc_isiE T.hic (fun _ _ _ h => h.elim) T.n_isinstance (da_cons (dv 0) (da_cons (de_bty rfl T.n_tuple bt_tuple) da_nil))))) (dtw_or (dt_c1 (c_neX hr.units) (bc_len T.n_len (da_cons (dv 0) da_nil)) de_int) (dtw_or1 (dt_not (dt_tru (bc_all rfl T.n_all (da_cons (de_lcV (own := [("one", 1)]) rfl sc_is_stamp.nd (di_seq (dv 0)) (blkOk_by (N := N_is_stamp) (sc := defScope s_is_stamp) (by decide +kernel)) (fun _ _ _ _ _ => pg_name (i := 1) sc_is_stamp.nd rfl (Or.inl rfl)) tr_one (by decide) (fun _ _ _ _ _ => dts_nil) (fun _ _ _ _ _ => (dk_call (c_is_whole_1 T) hr (da_cons (dv 1) da_nil)))) da_nil))))))))
    (dss_one (ds_ret de_bl))
    dss_nil)
    (dss_one (ds_ret (de_and (de_c1 (c_ge hr.units) (de_item (dv 0) de_int) de_int) (de_one (de_c1 (c_ge hr.units) (de_item (dv 0) de_int) de_int))))))
theorem c_is_stamp_1 (T : Txt base w K mg e) : DefK P w K mg base 2 "is_stamp" (w_is_stamp e) [] := by
    obtain ⟨f, fd, dvs, hdd, F, hm⟩ := T.f_is_stamp
    have hdl : dvs.length = 0 := (hdd.rel (fun _ => none)).length
    obtain ⟨ds, hv, hb⟩ : ∃ ds, Vals (dvs.drop 0) ds ∧ Binds K fd ["thing"] ds := by
      obtain rfl : dvs = [] := List.eq_nil_of_length_eq_zero hdl
      exact ⟨[], .nil, F.bindsN (ps := ["thing"]) fun _ _ _ _ _ _ us hl => match us, hl with | [_], _ => rfl⟩
    exact ⟨f, fd, _, _, _, ok_is_stamp T F, hm, F.kp, hb, hv, hdd.drop 0, wpf_len⟩
theorem sc_is_dealing : FnScope N_is_dealing ["thing"] (defScope s_is_dealing) := ⟨rfl, rfl, rfl, by decide +kernel, rfl, by decide +kernel, by decide +kernel⟩
theorem ok_is_dealing (T : Txt base w K mg e) {f : Addr} {fd : FuncData} {dvs : List V} (F : L2.FunD K "is_dealing" "is_dealing" (defArgs s_is_dealing) (defBody s_is_dealing) (defScope s_is_dealing) dvs [] f fd) : FnK P w K mg base 4 f fd ["thing"] (w_is_dealing e) :=
  fnd (k := 3) F sc_is_dealing rfl rfl fun cdv A outer s H E hr =>
    (dss_cons (ds_if (dt_w (dtw_or (dt_c1 (c_neX hr.units) (bc_len T.n_len (da_cons (dv 0) da_nil)) de_int) (dtw_or (dt_not (dt_tru (bc_all rfl T.n_all (da_cons (de_lcV (own := [("one", 1)]) rfl sc_is_dealing.nd (di_seq (de_sliceV (dv 0) (do_some de_int) (do_some de_int))) (blkOk_by (N := N_is_dealing) (sc := defScope s_is_dealing) (by decide +kernel)) (fun _ _ _ _ _ => pg_name (i := 1) sc_is_dealing.nd rfl (Or.inl rfl)) tr_one (by decide) (fun _ _ _ _ _ => dts_nil) (fun _ _ _ _ _ => (dk_call (c_is_whole_1 T) hr (da_cons (dv 1) da_nil)))) da_nil)))) (dtw_or1 (dt_not (dt_tru (dk_call (c_is_stamp_1 T) hr (da_cons (de_item (dv 0) de_int) da_nil))))))))
    (dss_one (ds_ret de_bl))
    dss_nil)
    (dss_one (ds_ret (de_and (de_c1 (c_le hr.units) (de_item (dv 0) de_int) (de_item (dv 0) de_int)) (de_and (dk_call (c_are_pairs_2 T) hr (da_cons (de_item (dv 0) de_int) (da_cons de_bl da_nil))) (de_one (dk_call (c_are_pairs_2 T) hr (da_cons (de_item (dv 0) de_int) (da_cons de_bl da_nil)))))))))
theorem c_is_dealing_1 (T : Txt base w K mg e) : DefK P w K mg base 4 "is_dealing" (w_is_dealing e) [] := by
    obtain ⟨f, fd, dvs, hdd, F, hm⟩ := T.f_is_dealing
    have hdl : dvs.length = 0 := (hdd.rel (fun _ => none)).length
    obtain ⟨ds, hv, hb⟩ : ∃ ds, Vals (dvs.drop 0) ds ∧ Binds K fd ["thing"] ds := by
      obtain rfl : dvs = [] := List.eq_nil_of_length_eq_zero hdl
      exact ⟨[], .nil, F.bindsN (ps := ["thing"]) fun _ _ _ _ _ _ us hl => match us, hl with | [_], _ => rfl⟩
    exact ⟨f, fd, _, _, _, ok_is_dealing T F, hm, F.kp, hb, hv, hdd.drop 0, wpf_len⟩
theorem sc_is_form : FnScope N_is_form ["thing"] (defScope s_is_form) := ⟨rfl, rfl, rfl, by decide +kernel, rfl, by decide +kernel, by decide +kernel⟩
theorem ok_is_form (T : Txt base w K mg e) {f : Addr} {fd : FuncData} {dvs : List V} (F : L2.FunD K "is_form" "is_form" (defArgs s_is_form) (defBody s_is_form) (defScope s_is_form) dvs [] f fd) : FnK P w K mg base 2 f fd ["thing"] (w_is_form e) :=
  fnd (k := 1) F sc_is_form rfl rfl fun cdv A outer s H E hr =>
    (dss_one (ds_ret (de_and (de_c1 (c_eqX hr.units) (bc_len T.n_len (da_cons (dv 0) da_nil)) de_int) (de_and (dk_call (c_is_whole_1 T) hr (da_cons (de_item (dv 0) de_int) da_nil)) (de_and (dk_call (c_is_whole_1 T) hr (da_cons (de_item (dv 0) de_int) da_nil)) (de_one (de_chain de_int (dch_link (c_le hr.units) (de_item (dv 0) de_int) (dch_last (c_le hr.units) (gc_MOST_FIELDS T))))))))))
theorem c_is_form_1 (T : Txt base w K mg e) : DefK P w K mg base 2 "is_form" (w_is_form e) [] := by
    obtain ⟨f, fd, dvs, hdd, F, hm⟩ := T.f_is_form
    have hdl : dvs.length = 0 := (hdd.rel (fun _ => none)).length
    obtain ⟨ds, hv, hb⟩ : ∃ ds, Vals (dvs.drop 0) ds ∧ Binds K fd ["thing"] ds := by
      obtain rfl : dvs = [] := List.eq_nil_of_length_eq_zero hdl
      exact ⟨[], .nil, F.bindsN (ps := ["thing"]) fun _ _ _ _ _ _ us hl => match us, hl with | [_], _ => rfl⟩
    exact ⟨f, fd, _, _, _, ok_is_form T F, hm, F.kp, hb, hv, hdd.drop 0, wpf_len⟩
theorem sc_is_reading : FnScope N_is_reading ["thing"] (defScope s_is_reading) := ⟨rfl, rfl, rfl, by decide +kernel, rfl, by decide +kernel, by decide +kernel⟩
theorem ok_is_reading (T : Txt base w K mg e) {f : Addr} {fd : FuncData} {dvs : List V} (F : L2.FunD K "is_reading" "is_reading" (defArgs s_is_reading) (defBody s_is_reading) (defScope s_is_reading) dvs [] f fd) : FnK P w K mg base 3 f fd ["thing"] (w_is_reading e) :=
  fnd (k := 2) F sc_is_reading rfl rfl fun cdv A outer s H E hr =>
    (dss_cons (ds_if (dt_w (dtw_or (dt_c1 (c_neX hr.units) (bc_len T.n_len (da_cons (dv 0) da_nil)) de_int) (dtw_or (dt_not (dt_tru (dk_call (c_is_whole_1 T) hr (da_cons (de_item (dv 0) de_int) da_nil)))) (dtw_or (dt_not (dt_tru (dk_call (c_is_whole_1 T) hr (da_cons (de_item (dv 0) de_int) da_nil)))) (dtw_or1 (dt_not (dt_tru (dk_call (c_is_key_1 T) hr (da_cons (de_item (dv 0) de_int) da_nil)))))))))
    (dss_one (ds_ret de_bl))
    dss_nil)
    (dss_one (ds_ret (de_or (de_c1 (c_isX hr.units) (de_item (dv 0) de_int) de_non) (de_one (dk_call (c_is_worth_1 T) hr (da_cons (de_item (dv 0) de_int) da_nil)))))))
theorem c_is_reading_1 (T : Txt base w K mg e) : DefK P w K mg base 3 "is_reading" (w_is_reading e) [] := by
    obtain ⟨f, fd, dvs, hdd, F, hm⟩ := T.f_is_reading
    have hdl : dvs.length = 0 := (hdd.rel (fun _ => none)).length
    obtain ⟨ds, hv, hb⟩ : ∃ ds, Vals (dvs.drop 0) ds ∧ Binds K fd ["thing"] ds := by
      obtain rfl : dvs = [] := List.eq_nil_of_length_eq_zero hdl
      exact ⟨[], .nil, F.bindsN (ps := ["thing"]) fun _ _ _ _ _ _ us hl => match us, hl with | [_], _ => rfl⟩
    exact ⟨f, fd, _, _, _, ok_is_reading T F, hm, F.kp, hb, hv, hdd.drop 0, wpf_len⟩
theorem fl_LOOKS {X : Cx} {e : Env} (T : Txt X.base X.w X.K X.mg e) : ∀ q ∈ [((e.F_is_dealing, w_is_dealing e) : Addr × SpD), ((e.F_is_form, w_is_form e) : Addr × SpD), ((e.F_is_reading, w_is_reading e) : Addr × SpD)], FnA X 4 q.1 q.2 := by
    intro q hq
    rcases List.mem_cons.mp hq with rfl | hq
    · exact .of (c_is_dealing_1 T) T.fa_is_dealing (by decide)
    rcases List.mem_cons.mp hq with rfl | hq
    · exact .of (c_is_form_1 T) T.fa_is_form (by decide)
    rcases List.mem_cons.mp hq with rfl | hq
    · exact .of (c_is_reading_1 T) T.fa_is_reading (by decide)
    · cases hq
theorem sc_is_told : FnScope N_is_told ["thing"] (defScope s_is_told) := ⟨rfl, rfl, rfl, by decide +kernel, rfl, by decide +kernel, by decide +kernel⟩
theorem ok_is_told (T : Txt base w K mg e) {f : Addr} {fd : FuncData} {dvs : List V} (F : L2.FunD K "is_told" "is_told" (defArgs s_is_told) (defBody s_is_told) (defScope s_is_told) dvs [] f fd) : FnK P w K mg base 5 f fd ["thing"] (w_is_told e) :=
  fnd (k := 4) F sc_is_told rfl rfl fun cdv A outer s H E hr =>
    (dss_cons (ds_if (dt_w (dtw_or (dt_not (dt_tru (bc_isiE T.hic (fun _ _ _ h => h.elim) T.n_isinstance (da_cons (dv 0) (da_cons (de_bty rfl T.n_tuple bt_tuple) da_nil))))) (dtw_or (dt_c1 (c_eqX hr.units) (bc_len T.n_len (da_cons (dv 0) da_nil)) de_int) (dtw_or (dt_not (dt_tru (bc_isiE T.hic (fun _ _ _ h => h.elim) T.n_isinstance (da_cons (de_item (dv 0) de_int) (da_cons (de_bty rfl T.n_str bt_str) da_nil))))) (dtw_or1 (dt_knin T.kd_LOOKS (de_item (dv 0) de_int)))))))
    (dss_one (ds_ret de_bl))
    dss_nil)
    (dss_cons (ds_set (i := 1) (de_kget T.kd_LOOKS (de_item (dv 0) de_int)) sc_is_told.nd)
    (dss_one (ds_ret (de_callL (fl_LOOKS T) hr (da_cons (dv 0) da_nil))))))
theorem c_is_told_1 (T : Txt base w K mg e) : DefK P w K mg base 5 "is_told" (w_is_told e) [] := by
    obtain ⟨f, fd, dvs, hdd, F, hm⟩ := T.f_is_told
    have hdl : dvs.length = 0 := (hdd.rel (fun _ => none)).length
    obtain ⟨ds, hv, hb⟩ : ∃ ds, Vals (dvs.drop 0) ds ∧ Binds K fd ["thing"] ds := by
      obtain rfl : dvs = [] := List.eq_nil_of_length_eq_zero hdl
      exact ⟨[], .nil, F.bindsN (ps := ["thing"]) fun _ _ _ _ _ _ us hl => match us, hl with | [_], _ => rfl⟩
    exact ⟨f, fd, _, _, _, ok_is_told T F, hm, F.kp, hb, hv, hdd.drop 0, wpf_len⟩
theorem sc_reads_fit : FnScope N_reads_fit ["dealings", "one"] (defScope s_reads_fit) := ⟨rfl, rfl, rfl, by decide +kernel, rfl, by decide +kernel, by decide +kernel⟩
theorem ok_reads_fit (T : Txt base w K mg e) {f : Addr} {fd : FuncData} {dvs : List V} (F : L2.FunD K "reads_fit" "reads_fit" (defArgs s_reads_fit) (defBody s_reads_fit) (defScope s_reads_fit) dvs [] f fd) (hmg : mg "reads_fit" = some (.ref f)) : FnK P w K mg base 4 f fd ["dealings", "one"] (w_reads_fit e) :=
  fndT (k := 3) (c := e.K_reads_fit) (DL.FunD.code F fun oc od osl h => T.cd_reads_fit f fd oc od osl hmg h) F sc_reads_fit rfl rfl fun A outer s H E hr =>
    (dss_cons (ds_set (i := 2) (de_item (dv 1) de_int) sc_reads_fit.nd)
    (dss_cons (ds_for (passes_of rfl) rfl (di_seq (de_item (dv 1) de_int)) (tg_many rfl (.one sc_reads_fit.nd 3 (.one sc_reads_fit.nd 4 .nil)))
    (dss_one (ds_if (dt_c1 (c_neX hr.units) (dv 4) (dk_callLam (P := e.P_reads_fit) (c := e.K_reads_fit) (j := 2) (cl_newest_below T (.mk2 (a := "other") (y := "stamp") (by decide) rfl (fun _ _ _ _ _ => rfl) (fun X A outer s H E f c cl hr => (de_c1 (c_lt hr.units) (dv 0) (dv 1))) rfl rfl rfl)) hr T.tb_reads_fit (dv 0) (dv 3)))
    (dss_one (ds_ret de_bl))
    dss_nil)))
    (dss_one (ds_ret de_bl))))
theorem c_reads_fit_2 (T : Txt base w K mg e) : DefK P w K mg base 4 "reads_fit" (w_reads_fit e) [] := by
    obtain ⟨f, fd, dvs, hdd, F, hm⟩ := T.f_reads_fit
    have hdl : dvs.length = 0 := (hdd.rel (fun _ => none)).length
    obtain ⟨ds, hv, hb⟩ : ∃ ds, Vals (dvs.drop 0) ds ∧ Binds K fd ["dealings", "one"] ds := by
      obtain rfl : dvs = [] := List.eq_nil_of_length_eq_zero hdl
      exact ⟨[], .nil, F.bindsN (ps := ["dealings", "one"]) fun _ _ _ _ _ _ us hl => match us, hl with | [_, _], _ => rfl⟩
    exact ⟨f, fd, _, _, _, ok_reads_fit T F hm, hm, F.kp, hb, hv, hdd.drop 0, wpf_len⟩
theorem sc_is_ordered : FnScope N_is_ordered ["thing"] (defScope s_is_ordered) := ⟨rfl, rfl, rfl, by decide +kernel, rfl, by decide +kernel, by decide +kernel⟩
theorem ok_is_ordered (T : Txt base w K mg e) {f : Addr} {fd : FuncData} {dvs : List V} (F : L2.FunD K "is_ordered" "is_ordered" (defArgs s_is_ordered) (defBody s_is_ordered) (defScope s_is_ordered) dvs [] f fd) : FnK P w K mg base 6 f fd ["thing"] (w_is_ordered e) :=
  fnd (k := 5) F sc_is_ordered rfl rfl fun cdv A outer s H E hr =>
    (dss_cons (ds_if (dt_w (dtw_or (dt_not (dt_tru (bc_isiE T.hic (fun _ _ _ h => h.elim) T.n_isinstance (da_cons (dv 0) (da_cons (de_bty rfl T.n_list bt_list) da_nil))))) (dtw_or1 (dt_not (dt_tru (bc_all rfl T.n_all (da_cons (de_lcV (own := [("one", 3)]) rfl sc_is_ordered.nd (di_seq (dv 0)) (blkOk_by (N := N_is_ordered) (sc := defScope s_is_ordered) (by decide +kernel)) (fun _ _ _ _ _ => pg_name (i := 3) sc_is_ordered.nd rfl (Or.inl rfl)) tr_one (by decide) (fun _ _ _ _ _ => dts_nil) (fun _ _ _ _ _ => (dk_call (c_is_told_1 T) hr (da_cons (dv 3) da_nil)))) da_nil)))))))
    (dss_one (ds_ret de_bl))
    dss_nil)
    (dss_cons (ds_set (i := 1) (dk_call (c_of_word_2 T) hr (da_cons (dv 0) (da_cons de_str da_nil))) sc_is_ordered.nd)
    (dss_cons (ds_if (dt_w (dtw_or (dt_c1 (c_lt hr.units) (de_lenSc (own := [("one", 3)]) rfl sc_is_ordered.nd T.n_len (di_seq (dv 1)) (blkOk_by (N := N_is_ordered) (sc := defScope s_is_ordered) (by decide +kernel)) (fun _ _ _ _ _ => pg_name (i := 3) sc_is_ordered.nd rfl (Or.inl rfl)) tr_one (by decide) (fun _ _ _ _ _ => dts_nil) (fun _ _ _ _ _ => (de_item (dv 3) de_int))) (bc_len T.n_len (da_cons (dv 1) da_nil))) (dtw_or1 (dt_c1 (c_lt hr.units) (de_lenTs (own := [("one", 3)]) (Nat.lt_of_le_of_lt (Nat.add_le_add_left (by decide : 8 ≤ 64) _) hr.units) rfl sc_is_ordered.nd T.n_len (di_seq (dv 1)) (blkOk_by (N := N_is_ordered) (sc := defScope s_is_ordered) (by decide +kernel)) (fun _ _ _ _ _ => pg_name (i := 3) sc_is_ordered.nd rfl (Or.inl rfl)) tr_one (by decide) (fun _ _ _ _ _ => dts_nil) (fun _ _ _ _ _ => (de_item (dv 3) de_int))) (bc_len T.n_len (da_cons (dv 1) da_nil))))))
    (dss_one (ds_ret de_bl))
    dss_nil)
    (dss_cons (ds_if (dt_w (dtw_or (dt_not (dt_tru (dk_call (c_go_as_time_1 T) hr (da_cons (dv 1) da_nil)))) (dtw_or1 (dt_not (dt_tru (bc_all rfl T.n_all (da_cons (de_lcV (own := [("one", 3)]) rfl sc_is_ordered.nd (di_seq (dv 1)) (blkOk_by (N := N_is_ordered) (sc := defScope s_is_ordered) (by decide +kernel)) (fun _ _ _ _ _ => pg_name (i := 3) sc_is_ordered.nd rfl (Or.inl rfl)) tr_one (by decide) (fun _ _ _ _ _ => dts_nil) (fun _ _ _ _ _ => (dk_call (c_reads_fit_2 T) hr (da_cons (dv 1) (da_cons (dv 3) da_nil))))) da_nil)))))))
    (dss_one (ds_ret de_bl))
    dss_nil)
    (dss_cons (ds_set (i := 2) (de_addV (dk_call (c_of_word_2 T) hr (da_cons (dv 0) (da_cons de_str da_nil))) (dk_call (c_of_word_2 T) hr (da_cons (dv 0) (da_cons de_str da_nil)))) sc_is_ordered.nd)
    (dss_one (ds_ret (bc_all rfl T.n_all (da_cons (de_lcV (own := [("one", 3)]) rfl sc_is_ordered.nd (di_seq (dv 2)) (blkOk_by (N := N_is_ordered) (sc := defScope s_is_ordered) (by decide +kernel)) (fun _ _ _ _ _ => pg_name (i := 3) sc_is_ordered.nd rfl (Or.inl rfl)) tr_one (by decide) (fun _ _ _ _ _ => dts_nil) (fun _ _ _ _ _ => (dk_call (c_reading_fits_3 T) hr (da_cons (dv 0) (da_cons (dv 1) (da_cons (dv 3) da_nil)))))) da_nil)))))))))
theorem c_is_ordered_1 (T : Txt base w K mg e) : DefK P w K mg base 6 "is_ordered" (w_is_ordered e) [] := by
    obtain ⟨f, fd, dvs, hdd, F, hm⟩ := T.f_is_ordered
    have hdl : dvs.length = 0 := (hdd.rel (fun _ => none)).length
    obtain ⟨ds, hv, hb⟩ : ∃ ds, Vals (dvs.drop 0) ds ∧ Binds K fd ["thing"] ds := by
      obtain rfl : dvs = [] := List.eq_nil_of_length_eq_zero hdl
      exact ⟨[], .nil, F.bindsN (ps := ["thing"]) fun _ _ _ _ _ _ us hl => match us, hl with | [_], _ => rfl⟩
    exact ⟨f, fd, _, _, _, ok_is_ordered T F, hm, F.kp, hb, hv, hdd.drop 0, wpf_len⟩
theorem sc_law_fixed_right : FnScope N_law_fixed_right [] (defScope s_law_fixed_right) := ⟨rfl, rfl, rfl, by decide +kernel, rfl, by decide +kernel, by decide +kernel⟩
theorem ok_law_fixed_right (T : Txt base w K mg e) {f : Addr} {fd : FuncData} {dvs : List V} (F : L2.FunD K "_law_fixed_right" "_law_fixed_right" (defArgs s_law_fixed_right) (defBody s_law_fixed_right) (defScope s_law_fixed_right) dvs [] f fd) : FnK P w K mg base 7 f fd [] (w_law_fixed_right e) :=
  fnd (k := 6) F sc_law_fixed_right rfl rfl fun cdv A outer s H E hr =>
    (dss_cons (ds_set (i := 0) (de_tup (da_cons de_str (da_cons de_int (da_cons de_int (da_cons de_int (da_cons (de_tup (da_cons de_int (da_cons de_int (da_cons de_int da_nil)))) (da_cons (de_lstV da_nil) (da_cons (de_lstV (da_cons (de_tup (da_cons de_str (da_cons (de_tup (da_cons de_int (da_cons de_int (da_cons de_int da_nil)))) da_nil))) da_nil)) da_nil)))))))) sc_law_fixed_right.nd)
    (dss_cons (ds_set (i := 1) (de_lst (da_cons (de_lstV (da_cons (dv 0) (da_cons (de_tup (da_cons de_str (da_cons de_int (da_cons de_int (da_cons de_str (da_cons de_non da_nil)))))) da_nil))) (da_cons (de_lstV (da_cons (dv 0) (da_cons (de_tup (da_cons de_str (da_cons de_int (da_cons de_int (da_cons de_str (da_cons de_non da_nil)))))) da_nil))) (da_cons (de_lstV (da_cons (dv 0) (da_cons (de_tup (da_cons de_str (da_cons de_int (da_cons de_int (da_cons de_str (da_cons (de_tup (da_cons de_int (da_cons de_int (da_cons de_int da_nil)))) da_nil)))))) da_nil))) da_nil)))) sc_law_fixed_right.nd)
    (dss_cons (ds_set (i := 2) (de_lstV (da_cons (de_tup (da_cons de_str (da_cons de_int (da_cons de_int da_nil)))) (da_cons (de_tup (da_cons de_str (da_cons de_int (da_cons de_int da_nil)))) da_nil))) sc_law_fixed_right.nd)
    (dss_cons (ds_set (i := 1) (de_add (dv 1) (de_lst (da_cons (de_addV (de_addV (de_lstV (da_cons (dv 0) da_nil)) (dv 2)) (de_lstV (da_cons (de_tup (da_cons de_str (da_cons de_int (da_cons de_int (da_cons de_str (da_cons (de_tup (da_cons de_int (da_cons de_int da_nil))) da_nil)))))) da_nil))) (da_cons (de_addV (de_addV (de_lstV (da_cons (dv 0) da_nil)) (de_revV (dv 2))) (de_lstV (da_cons (de_tup (da_cons de_str (da_cons de_int (da_cons de_int (da_cons de_str (da_cons (de_tup (da_cons de_int da_nil)) da_nil)))))) da_nil))) da_nil)))) sc_law_fixed_right.nd)
    (dss_cons (ds_expr (de_app (dv 1) (da_cons (de_addV (de_addV (de_lstV (da_cons (dv 0) da_nil)) (dv 2)) (de_lstV (da_cons (de_tup (da_cons de_str (da_cons de_int (da_cons de_int (da_cons de_str (da_cons (de_tup (da_cons de_int da_nil)) da_nil)))))) da_nil))) da_nil)))
    (dss_cons (ds_expr (de_app (dv 1) (da_cons (de_lstV (da_cons (de_tup (da_cons de_str (da_cons (de_neg de_int) (da_cons (de_neg de_int) (da_cons (de_neg de_int) (da_cons (de_tup (da_cons (de_neg de_int) (da_cons de_int (da_cons de_int da_nil)))) (da_cons (de_lstV da_nil) (da_cons (de_lstV (da_cons (de_tup (da_cons de_str (da_cons (de_tup (da_cons de_int da_nil)) da_nil))) da_nil)) da_nil)))))))) (da_cons (de_tup (da_cons de_str (da_cons (de_neg de_int) (da_cons (de_neg de_int) (da_cons de_str (da_cons (de_tup (da_cons de_int da_nil)) da_nil)))))) (da_cons (dv 0) da_nil)))) da_nil)))
    (dss_one (ds_ret (de_c1 (c_eqX hr.units) (de_lcV (own := [("_law_one", 3)]) rfl sc_law_fixed_right.nd (di_seq (dv 1)) (blkOk_by (N := N_law_fixed_right) (sc := defScope s_law_fixed_right) (by decide +kernel)) (fun _ _ _ _ _ => pg_name (i := 3) sc_law_fixed_right.nd rfl (Or.inl rfl)) tr_one (by decide) (fun _ _ _ _ _ => dts_nil) (fun _ _ _ _ _ => (dk_call (c_is_ordered_1 T) hr (da_cons (dv 3) da_nil)))) (de_lstV (da_cons de_bl (da_cons de_bl (da_cons de_bl (da_cons de_bl (da_cons de_bl (da_cons de_bl (da_cons de_bl da_nil)))))))))))))))))
theorem c_law_fixed_right_0 (T : Txt base w K mg e) : DefK P w K mg base 7 "_law_fixed_right" (w_law_fixed_right e) [] := by
    obtain ⟨f, fd, dvs, hdd, F, hm⟩ := T.f_law_fixed_right
    have hdl : dvs.length = 0 := (hdd.rel (fun _ => none)).length
    obtain ⟨ds, hv, hb⟩ : ∃ ds, Vals (dvs.drop 0) ds ∧ Binds K fd [] ds := by
      obtain rfl : dvs = [] := List.eq_nil_of_length_eq_zero hdl
      exact ⟨[], .nil, F.bindsN (ps := []) fun _ _ _ _ _ _ us hl => match us, hl with | [], _ => rfl⟩
    exact ⟨f, fd, _, _, _, ok_law_fixed_right T F, hm, F.kp, hb, hv, hdd.drop 0, wpf_len⟩
theorem sc_law_bent_deal : FnScope N_law_bent_deal ["_law_state", "_law_one"] (defScope s_law_bent_deal) := ⟨rfl, rfl, rfl, by decide +kernel, rfl, by decide +kernel, by decide +kernel⟩
theorem ok_law_bent_deal (T : Txt base w K mg e) {f : Addr} {fd : FuncData} {dvs : List V} (F : L2.FunD K "_law_bent_deal" "_law_bent_deal" (defArgs s_law_bent_deal) (defBody s_law_bent_deal) (defScope s_law_bent_deal) dvs [] f fd) : FnK P w K mg base 2 f fd ["_law_state", "_law_one"] (w_law_bent_deal e) :=
  fnd (k := 1) F sc_law_bent_deal rfl rfl fun cdv A outer s H E hr =>
    (dss_cons (ds_unp (is := [2, 3, 4, 5, 6, 7, 8]) (dv 1) rfl (.one sc_law_bent_deal.nd 2 (.one sc_law_bent_deal.nd 3 (.one sc_law_bent_deal.nd 4 (.one sc_law_bent_deal.nd 5 (.one sc_law_bent_deal.nd 6 (.one sc_law_bent_deal.nd 7 (.one sc_law_bent_deal.nd 8 .nil))))))))
    (dss_cons (ds_set (i := 9) (dk_call (c_law_take_2 T) hr (da_cons (dv 0) (da_cons de_int da_nil))) sc_law_bent_deal.nd)
    (dss_cons (ds_if (dt_c1 (c_eqX hr.units) (dv 9) de_int)
    (dss_one (ds_ret (de_tup (da_cons (dv 2) (da_cons (dv 3) (da_cons (dv 4) (da_cons (dv 5) (da_cons (de_tup (da_cons (de_sub (de_addV (de_item (dv 6) de_int) (dk_call (c_law_take_2 T) hr (da_cons (dv 0) (da_cons de_int da_nil)))) de_int) (da_cons (de_item (dv 6) de_int) (da_cons (de_item (dv 6) de_int) da_nil)))) (da_cons (dv 7) (da_cons (dv 8) da_nil))))))))))
    dss_nil)
    (dss_cons (ds_if (dt_c1 (c_eqX hr.units) (dv 9) de_int)
    (dss_one (ds_ret (de_tup (da_cons (dv 2) (da_cons (dv 3) (da_cons (dv 4) (da_cons (dv 5) (da_cons (de_tup (da_cons (de_item (dv 6) de_int) (da_cons (bc_max rfl T.n_max (da_cons de_int (da_cons (de_sub (de_item (dv 6) de_int) (dk_call (c_law_take_2 T) hr (da_cons (dv 0) (da_cons de_int da_nil)))) da_nil))) (da_cons de_int da_nil)))) (da_cons (dv 7) (da_cons (dv 8) da_nil))))))))))
    dss_nil)
    (dss_cons (ds_if (dt_c1 (c_eqX hr.units) (dv 9) de_int)
    (dss_one (ds_ret (de_tup (da_cons (dv 2) (da_cons (dv 3) (da_cons (bc_max rfl T.n_max (da_cons de_int (da_cons (de_sub (dv 4) (dk_call (c_law_take_2 T) hr (da_cons (dv 0) (da_cons de_int da_nil)))) da_nil))) (da_cons (dv 5) (da_cons (dv 6) (da_cons (dv 7) (da_cons (dv 8) da_nil))))))))))
    dss_nil)
    (dss_cons (ds_if (dt_c1 (c_eqX hr.units) (dv 9) de_int)
    (dss_one (ds_ret (de_tup (da_cons (dv 2) (da_cons (dv 3) (da_cons (dv 4) (da_cons (de_sub (dv 5) (dk_call (c_law_take_2 T) hr (da_cons (dv 0) (da_cons de_int da_nil)))) (da_cons (dv 6) (da_cons (dv 7) (da_cons (dv 8) da_nil))))))))))
    dss_nil)
    (dss_cons (ds_if (dt_c1 (c_eqX hr.units) (dv 9) de_int)
    (dss_one (ds_ret (de_tup (da_cons (dv 2) (da_cons (dv 3) (da_cons (dv 4) (da_cons (dv 5) (da_cons (dv 6) (da_cons (de_addV (dv 7) (de_lstV (da_cons (de_tup (da_cons de_str (da_cons (de_tup (da_cons (dk_call (c_law_take_2 T) hr (da_cons (dv 0) (da_cons de_int da_nil))) da_nil)) da_nil))) da_nil))) (da_cons (dv 8) da_nil))))))))))
    dss_nil)
    (dss_cons (ds_if (dt_c1 (c_eqX hr.units) (dv 9) de_int)
    (dss_one (ds_ret (de_tup (da_cons (dv 2) (da_cons (dv 3) (da_cons (dv 4) (da_cons (dv 5) (da_cons (dv 6) (da_cons (de_sliceV (dv 7) (do_some de_int) do_none) (da_cons (dv 8) da_nil))))))))))
    dss_nil)
    (dss_cons (ds_if (dt_c1 (c_eqX hr.units) (dv 9) de_int)
    (dss_one (ds_ret (de_tup (da_cons (dv 2) (da_cons (dv 3) (da_cons (dv 4) (da_cons (dv 5) (da_cons (dv 6) (da_cons (dv 7) (da_cons (de_addV (dv 8) (de_lstV (da_cons (de_tup (da_cons de_str (da_cons (de_tup (da_cons de_int (da_cons de_int da_nil))) da_nil))) da_nil))) da_nil))))))))))
    dss_nil)
    (dss_cons (ds_if (dt_c1 (c_eqX hr.units) (dv 9) de_int)
    (dss_one (ds_ret (de_tup (da_cons (dv 2) (da_cons (dv 3) (da_cons (dv 4) (da_cons (dv 5) (da_cons (dv 6) (da_cons (de_lcV (own := [("_law_key", 10), ("_law_worth", 11)]) rfl sc_law_bent_deal.nd (di_seq (dv 7)) (blkOk_by (N := N_law_bent_deal) (sc := defScope s_law_bent_deal) (by decide +kernel)) (fun _ _ _ _ _ => pg_tup rfl (pgs_cons (pg_name (i := 10) sc_law_bent_deal.nd rfl (Or.inl rfl)) (pgs_cons (pg_name (i := 11) sc_law_bent_deal.nd rfl (Or.inl rfl)) pgs_nil))) tr_many (by decide) (fun _ _ _ _ _ => dts_nil) (fun _ _ _ _ _ => (de_tup (da_cons (dv 10) (da_cons de_non da_nil))))) (da_cons (dv 8) da_nil))))))))))
    dss_nil)
    (dss_cons (ds_if (dt_c1 (c_eqX hr.units) (dv 9) de_int)
    (dss_one (ds_ret (de_tup (da_cons (dv 2) (da_cons (dv 3) (da_cons (dv 4) (da_cons (de_addV (dv 5) de_int) (da_cons (dv 6) (da_cons (dv 7) (da_cons (dv 8) da_nil))))))))))
    dss_nil)
    (dss_one (ds_ret (de_tup (da_cons (dv 2) (da_cons (dv 3) (da_cons (dv 4) (da_cons (dv 5) (da_cons (dv 6) (da_cons (dv 7) (da_cons (de_revV (dv 8)) da_nil)))))))))))))))))))))
theorem c_law_bent_deal_2 (T : Txt base w K mg e) : DefK P w K mg base 2 "_law_bent_deal" (w_law_bent_deal e) [] := by
    obtain ⟨f, fd, dvs, hdd, F, hm⟩ := T.f_law_bent_deal
    have hdl : dvs.length = 0 := (hdd.rel (fun _ => none)).length
    obtain ⟨ds, hv, hb⟩ : ∃ ds, Vals (dvs.drop 0) ds ∧ Binds K fd ["_law_state", "_law_one"] ds := by
      obtain rfl : dvs = [] := List.eq_nil_of_length_eq_zero hdl
      exact ⟨[], .nil, F.bindsN (ps := ["_law_state", "_law_one"]) fun _ _ _ _ _ _ us hl => match us, hl with | [_, _], _ => rfl⟩
    exact ⟨f, fd, _, _, _, ok_law_bent_deal T F, hm, F.kp, hb, hv, hdd.drop 0, wpf_len⟩
theorem sc_law_bent : FnScope N_law_bent ["_law_state", "_law_history_here"] (defScope s_law_bent) := ⟨rfl, rfl, rfl, by decide +kernel, rfl, by decide +kernel, by decide +kernel⟩
theorem ok_law_bent (T : Txt base w K mg e) {f : Addr} {fd : FuncData} {dvs : List V} (F : L2.FunD K "_law_bent" "_law_bent" (defArgs s_law_bent) (defBody s_law_bent) (defScope s_law_bent) dvs [] f fd) : FnK P w K mg base 3 f fd ["_law_state", "_law_history_here"] (w_law_bent e) :=
  fnd (k := 2) F sc_law_bent rfl rfl fun cdv A outer s H E hr =>
    (dss_cons (ds_if (dt_c1 (c_eqX hr.units) (dv 1) (de_lstV da_nil))
    (dss_one (ds_ret (dv 1)))
    dss_nil)
    (dss_cons (ds_set (i := 2) (dk_call (c_law_take_2 T) hr (da_cons (dv 0) (da_cons (bc_len T.n_len (da_cons (dv 1) da_nil)) da_nil))) sc_law_bent.nd)
    (dss_cons (ds_set (i := 3) (de_item (dv 1) (dv 2)) sc_law_bent.nd)
    (dss_cons (ds_set (i := 4) (dk_call (c_law_take_2 T) hr (da_cons (dv 0) (da_cons de_int da_nil))) sc_law_bent.nd)
    (dss_cons (ds_if (dt_c1 (c_eqX hr.units) (dv 4) de_int)
    (dss_one (ds_ret (de_addV (de_sliceV (dv 1) do_none (do_some (dv 2))) (de_sliceV (dv 1) (do_some (de_addV (dv 2) de_int)) do_none))))
    dss_nil)
    (dss_cons (ds_if (dt_c1 (c_eqX hr.units) (dv 4) de_int)
    (dss_one (ds_ret (de_addV (de_addV (de_sliceV (dv 1) do_none (do_some (dv 2))) (de_lstV (da_cons (dv 3) da_nil))) (de_sliceV (dv 1) (do_some (dv 2)) do_none))))
    dss_nil)
    (dss_cons (ds_if (dt_c1 (c_eqX hr.units) (dv 4) de_int)
    (dss_one (ds_ret (de_revV (dv 1))))
    dss_nil)
    (dss_consJ (ds_if (dt_c1 (c_eqX hr.units) (de_item (dv 3) de_int) de_str)
    (dss_one (ds_set (i := 3) (dk_call (c_law_bent_deal_2 T) hr (da_cons (dv 0) (da_cons (dv 3) da_nil))) sc_law_bent.nd))
    (dss_one (ds_if (dt_c1 (c_eqX hr.units) (de_item (dv 3) de_int) de_str)
    (dss_one (ds_set (i := 3) (de_tup (da_cons de_str (da_cons (de_sub (de_addV (de_item (dv 3) de_int) (dk_call (c_law_take_2 T) hr (da_cons (dv 0) (da_cons de_int da_nil)))) de_int) (da_cons (de_addV de_int (dk_call (c_law_take_2 T) hr (da_cons (dv 0) (da_cons de_int da_nil)))) da_nil)))) sc_law_bent.nd))
    (dss_cons (ds_set (i := 5) (de_item (de_lstV (da_cons (de_item (dv 3) de_int) (da_cons de_non (da_cons (de_tup (da_cons (dk_call (c_law_take_2 T) hr (da_cons (dv 0) (da_cons de_int da_nil))) da_nil)) da_nil)))) (dk_call (c_law_take_2 T) hr (da_cons (dv 0) (da_cons de_int da_nil)))) sc_law_bent.nd)
    (dss_one (ds_set (i := 3) (de_tup (da_cons (de_item (de_lstV (da_cons de_str (da_cons de_str da_nil))) (dk_call (c_law_take_2 T) hr (da_cons (dv 0) (da_cons de_int da_nil)))) (da_cons (de_item (dv 3) de_int) (da_cons (de_sub (de_addV (de_item (dv 3) de_int) (dk_call (c_law_take_2 T) hr (da_cons (dv 0) (da_cons de_int da_nil)))) de_int) (da_cons (de_item (dv 3) de_int) (da_cons (dv 5) da_nil)))))) sc_law_bent.nd))))))
    (dss_one (ds_ret (de_addV (de_addV (de_sliceV (dv 1) do_none (do_some (dv 2))) (de_lstV (da_cons (dv 3) da_nil))) (de_sliceV (dv 1) (do_some (de_addV (dv 2) de_int)) do_none))))))))))))
theorem c_law_bent_2 (T : Txt base w K mg e) : DefK P w K mg base 3 "_law_bent" (w_law_bent e) [] := by
    obtain ⟨f, fd, dvs, hdd, F, hm⟩ := T.f_law_bent
    have hdl : dvs.length = 0 := (hdd.rel (fun _ => none)).length
    obtain ⟨ds, hv, hb⟩ : ∃ ds, Vals (dvs.drop 0) ds ∧ Binds K fd ["_law_state", "_law_history_here"] ds := by
      obtain rfl : dvs = [] := List.eq_nil_of_length_eq_zero hdl
      exact ⟨[], .nil, F.bindsN (ps := ["_law_state", "_law_history_here"]) fun _ _ _ _ _ _ us hl => match us, hl with | [_, _], _ => rfl⟩
    exact ⟨f, fd, _, _, _, ok_law_bent T F, hm, F.kp, hb, hv, hdd.drop 0, wpf_len⟩
theorem sc_law_reading_fits : FnScope N_law_reading_fits ["_law_history_here", "_law_deals", "_law_one"] (defScope s_law_reading_fits) := ⟨rfl, rfl, rfl, by decide +kernel, rfl, by decide +kernel, by decide +kernel⟩
theorem ok_law_reading_fits (T : Txt base w K mg e) {f : Addr} {fd : FuncData} {dvs : List V} (F : L2.FunD K "_law_reading_fits" "_law_reading_fits" (defArgs s_law_reading_fits) (defBody s_law_reading_fits) (defScope s_law_reading_fits) dvs [] f fd) : FnK P w K mg base 2 f fd ["_law_history_here", "_law_deals", "_law_one"] (w_law_reading_fits e) :=
  fnd (k := 1) F sc_law_reading_fits rfl rfl fun cdv A outer s H E hr =>
    (dss_cons (ds_unp (is := [3, 4, 5, 6, 7]) (dv 2) rfl (.one sc_law_reading_fits.nd 3 (.one sc_law_reading_fits.nd 4 (.one sc_law_reading_fits.nd 5 (.one sc_law_reading_fits.nd 6 (.one sc_law_reading_fits.nd 7 .nil))))))
    (dss_cons (ds_set (i := 8) (dk_call (c_law_worth_of_3 T) hr (da_cons (dv 1) (da_cons (dv 6) (da_cons (de_tup (da_cons (de_addV (dv 5) de_int) (da_cons (de_neg de_int) (da_cons (de_neg de_int) da_nil)))) da_nil)))) sc_law_reading_fits.nd)
    (dss_cons (ds_if (dt_c1 (c_neX hr.units) (dv 7) (dk_call (c_law_formed_2 T) hr (da_cons (dv 8) (da_cons (dk_call (c_law_fields_2 T) hr (da_cons (dv 0) (da_cons (dv 5) da_nil))) da_nil))))
    (dss_one (ds_ret de_bl))
    dss_nil)
    (dss_cons (ds_setLcV (i := 9) (own := [("_law_deal", 10)]) rfl sc_law_reading_fits.nd rfl rfl (sw_true rfl rfl rfl (by decide +kernel)) (di_seq (dv 1)) (blkOk_by (N := N_law_reading_fits) (sc := defScope s_law_reading_fits) (by decide +kernel)) (fun _ _ _ _ _ => pg_name (i := 10) sc_law_reading_fits.nd rfl (Or.inl rfl)) tr_one (by decide) (fun _ _ _ _ _ => (dts_one (dt_w (dtw_and (dt_c1 (c_le hr.units) (de_item (dv 10) de_int) (dv 4)) (dtw_and1 (dt_c1 (c_gt hr.units) (de_item (de_item (dv 10) de_int) de_int) (dv 5))))))) (fun _ _ _ _ _ => (dv 10)))
    (dss_one (ds_ret (de_or (de_c1 (c_eqX hr.units) (dv 3) de_str) (de_one (de_c1 (c_eqX hr.units) (dv 9) (de_lstV da_nil))))))))))
theorem c_law_reading_fits_3 (T : Txt base w K mg e) : DefK P w K mg base 2 "_law_reading_fits" (w_law_reading_fits e) [] := by
    obtain ⟨f, fd, dvs, hdd, F, hm⟩ := T.f_law_reading_fits
    have hdl : dvs.length = 0 := (hdd.rel (fun _ => none)).length
    obtain ⟨ds, hv, hb⟩ : ∃ ds, Vals (dvs.drop 0) ds ∧ Binds K fd ["_law_history_here", "_law_deals", "_law_one"] ds := by
      obtain rfl : dvs = [] := List.eq_nil_of_length_eq_zero hdl
      exact ⟨[], .nil, F.bindsN (ps := ["_law_history_here", "_law_deals", "_law_one"]) fun _ _ _ _ _ _ us hl => match us, hl with | [_, _, _], _ => rfl⟩
    exact ⟨f, fd, _, _, _, ok_law_reading_fits T F, hm, F.kp, hb, hv, hdd.drop 0, wpf_len⟩
theorem sc_law_is_key : FnScope N_law_is_key ["_law_thing"] (defScope s_law_is_key) := ⟨rfl, rfl, rfl, by decide +kernel, rfl, by decide +kernel, by decide +kernel⟩
theorem ok_law_is_key (T : Txt base w K mg e) {f : Addr} {fd : FuncData} {dvs : List V} (F : L2.FunD K "_law_is_key" "_law_is_key" (defArgs s_law_is_key) (defBody s_law_is_key) (defScope s_law_is_key) dvs [] f fd) : FnK P w K mg base 1 f fd ["_law_thing"] (w_law_is_key e) :=
  fnd (k := 0) F sc_law_is_key rfl rfl fun cdv A outer s H E hr =>
    (dss_cons (ds_if (dt_w (dtw_or (dt_not (dt_tru (bc_isiE T.hic (fun _ _ _ h => h.elim) T.n_isinstance (da_cons (dv 0) (da_cons (de_bty rfl T.n_str bt_str) da_nil))))) (dtw_or1 (dt_not (dt_chain de_int (dch_link (c_le hr.units) (bc_len T.n_len (da_cons (dv 0) da_nil)) (dch_last (c_le hr.units) de_int)))))))
    (dss_one (ds_ret de_bl))
    dss_nil)
    (dss_one (ds_ret (de_c1 (c_eqX hr.units) (de_lcV (own := [("_law_sign", 1)]) rfl sc_law_is_key.nd (di_str (dv 0)) (blkOk_by (N := N_law_is_key) (sc := defScope s_law_is_key) (by decide +kernel)) (fun _ _ _ _ _ => pg_name (i := 1) sc_law_is_key.nd rfl (Or.inl rfl)) tr_one (by decide) (fun _ _ _ _ _ => (dts_one (dt_not (dt_chain de_str (dch_link (c_leX hr.units) (dv 1) (dch_last (c_leX hr.units) de_str)))))) (fun _ _ _ _ _ => (dv 1))) (de_lstV da_nil)))))
theorem c_law_is_key_1 (T : Txt base w K mg e) : DefK P w K mg base 1 "_law_is_key" (w_law_is_key e) [] := by
    obtain ⟨f, fd, dvs, hdd, F, hm⟩ := T.f_law_is_key
    have hdl : dvs.length = 0 := (hdd.rel (fun _ => none)).length
    obtain ⟨ds, hv, hb⟩ : ∃ ds, Vals (dvs.drop 0) ds ∧ Binds K fd ["_law_thing"] ds := by
      obtain rfl : dvs = [] := List.eq_nil_of_length_eq_zero hdl
      exact ⟨[], .nil, F.bindsN (ps := ["_law_thing"]) fun _ _ _ _ _ _ us hl => match us, hl with | [_], _ => rfl⟩
    exact ⟨f, fd, _, _, _, ok_law_is_key T F, hm, F.kp, hb, hv, hdd.drop 0, wpf_len⟩
theorem sc_law_whole : FnScope N_law_whole ["_law_thing"] (defScope s_law_whole) := ⟨rfl, rfl, rfl, by decide +kernel, rfl, by decide +kernel, by decide +kernel⟩
theorem ok_law_whole (T : Txt base w K mg e) {f : Addr} {fd : FuncData} {dvs : List V} (F : L2.FunD K "_law_whole" "_law_whole" (defArgs s_law_whole) (defBody s_law_whole) (defScope s_law_whole) dvs [] f fd) : FnK P w K mg base 1 f fd ["_law_thing"] (w_law_whole e) :=
  fnd (k := 0) F sc_law_whole rfl rfl fun cdv A outer s H E hr =>
    (dss_one (ds_ret (de_and (bc_isiE T.hic (fun _ _ _ h => h.elim) T.n_isinstance (da_cons (dv 0) (da_cons (de_bty rfl T.n_int bt_int) da_nil))) (de_one (de_not (bc_isiE T.hic (fun _ _ _ h => h.elim) T.n_isinstance (da_cons (dv 0) (da_cons (de_bty rfl T.n_bool bt_bool) da_nil))))))))
theorem c_law_whole_1 (T : Txt base w K mg e) : DefK P w K mg base 1 "_law_whole" (w_law_whole e) [] := by
    obtain ⟨f, fd, dvs, hdd, F, hm⟩ := T.f_law_whole
    have hdl : dvs.length = 0 := (hdd.rel (fun _ => none)).length
    obtain ⟨ds, hv, hb⟩ : ∃ ds, Vals (dvs.drop 0) ds ∧ Binds K fd ["_law_thing"] ds := by
      obtain rfl : dvs = [] := List.eq_nil_of_length_eq_zero hdl
      exact ⟨[], .nil, F.bindsN (ps := ["_law_thing"]) fun _ _ _ _ _ _ us hl => match us, hl with | [_], _ => rfl⟩
    exact ⟨f, fd, _, _, _, ok_law_whole T F, hm, F.kp, hb, hv, hdd.drop 0, wpf_len⟩
theorem sc_law_is_worth : FnScope N_law_is_worth ["_law_thing"] (defScope s_law_is_worth) := ⟨rfl, rfl, rfl, by decide +kernel, rfl, by decide +kernel, by decide +kernel⟩
theorem ok_law_is_worth (T : Txt base w K mg e) {f : Addr} {fd : FuncData} {dvs : List V} (F : L2.FunD K "_law_is_worth" "_law_is_worth" (defArgs s_law_is_worth) (defBody s_law_is_worth) (defScope s_law_is_worth) dvs [] f fd) : FnK P w K mg base 2 f fd ["_law_thing"] (w_law_is_worth e) :=
  fnd (k := 1) F sc_law_is_worth rfl rfl fun cdv A outer s H E hr =>
    (dss_one (ds_ret (de_and (bc_isiE T.hic (fun _ _ _ h => h.elim) T.n_isinstance (da_cons (dv 0) (da_cons (de_bty rfl T.n_tuple bt_tuple) da_nil))) (de_and (de_chain de_int (dch_link (c_le hr.units) (bc_len T.n_len (da_cons (dv 0) da_nil)) (dch_last (c_le hr.units) de_int))) (de_one (de_c1 (c_eqX hr.units) (de_lcV (own := [("_law_one", 1)]) rfl sc_law_is_worth.nd (di_seq (dv 0)) (blkOk_by (N := N_law_is_worth) (sc := defScope s_law_is_worth) (by decide +kernel)) (fun _ _ _ _ _ => pg_name (i := 1) sc_law_is_worth.nd rfl (Or.inl rfl)) tr_one (by decide) (fun _ _ _ _ _ => (dts_one (dt_not (dt_tru (dk_call (c_law_whole_1 T) hr (da_cons (dv 1) da_nil)))))) (fun _ _ _ _ _ => (dv 1))) (de_lstV da_nil)))))))
theorem c_law_is_worth_1 (T : Txt base w K mg e) : DefK P w K mg base 2 "_law_is_worth" (w_law_is_worth e) [] := by
    obtain ⟨f, fd, dvs, hdd, F, hm⟩ := T.f_law_is_worth
    have hdl : dvs.length = 0 := (hdd.rel (fun _ => none)).length
    obtain ⟨ds, hv, hb⟩ : ∃ ds, Vals (dvs.drop 0) ds ∧ Binds K fd ["_law_thing"] ds := by
      obtain rfl : dvs = [] := List.eq_nil_of_length_eq_zero hdl
      exact ⟨[], .nil, F.bindsN (ps := ["_law_thing"]) fun _ _ _ _ _ _ us hl => match us, hl with | [_], _ => rfl⟩
    exact ⟨f, fd, _, _, _, ok_law_is_worth T F, hm, F.kp, hb, hv, hdd.drop 0, wpf_len⟩
theorem sc_law_are_pairs : FnScope N_law_are_pairs ["_law_thing", "_law_or_none"] (defScope s_law_are_pairs) := ⟨rfl, rfl, rfl, by decide +kernel, rfl, by decide +kernel, by decide +kernel⟩
theorem ok_law_are_pairs (T : Txt base w K mg e) {f : Addr} {fd : FuncData} {dvs : List V} (F : L2.FunD K "_law_are_pairs" "_law_are_pairs" (defArgs s_law_are_pairs) (defBody s_law_are_pairs) (defScope s_law_are_pairs) dvs [] f fd) : FnK P w K mg base 3 f fd ["_law_thing", "_law_or_none"] (w_law_are_pairs e) :=
  fnd (k := 2) F sc_law_are_pairs rfl rfl fun cdv A outer s H E hr =>
    (dss_cons (ds_if (dt_not (dt_tru (bc_isiE T.hic (fun _ _ _ h => h.elim) T.n_isinstance (da_cons (dv 0) (da_cons (de_bty rfl T.n_list bt_list) da_nil)))))
    (dss_one (ds_ret de_bl))
    dss_nil)
    (dss_cons (ds_for (passes_of rfl) rfl (di_seq (dv 0)) (tg_one sc_law_are_pairs.nd 2)
    (dss_cons (ds_if (dt_w (dtw_or (dt_not (dt_tru (bc_isiE T.hic (fun _ _ _ h => h.elim) T.n_isinstance (da_cons (dv 2) (da_cons (de_bty rfl T.n_tuple bt_tuple) da_nil))))) (dtw_or (dt_c1 (c_neX hr.units) (bc_len T.n_len (da_cons (dv 2) da_nil)) de_int) (dtw_or1 (dt_not (dt_tru (dk_call (c_law_is_key_1 T) hr (da_cons (de_item (dv 2) de_int) da_nil))))))))
    (dss_one (ds_ret de_bl))
    dss_nil)
    (dss_one (ds_if (dt_w (dtw_and (dt_not (dt_tru (dk_call (c_law_is_worth_1 T) hr (da_cons (de_item (dv 2) de_int) da_nil)))) (dtw_and1 (dt_not (dt_w (dtw_and (dt_tru (dv 1)) (dtw_and1 (dt_c1 (c_isX hr.units) (de_item (dv 2) de_int) de_non))))))))
    (dss_one (ds_ret de_bl))
    dss_nil))))
    (dss_one (ds_ret (de_c1 (c_eqX hr.units) (de_lenSetK (de_lcV (own := [("_law_one", 2)]) rfl sc_law_are_pairs.nd (di_seq (dv 0)) (blkOk_by (N := N_law_are_pairs) (sc := defScope s_law_are_pairs) (by decide +kernel)) (fun _ _ _ _ _ => pg_name (i := 2) sc_law_are_pairs.nd rfl (Or.inl rfl)) tr_one (by decide) (fun _ _ _ _ _ => dts_nil) (fun _ _ _ _ _ => (de_item (dv 2) de_int))) rfl T.n_len T.n_set) (bc_len T.n_len (da_cons (dv 0) da_nil)))))))
theorem c_law_are_pairs_2 (T : Txt base w K mg e) : DefK P w K mg base 3 "_law_are_pairs" (w_law_are_pairs e) [] := by
    obtain ⟨f, fd, dvs, hdd, F, hm⟩ := T.f_law_are_pairs
    have hdl : dvs.length = 0 := (hdd.rel (fun _ => none)).length
    obtain ⟨ds, hv, hb⟩ : ∃ ds, Vals (dvs.drop 0) ds ∧ Binds K fd ["_law_thing", "_law_or_none"] ds := by
      obtain rfl : dvs = [] := List.eq_nil_of_length_eq_zero hdl
      exact ⟨[], .nil, F.bindsN (ps := ["_law_thing", "_law_or_none"]) fun _ _ _ _ _ _ us hl => match us, hl with | [_, _], _ => rfl⟩
    exact ⟨f, fd, _, _, _, ok_law_are_pairs T F, hm, F.kp, hb, hv, hdd.drop 0, wpf_len⟩
theorem sc_law_is_stamp : FnScope N_law_is_stamp ["_law_thing"] (defScope s_law_is_stamp) := ⟨rfl, rfl, rfl, by decide +kernel, rfl, by decide +kernel, by decide +kernel⟩
theorem ok_law_is_stamp (T : Txt base w K mg e) {f : Addr} {fd : FuncData} {dvs : List V} (F : L2.FunD K "_law_is_stamp" "_law_is_stamp" (defArgs s_law_is_stamp) (defBody s_law_is_stamp) (defScope s_law_is_stamp) dvs [] f fd) : FnK P w K mg base 2 f fd ["_law_thing"] (w_law_is_stamp e) :=
  fnd (k := 1) F sc_law_is_stamp rfl rfl fun cdv A outer s H E hr =>
    (dss_cons (ds_if (dt_w (dtw_or (dt_not (dt_tru (bc_isiE T.hic (fun _ _ _ h => h.elim) T.n_isinstance (da_cons (dv 0) (da_cons (de_bty rfl T.n_tuple bt_tuple) da_nil))))) (dtw_or (dt_c1 (c_neX hr.units) (bc_len T.n_len (da_cons (dv 0) da_nil)) de_int) (dtw_or1 (dt_c1 (c_neX hr.units) (de_lcV (own := [("_law_one", 1)]) rfl sc_law_is_stamp.nd (di_seq (dv 0)) (blkOk_by (N := N_law_is_stamp) (sc := defScope s_law_is_stamp) (by decide +kernel)) (fun _ _ _ _ _ => pg_name (i := 1) sc_law_is_stamp.nd rfl (Or.inl rfl)) tr_one (by decide) (fun _ _ _ _ _ => (dts_one (dt_not (dt_tru (dk_call (c_law_whole_1 T) hr (da_cons (dv 1) da_nil)))))) (fun _ _ _ _ _ => (dv 1))) (de_lstV da_nil))))))
    (dss_one (ds_ret de_bl))
    dss_nil)
    (dss_one (ds_ret (de_c1 (c_ge hr.units) (bc_minT rfl hr.units T.n_min (da_cons (de_sliceV (dv 0) (do_some de_int) do_none) da_nil)) de_int))))
theorem c_law_is_stamp_1 (T : Txt base w K mg e) : DefK P w K mg base 2 "_law_is_stamp" (w_law_is_stamp e) [] := by
    obtain ⟨f, fd, dvs, hdd, F, hm⟩ := T.f_law_is_stamp
    have hdl : dvs.length = 0 := (hdd.rel (fun _ => none)).length
    obtain ⟨ds, hv, hb⟩ : ∃ ds, Vals (dvs.drop 0) ds ∧ Binds K fd ["_law_thing"] ds := by
      obtain rfl : dvs = [] := List.eq_nil_of_length_eq_zero hdl
      exact ⟨[], .nil, F.bindsN (ps := ["_law_thing"]) fun _ _ _ _ _ _ us hl => match us, hl with | [_], _ => rfl⟩
    exact ⟨f, fd, _, _, _, ok_law_is_stamp T F, hm, F.kp, hb, hv, hdd.drop 0, wpf_len⟩
theorem sc_law_is_told : FnScope N_law_is_told ["_law_thing"] (defScope s_law_is_told) := ⟨rfl, rfl, rfl, by decide +kernel, rfl, by decide +kernel, by decide +kernel⟩
theorem ok_law_is_told (T : Txt base w K mg e) {f : Addr} {fd : FuncData} {dvs : List V} (F : L2.FunD K "_law_is_told" "_law_is_told" (defArgs s_law_is_told) (defBody s_law_is_told) (defScope s_law_is_told) dvs [] f fd) : FnK P w K mg base 4 f fd ["_law_thing"] (w_law_is_told e) :=
  fnd (k := 3) F sc_law_is_told rfl rfl fun cdv A outer s H E hr =>
    (dss_cons (ds_if (dt_w (dtw_or (dt_not (dt_tru (bc_isiE T.hic (fun _ _ _ h => h.elim) T.n_isinstance (da_cons (dv 0) (da_cons (de_bty rfl T.n_tuple bt_tuple) da_nil))))) (dtw_or (dt_c1 (c_eqX hr.units) (dv 0) (de_tup da_nil)) (dtw_or1 (dt_not (dt_tru (bc_isiE T.hic (fun _ _ _ h => h.elim) T.n_isinstance (da_cons (de_item (dv 0) de_int) (da_cons (de_bty rfl T.n_str bt_str) da_nil)))))))))
    (dss_one (ds_ret de_bl))
    dss_nil)
    (dss_cons (ds_if (dt_w (dtw_and (dt_c1 (c_eqX hr.units) (de_item (dv 0) de_int) de_str) (dtw_and1 (dt_c1 (c_eqX hr.units) (bc_len T.n_len (da_cons (dv 0) da_nil)) de_int))))
    (dss_cons (ds_if (dt_w (dtw_or (dt_c1 (c_neX hr.units) (de_lcV (own := [("_law_one", 1)]) rfl sc_law_is_told.nd (di_seq (de_sliceV (dv 0) (do_some de_int) (do_some de_int))) (blkOk_by (N := N_law_is_told) (sc := defScope s_law_is_told) (by decide +kernel)) (fun _ _ _ _ _ => pg_name (i := 1) sc_law_is_told.nd rfl (Or.inl rfl)) tr_one (by decide) (fun _ _ _ _ _ => (dts_one (dt_not (dt_tru (dk_call (c_law_whole_1 T) hr (da_cons (dv 1) da_nil)))))) (fun _ _ _ _ _ => (dv 1))) (de_lstV da_nil)) (dtw_or1 (dt_not (dt_tru (dk_call (c_law_is_stamp_1 T) hr (da_cons (de_item (dv 0) de_int) da_nil)))))))
    (dss_one (ds_ret de_bl))
    dss_nil)
    (dss_one (ds_ret (de_and (de_c1 (c_le hr.units) (de_item (dv 0) de_int) (de_item (dv 0) de_int)) (de_and (dk_call (c_law_are_pairs_2 T) hr (da_cons (de_item (dv 0) de_int) (da_cons de_bl da_nil))) (de_one (dk_call (c_law_are_pairs_2 T) hr (da_cons (de_item (dv 0) de_int) (da_cons de_bl da_nil)))))))))
    dss_nil)
    (dss_cons (ds_if (dt_w (dtw_and (dt_c1 (c_eqX hr.units) (de_item (dv 0) de_int) de_str) (dtw_and1 (dt_c1 (c_eqX hr.units) (bc_len T.n_len (da_cons (dv 0) da_nil)) de_int))))
    (dss_one (ds_ret (de_and (dk_call (c_law_whole_1 T) hr (da_cons (de_item (dv 0) de_int) da_nil)) (de_and (dk_call (c_law_whole_1 T) hr (da_cons (de_item (dv 0) de_int) da_nil)) (de_one (de_chain de_int (dch_link (c_le hr.units) (de_item (dv 0) de_int) (dch_last (c_le hr.units) de_int))))))))
    dss_nil)
    (dss_cons (ds_if (dt_w (dtw_and (dt_c1 c_inT (de_item (dv 0) de_int) (de_tup (da_cons de_str (da_cons de_str da_nil)))) (dtw_and1 (dt_c1 (c_eqX hr.units) (bc_len T.n_len (da_cons (dv 0) da_nil)) de_int))))
    (dss_cons (ds_if (dt_w (dtw_or (dt_not (dt_tru (dk_call (c_law_whole_1 T) hr (da_cons (de_item (dv 0) de_int) da_nil)))) (dtw_or (dt_not (dt_tru (dk_call (c_law_whole_1 T) hr (da_cons (de_item (dv 0) de_int) da_nil)))) (dtw_or1 (dt_not (dt_tru (dk_call (c_law_is_key_1 T) hr (da_cons (de_item (dv 0) de_int) da_nil))))))))
    (dss_one (ds_ret de_bl))
    dss_nil)
    (dss_one (ds_ret (de_or (de_c1 (c_isX hr.units) (de_item (dv 0) de_int) de_non) (de_one (dk_call (c_law_is_worth_1 T) hr (da_cons (de_item (dv 0) de_int) da_nil)))))))
    dss_nil)
    (dss_one (ds_ret de_bl))))))
theorem c_law_is_told_1 (T : Txt base w K mg e) : DefK P w K mg base 4 "_law_is_told" (w_law_is_told e) [] := by
    obtain ⟨f, fd, dvs, hdd, F, hm⟩ := T.f_law_is_told
    have hdl : dvs.length = 0 := (hdd.rel (fun _ => none)).length
    obtain ⟨ds, hv, hb⟩ : ∃ ds, Vals (dvs.drop 0) ds ∧ Binds K fd ["_law_thing"] ds := by
      obtain rfl : dvs = [] := List.eq_nil_of_length_eq_zero hdl
      exact ⟨[], .nil, F.bindsN (ps := ["_law_thing"]) fun _ _ _ _ _ _ us hl => match us, hl with | [_], _ => rfl⟩
    exact ⟨f, fd, _, _, _, ok_law_is_told T F, hm, F.kp, hb, hv, hdd.drop 0, wpf_len⟩
theorem sc_law_is_ordered : FnScope N_law_is_ordered ["_law_thing"] (defScope s_law_is_ordered) := ⟨rfl, rfl, rfl, by decide +kernel, rfl, by decide +kernel, by decide +kernel⟩
theorem ok_law_is_ordered (T : Txt base w K mg e) {f : Addr} {fd : FuncData} {dvs : List V} (F : L2.FunD K "_law_is_ordered" "_law_is_ordered" (defArgs s_law_is_ordered) (defBody s_law_is_ordered) (defScope s_law_is_ordered) dvs [] f fd) : FnK P w K mg base 5 f fd ["_law_thing"] (w_law_is_ordered e) :=
  fnd (k := 4) F sc_law_is_ordered rfl rfl fun cdv A outer s H E hr =>
    (dss_cons (ds_if (dt_w (dtw_or (dt_not (dt_tru (bc_isiE T.hic (fun _ _ _ h => h.elim) T.n_isinstance (da_cons (dv 0) (da_cons (de_bty rfl T.n_list bt_list) da_nil))))) (dtw_or1 (dt_c1 (c_neX hr.units) (de_lcV (own := [("_law_one", 4)]) rfl sc_law_is_ordered.nd (di_seq (dv 0)) (blkOk_by (N := N_law_is_ordered) (sc := defScope s_law_is_ordered) (by decide +kernel)) (fun _ _ _ _ _ => pg_name (i := 4) sc_law_is_ordered.nd rfl (Or.inl rfl)) tr_one (by decide) (fun _ _ _ _ _ => (dts_one (dt_not (dt_tru (dk_call (c_law_is_told_1 T) hr (da_cons (dv 4) da_nil)))))) (fun _ _ _ _ _ => (dv 4))) (de_lstV da_nil)))))
    (dss_one (ds_ret de_bl))
    dss_nil)
    (dss_cons (ds_set (i := 1) (de_lcV (own := [("_law_one", 4)]) rfl sc_law_is_ordered.nd (di_seq (dv 0)) (blkOk_by (N := N_law_is_ordered) (sc := defScope s_law_is_ordered) (by decide +kernel)) (fun _ _ _ _ _ => pg_name (i := 4) sc_law_is_ordered.nd rfl (Or.inl rfl)) tr_one (by decide) (fun _ _ _ _ _ => (dts_one (dt_c1 (c_eqX hr.units) (de_item (dv 4) de_int) de_str))) (fun _ _ _ _ _ => (dv 4))) sc_law_is_ordered.nd)
    (dss_cons (ds_setLcV (i := 2) (own := [("_law_one", 4)]) rfl sc_law_is_ordered.nd rfl rfl (sw_true rfl rfl rfl (by decide +kernel)) (di_seq (dv 1)) (blkOk_by (N := N_law_is_ordered) (sc := defScope s_law_is_ordered) (by decide +kernel)) (fun _ _ _ _ _ => pg_name (i := 4) sc_law_is_ordered.nd rfl (Or.inl rfl)) tr_one (by decide) (fun _ _ _ _ _ => dts_nil) (fun _ _ _ _ _ => (de_item (dv 4) de_int)))
    (dss_cons (ds_setLcV (i := 3) (own := [("_law_one", 4)]) rfl sc_law_is_ordered.nd rfl rfl (sw_true rfl rfl rfl (by decide +kernel)) (di_seq (dv 1)) (blkOk_by (N := N_law_is_ordered) (sc := defScope s_law_is_ordered) (by decide +kernel)) (fun _ _ _ _ _ => pg_name (i := 4) sc_law_is_ordered.nd rfl (Or.inl rfl)) tr_one (by decide) (fun _ _ _ _ _ => dts_nil) (fun _ _ _ _ _ => (de_item (dv 4) de_int)))
    (dss_cons (ds_if (dt_w (dtw_or (dt_c1 (c_neX hr.units) (de_lenSetK (dv 2) rfl T.n_len T.n_set) (bc_len T.n_len (da_cons (dv 1) da_nil))) (dtw_or1 (dt_c1 (c_neX hr.units) (de_lenSetT hr.units (dv 3) rfl T.n_len T.n_set) (bc_len T.n_len (da_cons (dv 1) da_nil))))))
    (dss_one (ds_ret de_bl))
    dss_nil)
    (dss_cons (ds_for (passes_of rfl) rfl (di_seq (dv 1)) (tg_one sc_law_is_ordered.nd 4)
    (dss_cons (ds_if (dt_c1 (c_neX hr.units) (de_lcV (own := [("_law_other", 6)]) rfl sc_law_is_ordered.nd (di_seq (dv 1)) (blkOk_by (N := N_law_is_ordered) (sc := defScope s_law_is_ordered) (by decide +kernel)) (fun _ _ _ _ _ => pg_name (i := 6) sc_law_is_ordered.nd rfl (Or.inl rfl)) tr_one (by decide) (fun _ _ _ _ _ => (dts_one (dt_w (dtw_and (dt_c1 (c_neX hr.units) (dv 6) (dv 4)) (dtw_and (dt_c1 (c_le hr.units) (de_item (dv 4) de_int) (de_item (dv 6) de_int)) (dtw_and1 (dt_c1 (c_geT hr.units) (de_item (dv 4) de_int) (de_item (dv 6) de_int)))))))) (fun _ _ _ _ _ => (dv 6))) (de_lstV da_nil))
    (dss_one (ds_ret de_bl))
    dss_nil)
    (dss_one (ds_if (dt_c1 (c_neX hr.units) (de_lcV (own := [("_law_key", 7), ("_law_worth", 8)]) rfl sc_law_is_ordered.nd (di_seq (de_item (dv 4) de_int)) (blkOk_by (N := N_law_is_ordered) (sc := defScope s_law_is_ordered) (by decide +kernel)) (fun _ _ _ _ _ => pg_tup rfl (pgs_cons (pg_name (i := 7) sc_law_is_ordered.nd rfl (Or.inl rfl)) (pgs_cons (pg_name (i := 8) sc_law_is_ordered.nd rfl (Or.inl rfl)) pgs_nil))) tr_many (by decide) (fun _ _ _ _ _ => (dts_one (dt_c1 (c_neX hr.units) (dv 8) (dk_call (c_law_worth_of_3 T) hr (da_cons (dv 1) (da_cons (dv 7) (da_cons (de_item (dv 4) de_int) da_nil))))))) (fun _ _ _ _ _ => (dv 7))) (de_lstV da_nil))
    (dss_one (ds_ret de_bl))
    dss_nil))))
    (dss_cons (ds_setLcV (i := 5) (own := [("_law_one", 4)]) rfl sc_law_is_ordered.nd rfl rfl (sw_true rfl rfl rfl (by decide +kernel)) (di_seq (dv 0)) (blkOk_by (N := N_law_is_ordered) (sc := defScope s_law_is_ordered) (by decide +kernel)) (fun _ _ _ _ _ => pg_name (i := 4) sc_law_is_ordered.nd rfl (Or.inl rfl)) tr_one (by decide) (fun _ _ _ _ _ => (dts_one (dt_c1 c_inT (de_item (dv 4) de_int) (de_tup (da_cons de_str (da_cons de_str da_nil)))))) (fun _ _ _ _ _ => (dv 4)))
    (dss_one (ds_ret (de_c1 (c_eqX hr.units) (de_lcV (own := [("_law_one", 4)]) rfl sc_law_is_ordered.nd (di_seq (dv 5)) (blkOk_by (N := N_law_is_ordered) (sc := defScope s_law_is_ordered) (by decide +kernel)) (fun _ _ _ _ _ => pg_name (i := 4) sc_law_is_ordered.nd rfl (Or.inl rfl)) tr_one (by decide) (fun _ _ _ _ _ => (dts_one (dt_not (dt_tru (dk_call (c_law_reading_fits_3 T) hr (da_cons (dv 0) (da_cons (dv 1) (da_cons (dv 4) da_nil)))))))) (fun _ _ _ _ _ => (dv 4))) (de_lstV da_nil)))))))))))
theorem c_law_is_ordered_1 (T : Txt base w K mg e) : DefK P w K mg base 5 "_law_is_ordered" (w_law_is_ordered e) [] := by
    obtain ⟨f, fd, dvs, hdd, F, hm⟩ := T.f_law_is_ordered
    have hdl : dvs.length = 0 := (hdd.rel (fun _ => none)).length
    obtain ⟨ds, hv, hb⟩ : ∃ ds, Vals (dvs.drop 0) ds ∧ Binds K fd ["_law_thing"] ds := by
      obtain rfl : dvs = [] := List.eq_nil_of_length_eq_zero hdl
      exact ⟨[], .nil, F.bindsN (ps := ["_law_thing"]) fun _ _ _ _ _ _ us hl => match us, hl with | [_], _ => rfl⟩
    exact ⟨f, fd, _, _, _, ok_law_is_ordered T F, hm, F.kp, hb, hv, hdd.drop 0, wpf_len⟩
theorem sc_law_right : FnScope N_law_right ["_law_history_here"] (defScope s_law_right) := ⟨rfl, rfl, rfl, by decide +kernel, rfl, by decide +kernel, by decide +kernel⟩
theorem ok_law_right (T : Txt base w K mg e) {f : Addr} {fd : FuncData} {dvs : List V} (F : L2.FunD K "_law_right" "_law_right" (defArgs s_law_right) (defBody s_law_right) (defScope s_law_right) dvs [] f fd) : FnK P w K mg base 7 f fd ["_law_history_here"] (w_law_right e) :=
  fnd (k := 6) F sc_law_right rfl rfl fun cdv A outer s H E hr =>
    (dss_cons (ds_set (i := 1) (bc_reprXU hr.gd hr.units T.n_repr (da_cons (dv 0) da_nil)) sc_law_right.nd)
    (dss_cons (ds_set (i := 2) (dk_call (c_is_ordered_1 T) hr (da_cons (dv 0) da_nil)) sc_law_right.nd)
    (dss_cons (ds_if (dt_c1 (c_neX hr.units) (bc_reprXU hr.gd hr.units T.n_repr (da_cons (dv 2) da_nil)) (bc_reprXU hr.gd hr.units T.n_repr (da_cons (dk_call (c_law_is_ordered_1 T) hr (da_cons (dv 0) da_nil)) da_nil)))
    (dss_one (ds_ret de_bl))
    dss_nil)
    (dss_one (ds_ret (de_c1 (c_eqX hr.units) (bc_reprXU hr.gd hr.units T.n_repr (da_cons (dv 0) da_nil)) (dv 1)))))))
theorem c_law_right_1 (T : Txt base w K mg e) : DefK P w K mg base 7 "_law_right" (w_law_right e) [] := by
    obtain ⟨f, fd, dvs, hdd, F, hm⟩ := T.f_law_right
    have hdl : dvs.length = 0 := (hdd.rel (fun _ => none)).length
    obtain ⟨ds, hv, hb⟩ : ∃ ds, Vals (dvs.drop 0) ds ∧ Binds K fd ["_law_history_here"] ds := by
      obtain rfl : dvs = [] := List.eq_nil_of_length_eq_zero hdl
      exact ⟨[], .nil, F.bindsN (ps := ["_law_history_here"]) fun _ _ _ _ _ _ us hl => match us, hl with | [_], _ => rfl⟩
    exact ⟨f, fd, _, _, _, ok_law_right T F, hm, F.kp, hb, hv, hdd.drop 0, wpf_len⟩
theorem sc_law : FnScope N_law ["_law_script"] (defScope s_law) := ⟨rfl, rfl, rfl, by decide +kernel, rfl, by decide +kernel, by decide +kernel⟩
theorem ok_law (T : Txt base w K mg e) {f : Addr} {fd : FuncData} {dvs : List V} (F : L2.FunD K "law" "law" (defArgs s_law) (defBody s_law) (defScope s_law) dvs [] f fd) : FnK P w K mg base 8 f fd ["_law_script"] (w_law e) :=
  fnd (k := 7) F sc_law rfl rfl fun cdv A outer s H E hr =>
    (dss_cons (ds_for (passes_of rfl) rfl (di_range1 T.n_range (da_cons (bc_max rfl T.n_max (da_cons de_int (da_cons (bc_min rfl T.n_min (da_cons de_int (da_cons (bc_len T.n_len (da_cons (dv 0) da_nil)) da_nil))) da_nil))) da_nil)) (tg_one sc_law.nd 1)
    (dss_cons (ds_set (i := 2) (dk_call (c_law_begun_2 T) hr (da_cons (dv 0) (da_cons (dv 1) da_nil))) sc_law.nd)
    (dss_cons (ds_set (i := 3) (dk_call (c_law_history_1 T) hr (da_cons (dv 2) da_nil)) sc_law.nd)
    (dss_cons (ds_if (dt_w (dtw_or (dt_c1 (c_isnotX hr.units) (dk_call (c_is_ordered_1 T) hr (da_cons (dv 3) da_nil)) de_bl) (dtw_or1 (dt_not (dt_tru (dk_call (c_law_right_1 T) hr (da_cons (dv 3) da_nil)))))))
    (dss_one (ds_ret de_bl))
    dss_nil)
    (dss_one (ds_for (passes_of rfl) rfl (di_range1 T.n_range (da_cons de_int da_nil)) (tg_one sc_law.nd 4)
    (dss_cons (ds_set (i := 5) (dk_call (c_law_bent_2 T) hr (da_cons (dv 2) (da_cons (dv 3) da_nil))) sc_law.nd)
    (dss_one (ds_if (dt_w (dtw_or (dt_not (dt_tru (dk_call (c_law_right_1 T) hr (da_cons (dv 5) da_nil)))) (dtw_or1 (dt_not (dt_tru (dk_call (c_law_right_1 T) hr (da_cons (dk_call (c_law_bent_2 T) hr (da_cons (dv 2) (da_cons (dv 5) da_nil))) da_nil)))))))
    (dss_one (ds_ret de_bl))
    dss_nil)))))))))
    (dss_one (ds_ret (de_and (de_c1 (c_isX hr.units) (dk_call (c_is_ordered_1 T) hr (da_cons (de_lstV da_nil) da_nil)) de_bl) (de_one (dk_call0 (c_law_fixed_right_0 T) hr))))))
end
/-! ### each fact, as the head has it -/
theorem all_mk {q9 : Program} {l : PySem.W.OpenLaw} {w : World} {K : PySem.W.Frag} {h : Heap} {mg : Str → Option Value} {fa : Addr} (X : K.In h) (G : h.Ns mainGlobals mg) (hfa : mg "law" = some (.ref fa)) (hmain : ∀ e : Env, e.Good → ∀ ns : List Int, ns.length ≤ 63 → w_law e [.kc (ns.map D.int)] (tabG (tabs e)) (fun d _ => d = .bl true) fun _ _ _ => False)
    {G_LOOKS f_law_begun f_law_take f_law_worth_of f_law_pairs f_law_made f_law_formed f_law_fields f_law_reads f_law_history f_of_word f_go_as_time f_newest_below f_formed f_fields_then f_reading_fits f_is_key f_is_whole f_is_worth f_are_pairs f_is_stamp f_is_dealing f_is_form f_is_reading f_is_told f_reads_fit f_is_ordered f_law_fixed_right f_law_bent_deal f_law_bent f_law_reading_fits f_law_is_key f_law_whole f_law_is_worth f_law_are_pairs f_law_is_stamp f_law_is_told f_law_is_ordered f_law_right f_law P_newest_below K_newest_below P_reading_fits K_reading_fits P_reads_fit K_reads_fit : Addr} {o_LOOKS : Obj} {od_law_begun an_law_begun od_law_take an_law_take od_law_worth_of an_law_worth_of od_law_pairs an_law_pairs od_law_made an_law_made od_law_formed an_law_formed od_law_fields an_law_fields od_law_reads an_law_reads od_law_history an_law_history od_of_word an_of_word od_go_as_time an_go_as_time od_newest_below an_newest_below od_formed an_formed od_fields_then an_fields_then od_reading_fits an_reading_fits od_is_key an_is_key od_is_whole an_is_whole od_is_worth an_is_worth od_are_pairs an_are_pairs od_is_stamp an_is_stamp od_is_dealing an_is_dealing od_is_form an_is_form od_is_reading an_is_reading od_is_told an_is_told od_reads_fit an_reads_fit od_is_ordered an_is_ordered od_law_fixed_right an_law_fixed_right od_law_bent_deal an_law_bent_deal od_law_bent an_law_bent od_law_reading_fits an_law_reading_fits od_law_is_key an_law_is_key od_law_whole an_law_whole od_law_is_worth an_law_is_worth od_law_are_pairs an_law_are_pairs od_law_is_stamp an_law_is_stamp od_law_is_told an_law_is_told od_law_is_ordered an_law_is_ordered od_law_right an_law_right od_law an_law lb_newest_below lb_reading_fits lb_reads_fit : Option Addr} {vs_newest_below vs_reading_fits vs_reads_fit : Array Value} {sl_law_begun sl_law_take sl_law_worth_of sl_law_pairs sl_law_made sl_law_formed sl_law_fields sl_law_reads sl_law_history sl_of_word sl_go_as_time sl_newest_below sl_formed sl_fields_then sl_reading_fits sl_is_key sl_is_whole sl_is_worth sl_are_pairs sl_is_stamp sl_is_dealing sl_is_form sl_is_reading sl_is_told sl_reads_fit sl_is_ordered sl_law_fixed_right sl_law_bent_deal sl_law_bent sl_law_reading_fits sl_law_is_key sl_law_whole sl_law_is_worth sl_law_are_pairs sl_law_is_stamp sl_law_is_told sl_law_is_ordered sl_law_right sl_law ld_newest_below ld_reading_fits ld_reads_fit : Array (Option Value)} {u_LETTERS u_LONGEST u_MOST_FIELDS oc_law_begun dV_law_begun kV_law_begun dc_law_begun pm_law_begun cd_law_begun ct_law_begun oc_law_take dV_law_take kV_law_take dc_law_take pm_law_take cd_law_take ct_law_take oc_law_worth_of dV_law_worth_of kV_law_worth_of dc_law_worth_of pm_law_worth_of cd_law_worth_of ct_law_worth_of oc_law_pairs dV_law_pairs kV_law_pairs dc_law_pairs pm_law_pairs cd_law_pairs ct_law_pairs oc_law_made dV_law_made kV_law_made dc_law_made pm_law_made cd_law_made ct_law_made oc_law_formed dV_law_formed kV_law_formed dc_law_formed pm_law_formed cd_law_formed ct_law_formed oc_law_fields dV_law_fields kV_law_fields dc_law_fields pm_law_fields cd_law_fields ct_law_fields oc_law_reads dV_law_reads kV_law_reads dc_law_reads pm_law_reads cd_law_reads ct_law_reads oc_law_history dV_law_history kV_law_history dc_law_history pm_law_history cd_law_history ct_law_history oc_of_word dV_of_word kV_of_word dc_of_word pm_of_word cd_of_word ct_of_word oc_go_as_time dV_go_as_time kV_go_as_time dc_go_as_time pm_go_as_time cd_go_as_time ct_go_as_time oc_newest_below dV_newest_below kV_newest_below dc_newest_below pm_newest_below cd_newest_below ct_newest_below oc_formed dV_formed kV_formed dc_formed pm_formed cd_formed ct_formed oc_fields_then dV_fields_then kV_fields_then dc_fields_then pm_fields_then cd_fields_then ct_fields_then oc_reading_fits dV_reading_fits kV_reading_fits dc_reading_fits pm_reading_fits cd_reading_fits ct_reading_fits oc_is_key dV_is_key kV_is_key dc_is_key pm_is_key cd_is_key ct_is_key oc_is_whole dV_is_whole kV_is_whole dc_is_whole pm_is_whole cd_is_whole ct_is_whole oc_is_worth dV_is_worth kV_is_worth dc_is_worth pm_is_worth cd_is_worth ct_is_worth oc_are_pairs dV_are_pairs kV_are_pairs dc_are_pairs pm_are_pairs cd_are_pairs ct_are_pairs oc_is_stamp dV_is_stamp kV_is_stamp dc_is_stamp pm_is_stamp cd_is_stamp ct_is_stamp oc_is_dealing dV_is_dealing kV_is_dealing dc_is_dealing pm_is_dealing cd_is_dealing ct_is_dealing oc_is_form dV_is_form kV_is_form dc_is_form pm_is_form cd_is_form ct_is_form oc_is_reading dV_is_reading kV_is_reading dc_is_reading pm_is_reading cd_is_reading ct_is_reading oc_is_told dV_is_told kV_is_told dc_is_told pm_is_told cd_is_told ct_is_told oc_reads_fit dV_reads_fit kV_reads_fit dc_reads_fit pm_reads_fit cd_reads_fit ct_reads_fit oc_is_ordered dV_is_ordered kV_is_ordered dc_is_ordered pm_is_ordered cd_is_ordered ct_is_ordered oc_law_fixed_right dV_law_fixed_right kV_law_fixed_right dc_law_fixed_right pm_law_fixed_right cd_law_fixed_right ct_law_fixed_right oc_law_bent_deal dV_law_bent_deal kV_law_bent_deal dc_law_bent_deal pm_law_bent_deal cd_law_bent_deal ct_law_bent_deal oc_law_bent dV_law_bent kV_law_bent dc_law_bent pm_law_bent cd_law_bent ct_law_bent oc_law_reading_fits dV_law_reading_fits kV_law_reading_fits dc_law_reading_fits pm_law_reading_fits cd_law_reading_fits ct_law_reading_fits oc_law_is_key dV_law_is_key kV_law_is_key dc_law_is_key pm_law_is_key cd_law_is_key ct_law_is_key oc_law_whole dV_law_whole kV_law_whole dc_law_whole pm_law_whole cd_law_whole ct_law_whole oc_law_is_worth dV_law_is_worth kV_law_is_worth dc_law_is_worth pm_law_is_worth cd_law_is_worth ct_law_is_worth oc_law_are_pairs dV_law_are_pairs kV_law_are_pairs dc_law_are_pairs pm_law_are_pairs cd_law_are_pairs ct_law_are_pairs oc_law_is_stamp dV_law_is_stamp kV_law_is_stamp dc_law_is_stamp pm_law_is_stamp cd_law_is_stamp ct_law_is_stamp oc_law_is_told dV_law_is_told kV_law_is_told dc_law_is_told pm_law_is_told cd_law_is_told ct_law_is_told oc_law_is_ordered dV_law_is_ordered kV_law_is_ordered dc_law_is_ordered pm_law_is_ordered cd_law_is_ordered ct_law_is_ordered oc_law_right dV_law_right kV_law_right dc_law_right pm_law_right cd_law_right ct_law_right oc_law dV_law kV_law dc_law pm_law cd_law ct_law la_newest_below la_reading_fits la_reads_fit : Value}
    (z_all : PySem.W.nsIn K mainGlobals "all" = some none)
    (z_bool : PySem.W.nsIn K mainGlobals "bool" = some none)
    (z_dict : PySem.W.nsIn K mainGlobals "dict" = some none)
    (z_enumerate : PySem.W.nsIn K mainGlobals "enumerate" = some none)
    (z_int : PySem.W.nsIn K mainGlobals "int" = some none)
    (z_isinstance : PySem.W.nsIn K mainGlobals "isinstance" = some none)
    (z_len : PySem.W.nsIn K mainGlobals "len" = some none)
    (z_list : PySem.W.nsIn K mainGlobals "list" = some none)
    (z_max : PySem.W.nsIn K mainGlobals "max" = some none)
    (z_min : PySem.W.nsIn K mainGlobals "min" = some none)
    (z_range : PySem.W.nsIn K mainGlobals "range" = some none)
    (z_repr : PySem.W.nsIn K mainGlobals "repr" = some none)
    (z_set : PySem.W.nsIn K mainGlobals "set" = some none)
    (z_sorted : PySem.W.nsIn K mainGlobals "sorted" = some none)
    (z_str : PySem.W.nsIn K mainGlobals "str" = some none)
    (z_tuple : PySem.W.nsIn K mainGlobals "tuple" = some none)
    (a_LETTERS : PySem.W.nsIn K mainGlobals "LETTERS" = some (some u_LETTERS))
    (t_LETTERS : ScaF u_LETTERS (.str "abcdefghijklmnopqrstuvwxyz"))
    (a_LONGEST : PySem.W.nsIn K mainGlobals "LONGEST" = some (some u_LONGEST))
    (t_LONGEST : ScaF u_LONGEST (.int 6))
    (a_MOST_FIELDS : PySem.W.nsIn K mainGlobals "MOST_FIELDS" = some (some u_MOST_FIELDS))
    (t_MOST_FIELDS : ScaF u_MOST_FIELDS (.int 4))
    (a_LOOKS : PySem.W.nsIn K mainGlobals "LOOKS" = some (some (.ref G_LOOKS)))
    (l_LOOKS : K.lookup G_LOOKS = some o_LOOKS)
    (lo_LOOKS : (G_LOOKS == sysModules) = false)
    (a_law_begun : PySem.W.nsIn K mainGlobals "_law_begun" = some (some (.ref f_law_begun)))
    (l_law_begun : K.lookup f_law_begun = some ⟨oc_law_begun, od_law_begun, .func (PySem.W.fnOf "_law_begun" "_law_begun" (defArgs s_law_begun) (defBody s_law_begun) (defScope s_law_begun) dV_law_begun kV_law_begun dc_law_begun pm_law_begun an_law_begun cd_law_begun ct_law_begun), sl_law_begun⟩)
    (c_law_begun : PySem.W.codeIn K cd_law_begun "_law_begun" = true)
    (k_law_begun : PySem.W.keepIn K (.ref f_law_begun) = true)
    (e_law_begun : dV_law_begun = .none)
    (a_law_take : PySem.W.nsIn K mainGlobals "_law_take" = some (some (.ref f_law_take)))
    (l_law_take : K.lookup f_law_take = some ⟨oc_law_take, od_law_take, .func (PySem.W.fnOf "_law_take" "_law_take" (defArgs s_law_take) (defBody s_law_take) (defScope s_law_take) dV_law_take kV_law_take dc_law_take pm_law_take an_law_take cd_law_take ct_law_take), sl_law_take⟩)
    (c_law_take : PySem.W.codeIn K cd_law_take "_law_take" = true)
    (k_law_take : PySem.W.keepIn K (.ref f_law_take) = true)
    (e_law_take : dV_law_take = .none)
    (a_law_worth_of : PySem.W.nsIn K mainGlobals "_law_worth_of" = some (some (.ref f_law_worth_of)))
    (l_law_worth_of : K.lookup f_law_worth_of = some ⟨oc_law_worth_of, od_law_worth_of, .func (PySem.W.fnOf "_law_worth_of" "_law_worth_of" (defArgs s_law_worth_of) (defBody s_law_worth_of) (defScope s_law_worth_of) dV_law_worth_of kV_law_worth_of dc_law_worth_of pm_law_worth_of an_law_worth_of cd_law_worth_of ct_law_worth_of), sl_law_worth_of⟩)
    (c_law_worth_of : PySem.W.codeIn K cd_law_worth_of "_law_worth_of" = true)
    (k_law_worth_of : PySem.W.keepIn K (.ref f_law_worth_of) = true)
    (e_law_worth_of : dV_law_worth_of = .none)
    (a_law_pairs : PySem.W.nsIn K mainGlobals "_law_pairs" = some (some (.ref f_law_pairs)))
    (l_law_pairs : K.lookup f_law_pairs = some ⟨oc_law_pairs, od_law_pairs, .func (PySem.W.fnOf "_law_pairs" "_law_pairs" (defArgs s_law_pairs) (defBody s_law_pairs) (defScope s_law_pairs) dV_law_pairs kV_law_pairs dc_law_pairs pm_law_pairs an_law_pairs cd_law_pairs ct_law_pairs), sl_law_pairs⟩)
    (c_law_pairs : PySem.W.codeIn K cd_law_pairs "_law_pairs" = true)
    (k_law_pairs : PySem.W.keepIn K (.ref f_law_pairs) = true)
    (e_law_pairs : dV_law_pairs = .none)
    (a_law_made : PySem.W.nsIn K mainGlobals "_law_made" = some (some (.ref f_law_made)))
    (l_law_made : K.lookup f_law_made = some ⟨oc_law_made, od_law_made, .func (PySem.W.fnOf "_law_made" "_law_made" (defArgs s_law_made) (defBody s_law_made) (defScope s_law_made) dV_law_made kV_law_made dc_law_made pm_law_made an_law_made cd_law_made ct_law_made), sl_law_made⟩)
    (c_law_made : PySem.W.codeIn K cd_law_made "_law_made" = true)
    (k_law_made : PySem.W.keepIn K (.ref f_law_made) = true)
    (e_law_made : dV_law_made = .none)
    (a_law_formed : PySem.W.nsIn K mainGlobals "_law_formed" = some (some (.ref f_law_formed)))
    (l_law_formed : K.lookup f_law_formed = some ⟨oc_law_formed, od_law_formed, .func (PySem.W.fnOf "_law_formed" "_law_formed" (defArgs s_law_formed) (defBody s_law_formed) (defScope s_law_formed) dV_law_formed kV_law_formed dc_law_formed pm_law_formed an_law_formed cd_law_formed ct_law_formed), sl_law_formed⟩)
    (c_law_formed : PySem.W.codeIn K cd_law_formed "_law_formed" = true)
    (k_law_formed : PySem.W.keepIn K (.ref f_law_formed) = true)
    (e_law_formed : dV_law_formed = .none)
    (a_law_fields : PySem.W.nsIn K mainGlobals "_law_fields" = some (some (.ref f_law_fields)))
    (l_law_fields : K.lookup f_law_fields = some ⟨oc_law_fields, od_law_fields, .func (PySem.W.fnOf "_law_fields" "_law_fields" (defArgs s_law_fields) (defBody s_law_fields) (defScope s_law_fields) dV_law_fields kV_law_fields dc_law_fields pm_law_fields an_law_fields cd_law_fields ct_law_fields), sl_law_fields⟩)
    (c_law_fields : PySem.W.codeIn K cd_law_fields "_law_fields" = true)
    (k_law_fields : PySem.W.keepIn K (.ref f_law_fields) = true)
    (e_law_fields : dV_law_fields = .none)
    (a_law_reads : PySem.W.nsIn K mainGlobals "_law_reads" = some (some (.ref f_law_reads)))
    (l_law_reads : K.lookup f_law_reads = some ⟨oc_law_reads, od_law_reads, .func (PySem.W.fnOf "_law_reads" "_law_reads" (defArgs s_law_reads) (defBody s_law_reads) (defScope s_law_reads) dV_law_reads kV_law_reads dc_law_reads pm_law_reads an_law_reads cd_law_reads ct_law_reads), sl_law_reads⟩)
    (c_law_reads : PySem.W.codeIn K cd_law_reads "_law_reads" = true)
    (k_law_reads : PySem.W.keepIn K (.ref f_law_reads) = true)
    (e_law_reads : dV_law_reads = .none)
    (a_law_history : PySem.W.nsIn K mainGlobals "_law_history" = some (some (.ref f_law_history)))
    (l_law_history : K.lookup f_law_history = some ⟨oc_law_history, od_law_history, .func (PySem.W.fnOf "_law_history" "_law_history" (defArgs s_law_history) (defBody s_law_history) (defScope s_law_history) dV_law_history kV_law_history dc_law_history pm_law_history an_law_history cd_law_history ct_law_history), sl_law_history⟩)
    (c_law_history : PySem.W.codeIn K cd_law_history "_law_history" = true)
    (k_law_history : PySem.W.keepIn K (.ref f_law_history) = true)
    (e_law_history : dV_law_history = .none)
    (a_of_word : PySem.W.nsIn K mainGlobals "of_word" = some (some (.ref f_of_word)))
    (l_of_word : K.lookup f_of_word = some ⟨oc_of_word, od_of_word, .func (PySem.W.fnOf "of_word" "of_word" (defArgs s_of_word) (defBody s_of_word) (defScope s_of_word) dV_of_word kV_of_word dc_of_word pm_of_word an_of_word cd_of_word ct_of_word), sl_of_word⟩)
    (c_of_word : PySem.W.codeIn K cd_of_word "of_word" = true)
    (k_of_word : PySem.W.keepIn K (.ref f_of_word) = true)
    (e_of_word : dV_of_word = .none)
    (a_go_as_time : PySem.W.nsIn K mainGlobals "go_as_time" = some (some (.ref f_go_as_time)))
    (l_go_as_time : K.lookup f_go_as_time = some ⟨oc_go_as_time, od_go_as_time, .func (PySem.W.fnOf "go_as_time" "go_as_time" (defArgs s_go_as_time) (defBody s_go_as_time) (defScope s_go_as_time) dV_go_as_time kV_go_as_time dc_go_as_time pm_go_as_time an_go_as_time cd_go_as_time ct_go_as_time), sl_go_as_time⟩)
    (c_go_as_time : PySem.W.codeIn K cd_go_as_time "go_as_time" = true)
    (k_go_as_time : PySem.W.keepIn K (.ref f_go_as_time) = true)
    (e_go_as_time : dV_go_as_time = .none)
    (a_newest_below : PySem.W.nsIn K mainGlobals "newest_below" = some (some (.ref f_newest_below)))
    (l_newest_below : K.lookup f_newest_below = some ⟨oc_newest_below, od_newest_below, .func (PySem.W.fnOf "newest_below" "newest_below" (defArgs s_newest_below) (defBody s_newest_below) (defScope s_newest_below) dV_newest_below kV_newest_below dc_newest_below pm_newest_below an_newest_below cd_newest_below ct_newest_below), sl_newest_below⟩)
    (c_newest_below : PySem.W.codeIn K cd_newest_below "newest_below" = true)
    (k_newest_below : PySem.W.keepIn K (.ref f_newest_below) = true)
    (e_newest_below : dV_newest_below = .none)
    (a_formed : PySem.W.nsIn K mainGlobals "formed" = some (some (.ref f_formed)))
    (l_formed : K.lookup f_formed = some ⟨oc_formed, od_formed, .func (PySem.W.fnOf "formed" "formed" (defArgs s_formed) (defBody s_formed) (defScope s_formed) dV_formed kV_formed dc_formed pm_formed an_formed cd_formed ct_formed), sl_formed⟩)
    (c_formed : PySem.W.codeIn K cd_formed "formed" = true)
    (k_formed : PySem.W.keepIn K (.ref f_formed) = true)
    (e_formed : dV_formed = .none)
    (a_fields_then : PySem.W.nsIn K mainGlobals "fields_then" = some (some (.ref f_fields_then)))
    (l_fields_then : K.lookup f_fields_then = some ⟨oc_fields_then, od_fields_then, .func (PySem.W.fnOf "fields_then" "fields_then" (defArgs s_fields_then) (defBody s_fields_then) (defScope s_fields_then) dV_fields_then kV_fields_then dc_fields_then pm_fields_then an_fields_then cd_fields_then ct_fields_then), sl_fields_then⟩)
    (c_fields_then : PySem.W.codeIn K cd_fields_then "fields_then" = true)
    (k_fields_then : PySem.W.keepIn K (.ref f_fields_then) = true)
    (e_fields_then : dV_fields_then = .none)
    (a_reading_fits : PySem.W.nsIn K mainGlobals "reading_fits" = some (some (.ref f_reading_fits)))
    (l_reading_fits : K.lookup f_reading_fits = some ⟨oc_reading_fits, od_reading_fits, .func (PySem.W.fnOf "reading_fits" "reading_fits" (defArgs s_reading_fits) (defBody s_reading_fits) (defScope s_reading_fits) dV_reading_fits kV_reading_fits dc_reading_fits pm_reading_fits an_reading_fits cd_reading_fits ct_reading_fits), sl_reading_fits⟩)
    (c_reading_fits : PySem.W.codeIn K cd_reading_fits "reading_fits" = true)
    (k_reading_fits : PySem.W.keepIn K (.ref f_reading_fits) = true)
    (e_reading_fits : dV_reading_fits = .none)
    (a_is_key : PySem.W.nsIn K mainGlobals "is_key" = some (some (.ref f_is_key)))
    (l_is_key : K.lookup f_is_key = some ⟨oc_is_key, od_is_key, .func (PySem.W.fnOf "is_key" "is_key" (defArgs s_is_key) (defBody s_is_key) (defScope s_is_key) dV_is_key kV_is_key dc_is_key pm_is_key an_is_key cd_is_key ct_is_key), sl_is_key⟩)
    (c_is_key : PySem.W.codeIn K cd_is_key "is_key" = true)
    (k_is_key : PySem.W.keepIn K (.ref f_is_key) = true)
    (e_is_key : dV_is_key = .none)
    (a_is_whole : PySem.W.nsIn K mainGlobals "is_whole" = some (some (.ref f_is_whole)))
    (l_is_whole : K.lookup f_is_whole = some ⟨oc_is_whole, od_is_whole, .func (PySem.W.fnOf "is_whole" "is_whole" (defArgs s_is_whole) (defBody s_is_whole) (defScope s_is_whole) dV_is_whole kV_is_whole dc_is_whole pm_is_whole an_is_whole cd_is_whole ct_is_whole), sl_is_whole⟩)
    (c_is_whole : PySem.W.codeIn K cd_is_whole "is_whole" = true)
    (k_is_whole : PySem.W.keepIn K (.ref f_is_whole) = true)
    (e_is_whole : dV_is_whole = .none)
    (a_is_worth : PySem.W.nsIn K mainGlobals "is_worth" = some (some (.ref f_is_worth)))
    (l_is_worth : K.lookup f_is_worth = some ⟨oc_is_worth, od_is_worth, .func (PySem.W.fnOf "is_worth" "is_worth" (defArgs s_is_worth) (defBody s_is_worth) (defScope s_is_worth) dV_is_worth kV_is_worth dc_is_worth pm_is_worth an_is_worth cd_is_worth ct_is_worth), sl_is_worth⟩)
    (c_is_worth : PySem.W.codeIn K cd_is_worth "is_worth" = true)
    (k_is_worth : PySem.W.keepIn K (.ref f_is_worth) = true)
    (e_is_worth : dV_is_worth = .none)
    (a_are_pairs : PySem.W.nsIn K mainGlobals "are_pairs" = some (some (.ref f_are_pairs)))
    (l_are_pairs : K.lookup f_are_pairs = some ⟨oc_are_pairs, od_are_pairs, .func (PySem.W.fnOf "are_pairs" "are_pairs" (defArgs s_are_pairs) (defBody s_are_pairs) (defScope s_are_pairs) dV_are_pairs kV_are_pairs dc_are_pairs pm_are_pairs an_are_pairs cd_are_pairs ct_are_pairs), sl_are_pairs⟩)
    (c_are_pairs : PySem.W.codeIn K cd_are_pairs "are_pairs" = true)
    (k_are_pairs : PySem.W.keepIn K (.ref f_are_pairs) = true)
    (e_are_pairs : dV_are_pairs = .none)
    (a_is_stamp : PySem.W.nsIn K mainGlobals "is_stamp" = some (some (.ref f_is_stamp)))
    (l_is_stamp : K.lookup f_is_stamp = some ⟨oc_is_stamp, od_is_stamp, .func (PySem.W.fnOf "is_stamp" "is_stamp" (defArgs s_is_stamp) (defBody s_is_stamp) (defScope s_is_stamp) dV_is_stamp kV_is_stamp dc_is_stamp pm_is_stamp an_is_stamp cd_is_stamp ct_is_stamp), sl_is_stamp⟩)
    (c_is_stamp : PySem.W.codeIn K cd_is_stamp "is_stamp" = true)
    (k_is_stamp : PySem.W.keepIn K (.ref f_is_stamp) = true)
    (e_is_stamp : dV_is_stamp = .none)
    (a_is_dealing : PySem.W.nsIn K mainGlobals "is_dealing" = some (some (.ref f_is_dealing)))
    (l_is_dealing : K.lookup f_is_dealing = some ⟨oc_is_dealing, od_is_dealing, .func (PySem.W.fnOf "is_dealing" "is_dealing" (defArgs s_is_dealing) (defBody s_is_dealing) (defScope s_is_dealing) dV_is_dealing kV_is_dealing dc_is_dealing pm_is_dealing an_is_dealing cd_is_dealing ct_is_dealing), sl_is_dealing⟩)
    (c_is_dealing : PySem.W.codeIn K cd_is_dealing "is_dealing" = true)
    (k_is_dealing : PySem.W.keepIn K (.ref f_is_dealing) = true)
    (e_is_dealing : dV_is_dealing = .none)
    (a_is_form : PySem.W.nsIn K mainGlobals "is_form" = some (some (.ref f_is_form)))
    (l_is_form : K.lookup f_is_form = some ⟨oc_is_form, od_is_form, .func (PySem.W.fnOf "is_form" "is_form" (defArgs s_is_form) (defBody s_is_form) (defScope s_is_form) dV_is_form kV_is_form dc_is_form pm_is_form an_is_form cd_is_form ct_is_form), sl_is_form⟩)
    (c_is_form : PySem.W.codeIn K cd_is_form "is_form" = true)
    (k_is_form : PySem.W.keepIn K (.ref f_is_form) = true)
    (e_is_form : dV_is_form = .none)
    (a_is_reading : PySem.W.nsIn K mainGlobals "is_reading" = some (some (.ref f_is_reading)))
    (l_is_reading : K.lookup f_is_reading = some ⟨oc_is_reading, od_is_reading, .func (PySem.W.fnOf "is_reading" "is_reading" (defArgs s_is_reading) (defBody s_is_reading) (defScope s_is_reading) dV_is_reading kV_is_reading dc_is_reading pm_is_reading an_is_reading cd_is_reading ct_is_reading), sl_is_reading⟩)
    (c_is_reading : PySem.W.codeIn K cd_is_reading "is_reading" = true)
    (k_is_reading : PySem.W.keepIn K (.ref f_is_reading) = true)
    (e_is_reading : dV_is_reading = .none)
    (a_is_told : PySem.W.nsIn K mainGlobals "is_told" = some (some (.ref f_is_told)))
    (l_is_told : K.lookup f_is_told = some ⟨oc_is_told, od_is_told, .func (PySem.W.fnOf "is_told" "is_told" (defArgs s_is_told) (defBody s_is_told) (defScope s_is_told) dV_is_told kV_is_told dc_is_told pm_is_told an_is_told cd_is_told ct_is_told), sl_is_told⟩)
    (c_is_told : PySem.W.codeIn K cd_is_told "is_told" = true)
    (k_is_told : PySem.W.keepIn K (.ref f_is_told) = true)
    (e_is_told : dV_is_told = .none)
    (a_reads_fit : PySem.W.nsIn K mainGlobals "reads_fit" = some (some (.ref f_reads_fit)))
    (l_reads_fit : K.lookup f_reads_fit = some ⟨oc_reads_fit, od_reads_fit, .func (PySem.W.fnOf "reads_fit" "reads_fit" (defArgs s_reads_fit) (defBody s_reads_fit) (defScope s_reads_fit) dV_reads_fit kV_reads_fit dc_reads_fit pm_reads_fit an_reads_fit cd_reads_fit ct_reads_fit), sl_reads_fit⟩)
    (c_reads_fit : PySem.W.codeIn K cd_reads_fit "reads_fit" = true)
    (k_reads_fit : PySem.W.keepIn K (.ref f_reads_fit) = true)
    (e_reads_fit : dV_reads_fit = .none)
    (a_is_ordered : PySem.W.nsIn K mainGlobals "is_ordered" = some (some (.ref f_is_ordered)))
    (l_is_ordered : K.lookup f_is_ordered = some ⟨oc_is_ordered, od_is_ordered, .func (PySem.W.fnOf "is_ordered" "is_ordered" (defArgs s_is_ordered) (defBody s_is_ordered) (defScope s_is_ordered) dV_is_ordered kV_is_ordered dc_is_ordered pm_is_ordered an_is_ordered cd_is_ordered ct_is_ordered), sl_is_ordered⟩)
    (c_is_ordered : PySem.W.codeIn K cd_is_ordered "is_ordered" = true)
    (k_is_ordered : PySem.W.keepIn K (.ref f_is_ordered) = true)
    (e_is_ordered : dV_is_ordered = .none)
    (a_law_fixed_right : PySem.W.nsIn K mainGlobals "_law_fixed_right" = some (some (.ref f_law_fixed_right)))
    (l_law_fixed_right : K.lookup f_law_fixed_right = some ⟨oc_law_fixed_right, od_law_fixed_right, .func (PySem.W.fnOf "_law_fixed_right" "_law_fixed_right" (defArgs s_law_fixed_right) (defBody s_law_fixed_right) (defScope s_law_fixed_right) dV_law_fixed_right kV_law_fixed_right dc_law_fixed_right pm_law_fixed_right an_law_fixed_right cd_law_fixed_right ct_law_fixed_right), sl_law_fixed_right⟩)
    (c_law_fixed_right : PySem.W.codeIn K cd_law_fixed_right "_law_fixed_right" = true)
    (k_law_fixed_right : PySem.W.keepIn K (.ref f_law_fixed_right) = true)
    (e_law_fixed_right : dV_law_fixed_right = .none)
    (a_law_bent_deal : PySem.W.nsIn K mainGlobals "_law_bent_deal" = some (some (.ref f_law_bent_deal)))
    (l_law_bent_deal : K.lookup f_law_bent_deal = some ⟨oc_law_bent_deal, od_law_bent_deal, .func (PySem.W.fnOf "_law_bent_deal" "_law_bent_deal" (defArgs s_law_bent_deal) (defBody s_law_bent_deal) (defScope s_law_bent_deal) dV_law_bent_deal kV_law_bent_deal dc_law_bent_deal pm_law_bent_deal an_law_bent_deal cd_law_bent_deal ct_law_bent_deal), sl_law_bent_deal⟩)
    (c_law_bent_deal : PySem.W.codeIn K cd_law_bent_deal "_law_bent_deal" = true)
    (k_law_bent_deal : PySem.W.keepIn K (.ref f_law_bent_deal) = true)
    (e_law_bent_deal : dV_law_bent_deal = .none)
    (a_law_bent : PySem.W.nsIn K mainGlobals "_law_bent" = some (some (.ref f_law_bent)))
    (l_law_bent : K.lookup f_law_bent = some ⟨oc_law_bent, od_law_bent, .func (PySem.W.fnOf "_law_bent" "_law_bent" (defArgs s_law_bent) (defBody s_law_bent) (defScope s_law_bent) dV_law_bent kV_law_bent dc_law_bent pm_law_bent an_law_bent cd_law_bent ct_law_bent), sl_law_bent⟩)
    (c_law_bent : PySem.W.codeIn K cd_law_bent "_law_bent" = true)
    (k_law_bent : PySem.W.keepIn K (.ref f_law_bent) = true)
    (e_law_bent : dV_law_bent = .none)
    (a_law_reading_fits : PySem.W.nsIn K mainGlobals "_law_reading_fits" = some (some (.ref f_law_reading_fits)))
    (l_law_reading_fits : K.lookup f_law_reading_fits = some ⟨oc_law_reading_fits, od_law_reading_fits, .func (PySem.W.fnOf "_law_reading_fits" "_law_reading_fits" (defArgs s_law_reading_fits) (defBody s_law_reading_fits) (defScope s_law_reading_fits) dV_law_reading_fits kV_law_reading_fits dc_law_reading_fits pm_law_reading_fits an_law_reading_fits cd_law_reading_fits ct_law_reading_fits), sl_law_reading_fits⟩)
    (c_law_reading_fits : PySem.W.codeIn K cd_law_reading_fits "_law_reading_fits" = true)
    (k_law_reading_fits : PySem.W.keepIn K (.ref f_law_reading_fits) = true)
    (e_law_reading_fits : dV_law_reading_fits = .none)
    (a_law_is_key : PySem.W.nsIn K mainGlobals "_law_is_key" = some (some (.ref f_law_is_key)))
    (l_law_is_key : K.lookup f_law_is_key = some ⟨oc_law_is_key, od_law_is_key, .func (PySem.W.fnOf "_law_is_key" "_law_is_key" (defArgs s_law_is_key) (defBody s_law_is_key) (defScope s_law_is_key) dV_law_is_key kV_law_is_key dc_law_is_key pm_law_is_key an_law_is_key cd_law_is_key ct_law_is_key), sl_law_is_key⟩)
    (c_law_is_key : PySem.W.codeIn K cd_law_is_key "_law_is_key" = true)
    (k_law_is_key : PySem.W.keepIn K (.ref f_law_is_key) = true)
    (e_law_is_key : dV_law_is_key = .none)
    (a_law_whole : PySem.W.nsIn K mainGlobals "_law_whole" = some (some (.ref f_law_whole)))
    (l_law_whole : K.lookup f_law_whole = some ⟨oc_law_whole, od_law_whole, .func (PySem.W.fnOf "_law_whole" "_law_whole" (defArgs s_law_whole) (defBody s_law_whole) (defScope s_law_whole) dV_law_whole kV_law_whole dc_law_whole pm_law_whole an_law_whole cd_law_whole ct_law_whole), sl_law_whole⟩)
    (c_law_whole : PySem.W.codeIn K cd_law_whole "_law_whole" = true)
    (k_law_whole : PySem.W.keepIn K (.ref f_law_whole) = true)
    (e_law_whole : dV_law_whole = .none)
    (a_law_is_worth : PySem.W.nsIn K mainGlobals "_law_is_worth" = some (some (.ref f_law_is_worth)))
    (l_law_is_worth : K.lookup f_law_is_worth = some ⟨oc_law_is_worth, od_law_is_worth, .func (PySem.W.fnOf "_law_is_worth" "_law_is_worth" (defArgs s_law_is_worth) (defBody s_law_is_worth) (defScope s_law_is_worth) dV_law_is_worth kV_law_is_worth dc_law_is_worth pm_law_is_worth an_law_is_worth cd_law_is_worth ct_law_is_worth), sl_law_is_worth⟩)
    (c_law_is_worth : PySem.W.codeIn K cd_law_is_worth "_law_is_worth" = true)
    (k_law_is_worth : PySem.W.keepIn K (.ref f_law_is_worth) = true)
    (e_law_is_worth : dV_law_is_worth = .none)
    (a_law_are_pairs : PySem.W.nsIn K mainGlobals "_law_are_pairs" = some (some (.ref f_law_are_pairs)))
    (l_law_are_pairs : K.lookup f_law_are_pairs = some ⟨oc_law_are_pairs, od_law_are_pairs, .func (PySem.W.fnOf "_law_are_pairs" "_law_are_pairs" (defArgs s_law_are_pairs) (defBody s_law_are_pairs) (defScope s_law_are_pairs) dV_law_are_pairs kV_law_are_pairs dc_law_are_pairs pm_law_are_pairs an_law_are_pairs cd_law_are_pairs ct_law_are_pairs), sl_law_are_pairs⟩)
    (c_law_are_pairs : PySem.W.codeIn K cd_law_are_pairs "_law_are_pairs" = true)
    (k_law_are_pairs : PySem.W.keepIn K (.ref f_law_are_pairs) = true)
    (e_law_are_pairs : dV_law_are_pairs = .none)
    (a_law_is_stamp : PySem.W.nsIn K mainGlobals "_law_is_stamp" = some (some (.ref f_law_is_stamp)))
    (l_law_is_stamp : K.lookup f_law_is_stamp = some ⟨oc_law_is_stamp, od_law_is_stamp, .func (PySem.W.fnOf "_law_is_stamp" "_law_is_stamp" (defArgs s_law_is_stamp) (defBody s_law_is_stamp) (defScope s_law_is_stamp) dV_law_is_stamp kV_law_is_stamp dc_law_is_stamp pm_law_is_stamp an_law_is_stamp cd_law_is_stamp ct_law_is_stamp), sl_law_is_stamp⟩)
    (c_law_is_stamp : PySem.W.codeIn K cd_law_is_stamp "_law_is_stamp" = true)
    (k_law_is_stamp : PySem.W.keepIn K (.ref f_law_is_stamp) = true)
    (e_law_is_stamp : dV_law_is_stamp = .none)
    (a_law_is_told : PySem.W.nsIn K mainGlobals "_law_is_told" = some (some (.ref f_law_is_told)))
    (l_law_is_told : K.lookup f_law_is_told = some ⟨oc_law_is_told, od_law_is_told, .func (PySem.W.fnOf "_law_is_told" "_law_is_told" (defArgs s_law_is_told) (defBody s_law_is_told) (defScope s_law_is_told) dV_law_is_told kV_law_is_told dc_law_is_told pm_law_is_told an_law_is_told cd_law_is_told ct_law_is_told), sl_law_is_told⟩)
    (c_law_is_told : PySem.W.codeIn K cd_law_is_told "_law_is_told" = true)
    (k_law_is_told : PySem.W.keepIn K (.ref f_law_is_told) = true)
    (e_law_is_told : dV_law_is_told = .none)
    (a_law_is_ordered : PySem.W.nsIn K mainGlobals "_law_is_ordered" = some (some (.ref f_law_is_ordered)))
    (l_law_is_ordered : K.lookup f_law_is_ordered = some ⟨oc_law_is_ordered, od_law_is_ordered, .func (PySem.W.fnOf "_law_is_ordered" "_law_is_ordered" (defArgs s_law_is_ordered) (defBody s_law_is_ordered) (defScope s_law_is_ordered) dV_law_is_ordered kV_law_is_ordered dc_law_is_ordered pm_law_is_ordered an_law_is_ordered cd_law_is_ordered ct_law_is_ordered), sl_law_is_ordered⟩)
    (c_law_is_ordered : PySem.W.codeIn K cd_law_is_ordered "_law_is_ordered" = true)
    (k_law_is_ordered : PySem.W.keepIn K (.ref f_law_is_ordered) = true)
    (e_law_is_ordered : dV_law_is_ordered = .none)
    (a_law_right : PySem.W.nsIn K mainGlobals "_law_right" = some (some (.ref f_law_right)))
    (l_law_right : K.lookup f_law_right = some ⟨oc_law_right, od_law_right, .func (PySem.W.fnOf "_law_right" "_law_right" (defArgs s_law_right) (defBody s_law_right) (defScope s_law_right) dV_law_right kV_law_right dc_law_right pm_law_right an_law_right cd_law_right ct_law_right), sl_law_right⟩)
    (c_law_right : PySem.W.codeIn K cd_law_right "_law_right" = true)
    (k_law_right : PySem.W.keepIn K (.ref f_law_right) = true)
    (e_law_right : dV_law_right = .none)
    (a_law : PySem.W.nsIn K mainGlobals "law" = some (some (.ref f_law)))
    (l_law : K.lookup f_law = some ⟨oc_law, od_law, .func (PySem.W.fnOf "law" "law" (defArgs s_law) (defBody s_law) (defScope s_law) dV_law kV_law dc_law pm_law an_law cd_law ct_law), sl_law⟩)
    (c_law : PySem.W.codeIn K cd_law "law" = true)
    (k_law : PySem.W.keepIn K (.ref f_law) = true)
    (e_law : dV_law = .none)
    (dk_LOOKS : DicF K w.params o_LOOKS [("dealing", .ref f_is_dealing), ("form", .ref f_is_form), ("read", .ref f_is_reading), ("now", .ref f_is_reading)])
    (kcd_newest_below : cd_newest_below = .ref K_newest_below)
    (klk_newest_below : K.lookup K_newest_below = some ⟨la_newest_below, lb_newest_below, .fields vs_newest_below, ld_newest_below⟩)
    (kvs_newest_below : vs_newest_below[11]? = some (.ref P_newest_below))
    (nl_newest_below : K.lookup P_newest_below = none)
    (rc_newest_below : ∃ d', (recsOf q9).find? (fun e => e.name == ("newest_below" : Str)) = some d')
    (kcd_reading_fits : cd_reading_fits = .ref K_reading_fits)
    (klk_reading_fits : K.lookup K_reading_fits = some ⟨la_reading_fits, lb_reading_fits, .fields vs_reading_fits, ld_reading_fits⟩)
    (kvs_reading_fits : vs_reading_fits[11]? = some (.ref P_reading_fits))
    (nl_reading_fits : K.lookup P_reading_fits = none)
    (rc_reading_fits : ∃ d', (recsOf q9).find? (fun e => e.name == ("reading_fits" : Str)) = some d')
    (kcd_reads_fit : cd_reads_fit = .ref K_reads_fit)
    (klk_reads_fit : K.lookup K_reads_fit = some ⟨la_reads_fit, lb_reads_fit, .fields vs_reads_fit, ld_reads_fit⟩)
    (kvs_reads_fit : vs_reads_fit[11]? = some (.ref P_reads_fit))
    (nl_reads_fit : K.lookup P_reads_fit = none)
    (rc_reads_fit : ∃ d', (recsOf q9).find? (fun e => e.name == ("reads_fit" : Str)) = some d')
    (np_newest_below_reading_fits : P_newest_below ≠ P_reading_fits)
    (np_newest_below_reads_fit : P_newest_below ≠ P_reads_fit)
    (np_reading_fits_reads_fit : P_reading_fits ≠ P_reads_fit)
    : ∃ (fd : FuncData) (ts : List (Str × Addr × Addr)) (sp : Sp), (∀ t ∈ ts, (∃ d', (recsOf q9).find? (fun e => e.name == t.1) = some d') ∧ PySem.W.tabIn K t.1 = some t.2 ∧ K.lookup t.2.2 = none) ∧ (∀ (s : Shared) (u : Value), BindsTo s fd ⟨[u], []⟩ [("_law_script", u)]) ∧ (∀ (H : Hp) (a : Addr) (ns : List Int), ns.length ≤ 63 → (∀ t ∈ ts, H t.2.2 = some (.tbl #[])) → (∀ b, H b = none ∨ b ∈ ts.map (·.2.2) ∨ ∃ o xs, H b = some (.frz o (.lst xs))) → SqL K H a (ns.map V.int) → sp [.ref a] H (fun v _ => v = .bl true) fun _ _ _ => False) ∧ ∀ base : Heap, K.In base → base.Ns mainGlobals mg → (∀ t ∈ ts, TabB base mg t.2.1 t.2.2) → FnG l.prog w K mg base 8 fa fd ["_law_script"] sp := by
  have q0 : f_law = fa := by
    have q := (PySem.W.mg_of X G a_law).symm.trans hfa
    injection q with q; injection q
  subst q0
  have tb_newest_below : PySem.W.tabIn K "newest_below" = some (K_newest_below, P_newest_below) := tabIn_of a_newest_below l_newest_below kcd_newest_below klk_newest_below kvs_newest_below
  have tb_reading_fits : PySem.W.tabIn K "reading_fits" = some (K_reading_fits, P_reading_fits) := tabIn_of a_reading_fits l_reading_fits kcd_reading_fits klk_reading_fits kvs_reading_fits
  have tb_reads_fit : PySem.W.tabIn K "reads_fit" = some (K_reads_fit, P_reads_fit) := tabIn_of a_reads_fit l_reads_fit kcd_reads_fit klk_reads_fit kvs_reads_fit
  subst e_law_begun
  subst e_law_take
  subst e_law_worth_of
  subst e_law_pairs
  subst e_law_made
  subst e_law_formed
  subst e_law_fields
  subst e_law_reads
  subst e_law_history
  subst e_of_word
  subst e_go_as_time
  subst e_newest_below
  subst e_formed
  subst e_fields_then
  subst e_reading_fits
  subst e_is_key
  subst e_is_whole
  subst e_is_worth
  subst e_are_pairs
  subst e_is_stamp
  subst e_is_dealing
  subst e_is_form
  subst e_is_reading
  subst e_is_told
  subst e_reads_fit
  subst e_is_ordered
  subst e_law_fixed_right
  subst e_law_bent_deal
  subst e_law_bent
  subst e_law_reading_fits
  subst e_law_is_key
  subst e_law_whole
  subst e_law_is_worth
  subst e_law_are_pairs
  subst e_law_is_stamp
  subst e_law_is_told
  subst e_law_is_ordered
  subst e_law_right
  subst e_law
  let e : Env := { P_newest_below := P_newest_below, K_newest_below := K_newest_below, P_reading_fits := P_reading_fits, K_reading_fits := K_reading_fits, P_reads_fit := P_reads_fit, K_reads_fit := K_reads_fit, F_is_dealing := f_is_dealing, F_is_form := f_is_form, F_is_reading := f_is_reading, ok := AttrOk K, ic := IsiOk K }
  have gd : e.Good := ⟨trivial, np_newest_below_reading_fits, np_newest_below_reads_fit, np_reading_fits_reads_fit⟩
  obtain ⟨dvs_law_begun, hdd_law_begun, F_law_begun⟩ := fun_nd l_law_begun c_law_begun k_law_begun
  obtain ⟨dvs_law_take, hdd_law_take, F_law_take⟩ := fun_nd l_law_take c_law_take k_law_take
  obtain ⟨dvs_law_worth_of, hdd_law_worth_of, F_law_worth_of⟩ := fun_nd l_law_worth_of c_law_worth_of k_law_worth_of
  obtain ⟨dvs_law_pairs, hdd_law_pairs, F_law_pairs⟩ := fun_nd l_law_pairs c_law_pairs k_law_pairs
  obtain ⟨dvs_law_made, hdd_law_made, F_law_made⟩ := fun_nd l_law_made c_law_made k_law_made
  obtain ⟨dvs_law_formed, hdd_law_formed, F_law_formed⟩ := fun_nd l_law_formed c_law_formed k_law_formed
  obtain ⟨dvs_law_fields, hdd_law_fields, F_law_fields⟩ := fun_nd l_law_fields c_law_fields k_law_fields
  obtain ⟨dvs_law_reads, hdd_law_reads, F_law_reads⟩ := fun_nd l_law_reads c_law_reads k_law_reads
  obtain ⟨dvs_law_history, hdd_law_history, F_law_history⟩ := fun_nd l_law_history c_law_history k_law_history
  obtain ⟨dvs_of_word, hdd_of_word, F_of_word⟩ := fun_nd l_of_word c_of_word k_of_word
  obtain ⟨dvs_go_as_time, hdd_go_as_time, F_go_as_time⟩ := fun_nd l_go_as_time c_go_as_time k_go_as_time
  obtain ⟨dvs_newest_below, hdd_newest_below, F_newest_below⟩ := fun_nd l_newest_below c_newest_below k_newest_below
  obtain ⟨dvs_formed, hdd_formed, F_formed⟩ := fun_nd l_formed c_formed k_formed
  obtain ⟨dvs_fields_then, hdd_fields_then, F_fields_then⟩ := fun_nd l_fields_then c_fields_then k_fields_then
  obtain ⟨dvs_reading_fits, hdd_reading_fits, F_reading_fits⟩ := fun_nd l_reading_fits c_reading_fits k_reading_fits
  obtain ⟨dvs_is_key, hdd_is_key, F_is_key⟩ := fun_nd l_is_key c_is_key k_is_key
  obtain ⟨dvs_is_whole, hdd_is_whole, F_is_whole⟩ := fun_nd l_is_whole c_is_whole k_is_whole
  obtain ⟨dvs_is_worth, hdd_is_worth, F_is_worth⟩ := fun_nd l_is_worth c_is_worth k_is_worth
  obtain ⟨dvs_are_pairs, hdd_are_pairs, F_are_pairs⟩ := fun_nd l_are_pairs c_are_pairs k_are_pairs
  obtain ⟨dvs_is_stamp, hdd_is_stamp, F_is_stamp⟩ := fun_nd l_is_stamp c_is_stamp k_is_stamp
  obtain ⟨dvs_is_dealing, hdd_is_dealing, F_is_dealing⟩ := fun_nd l_is_dealing c_is_dealing k_is_dealing
  obtain ⟨dvs_is_form, hdd_is_form, F_is_form⟩ := fun_nd l_is_form c_is_form k_is_form
  obtain ⟨dvs_is_reading, hdd_is_reading, F_is_reading⟩ := fun_nd l_is_reading c_is_reading k_is_reading
  obtain ⟨dvs_is_told, hdd_is_told, F_is_told⟩ := fun_nd l_is_told c_is_told k_is_told
  obtain ⟨dvs_reads_fit, hdd_reads_fit, F_reads_fit⟩ := fun_nd l_reads_fit c_reads_fit k_reads_fit
  obtain ⟨dvs_is_ordered, hdd_is_ordered, F_is_ordered⟩ := fun_nd l_is_ordered c_is_ordered k_is_ordered
  obtain ⟨dvs_law_fixed_right, hdd_law_fixed_right, F_law_fixed_right⟩ := fun_nd l_law_fixed_right c_law_fixed_right k_law_fixed_right
  obtain ⟨dvs_law_bent_deal, hdd_law_bent_deal, F_law_bent_deal⟩ := fun_nd l_law_bent_deal c_law_bent_deal k_law_bent_deal
  obtain ⟨dvs_law_bent, hdd_law_bent, F_law_bent⟩ := fun_nd l_law_bent c_law_bent k_law_bent
  obtain ⟨dvs_law_reading_fits, hdd_law_reading_fits, F_law_reading_fits⟩ := fun_nd l_law_reading_fits c_law_reading_fits k_law_reading_fits
  obtain ⟨dvs_law_is_key, hdd_law_is_key, F_law_is_key⟩ := fun_nd l_law_is_key c_law_is_key k_law_is_key
  obtain ⟨dvs_law_whole, hdd_law_whole, F_law_whole⟩ := fun_nd l_law_whole c_law_whole k_law_whole
  obtain ⟨dvs_law_is_worth, hdd_law_is_worth, F_law_is_worth⟩ := fun_nd l_law_is_worth c_law_is_worth k_law_is_worth
  obtain ⟨dvs_law_are_pairs, hdd_law_are_pairs, F_law_are_pairs⟩ := fun_nd l_law_are_pairs c_law_are_pairs k_law_are_pairs
  obtain ⟨dvs_law_is_stamp, hdd_law_is_stamp, F_law_is_stamp⟩ := fun_nd l_law_is_stamp c_law_is_stamp k_law_is_stamp
  obtain ⟨dvs_law_is_told, hdd_law_is_told, F_law_is_told⟩ := fun_nd l_law_is_told c_law_is_told k_law_is_told
  obtain ⟨dvs_law_is_ordered, hdd_law_is_ordered, F_law_is_ordered⟩ := fun_nd l_law_is_ordered c_law_is_ordered k_law_is_ordered
  obtain ⟨dvs_law_right, hdd_law_right, F_law_right⟩ := fun_nd l_law_right c_law_right k_law_right
  obtain ⟨dvs_law, hdd_law, F_law⟩ := fun_nd l_law c_law k_law
  have T0 : Txt0 w K mg e := ⟨fun _ _ h => h,
    fun _ _ _ h => h,
    PySem.W.mg_none_of X G z_all,
    PySem.W.mg_none_of X G z_bool,
    PySem.W.mg_none_of X G z_dict,
    PySem.W.mg_none_of X G z_enumerate,
    PySem.W.mg_none_of X G z_int,
    PySem.W.mg_none_of X G z_isinstance,
    PySem.W.mg_none_of X G z_len,
    PySem.W.mg_none_of X G z_list,
    PySem.W.mg_none_of X G z_max,
    PySem.W.mg_none_of X G z_min,
    PySem.W.mg_none_of X G z_range,
    PySem.W.mg_none_of X G z_repr,
    PySem.W.mg_none_of X G z_set,
    PySem.W.mg_none_of X G z_sorted,
    PySem.W.mg_none_of X G z_str,
    PySem.W.mg_none_of X G z_tuple,
    dk_LOOKS.kd (PySem.W.mg_of X G a_LOOKS) l_LOOKS lo_LOOKS,
    PySem.W.mg_of X G a_is_dealing,
    PySem.W.mg_of X G a_is_form,
    PySem.W.mg_of X G a_is_reading,
    t_LETTERS.cf (PySem.W.mg_of X G a_LETTERS),
    t_LONGEST.cf (PySem.W.mg_of X G a_LONGEST),
    t_MOST_FIELDS.cf (PySem.W.mg_of X G a_MOST_FIELDS),
    ⟨f_law_begun, _, dvs_law_begun, hdd_law_begun, F_law_begun, PySem.W.mg_of X G a_law_begun⟩,
    ⟨f_law_take, _, dvs_law_take, hdd_law_take, F_law_take, PySem.W.mg_of X G a_law_take⟩,
    ⟨f_law_worth_of, _, dvs_law_worth_of, hdd_law_worth_of, F_law_worth_of, PySem.W.mg_of X G a_law_worth_of⟩,
    ⟨f_law_pairs, _, dvs_law_pairs, hdd_law_pairs, F_law_pairs, PySem.W.mg_of X G a_law_pairs⟩,
    ⟨f_law_made, _, dvs_law_made, hdd_law_made, F_law_made, PySem.W.mg_of X G a_law_made⟩,
    ⟨f_law_formed, _, dvs_law_formed, hdd_law_formed, F_law_formed, PySem.W.mg_of X G a_law_formed⟩,
    ⟨f_law_fields, _, dvs_law_fields, hdd_law_fields, F_law_fields, PySem.W.mg_of X G a_law_fields⟩,
    ⟨f_law_reads, _, dvs_law_reads, hdd_law_reads, F_law_reads, PySem.W.mg_of X G a_law_reads⟩,
    ⟨f_law_history, _, dvs_law_history, hdd_law_history, F_law_history, PySem.W.mg_of X G a_law_history⟩,
    ⟨f_of_word, _, dvs_of_word, hdd_of_word, F_of_word, PySem.W.mg_of X G a_of_word⟩,
    ⟨f_go_as_time, _, dvs_go_as_time, hdd_go_as_time, F_go_as_time, PySem.W.mg_of X G a_go_as_time⟩,
    ⟨f_newest_below, _, dvs_newest_below, hdd_newest_below, F_newest_below, PySem.W.mg_of X G a_newest_below⟩,
    ⟨f_formed, _, dvs_formed, hdd_formed, F_formed, PySem.W.mg_of X G a_formed⟩,
    ⟨f_fields_then, _, dvs_fields_then, hdd_fields_then, F_fields_then, PySem.W.mg_of X G a_fields_then⟩,
    ⟨f_reading_fits, _, dvs_reading_fits, hdd_reading_fits, F_reading_fits, PySem.W.mg_of X G a_reading_fits⟩,
    ⟨f_is_key, _, dvs_is_key, hdd_is_key, F_is_key, PySem.W.mg_of X G a_is_key⟩,
    ⟨f_is_whole, _, dvs_is_whole, hdd_is_whole, F_is_whole, PySem.W.mg_of X G a_is_whole⟩,
    ⟨f_is_worth, _, dvs_is_worth, hdd_is_worth, F_is_worth, PySem.W.mg_of X G a_is_worth⟩,
    ⟨f_are_pairs, _, dvs_are_pairs, hdd_are_pairs, F_are_pairs, PySem.W.mg_of X G a_are_pairs⟩,
    ⟨f_is_stamp, _, dvs_is_stamp, hdd_is_stamp, F_is_stamp, PySem.W.mg_of X G a_is_stamp⟩,
    ⟨f_is_dealing, _, dvs_is_dealing, hdd_is_dealing, F_is_dealing, PySem.W.mg_of X G a_is_dealing⟩,
    ⟨f_is_form, _, dvs_is_form, hdd_is_form, F_is_form, PySem.W.mg_of X G a_is_form⟩,
    ⟨f_is_reading, _, dvs_is_reading, hdd_is_reading, F_is_reading, PySem.W.mg_of X G a_is_reading⟩,
    ⟨f_is_told, _, dvs_is_told, hdd_is_told, F_is_told, PySem.W.mg_of X G a_is_told⟩,
    ⟨f_reads_fit, _, dvs_reads_fit, hdd_reads_fit, F_reads_fit, PySem.W.mg_of X G a_reads_fit⟩,
    ⟨f_is_ordered, _, dvs_is_ordered, hdd_is_ordered, F_is_ordered, PySem.W.mg_of X G a_is_ordered⟩,
    ⟨f_law_fixed_right, _, dvs_law_fixed_right, hdd_law_fixed_right, F_law_fixed_right, PySem.W.mg_of X G a_law_fixed_right⟩,
    ⟨f_law_bent_deal, _, dvs_law_bent_deal, hdd_law_bent_deal, F_law_bent_deal, PySem.W.mg_of X G a_law_bent_deal⟩,
    ⟨f_law_bent, _, dvs_law_bent, hdd_law_bent, F_law_bent, PySem.W.mg_of X G a_law_bent⟩,
    ⟨f_law_reading_fits, _, dvs_law_reading_fits, hdd_law_reading_fits, F_law_reading_fits, PySem.W.mg_of X G a_law_reading_fits⟩,
    ⟨f_law_is_key, _, dvs_law_is_key, hdd_law_is_key, F_law_is_key, PySem.W.mg_of X G a_law_is_key⟩,
    ⟨f_law_whole, _, dvs_law_whole, hdd_law_whole, F_law_whole, PySem.W.mg_of X G a_law_whole⟩,
    ⟨f_law_is_worth, _, dvs_law_is_worth, hdd_law_is_worth, F_law_is_worth, PySem.W.mg_of X G a_law_is_worth⟩,
    ⟨f_law_are_pairs, _, dvs_law_are_pairs, hdd_law_are_pairs, F_law_are_pairs, PySem.W.mg_of X G a_law_are_pairs⟩,
    ⟨f_law_is_stamp, _, dvs_law_is_stamp, hdd_law_is_stamp, F_law_is_stamp, PySem.W.mg_of X G a_law_is_stamp⟩,
    ⟨f_law_is_told, _, dvs_law_is_told, hdd_law_is_told, F_law_is_told, PySem.W.mg_of X G a_law_is_told⟩,
    ⟨f_law_is_ordered, _, dvs_law_is_ordered, hdd_law_is_ordered, F_law_is_ordered, PySem.W.mg_of X G a_law_is_ordered⟩,
    ⟨f_law_right, _, dvs_law_right, hdd_law_right, F_law_right, PySem.W.mg_of X G a_law_right⟩,
    ⟨f_law, _, dvs_law, hdd_law, F_law, PySem.W.mg_of X G a_law⟩,
    fun f fd oc od osl h1 h2 => code_of_tab X G tb_newest_below h1 h2,
    fun f fd oc od osl h1 h2 => code_of_tab X G tb_reading_fits h1 h2,
    fun f fd oc od osl h1 h2 => code_of_tab X G tb_reads_fit h1 h2⟩
  refine ⟨_, [("newest_below", K_newest_below, P_newest_below), ("reading_fits", K_reading_fits, P_reading_fits), ("reads_fit", K_reads_fit, P_reads_fit)], lawSpT K (tabs e), ?_, ?_, fun H a ns hl hT hO hS => ⟨a, ns, rfl, hl, onlyT_of hT hO, hS, fun _ => rfl⟩, fun base _ _ hB => FnG.imp (ok_law (P := l.prog) (w := w) (base := base) ⟨T0, hB _ (.head _), hB _ (.tail _ (.head _)), hB _ (.tail _ (.tail _ (.head _)))⟩ F_law) (law_liftT (hmain e gd))⟩
  · intro t ht
    rcases List.mem_cons.mp ht with rfl | ht
    · exact ⟨rc_newest_below, tb_newest_below, nl_newest_below⟩
    rcases List.mem_cons.mp ht with rfl | ht
    · exact ⟨rc_reading_fits, tb_reading_fits, nl_reading_fits⟩
    rcases List.mem_cons.mp ht with rfl | ht
    · exact ⟨rc_reads_fit, tb_reads_fit, nl_reads_fit⟩
    cases ht
  · exact fun s v => .of_eq rfl
theorem walk {l : PySem.W.OpenLaw} {q : Program} {loose : List Str} {XP : (Str → Option Value) → Heap → Prop} {YP : World → Heap → Prop} {d : DefRec} {K : Params → PySem.W.Frag} (hn : l.most = some 63) (hdf : d.params.defaults = [])
    (hY : ∀ (w : World) (h : Heap), YP w h → (K w.params).In h)
    (F : ∀ (w : World) (mg : Str → Option Value) (fa : Addr) (h : Heap), (K w.params).In h → h.Ns mainGlobals mg → mg d.name = some (.ref fa) → ∃ (fd : FuncData) (ts : List (Str × Addr × Addr)) (sp : Sp), (∀ t ∈ ts, (∃ d', (recsOf q).find? (fun e => e.name == t.1) = some d') ∧ PySem.W.tabIn (K w.params) t.1 = some t.2 ∧ (K w.params).lookup t.2.2 = none) ∧ (∀ (s : Shared) (u : Value), BindsTo s fd ⟨[u], []⟩ [("_law_script", u)]) ∧ (∀ (H : Hp) (a : Addr) (ns : List Int), ns.length ≤ 63 → (∀ t ∈ ts, H t.2.2 = some (.tbl #[])) → (∀ b, H b = none ∨ b ∈ ts.map (·.2.2) ∨ ∃ o xs, H b = some (.frz o (.lst xs))) → SqL (K w.params) H a (ns.map V.int) → sp [.ref a] H (fun v _ => v = .bl true) fun _ _ _ => False) ∧ ∀ base : Heap, (K w.params).In base → base.Ns mainGlobals mg → (∀ t ∈ ts, TabB base mg t.2.1 t.2.2) → FnG l.prog w (K w.params) mg base 8 fa fd ["_law_script"] sp) :
    PySem.W.WalkO q loose XP YP l.row.toRowW d [] (fun f vs => PySem.call f vs) :=
  walkTT (k := 8) (x := "_law_script") hn hdf ⟨⟨rfl, by decide, by decide⟩, rfl⟩ hY F fun _ _ _ _ _ ⟨_, _, _, _, _, _, _, _, _, _, _, _, z⟩ => z
end P
open PySem PySem.W PyProof.Rows
set_option maxRecDepth 100000 in
set_option maxHeartbeats 0 in
theorem PySem.Challenge.cw_stampedwait_k67_histories_looked_at_holds : PySem.Challenge.rw_stampedwait_k67_histories_looked_at.Holds := by
  w_on; o_law; k_head; (case hw => w_witness2)
  k_fill
  refine P.walk (l := PySem.Challenge.rw_stampedwait_k67_histories_looked_at) rfl rfl (fun w h Y => PySem.W.km_in_of Y) ?F
  case F =>
    intro w mg fa h KX G hmg
    refine' P.all_mk KX G hmg P.main ?z_all ?z_bool ?z_dict ?z_enumerate ?z_int ?z_isinstance ?z_len ?z_list ?z_max ?z_min ?z_range ?z_repr ?z_set ?z_sorted ?z_str ?z_tuple ?a_LETTERS ?t_LETTERS ?a_LONGEST ?t_LONGEST ?a_MOST_FIELDS ?t_MOST_FIELDS ?a_LOOKS ?l_LOOKS ?lo_LOOKS ?a_law_begun ?l_law_begun ?c_law_begun ?k_law_begun ?e_law_begun ?a_law_take ?l_law_take ?c_law_take ?k_law_take ?e_law_take ?a_law_worth_of ?l_law_worth_of ?c_law_worth_of ?k_law_worth_of ?e_law_worth_of ?a_law_pairs ?l_law_pairs ?c_law_pairs ?k_law_pairs ?e_law_pairs ?a_law_made ?l_law_made ?c_law_made ?k_law_made ?e_law_made ?a_law_formed ?l_law_formed ?c_law_formed ?k_law_formed ?e_law_formed ?a_law_fields ?l_law_fields ?c_law_fields ?k_law_fields ?e_law_fields ?a_law_reads ?l_law_reads ?c_law_reads ?k_law_reads ?e_law_reads ?a_law_history ?l_law_history ?c_law_history ?k_law_history ?e_law_history ?a_of_word ?l_of_word ?c_of_word ?k_of_word ?e_of_word ?a_go_as_time ?l_go_as_time ?c_go_as_time ?k_go_as_time ?e_go_as_time ?a_newest_below ?l_newest_below ?c_newest_below ?k_newest_below ?e_newest_below ?a_formed ?l_formed ?c_formed ?k_formed ?e_formed ?a_fields_then ?l_fields_then ?c_fields_then ?k_fields_then ?e_fields_then ?a_reading_fits ?l_reading_fits ?c_reading_fits ?k_reading_fits ?e_reading_fits ?a_is_key ?l_is_key ?c_is_key ?k_is_key ?e_is_key ?a_is_whole ?l_is_whole ?c_is_whole ?k_is_whole ?e_is_whole ?a_is_worth ?l_is_worth ?c_is_worth ?k_is_worth ?e_is_worth ?a_are_pairs ?l_are_pairs ?c_are_pairs ?k_are_pairs ?e_are_pairs ?a_is_stamp ?l_is_stamp ?c_is_stamp ?k_is_stamp ?e_is_stamp ?a_is_dealing ?l_is_dealing ?c_is_dealing ?k_is_dealing ?e_is_dealing ?a_is_form ?l_is_form ?c_is_form ?k_is_form ?e_is_form ?a_is_reading ?l_is_reading ?c_is_reading ?k_is_reading ?e_is_reading ?a_is_told ?l_is_told ?c_is_told ?k_is_told ?e_is_told ?a_reads_fit ?l_reads_fit ?c_reads_fit ?k_reads_fit ?e_reads_fit ?a_is_ordered ?l_is_ordered ?c_is_ordered ?k_is_ordered ?e_is_ordered ?a_law_fixed_right ?l_law_fixed_right ?c_law_fixed_right ?k_law_fixed_right ?e_law_fixed_right ?a_law_bent_deal ?l_law_bent_deal ?c_law_bent_deal ?k_law_bent_deal ?e_law_bent_deal ?a_law_bent ?l_law_bent ?c_law_bent ?k_law_bent ?e_law_bent ?a_law_reading_fits ?l_law_reading_fits ?c_law_reading_fits ?k_law_reading_fits ?e_law_reading_fits ?a_law_is_key ?l_law_is_key ?c_law_is_key ?k_law_is_key ?e_law_is_key ?a_law_whole ?l_law_whole ?c_law_whole ?k_law_whole ?e_law_whole ?a_law_is_worth ?l_law_is_worth ?c_law_is_worth ?k_law_is_worth ?e_law_is_worth ?a_law_are_pairs ?l_law_are_pairs ?c_law_are_pairs ?k_law_are_pairs ?e_law_are_pairs ?a_law_is_stamp ?l_law_is_stamp ?c_law_is_stamp ?k_law_is_stamp ?e_law_is_stamp ?a_law_is_told ?l_law_is_told ?c_law_is_told ?k_law_is_told ?e_law_is_told ?a_law_is_ordered ?l_law_is_ordered ?c_law_is_ordered ?k_law_is_ordered ?e_law_is_ordered ?a_law_right ?l_law_right ?c_law_right ?k_law_right ?e_law_right ?a_law ?l_law ?c_law ?k_law ?e_law ?dk_LOOKS ?kcd_newest_below ?klk_newest_below ?kvs_newest_below ?nl_newest_below ?rc_newest_below ?kcd_reading_fits ?klk_reading_fits ?kvs_reading_fits ?nl_reading_fits ?rc_reading_fits ?kcd_reads_fit ?klk_reads_fit ?kvs_reads_fit ?nl_reads_fit ?rc_reads_fit ?np_newest_below_reading_fits ?np_newest_below_reads_fit ?np_reading_fits_reads_fit
    (case z_all => k_is)
    (case z_bool => k_is)
    (case z_dict => k_is)
    (case z_enumerate => k_is)
    (case z_int => k_is)
    (case z_isinstance => k_is)
    (case z_len => k_is)
    (case z_list => k_is)
    (case z_max => k_is)
    (case z_min => k_is)
    (case z_range => k_is)
    (case z_repr => k_is)
    (case z_set => k_is)
    (case z_sorted => k_is)
    (case z_str => k_is)
    (case z_tuple => k_is)
    (case a_LETTERS => k_is)
    (case t_LETTERS => exact .str)
    (case a_LONGEST => k_is)
    (case t_LONGEST => exact .int)
    (case a_MOST_FIELDS => k_is)
    (case t_MOST_FIELDS => exact .int)
    (case a_LOOKS => k_is)
    (case l_LOOKS => k_is)
    (case lo_LOOKS => decide)
    (case a_law_begun => k_is)
    (case l_law_begun => k_is)
    (case c_law_begun => k_is)
    (case k_law_begun => k_is)
    (case e_law_begun => rfl)
    (case a_law_take => k_is)
    (case l_law_take => k_is)
    (case c_law_take => k_is)
    (case k_law_take => k_is)
    (case e_law_take => rfl)
    (case a_law_worth_of => k_is)
    (case l_law_worth_of => k_is)
    (case c_law_worth_of => k_is)
    (case k_law_worth_of => k_is)
    (case e_law_worth_of => rfl)
    (case a_law_pairs => k_is)
    (case l_law_pairs => k_is)
    (case c_law_pairs => k_is)
    (case k_law_pairs => k_is)
    (case e_law_pairs => rfl)
    (case a_law_made => k_is)
    (case l_law_made => k_is)
    (case c_law_made => k_is)
    (case k_law_made => k_is)
    (case e_law_made => rfl)
    (case a_law_formed => k_is)
    (case l_law_formed => k_is)
    (case c_law_formed => k_is)
    (case k_law_formed => k_is)
    (case e_law_formed => rfl)
    (case a_law_fields => k_is)
    (case l_law_fields => k_is)
    (case c_law_fields => k_is)
    (case k_law_fields => k_is)
    (case e_law_fields => rfl)
    (case a_law_reads => k_is)
    (case l_law_reads => k_is)
    (case c_law_reads => k_is)
    (case k_law_reads => k_is)
    (case e_law_reads => rfl)
    (case a_law_history => k_is)
    (case l_law_history => k_is)
    (case c_law_history => k_is)
    (case k_law_history => k_is)
    (case e_law_history => rfl)
    (case a_of_word => k_is)
    (case l_of_word => k_is)
    (case c_of_word => k_is)
    (case k_of_word => k_is)
    (case e_of_word => rfl)
    (case a_go_as_time => k_is)
    (case l_go_as_time => k_is)
    (case c_go_as_time => k_is)
    (case k_go_as_time => k_is)
    (case e_go_as_time => rfl)
    (case a_newest_below => k_is)
    (case l_newest_below => k_is)
    (case c_newest_below => k_is)
    (case k_newest_below => k_is)
    (case e_newest_below => rfl)
    (case a_formed => k_is)
    (case l_formed => k_is)
    (case c_formed => k_is)
    (case k_formed => k_is)
    (case e_formed => rfl)
    (case a_fields_then => k_is)
    (case l_fields_then => k_is)
    (case c_fields_then => k_is)
    (case k_fields_then => k_is)
    (case e_fields_then => rfl)
    (case a_reading_fits => k_is)
    (case l_reading_fits => k_is)
    (case c_reading_fits => k_is)
    (case k_reading_fits => k_is)
    (case e_reading_fits => rfl)
    (case a_is_key => k_is)
    (case l_is_key => k_is)
    (case c_is_key => k_is)
    (case k_is_key => k_is)
    (case e_is_key => rfl)
    (case a_is_whole => k_is)
    (case l_is_whole => k_is)
    (case c_is_whole => k_is)
    (case k_is_whole => k_is)
    (case e_is_whole => rfl)
    (case a_is_worth => k_is)
    (case l_is_worth => k_is)
    (case c_is_worth => k_is)
    (case k_is_worth => k_is)
    (case e_is_worth => rfl)
    (case a_are_pairs => k_is)
    (case l_are_pairs => k_is)
    (case c_are_pairs => k_is)
    (case k_are_pairs => k_is)
    (case e_are_pairs => rfl)
    (case a_is_stamp => k_is)
    (case l_is_stamp => k_is)
    (case c_is_stamp => k_is)
    (case k_is_stamp => k_is)
    (case e_is_stamp => rfl)
    (case a_is_dealing => k_is)
    (case l_is_dealing => k_is)
    (case c_is_dealing => k_is)
    (case k_is_dealing => k_is)
    (case e_is_dealing => rfl)
    (case a_is_form => k_is)
    (case l_is_form => k_is)
    (case c_is_form => k_is)
    (case k_is_form => k_is)
    (case e_is_form => rfl)
    (case a_is_reading => k_is)
    (case l_is_reading => k_is)
    (case c_is_reading => k_is)
    (case k_is_reading => k_is)
    (case e_is_reading => rfl)
    (case a_is_told => k_is)
    (case l_is_told => k_is)
    (case c_is_told => k_is)
    (case k_is_told => k_is)
    (case e_is_told => rfl)
    (case a_reads_fit => k_is)
    (case l_reads_fit => k_is)
    (case c_reads_fit => k_is)
    (case k_reads_fit => k_is)
    (case e_reads_fit => rfl)
    (case a_is_ordered => k_is)
    (case l_is_ordered => k_is)
    (case c_is_ordered => k_is)
    (case k_is_ordered => k_is)
    (case e_is_ordered => rfl)
    (case a_law_fixed_right => k_is)
    (case l_law_fixed_right => k_is)
    (case c_law_fixed_right => k_is)
    (case k_law_fixed_right => k_is)
    (case e_law_fixed_right => rfl)
    (case a_law_bent_deal => k_is)
    (case l_law_bent_deal => k_is)
    (case c_law_bent_deal => k_is)
    (case k_law_bent_deal => k_is)
    (case e_law_bent_deal => rfl)
    (case a_law_bent => k_is)
    (case l_law_bent => k_is)
    (case c_law_bent => k_is)
    (case k_law_bent => k_is)
    (case e_law_bent => rfl)
    (case a_law_reading_fits => k_is)
    (case l_law_reading_fits => k_is)
    (case c_law_reading_fits => k_is)
    (case k_law_reading_fits => k_is)
    (case e_law_reading_fits => rfl)
    (case a_law_is_key => k_is)
    (case l_law_is_key => k_is)
    (case c_law_is_key => k_is)
    (case k_law_is_key => k_is)
    (case e_law_is_key => rfl)
    (case a_law_whole => k_is)
    (case l_law_whole => k_is)
    (case c_law_whole => k_is)
    (case k_law_whole => k_is)
    (case e_law_whole => rfl)
    (case a_law_is_worth => k_is)
    (case l_law_is_worth => k_is)
    (case c_law_is_worth => k_is)
    (case k_law_is_worth => k_is)
    (case e_law_is_worth => rfl)
    (case a_law_are_pairs => k_is)
    (case l_law_are_pairs => k_is)
    (case c_law_are_pairs => k_is)
    (case k_law_are_pairs => k_is)
    (case e_law_are_pairs => rfl)
    (case a_law_is_stamp => k_is)
    (case l_law_is_stamp => k_is)
    (case c_law_is_stamp => k_is)
    (case k_law_is_stamp => k_is)
    (case e_law_is_stamp => rfl)
    (case a_law_is_told => k_is)
    (case l_law_is_told => k_is)
    (case c_law_is_told => k_is)
    (case k_law_is_told => k_is)
    (case e_law_is_told => rfl)
    (case a_law_is_ordered => k_is)
    (case l_law_is_ordered => k_is)
    (case c_law_is_ordered => k_is)
    (case k_law_is_ordered => k_is)
    (case e_law_is_ordered => rfl)
    (case a_law_right => k_is)
    (case l_law_right => k_is)
    (case c_law_right => k_is)
    (case k_law_right => k_is)
    (case e_law_right => rfl)
    (case a_law => k_is)
    (case l_law => k_is)
    (case c_law => k_is)
    (case k_law => k_is)
    (case e_law => rfl)
    (case dk_LOOKS => refine' ⟨⟨_, _, rfl, (.cons rfl .fn (.cons rfl .fn (.cons rfl .fn (.cons rfl .fn .nil))))⟩⟩)
    (case kcd_newest_below => rfl)
    (case klk_newest_below => k_is)
    (case kvs_newest_below => rfl)
    (case nl_newest_below => kernel_rfl)
    (case rc_newest_below => exact ⟨_, rfl⟩)
    (case kcd_reading_fits => rfl)
    (case klk_reading_fits => k_is)
    (case kvs_reading_fits => rfl)
    (case nl_reading_fits => kernel_rfl)
    (case rc_reading_fits => exact ⟨_, rfl⟩)
    (case kcd_reads_fit => rfl)
    (case klk_reads_fit => k_is)
    (case kvs_reads_fit => rfl)
    (case nl_reads_fit => kernel_rfl)
    (case rc_reads_fit => exact ⟨_, rfl⟩)
    (case np_newest_below_reading_fits => decide)
    (case np_newest_below_reads_fit => decide)
    (case np_reading_fits_reads_fit => decide)

