import PyProof.Rows.All
import Wide.All
import OpenK.AllK
import Wide.FinOn
import PyProof.EqAt
import PyProof.EqKinds
import PyProof.TupleCall
import HandS.ForMost
import HandS.Exc
import HandS.TryOnly
import HandS.ExcOwn
import HandS.WordsExc
import HandS.Wide
import HandS.TupAny
import HandS.Flow
import HandS.IsInst
import HandS.TupLe
import HandS.Defaults
import HandS.CallSlots
import HandS.DictComp
import HandS.Iter
import HandS.OwnEq
import HandS.More
import HandS.Dict
import HandS.SetKeys
import PyProof.ReprRoads
import PyProof.CallFns
import HandS.RaiseMore
import PyProof.ExcClass
import PyProof.ExcBaseAll.IndexError
import PyProof.ExcBaseAll.LookupError
import PyProof.ExcBaseAll.RuntimeError
import PyProof.ExcBaseAll.ValueError
import PyProof.FactsTree
import KE.KExcInit
import HandS.ExcInit
import PyProof.Rows.FactsExc_KeyError
import KE.KExcIs
import HandS.ExcField
import HandS.Deep
import KE.DataFind
import PyProof.ReprText
import PyProof.FitsInt
import PyProof.StrLawsRepr
import KE.DataMinMax
import KE.DatumOrd
import HandS.Text
import HandS.Codes
import OpenK.KOps
import HandS.Records
import PyProof.CallType
import PyProof.Conv_bool
import HandS.MakeKwOnly
import PyProof.Rows.ListMulArg
import PyProof.Rows.SortShell
import PyProof.Rows.SortKeyStr
import PyProof.Rows.StrInSeq
import KE.KSortTup
import KE.KItemsList
import HandS.SortOrd
import HandS.SortRule
import HandS.ListItems
import KE.KEqNest
import HandS.Conv
import HandS.Style
import PySem.Challenge.RW_stampedwait_k24_whole_who_asks_again_hol
set_option Elab.async false
set_option linter.all false
set_option maxRecDepth 100000
namespace DL
open PySem PySem.Spec L2
open PyProof.Rows hiding St

/-! ### data: tuples by value, mutable objects by address; kl: a list that never changes -/
inductive D where
  | non | bl (b : Bool) | int (i : Int) | str (x : Str) | ty (n : String) | ref (a : Addr) | tup (ds : List D) | kl (ds : List D) | kc (ds : List D) | exc (C : Addr) (ns : List Str) (ds : List D) | emp

inductive MO where
  | lst (xs : List D)
  | dK (kvs : List (Key × D))
  | dT (kvs : List (List Key × D))
  | ins (C : Addr) (fs : List (Str × D))
  | fz (ob : Obj) (w : HO) (u : MO)

abbrev HD := Addr → Option MO
def put (H : HD) (a : Addr) (o : MO) : HD := fun b => if b = a then some o else H b
theorem put_same {H : HD} {a : Addr} {o : MO} : put H a o a = some o := if_pos rfl
theorem put_ne {H : HD} {a b : Addr} {o : MO} (h : b ≠ a) : put H a o b = H b := if_neg h
theorem put_put {H : HD} {a : Addr} {o u : MO} : put (put H a o) a u = put H a u := by
  funext b; unfold put; split <;> rfl
theorem put_comm {H : HD} {a b : Addr} {o u : MO} (h : a ≠ b) : put (put H a o) b u = put (put H b u) a o := by
  funext c; unfold put
  by_cases h1 : c = a
  · subst h1; rw [if_neg h, if_pos rfl]
    simp
  · rw [if_neg h1]
    simp [h1]
theorem put_id {H : HD} {a : Addr} {o : MO} (h : H a = some o) : put H a o = H := by
  funext b; unfold put; split
  · rename_i e; rw [e, h]
  · rfl
/-- a part of a heap -/
def Le (H H' : HD) : Prop := ∀ a o, H a = some o → H' a = some o
theorem Le.refl (H : HD) : Le H H := fun _ _ h => h
theorem Le.trans {A B C : HD} (x : Le A B) (y : Le B C) : Le A C := fun a o h => y a o (x a o h)
theorem Le.no {H H' : HD} (x : Le H H') {a : Addr} (h : H' a = none) : H a = none := by
  cases q : H a with
  | none => rfl
  | some o => rw [x a o q] at h; cases h
theorem Le.putB {H H' : HD} (x : Le H H') (a : Addr) (o : MO) : Le (put H a o) (put H' a o) := fun b u h => by
  by_cases e : b = a
  · subst e; rw [put_same] at h ⊢; exact h
  · rw [put_ne e] at h ⊢; exact x b u h
theorem Le.newB {H : HD} {a : Addr} {o : MO} (h : H a = none) : Le H (put H a o) := fun b u e => by
  rw [put_ne (by rintro rfl; rw [h] at e; cases e)]; exact e

/-- an exception object that was caught -/
def ExV (C : Addr) (dd : Option Addr) (a : Addr) : HO := .ext fun h => ∃ (oe : Obj) (vs : Array Value), h.get? a = some oe ∧ Zc (.ref C) dd oe ∧ oe.data = .fields vs
/-- the object of an empty dict that never changes -/
def EmOb (ob : Obj) : Prop := ob.ExactDict ∧ ∃ ep, ob.data = .dict #[] ep
def EmV (ob : Obj) (a : Addr) : HO := .ext fun h => h.get? a = some ob
mutual
def Rp (K : PySem.W.Frag) (H : Hp) : D → V → Prop
  | .non, v => v = .non
  | .bl b, v => v = .bl b
  | .int i, v => v = .int i
  | .str x, v => v = .str x
  | .ty n, v => v = .ty n
  | .ref a, v => v = .ref a
  | .tup ds, v => ∃ a vs, v = .ref a ∧ SqT K H a vs ∧ Rps K H ds vs
  | .kl ds, v => ∃ a vs, v = .ref a ∧ (∃ o, H a = some (.frz o (.lst vs))) ∧ Rps K H ds vs
  | .kc ds, v => ∃ a vs, v = .ref a ∧ ((∃ o, H a = some (.frz o (.lst vs))) ∨ ∃ (o : Obj) (its : Array Value) (n : Nat), K.lookup a = some o ∧ o.cls = .type "list" ∧ o.dict = none ∧ o.data = .seq its n ∧ its.size ≤ sizeLine ∧ Vals vs its.toList) ∧ Rps K H ds vs
  | .exc C ns ds, v => ∃ a dd vs, v = .ref a ∧ H a = some (ExV C dd a) ∧ ns.length = ds.length ∧ ((dd = none ∧ ns = []) ∨ ∃ b, dd = some b ∧ H b = some (.xd (ns.zip vs))) ∧ Rps K H ds vs
  | .emp, v => ∃ a ob, v = .ref a ∧ (a == sysModules) = false ∧ H a = some (EmV ob a) ∧ EmOb ob
def Rps (K : PySem.W.Frag) (H : Hp) : List D → List V → Prop
  | [], vs => vs = []
  | d :: ds, vs => ∃ v r, vs = v :: r ∧ Rp K H d v ∧ Rps K H ds r
end

/-- names (keys) and values -/
def RKV {κ : Type} (K : PySem.W.Frag) (H : Hp) : List (κ × D) → List (κ × V) → Prop
  | [], l => l = []
  | p :: ps, l => ∃ v r, l = (p.1, v) :: r ∧ Rp K H p.2 v ∧ RKV K H ps r

def RO (K : PySem.W.Frag) (H : Hp) : MO → HO → Prop
  | .lst ds, o => ∃ vs, o = .lst vs ∧ Rps K H ds vs
  | .dK kvs, o => ∃ l, o = .dK l ∧ RKV K H kvs l
  | .dT kvs, o => ∃ l, o = .dT l ∧ RKV K H kvs l
  | .ins C fs, o => ∃ dx l, o = .ins C dx l ∧ RKV K H fs l
  | .fz ob w u, o => o = .frz ob w ∧ RO K H u w ∧ (∀ vs, w ≠ .lst vs) ∧ (∀ vs, w ≠ .tup vs)

def Sim (K : PySem.W.Frag) (G : HD) (H : Hp) : Prop := ∀ a o, G a = some o → ∃ o', H a = some o' ∧ RO K H o o'
/-- what is not of ours stays -/
def Ext (G : HD) (H : Hp) (G' : HD) (H' : Hp) : Prop := ∀ a o, G a = none → H a = some o → H' a = some o ∧ G' a = none

section
variable {K : PySem.W.Frag} {G G' G1 G2 : HD} {H H' H1 H2 : Hp}
theorem Sim.le (s : Sim K G H) (l : Le G' G) : Sim K G' H := fun a o e => s a o (l a o e)
theorem Sim.no (s : Sim K G H) {a : Addr} (h : H a = none) : G a = none := by
  cases q : G a with
  | none => rfl
  | some o => obtain ⟨o', e, _⟩ := s a o q; rw [h] at e; cases e
theorem Ext.refl : Ext G H G H := fun _ _ g h => ⟨h, g⟩
theorem Ext.trans (x : Ext G H G1 H1) (y : Ext G1 H1 G2 H2) : Ext G H G2 H2 := fun a o g h =>
  let ⟨h1, g1⟩ := x a o g h
  y a o g1 h1
theorem Ext.le (x : Ext G H G1 H1) (l : Le G2 G1) : Ext G H G2 H1 := fun a o g h =>
  let ⟨h1, g1⟩ := x a o g h
  ⟨h1, l.no g1⟩
theorem Ext.of_le (l : Le G' G) : Ext G H G' H := Ext.refl.le l

theorem Sim.tup (s : Sim K G H) {a : Addr} {vs : List V} (h : H a = some (.tup vs)) : G a = none := by
  cases q : G a with
  | none => rfl
  | some o =>
    obtain ⟨o', e, r⟩ := s a o q
    rw [h] at e; cases e
    cases o with
    | lst ds => obtain ⟨_, e, _⟩ := r; cases e
    | dK ds => obtain ⟨_, e, _⟩ := r; cases e
    | dT ds => obtain ⟨_, e, _⟩ := r; cases e
    | ins C fs => obtain ⟨_, _, e, _⟩ := r; cases e
    | fz ob w u => obtain ⟨e, _⟩ := r; cases e
theorem Sim.frzT (s : Sim K G H) {a : Addr} {ob : Obj} {vs : List V} (h : H a = some (.frz ob (.tup vs))) : G a = none := by
  cases q : G a with
  | none => rfl
  | some o =>
    obtain ⟨o', e, r⟩ := s a o q
    rw [h] at e; cases e
    cases o with
    | lst ds => obtain ⟨_, e, _⟩ := r; cases e
    | dK ds => obtain ⟨_, e, _⟩ := r; cases e
    | dT ds => obtain ⟨_, e, _⟩ := r; cases e
    | ins C fs => obtain ⟨_, _, e, _⟩ := r; cases e
    | fz ob w u => obtain ⟨e, _, _, z⟩ := r; cases e; exact (z _ rfl).elim
theorem Sim.frzL (s : Sim K G H) {a : Addr} {ob : Obj} {vs : List V} (h : H a = some (.frz ob (.lst vs))) : G a = none := by
  cases q : G a with
  | none => rfl
  | some o =>
    obtain ⟨o', e, r⟩ := s a o q
    rw [h] at e; cases e
    cases o with
    | lst ds => obtain ⟨_, e, _⟩ := r; cases e
    | dK ds => obtain ⟨_, e, _⟩ := r; cases e
    | dT ds => obtain ⟨_, e, _⟩ := r; cases e
    | ins C fs => obtain ⟨_, _, e, _⟩ := r; cases e
    | fz ob w u => obtain ⟨e, _, z, _⟩ := r; cases e; exact (z _ rfl).elim
theorem Sim.extN (s : Sim K G H) {a : Addr} {φ : Heap → Prop} (h : H a = some (.ext φ)) : G a = none := by
  cases q : G a with
  | none => rfl
  | some o =>
    obtain ⟨o', e, r⟩ := s a o q
    rw [h] at e; cases e
    cases o with
    | lst ds => obtain ⟨_, e, _⟩ := r; cases e
    | dK ds => obtain ⟨_, e, _⟩ := r; cases e
    | dT ds => obtain ⟨_, e, _⟩ := r; cases e
    | ins C fs => obtain ⟨_, _, e, _⟩ := r; cases e
    | fz ob w u => obtain ⟨e, _⟩ := r; cases e
theorem Sim.xdN (s : Sim K G H) {a : Addr} {l : List (Str × V)} (h : H a = some (.xd l)) : G a = none := by
  cases q : G a with
  | none => rfl
  | some o =>
    obtain ⟨o', e, r⟩ := s a o q
    rw [h] at e; cases e
    cases o with
    | lst ds => obtain ⟨_, e, _⟩ := r; cases e
    | dK ds => obtain ⟨_, e, _⟩ := r; cases e
    | dT ds => obtain ⟨_, e, _⟩ := r; cases e
    | ins C fs => obtain ⟨_, _, e, _⟩ := r; cases e
    | fz ob w u => obtain ⟨e, _⟩ := r; cases e
/-- the same of all but plain lists that are not of ours -/
def ExtL (G : HD) (H : Hp) (G' : HD) (H' : Hp) : Prop := ∀ a o, (∀ l, o ≠ HO.lst l) → G a = none → H a = some o → H' a = some o ∧ G' a = none
theorem Ext.l (x : Ext G H G1 H1) : ExtL G H G1 H1 := fun a o _ g h => x a o g h
theorem nl_tup {vs : List V} : ∀ l, HO.tup vs ≠ .lst l := fun _ z => nomatch z
theorem nl_frz {o : Obj} {u : HO} : ∀ l, HO.frz o u ≠ .lst l := fun _ z => nomatch z
theorem nl_ext {φ : Heap → Prop} : ∀ l, HO.ext φ ≠ .lst l := fun _ z => nomatch z
theorem nl_xd {m : List (Str × V)} : ∀ l, HO.xd m ≠ .lst l := fun _ z => nomatch z
theorem SqT.extL {a : Addr} {vs : List V} (s : Sim K G H) (x : ExtL G H G' H') (h : SqT K H a vs) : SqT K H' a vs := by
  rcases h with (h | ⟨o, h⟩) | h
  · exact .inl (.inl (x a _ nl_tup (s.tup h) h).1)
  · exact .inl (.inr ⟨o, (x a _ nl_frz (s.frzT h) h).1⟩)
  · exact .inr h
mutual
theorem Rp.extL (s : Sim K G H) (x : ExtL G H G' H') : ∀ (d : D) (v : V), Rp K H d v → Rp K H' d v
  | .non, _, h => h
  | .bl _, _, h => h
  | .int _, _, h => h
  | .str _, _, h => h
  | .ty _, _, h => h
  | .ref _, _, h => h
  | .tup ds, v, h => by
    obtain ⟨a, vs, e, t, r⟩ := h
    exact ⟨a, vs, e, SqT.extL s x t, Rps.extL s x ds vs r⟩
  | .kl ds, v, h => by
    obtain ⟨a, vs, e, ⟨o, t⟩, r⟩ := h
    exact ⟨a, vs, e, ⟨o, (x a _ nl_frz (s.frzL t) t).1⟩, Rps.extL s x ds vs r⟩
  | .kc ds, v, h => by
    obtain ⟨a, vs, e, t, r⟩ := h
    refine ⟨a, vs, e, ?_, Rps.extL s x ds vs r⟩
    rcases t with ⟨o, t⟩ | t
    · exact .inl ⟨o, (x a _ nl_frz (s.frzL t) t).1⟩
    · exact .inr t
  | .exc C ns ds, v, h => by
    obtain ⟨a, dd, vs, e, t, hl, q, r⟩ := h
    refine ⟨a, dd, vs, e, (x a _ nl_ext (s.extN t) t).1, hl, ?_, Rps.extL s x ds vs r⟩
    rcases q with q | ⟨b, q1, q2⟩
    · exact .inl q
    · exact .inr ⟨b, q1, (x b _ nl_xd (s.xdN q2) q2).1⟩
  | .emp, v, h => by
    obtain ⟨a, ob, e, m, t, q⟩ := h
    exact ⟨a, ob, e, m, (x a _ nl_ext (s.extN t) t).1, q⟩
theorem Rps.extL (s : Sim K G H) (x : ExtL G H G' H') : ∀ (ds : List D) (vs : List V), Rps K H ds vs → Rps K H' ds vs
  | [], _, h => h
  | d :: ds, vs, h => by
    obtain ⟨v, r, e, h1, h2⟩ := h
    exact ⟨v, r, e, Rp.extL s x d v h1, Rps.extL s x ds r h2⟩
end
theorem SqT.ext {a : Addr} {vs : List V} (s : Sim K G H) (x : Ext G H G' H') (h : SqT K H a vs) : SqT K H' a vs := by
  rcases h with (h | ⟨o, h⟩) | h
  · exact .inl (.inl (x a _ (s.tup h) h).1)
  · exact .inl (.inr ⟨o, (x a _ (s.frzT h) h).1⟩)
  · exact .inr h
mutual
theorem Rp.ext (s : Sim K G H) (x : Ext G H G' H') : ∀ (d : D) (v : V), Rp K H d v → Rp K H' d v
  | .non, _, h => h
  | .bl _, _, h => h
  | .int _, _, h => h
  | .str _, _, h => h
  | .ty _, _, h => h
  | .ref _, _, h => h
  | .tup ds, v, h => by
    obtain ⟨a, vs, e, t, r⟩ := h
    exact ⟨a, vs, e, SqT.ext s x t, Rps.ext s x ds vs r⟩
  | .kl ds, v, h => by
    obtain ⟨a, vs, e, ⟨o, t⟩, r⟩ := h
    exact ⟨a, vs, e, ⟨o, (x a _ (s.frzL t) t).1⟩, Rps.ext s x ds vs r⟩
  | .kc ds, v, h => by
    obtain ⟨a, vs, e, t, r⟩ := h
    refine ⟨a, vs, e, ?_, Rps.ext s x ds vs r⟩
    rcases t with ⟨o, t⟩ | t
    · exact .inl ⟨o, (x a _ (s.frzL t) t).1⟩
    · exact .inr t
  | .exc C ns ds, v, h => by
    obtain ⟨a, dd, vs, e, t, hl, q, r⟩ := h
    refine ⟨a, dd, vs, e, (x a _ (s.extN t) t).1, hl, ?_, Rps.ext s x ds vs r⟩
    rcases q with q | ⟨b, q1, q2⟩
    · exact .inl q
    · exact .inr ⟨b, q1, (x b _ (s.xdN q2) q2).1⟩
  | .emp, v, h => by
    obtain ⟨a, ob, e, m, t, q⟩ := h
    exact ⟨a, ob, e, m, (x a _ (s.extN t) t).1, q⟩
theorem Rps.ext (s : Sim K G H) (x : Ext G H G' H') : ∀ (ds : List D) (vs : List V), Rps K H ds vs → Rps K H' ds vs
  | [], _, h => h
  | d :: ds, vs, h => by
    obtain ⟨v, r, e, h1, h2⟩ := h
    exact ⟨v, r, e, Rp.ext s x d v h1, Rps.ext s x ds r h2⟩
end
theorem RKV.ext {κ : Type} (s : Sim K G H) (x : Ext G H G' H') : ∀ (l : List (κ × D)) (m : List (κ × V)), RKV K H l m → RKV K H' l m
  | [], _, h => h
  | p :: ps, m, h => by
    obtain ⟨v, r, e, h1, h2⟩ := h
    exact ⟨v, r, e, h1.ext s x _ _, RKV.ext s x ps r h2⟩
theorem RO.ext (s : Sim K G H) (x : Ext G H G' H') : ∀ (o : MO) (o' : HO), RO K H o o' → RO K H' o o'
  | .lst ds, _, h => let ⟨vs, e, r⟩ := h; ⟨vs, e, r.ext s x _ _⟩
  | .dK _, _, h => let ⟨vs, e, r⟩ := h; ⟨vs, e, r.ext s x _ _⟩
  | .dT _, _, h => let ⟨vs, e, r⟩ := h; ⟨vs, e, r.ext s x _ _⟩
  | .ins _ _, _, h => let ⟨dx, vs, e, r⟩ := h; ⟨dx, vs, e, r.ext s x _ _⟩
  | .fz ob w u, _, h => let ⟨e, r, z⟩ := h; ⟨e, RO.ext s x u w r, z⟩
/-- a new object that we do not name (a tuple ..) -/
theorem Ext.new {p : Addr} {o : HO} (h : H p = none) (g : G p = none) : Ext G H G (upd H p o) := fun a u ga e =>
  ⟨by rw [upd_ne (by rintro rfl; rw [h] at e; cases e)]; exact e, ga⟩
theorem Sim.newO {p : Addr} {o : HO} (s : Sim K G H) (h : H p = none) : Sim K G (upd H p o) := fun a u e => by
  obtain ⟨o', e1, r⟩ := s a u e
  have hn : a ≠ p := by rintro rfl; rw [h] at e1; cases e1
  exact ⟨o', by rw [upd_ne hn]; exact e1, r.ext s (Ext.new h (s.no h)) _ _⟩
/-- a new object of ours -/
theorem Ext.newM {p : Addr} {o : HO} {m : MO} (h : H p = none) : Ext G H (put G p m) (upd H p o) := fun a u ga e => by
  have hn : a ≠ p := by rintro rfl; rw [h] at e; cases e
  exact ⟨by rw [upd_ne hn]; exact e, by rw [put_ne hn]; exact ga⟩
theorem Sim.newM {p : Addr} {o : HO} {m : MO} (s : Sim K G H) (h : H p = none) (r : RO K H m o) : Sim K (put G p m) (upd H p o) := fun a u e => by
  by_cases hn : a = p
  · subst hn
    rw [put_same] at e; cases e
    exact ⟨o, upd_same, r.ext s (Ext.newM (m := m) (o := o) h) _ _⟩
  · rw [put_ne hn] at e
    obtain ⟨o', e1, r1⟩ := s a u e
    exact ⟨o', by rw [upd_ne hn]; exact e1, r1.ext s (Ext.newM (m := m) (o := o) h) _ _⟩
/-- an object of ours is written -/
theorem Ext.wr {p : Addr} {o : HO} {m m0 : MO} (g : G p = some m0) : Ext G H (put G p m) (upd H p o) := fun a u ga e => by
  have hn : a ≠ p := by rintro rfl; rw [g] at ga; cases ga
  exact ⟨by rw [upd_ne hn]; exact e, by rw [put_ne hn]; exact ga⟩
theorem Sim.wr {p : Addr} {o : HO} {m m0 : MO} (s : Sim K G H) (g : G p = some m0) (r : RO K H m o) : Sim K (put G p m) (upd H p o) := fun a u e => by
  by_cases hn : a = p
  · subst hn
    rw [put_same] at e; cases e
    exact ⟨o, upd_same, r.ext s (Ext.wr (m := m) (o := o) g) _ _⟩
  · rw [put_ne hn] at e
    obtain ⟨o', e1, r1⟩ := s a u e
    exact ⟨o', by rw [upd_ne hn]; exact e1, r1.ext s (Ext.wr (m := m) (o := o) g) _ _⟩
theorem Sim.lst (s : Sim K G H) {a : Addr} {ds : List D} (g : G a = some (.lst ds)) : ∃ vs, H a = some (.lst vs) ∧ Rps K H ds vs := by
  obtain ⟨o', e, vs, rfl, r⟩ := s a _ g
  exact ⟨vs, e, r⟩
theorem Sim.ins (s : Sim K G H) {a C : Addr} {fs : List (Str × D)} (g : G a = some (.ins C fs)) : ∃ dx l, H a = some (.ins C dx l) ∧ RKV K H fs l := by
  obtain ⟨o', e, dx, l, rfl, r⟩ := s a _ g
  exact ⟨dx, l, e, r⟩
theorem Sim.dK (s : Sim K G H) {a : Addr} {l : List (Key × D)} (g : G a = some (.dK l)) : ∃ m, H a = some (.dK m) ∧ RKV K H l m := by
  obtain ⟨o', e, vs, rfl, r⟩ := s a _ g
  exact ⟨vs, e, r⟩
theorem Sim.dT (s : Sim K G H) {a : Addr} {l : List (List Key × D)} (g : G a = some (.dT l)) : ∃ m, H a = some (.dT m) ∧ RKV K H l m := by
  obtain ⟨o', e, vs, rfl, r⟩ := s a _ g
  exact ⟨vs, e, r⟩

/-! lists -/
theorem Rps.length : ∀ {ds : List D} {vs : List V}, Rps K H ds vs → vs.length = ds.length
  | [], _, h => by cases h; rfl
  | d :: ds, _, h => by obtain ⟨v, r, rfl, _, h2⟩ := h; simp [Rps.length h2]
theorem Rps.cons {d : D} {ds : List D} {v : V} {vs : List V} (h : Rp K H d v) (t : Rps K H ds vs) : Rps K H (d :: ds) (v :: vs) := ⟨v, vs, rfl, h, t⟩
theorem Rps.nil : Rps K H [] [] := rfl
theorem Rps.get : ∀ {ds : List D} {vs : List V} {i : Nat} {d : D}, Rps K H ds vs → ds[i]? = some d → ∃ v, vs[i]? = some v ∧ Rp K H d v
  | [], _, _, _, _, e => by simp at e
  | d :: ds, _, 0, _, h, e => by obtain ⟨v, r, rfl, h1, _⟩ := h; cases e; exact ⟨v, rfl, h1⟩
  | d :: ds, _, i + 1, _, h, e => by obtain ⟨v, r, rfl, _, h2⟩ := h; exact Rps.get (i := i) h2 e
theorem Rps.app : ∀ {ds es : List D} {vs ws : List V}, Rps K H ds vs → Rps K H es ws → Rps K H (ds ++ es) (vs ++ ws)
  | [], _, _, _, h, k => by cases h; exact k
  | d :: ds, _, _, _, h, k => by obtain ⟨v, r, rfl, h1, h2⟩ := h; exact ⟨v, _, rfl, h1, Rps.app h2 k⟩
theorem Rps.set : ∀ {ds : List D} {vs : List V} {i : Nat} {d : D} {v : V}, Rps K H ds vs → Rp K H d v → Rps K H (ds.set i d) (vs.set i v)
  | [], _, _, _, _, h, _ => by cases h; exact rfl
  | d :: ds, _, 0, _, _, h, k => by obtain ⟨v, r, rfl, h1, h2⟩ := h; exact ⟨_, r, rfl, k, h2⟩
  | d :: ds, _, i + 1, _, _, h, k => by obtain ⟨v, r, rfl, h1, h2⟩ := h; exact ⟨v, _, rfl, h1, Rps.set (i := i) h2 k⟩
theorem Rps.take : ∀ {ds : List D} {vs : List V} (n : Nat), Rps K H ds vs → Rps K H (ds.take n) (vs.take n)
  | _, _, 0, _ => by simp; exact rfl
  | [], _, n + 1, h => by cases h; exact rfl
  | d :: ds, _, n + 1, h => by obtain ⟨v, r, rfl, h1, h2⟩ := h; exact ⟨v, _, rfl, h1, Rps.take n h2⟩
theorem Rps.drop : ∀ {ds : List D} {vs : List V} (n : Nat), Rps K H ds vs → Rps K H (ds.drop n) (vs.drop n)
  | _, _, 0, h => by simpa using h
  | [], _, n + 1, h => by cases h; exact rfl
  | d :: ds, _, n + 1, h => by obtain ⟨v, r, rfl, h1, h2⟩ := h; exact Rps.drop n h2
theorem Rps.uncons {d : D} {ds : List D} {vs : List V} (h : Rps K H (d :: ds) vs) : ∃ v r, vs = v :: r ∧ Rp K H d v ∧ Rps K H ds r := h
theorem Rps.ints : ∀ {ns : List Int} {vs : List V}, Rps K H (ns.map D.int) vs → vs = ns.map V.int
  | [], _, h => h
  | n :: ns, _, h => by obtain ⟨v, r, rfl, h1, h2⟩ := h; cases h1; rw [Rps.ints h2]; rfl
theorem Rps.ofInts : ∀ (ns : List Int), Rps K H (ns.map D.int) (ns.map V.int)
  | [] => rfl
  | n :: ns => ⟨_, _, rfl, rfl, Rps.ofInts ns⟩
theorem Rps.bls : ∀ {ns : List Bool} {vs : List V}, Rps K H (ns.map D.bl) vs → vs = ns.map V.bl
  | [], _, h => h
  | n :: ns, _, h => by obtain ⟨v, r, rfl, h1, h2⟩ := h; cases h1; rw [Rps.bls h2]; rfl
/-! names and values -/
theorem RKV.length {κ : Type} : ∀ {l : List (κ × D)} {m : List (κ × V)}, RKV K H l m → m.length = l.length
  | [], _, h => by cases h; rfl
  | p :: l, _, h => by obtain ⟨v, r, rfl, _, h2⟩ := h; simp [RKV.length h2]
theorem RKV.keys {κ : Type} : ∀ {l : List (κ × D)} {m : List (κ × V)}, RKV K H l m → m.map (·.1) = l.map (·.1)
  | [], _, h => by cases h; rfl
  | p :: l, _, h => by obtain ⟨v, r, rfl, _, h2⟩ := h; simp [RKV.keys h2]
theorem RKV.lookup {f : Str} : ∀ {l : List (Str × D)} {m : List (Str × V)} {d : D}, RKV K H l m → l.lookup f = some d → ∃ v, m.lookup f = some v ∧ Rp K H d v
  | [], _, _, _, e => by simp at e
  | (n, d) :: l, _, _, h, e => by
    obtain ⟨v, r, rfl, h1, h2⟩ := h
    rw [List.lookup_cons] at e ⊢
    show ∃ w, (match f == n with | true => some v | false => List.lookup f r) = some w ∧ _
    cases q : f == n with
    | true => rw [q] at e; cases e; exact ⟨v, rfl, h1⟩
    | false => rw [q] at e; exact RKV.lookup h2 e
theorem RKV.lookup_none {f : Str} : ∀ {l : List (Str × D)} {m : List (Str × V)}, RKV K H l m → l.lookup f = none → m.lookup f = none
  | [], _, h, _ => by cases h; rfl
  | (n, d) :: l, _, h, e => by
    obtain ⟨v, r, rfl, h1, h2⟩ := h
    rw [List.lookup_cons] at e ⊢
    show (match f == n with | true => some v | false => List.lookup f r) = none
    cases q : f == n with
    | true => rw [q] at e; cases e
    | false => rw [q] at e; exact RKV.lookup_none h2 e
end
/-- a field is stored -/
def putD (f : Str) (d : D) : List (Str × D) → List (Str × D)
  | [] => [(f, d)]
  | (n, e) :: r => if n = f then (n, d) :: r else (n, e) :: putD f d r
end DL

namespace DL
open PySem PySem.Spec L2
open PyProof.Rows hiding St

/-! ### readings over data -/
abbrev DSt := List (Option D)
abbrev Post := D → HD → Prop
abbrev DX := Value → List (Str × D) → HD → Prop
abbrev DW := Value → List (Str × D) → DSt → HD → Prop
abbrev TD := DW → DSt → HD → Post → Prop
abbrev TDT := DW → DSt → HD → (Bool → HD → Prop) → Prop
abbrev TDA := DW → DSt → HD → (List D → HD → Prop) → Prop
structure DEnds where
  nx : DSt → HD → Prop
  rt : Post
  bk : DSt → HD → Prop := fun _ _ => False
  ct : DSt → HD → Prop := fun _ _ => False
abbrev TDS := DW → DEnds → DSt → HD → Prop

def RpS (K : PySem.W.Frag) (H : Hp) : DSt → St → Prop
  | [], l => l = []
  | o :: r, l => ∃ w t, l = w :: t ∧ (∀ d, o = some d → ∃ v, w = some v ∧ Rp K H d v) ∧ RpS K H r t
/-- an exception's own fields -/
def XF (K : PySem.W.Frag) (H : Hp) (fs : List (Str × D)) : Option Addr → Prop
  | none => fs = []
  | some a => ∃ l, H a = some (.xd l) ∧ RKV K H fs l
def liftQ (K : PySem.W.Frag) (G : HD) (H : Hp) (Q : Post) : VK := fun v H' => ∃ d G', Rp K H' d v ∧ Sim K G' H' ∧ Ext G H G' H' ∧ Q d G'
def liftB (K : PySem.W.Frag) (G : HD) (H : Hp) (Q : Bool → HD → Prop) : Bool → Hp → Prop := fun b H' => ∃ G', Sim K G' H' ∧ Ext G H G' H' ∧ Q b G'
def liftA (K : PySem.W.Frag) (G : HD) (H : Hp) (Q : List D → HD → Prop) : List V → Hp → Prop := fun vs H' => ∃ ds G', Rps K H' ds vs ∧ Sim K G' H' ∧ Ext G H G' H' ∧ Q ds G'
def liftN (K : PySem.W.Frag) (G : HD) (H : Hp) (Q : DSt → HD → Prop) : St → Hp → Prop := fun t H' => ∃ σ G', RpS K H' σ t ∧ Sim K G' H' ∧ Ext G H G' H' ∧ Q σ G'
def liftW (K : PySem.W.Frag) (G : HD) (H : Hp) (W : DW) : WX := fun c dd t H' => ∃ σ fs G', RpS K H' σ t ∧ XF K H' fs dd ∧ Sim K G' H' ∧ Ext G H G' H' ∧ W c fs σ G'
def liftX (K : PySem.W.Frag) (G : HD) (H : Hp) (E : DX) : XK := fun c dd H' => ∃ fs G', XF K H' fs dd ∧ Sim K G' H' ∧ Ext G H G' H' ∧ E c fs G'
def liftD (K : PySem.W.Frag) (G : HD) (H : Hp) (D : DEnds) : Ends := { nx := liftN K G H D.nx, rt := liftQ K G H D.rt, bk := liftN K G H D.bk, ct := liftN K G H D.ct }

section
variable {K : PySem.W.Frag} {G G' G1 G2 : HD} {H H' H1 H2 : Hp}
theorem RpS.ext (s : Sim K G H) (x : Ext G H G' H') : ∀ (σ : DSt) (t : St), RpS K H σ t → RpS K H' σ t
  | [], _, h => h
  | o :: r, _, h => by
    obtain ⟨w, t, rfl, h1, h2⟩ := h
    refine ⟨w, t, rfl, fun d e => ?_, RpS.ext s x r t h2⟩
    obtain ⟨v, e1, e2⟩ := h1 d e
    exact ⟨v, e1, e2.ext s x _ _⟩
theorem RpS.get : ∀ {σ : DSt} {t : St} {i : Nat} {d : D}, RpS K H σ t → σ[i]? = some (some d) → ∃ v, t[i]? = some (some v) ∧ Rp K H d v
  | [], _, _, _, _, e => by simp at e
  | o :: r, _, 0, d, h, e => by
    obtain ⟨w, t, rfl, h1, _⟩ := h
    have e' : o = some d := by simpa using e
    obtain ⟨v, rfl, r1⟩ := h1 d e'
    exact ⟨v, rfl, r1⟩
  | o :: r, _, i + 1, d, h, e => by
    obtain ⟨w, t, rfl, _, h2⟩ := h
    exact RpS.get (i := i) h2 (by simpa using e)
theorem RpS.set : ∀ {σ : DSt} {t : St} {i : Nat} {d : D} {v : V}, RpS K H σ t → Rp K H d v → RpS K H (σ.set i (some d)) (t.set i (some v))
  | [], _, _, _, _, h, _ => by cases h; exact rfl
  | o :: r, _, 0, d, v, h, k => by
    obtain ⟨w, t, rfl, _, h2⟩ := h
    exact ⟨_, t, rfl, fun e q => ⟨v, rfl, by cases q; exact k⟩, h2⟩
  | o :: r, _, i + 1, d, v, h, k => by
    obtain ⟨w, t, rfl, h1, h2⟩ := h
    exact ⟨w, _, rfl, h1, RpS.set (i := i) h2 k⟩
theorem RpS.drop1 : ∀ {σ : DSt} {t : St} {i : Nat} {w : Option V}, RpS K H σ t → RpS K H (σ.set i none) (t.set i w)
  | [], _, _, _, h => by cases h; exact rfl
  | o :: r, _, 0, _, h => by
    obtain ⟨w, t, rfl, _, h2⟩ := h
    exact ⟨_, t, rfl, (fun e q => by cases q), h2⟩
  | o :: r, _, i + 1, _, h => by
    obtain ⟨w, t, rfl, h1, h2⟩ := h
    exact ⟨w, _, rfl, h1, RpS.drop1 (i := i) h2⟩
theorem RpS.start : ∀ {ds : List D} {vs : List V} (n : Nat), Rps K H ds vs → RpS K H (ds.map some ++ List.replicate n none) (vs.map some ++ List.replicate n none)
  | [], _, 0, h => by cases h; exact rfl
  | [], _, n + 1, h => by
    have ih := RpS.start (ds := []) n h
    cases h
    exact ⟨none, _, rfl, (fun _ q => nomatch q), ih⟩
  | d :: ds, _, n, h => by
    obtain ⟨v, r, rfl, h1, h2⟩ := h
    exact ⟨some v, _, rfl, (fun e q => ⟨v, rfl, by cases q; exact h1⟩), RpS.start n h2⟩

theorem liftQ.of {Q : Post} {d : D} {v : V} (r : Rp K H' d v) (s : Sim K G' H') (x : Ext G H G' H') (q : Q d G') : liftQ K G H Q v H' := ⟨d, G', r, s, x, q⟩
theorem liftQ.up {Q : Post} {v : V} (x : Ext G H G1 H1) (h : liftQ K G1 H1 Q v H2) : liftQ K G H Q v H2 := by
  obtain ⟨d, G', r, s, y, q⟩ := h
  exact ⟨d, G', r, s, x.trans y, q⟩
theorem liftB.up {Q : Bool → HD → Prop} {v : Bool} (x : Ext G H G1 H1) (h : liftB K G1 H1 Q v H2) : liftB K G H Q v H2 := by
  obtain ⟨G', s, y, q⟩ := h
  exact ⟨G', s, x.trans y, q⟩
theorem liftA.up {Q : List D → HD → Prop} {v : List V} (x : Ext G H G1 H1) (h : liftA K G1 H1 Q v H2) : liftA K G H Q v H2 := by
  obtain ⟨d, G', r, s, y, q⟩ := h
  exact ⟨d, G', r, s, x.trans y, q⟩
theorem liftN.up {Q : DSt → HD → Prop} {t : St} (x : Ext G H G1 H1) (h : liftN K G1 H1 Q t H2) : liftN K G H Q t H2 := by
  obtain ⟨d, G', r, s, y, q⟩ := h
  exact ⟨d, G', r, s, x.trans y, q⟩
theorem liftW.up {W : DW} {c : Value} {dd : Option Addr} {t : St} (x : Ext G H G1 H1) (h : liftW K G1 H1 W c dd t H2) : liftW K G H W c dd t H2 := by
  obtain ⟨σ, fs, G', r, f, s, y, q⟩ := h
  exact ⟨σ, fs, G', r, f, s, x.trans y, q⟩
theorem liftX.up {W : DX} {c : Value} {dd : Option Addr} (x : Ext G H G1 H1) (h : liftX K G1 H1 W c dd H2) : liftX K G H W c dd H2 := by
  obtain ⟨fs, G', f, s, y, q⟩ := h
  exact ⟨fs, G', f, s, x.trans y, q⟩
end

/-! ### what an expression, a statement is worth, by the model itself -/
section
variable (X : Cx)
def semE (e : Expr) : TE := fun σ H Q => ∀ (pins : List (Addr × Obj)) (s : Shared), Inv X pins σ H s → wpAny (model X.prog X.w) X.A (eval e X.env) (EP X pins σ Q) X.xe s
def semT (e : Expr) : TT := fun σ H Q => ∀ (pins : List (Addr × Obj)) (s : Shared), Inv X pins σ H s → wpAny (model X.prog X.w) X.A (isTrue e X.env (eval e X.env)) (TP X pins σ Q) X.xe s
def semTw (e : Expr) : TT := fun σ H Q => ∀ (wh : Sem Value) (pins : List (Addr × Obj)) (s : Shared), Inv X pins σ H s → wpAny (model X.prog X.w) X.A (isTrue e X.env wh) (TP X pins σ Q) X.xe s
def semA (es : List Expr) : TA := fun σ H Q => ∀ (pos : Pos) (pins : List (Addr × Obj)) (s : Shared), Inv X pins σ H s → wpAny (model X.prog X.w) X.A (spliced (backTo pos (starEach es X.env))) (AP X pins σ Q) X.xe s
def semS (st : Stmt) : TS := fun D σ H => ∀ (pins : List (Addr × Obj)) (s : Shared), Inv X pins σ H s → wpAny (model X.prog X.w) X.A (exec st X.env) (SP X pins D) X.xe s
def semSs (st : List Stmt) : TS := fun D σ H => ∀ (pins : List (Addr × Obj)) (s : Shared), Inv X pins σ H s → wpAny (model X.prog X.w) X.A (execs st X.env) (SP X pins D) X.xe s
end
section
variable {X : Cx} {e : Expr} {st : Stmt} {sts : List Stmt} {es : List Expr} {σ : St} {H : Hp}
theorem peSem : PE X e (semE X e) := ⟨fun pins s _ _ _ I h => h pins s I⟩
theorem ptSem : PT X e (semT X e) := ⟨fun pins s _ _ _ I h => h pins s I⟩
theorem pwSem : PW X e (semTw X e) := ⟨fun wh pins s _ _ _ I h => h wh pins s I⟩
theorem paSem : PA X es (semA X es) := ⟨fun pos pins s _ _ _ I h => h pos pins s I⟩
theorem psSem : PS X st (semS X st) := ⟨fun pins s _ _ _ I h => h pins s I⟩
theorem pssSem : PSs X sts (semSs X sts) := ⟨fun pins s _ _ _ I h => h pins s I⟩
theorem semE.of {t : TE} {Q : VK} (p : PE X e t) (h : t σ H Q) : semE X e σ H Q := fun pins s I => p.run pins s σ H Q I h
theorem semT.of {t : TT} {Q : Bool → Hp → Prop} (p : PT X e t) (h : t σ H Q) : semT X e σ H Q := fun pins s I => p.run pins s σ H Q I h
theorem semTw.of {t : TT} {Q : Bool → Hp → Prop} (p : PW X e t) (h : t σ H Q) : semTw X e σ H Q := fun wh pins s I => p.run wh pins s σ H Q I h
theorem semA.of {t : TA} {Q : List V → Hp → Prop} (p : PA X es t) (h : t σ H Q) : semA X es σ H Q := fun pos pins s I => p.run pos pins s σ H Q I h
theorem semS.of {t : TS} {D : Ends} (p : PS X st t) (h : t D σ H) : semS X st D σ H := fun pins s I => p.run pins s σ H D I h
theorem semSs.of {t : TS} {D : Ends} (p : PSs X sts t) (h : t D σ H) : semSs X sts D σ H := fun pins s I => p.run pins s σ H D I h
theorem semE.imp {Q Q' : VK} (h : semE X e σ H Q) (q : ∀ v H', Q v H' → Q' v H') : semE X e σ H Q' := fun pins s I =>
  thn (h pins s I) fun _ _ ⟨v, H', I', r, z⟩ => ⟨v, H', I', r, q v H' z⟩
theorem semT.imp {Q Q' : Bool → Hp → Prop} (h : semT X e σ H Q) (q : ∀ v H', Q v H' → Q' v H') : semT X e σ H Q' := fun pins s I =>
  thn (h pins s I) fun b _ ⟨H', I', z⟩ => ⟨H', I', q b H' z⟩
theorem semTw.imp {Q Q' : Bool → Hp → Prop} (h : semTw X e σ H Q) (q : ∀ v H', Q v H' → Q' v H') : semTw X e σ H Q' := fun wh pins s I =>
  thn (h wh pins s I) fun b _ ⟨H', I', z⟩ => ⟨H', I', q b H' z⟩
theorem semA.imp {Q Q' : List V → Hp → Prop} (h : semA X es σ H Q) (q : ∀ v H', Q v H' → Q' v H') : semA X es σ H Q' := fun pos pins s I =>
  thn (h pos pins s I) fun _ _ ⟨v, H', I', r, z⟩ => ⟨v, H', I', r, q v H' z⟩
/-- ends that are implied -/
structure EndsLe (D D' : Ends) : Prop where
  nx : ∀ t H', D.nx t H' → D'.nx t H'
  rt : ∀ v H', D.rt v H' → D'.rt v H'
  bk : ∀ t H', D.bk t H' → D'.bk t H'
  ct : ∀ t H', D.ct t H' → D'.ct t H'
theorem spLe {pins : List (Addr × Obj)} {D D' : Ends} (l : EndsLe D D') (f : Flow) (s' : Shared) (h : SP X pins D f s') : SP X pins D' f s' := by
  cases f with
  | next => obtain ⟨a, b, c, d⟩ := h; exact ⟨a, b, c, l.nx _ _ d⟩
  | brk => obtain ⟨a, b, c, d⟩ := h; exact ⟨a, b, c, l.bk _ _ d⟩
  | cont => obtain ⟨a, b, c, d⟩ := h; exact ⟨a, b, c, l.ct _ _ d⟩
  | ret u => obtain ⟨v, a, b, c, r, d⟩ := h; exact ⟨v, a, b, c, r, l.rt _ _ d⟩
theorem semS.imp {D D' : Ends} (h : semS X st D σ H) (l : EndsLe D D') : semS X st D' σ H := fun pins s I => thn (h pins s I) (spLe l)
theorem semSs.imp {D D' : Ends} (h : semSs X sts D σ H) (l : EndsLe D D') : semSs X sts D' σ H := fun pins s I => thn (h pins s I) (spLe l)
end

/-! ### the judgements -/
structure SR (X : Cx) (G : HD) (H : Hp) (σ : DSt) (t : St) (W : DW) : Prop where
  sim : Sim X.K G H
  slots : RpS X.K H σ t
  takes : Takes X (liftW X.K G H W)
section
variable {X : Cx} {G G1 : HD} {H H1 : Hp} {σ : DSt} {t : St} {W : DW}
theorem SR.ext (r : SR X G H σ t W) (s : Sim X.K G1 H1) (x : Ext G H G1 H1) : SR X G1 H1 σ t W :=
  ⟨s, r.slots.ext r.sim x _ _, r.takes.imp fun _ _ _ _ h => h.up x⟩
theorem SR.slot (r : SR X G H σ t W) {σ' : DSt} {t' : St} (h : RpS X.K H σ' t') : SR X G H σ' t' W := ⟨r.sim, h, r.takes⟩
end
structure DE (X : Cx) (e : Expr) (t : TD) : Prop where
  run : ∀ (G : HD) (H : Hp) (σ : DSt) (τ : St) (W : DW) (Q : Post), SR X G H σ τ W → t W σ G Q → semE X e τ H (liftQ X.K G H Q)
structure DT (X : Cx) (e : Expr) (t : TDT) : Prop where
  run : ∀ (G : HD) (H : Hp) (σ : DSt) (τ : St) (W : DW) (Q : Bool → HD → Prop), SR X G H σ τ W → t W σ G Q → semT X e τ H (liftB X.K G H Q)
structure DTw (X : Cx) (e : Expr) (t : TDT) : Prop where
  run : ∀ (G : HD) (H : Hp) (σ : DSt) (τ : St) (W : DW) (Q : Bool → HD → Prop), SR X G H σ τ W → t W σ G Q → semTw X e τ H (liftB X.K G H Q)
structure DA (X : Cx) (es : List Expr) (t : TDA) : Prop where
  run : ∀ (G : HD) (H : Hp) (σ : DSt) (τ : St) (W : DW) (Q : List D → HD → Prop), SR X G H σ τ W → t W σ G Q → semA X es τ H (liftA X.K G H Q)
structure DS (X : Cx) (st : Stmt) (t : TDS) : Prop where
  run : ∀ (G : HD) (H : Hp) (σ : DSt) (τ : St) (W : DW) (D : DEnds), SR X G H σ τ W → t W D σ G → semS X st (liftD X.K G H D) τ H
structure DSs (X : Cx) (st : List Stmt) (t : TDS) : Prop where
  run : ∀ (G : HD) (H : Hp) (σ : DSt) (τ : St) (W : DW) (D : DEnds), SR X G H σ τ W → t W D σ G → semSs X st (liftD X.K G H D) τ H

section
variable {X : Cx} {a b e : Expr} {ta tb : TD} {es : List Expr} {ts : TDA}
/-- then: the next expression, in the state behind the first -/
theorem DE.then (h : DE X a ta) {G : HD} {H : Hp} {σ : DSt} {τ : St} {W : DW} {R : D → HD → Prop} {Q : VK} (r : SR X G H σ τ W) (q : ta W σ G R)
    (k : ∀ d v G1 H1, SR X G1 H1 σ τ W → Ext G H G1 H1 → Rp X.K H1 d v → R d G1 → Q v H1) : semE X a τ H Q :=
  (h.run G H σ τ W R r q).imp fun v H1 ⟨d, G1, r1, s1, x1, q1⟩ => k d v G1 H1 (r.ext s1 x1) x1 r1 q1
theorem DT.then {t : TDT} (h : DT X a t) {G : HD} {H : Hp} {σ : DSt} {τ : St} {W : DW} {R : Bool → HD → Prop} {Q : Bool → Hp → Prop} (r : SR X G H σ τ W) (q : t W σ G R)
    (k : ∀ d G1 H1, SR X G1 H1 σ τ W → Ext G H G1 H1 → R d G1 → Q d H1) : semT X a τ H Q :=
  (h.run G H σ τ W R r q).imp fun v H1 ⟨G1, s1, x1, q1⟩ => k v G1 H1 (r.ext s1 x1) x1 q1
theorem DTw.then {t : TDT} (h : DTw X a t) {G : HD} {H : Hp} {σ : DSt} {τ : St} {W : DW} {R : Bool → HD → Prop} {Q : Bool → Hp → Prop} (r : SR X G H σ τ W) (q : t W σ G R)
    (k : ∀ d G1 H1, SR X G1 H1 σ τ W → Ext G H G1 H1 → R d G1 → Q d H1) : semTw X a τ H Q :=
  (h.run G H σ τ W R r q).imp fun v H1 ⟨G1, s1, x1, q1⟩ => k v G1 H1 (r.ext s1 x1) x1 q1
theorem DA.then (h : DA X es ts) {G : HD} {H : Hp} {σ : DSt} {τ : St} {W : DW} {R : List D → HD → Prop} {Q : List V → Hp → Prop} (r : SR X G H σ τ W) (q : ts W σ G R)
    (k : ∀ ds vs G1 H1, SR X G1 H1 σ τ W → Ext G H G1 H1 → Rps X.K H1 ds vs → R ds G1 → Q vs H1) : semA X es τ H Q :=
  (h.run G H σ τ W R r q).imp fun v H1 ⟨d, G1, r1, s1, x1, q1⟩ => k d v G1 H1 (r.ext s1 x1) x1 r1 q1

/-! ### names, constants -/
def dVar (i : Nat) : TD := fun _ σ G Q => match σ[i]? with
  | some (some d) => Q d G
  | _ => False
def dC (d : D) : TD := fun _ _ G Q => Q d G
theorem de_var {i : Nat} {x : Str} {pos : Pos} (p : PE X (.Name x pos) (tVar i)) : DE X (.Name x pos) (dVar i) := ⟨fun G H σ τ W Q r h => by
  refine semE.of p ?_
  unfold dVar at h
  split at h
  · rename_i d e
    obtain ⟨v, e1, r1⟩ := r.slots.get e
    exact ⟨v, e1, .of r1 r.sim .refl h⟩
  · exact h.elim⟩
/-- a slot -/
theorem dv (i : Nat) {x : Str} {pos : Pos} (hN : X.N[i]? = some x := by rfl) (hv : Vis X.env.scope x := by first | exact Or.inl rfl | exact Or.inr (Or.inl rfl) | exact Or.inr (Or.inr rfl)) (hd : (x == ("__debug__" : Str)) = false := by decide)
    (hcd : (x == ("__classdict__" : Str)) = false := by decide) : DE X (.Name x pos) (dVar i) := de_var (pe_var hN hv hd hcd)
theorem de_const {v : V} {d : D} (p : PE X e (tC v)) (h : ∀ K H, Rp K H d v) : DE X e (dC d) := ⟨fun G H σ τ W Q r q => semE.of p (.of (h _ _) r.sim .refl q)⟩
theorem de_int {i j pos} : DE X (.Constant (.int i) j pos) (dC (.int i)) := de_const pe_int fun _ _ => rfl
theorem de_bl {i j pos} : DE X (.Constant (.bool i) j pos) (dC (.bl i)) := de_const pe_bl fun _ _ => rfl
theorem de_non {j pos} : DE X (.Constant .none j pos) (dC .non) := de_const pe_non fun _ _ => rfl
theorem de_str {i j pos} : DE X (.Constant (.str i) j pos) (dC (.str i)) := de_const pe_str fun _ _ => rfl
/-- a constant of the module -/
theorem de_glob {x : Str} {d : D} {v : V} {u : Value} {pos : Pos} (hg : Gl X x) (hm : X.mg x = some u) (r : RelV v u) (h : ∀ H, Rp X.K H d v) (hd : (x == ("__debug__" : Str)) = false := by decide) : DE X (.Name x pos) (dC d) :=
  ⟨fun G H σ τ W Q r' q => semE.of (pe_glob hg hm r hd) (.of (h _) r'.sim .refl q)⟩
/-- a built-in type by its name -/
theorem de_bty {x : Str} {n : String} {pos : Pos} (hg : Gl X x) (hm : X.mg x = none) (hv : bootBuiltins x = some (.type n)) (hn : x ≠ "__name__" := by decide) (hd : (x == ("__debug__" : Str)) = false := by decide) : DE X (.Name x pos) (dC (.ty n)) :=
  ⟨fun G H σ τ W Q r' q => semE.of (pe_bltn (v := .ty n) hg hm hv rfl hn hd) (.of (d := .ty n) (show Rp X.K H (.ty n) (.ty n) from rfl) r'.sim .refl q)⟩

/-! ### operators by values -/
/-- a reading of values over data -/
def OpD (K : PySem.W.Frag) (r : R2) (rd : D → D → HD → Post → Prop) : Prop :=
  ∀ (G : HD) (H : Hp) (d e : D) (x y : V) (Q : Post) (Q' : VK), Sim K G H → Rp K H d x → Rp K H e y → (∀ v H', liftQ K G H Q v H' → Q' v H') → rd d e G Q → r x y H Q'
def dOp (rd : D → D → HD → Post → Prop) (ta tb : TD) : TD := fun W σ G Q => ta W σ G fun d G1 => tb W σ G1 fun e G2 => rd d e G2 Q
theorem de_two {r : R2} {rd : D → D → HD → Post → Prop} (hd : OpD X.K r rd) (p : PE X e (tOp r (semE X a) (semE X b))) (ha : DE X a ta) (hb : DE X b tb) : DE X e (dOp rd ta tb) :=
  ⟨fun G H σ τ W Q r0 h => semE.of p (ha.then r0 h fun d x G1 H1 r1 x1 k1 q1 => hb.then r1 q1 fun d2 y G2 H2 r2 x2 k2 q2 =>
    hd G2 H2 d d2 x y Q _ r2.sim (k1.ext r1.sim x2 _ _) k2 (fun _ _ z => z.up (x1.trans x2)) q2)⟩
theorem de_op {op : Operator} {r : R2} {rd : D → D → HD → Post → Prop} {pos : Pos} (ho : OpR X (binaryOp op) r) (hd : OpD X.K r rd) (ha : DE X a ta) (hb : DE X b tb) : DE X (.BinOp a op b pos) (dOp rd ta tb) :=
  de_two hd (pe_op ho peSem peSem) ha hb
theorem de_cmp {op : CmpOp} {r : R2} {rd : D → D → HD → Post → Prop} {pos : Pos} (ho : OpR X (compareOp op) r) (hd : OpD X.K r rd) (ha : DE X a ta) (hb : DE X b tb) (hm : behindInMarks op b = false) : DE X (.Compare a [op] [b] pos) (dOp rd ta tb) :=
  de_two hd (pe_cmpR ho peSem peSem hm) ha hb
theorem de_ix {r : R2} {rd : D → D → HD → Post → Prop} {pos : Pos} (ho : IxR X r) (hd : OpD X.K r rd) (ha : DE X a ta) (hb : DE X b tb) (hs : PlainIx b) : DE X (.Subscript a b pos) (dOp rd ta tb) :=
  de_two hd (pe_ix ho peSem peSem hs) ha hb
def dTest (t : TD) : TDT := fun W σ G Q => t W σ G fun d G1 => match d with
  | .bl k => Q k G1
  | _ => False
theorem dt_cmp {op : CmpOp} {r : R2} {rd : D → D → HD → Post → Prop} {pos : Pos} (ho : OpR X (compareOp op) r) (hd : OpD X.K r rd) (ha : DE X a ta) (hb : DE X b tb) (hm : behindInMarks op b = false) : DT X (.Compare a [op] [b] pos) (dTest (dOp rd ta tb)) :=
  ⟨fun G H σ τ W Q r0 h => semT.of (pt_cmpR ho peSem peSem hm) (ha.then r0 h fun d x G1 H1 r1 x1 k1 q1 => hb.then r1 q1 fun d2 y G2 H2 r2 x2 k2 q2 =>
    hd G2 H2 d d2 x y _ _ r2.sim (k1.ext r1.sim x2 _ _) k2 (fun v H' ⟨d3, G3, k3, s3, x3, q3⟩ => by
      cases d3 with
      | bl k => exact ⟨k, k3, G3, s3, (x1.trans x2).trans x3, q3⟩
      | _ => exact q3.elim) q2)⟩
theorem OpD.or {K : PySem.W.Frag} {r r' : R2} {rd : D → D → HD → Post → Prop} {rd' : D → D → HD → Post → Prop} (h : OpD K r rd) (h' : OpD K r' rd') :
    OpD K (fun x y H Q => r x y H Q ∨ r' x y H Q) (fun d e G Q => rd d e G Q ∨ rd' d e G Q) := fun G H d e x y Q Q' s k1 k2 f q => q.elim (fun z => .inl (h G H d e x y Q Q' s k1 k2 f z)) fun z => .inr (h' G H d e x y Q Q' s k1 k2 f z)
end
end DL

namespace DL
open PySem PySem.Spec L2
open PyProof.Rows hiding St

section
variable {K : PySem.W.Frag} {G : HD} {H : Hp}
/-- a list that is read: one of ours, or one that never changes -/
def asL (G : HD) : D → Option (List D)
  | .kl ds => some ds
  | .kc ds => some ds
  | .ref a => match G a with
    | some (.lst ds) => some ds
    | _ => none
  | _ => none
def asQ (G : HD) : D → Option (List D)
  | .tup ds => some ds
  | d => asL G d
theorem Rp.lst (s : Sim K G H) {d : D} {v : V} {ds : List D} (r : Rp K H d v) (h : asL G d = some ds) : ∃ a vs, v = .ref a ∧ SqL K H a vs ∧ Rps K H ds vs := by
  cases d with
  | kl es =>
    cases h
    obtain ⟨a, vs, rfl, ⟨o, t⟩, q⟩ := r
    exact ⟨a, vs, rfl, .inl (.inr ⟨o, t⟩), q⟩
  | kc es =>
    cases h
    obtain ⟨a, vs, rfl, t, q⟩ := r
    refine ⟨a, vs, rfl, ?_, q⟩
    rcases t with ⟨o, t⟩ | t
    · exact .inl (.inr ⟨o, t⟩)
    · exact .inr t
  | exc _ _ _ => cases h
  | emp => cases h
  | ref a =>
    cases (show v = .ref a from r)
    simp only [asL] at h
    split at h
    · rename_i es e
      cases h
      obtain ⟨vs, e1, r1⟩ := s.lst e
      exact ⟨a, vs, rfl, .of e1, r1⟩
    · cases h
  | non => cases h
  | bl _ => cases h
  | int _ => cases h
  | str _ => cases h
  | ty _ => cases h
  | tup _ => cases h
theorem Rp.seq (s : Sim K G H) {d : D} {v : V} {ds : List D} (r : Rp K H d v) (h : asQ G d = some ds) : ∃ a vs, v = .ref a ∧ (SqL K H a vs ∨ SqT K H a vs) ∧ Rps K H ds vs := by
  by_cases z : ∃ es, d = .tup es
  · obtain ⟨es, rfl⟩ := z
    cases h
    obtain ⟨a, vs, rfl, t, q⟩ := r
    exact ⟨a, vs, rfl, .inr t, q⟩
  · have h' : asL G d = some ds := by
      cases d with
      | tup es => exact (z ⟨es, rfl⟩).elim
      | _ => exact h
    obtain ⟨a, vs, e, t, q⟩ := r.lst s h'
    exact ⟨a, vs, e, .inl t, q⟩
end
/-- a new list -/
def newL (G : HD) (ds : List D) (Q : Post) : Prop := ∀ p, G p = none → Q (.ref p) (put G p (.lst ds))
theorem newL.fin {K : PySem.W.Frag} {G : HD} {H : Hp} {ds : List D} {vs : List V} {Q : Post} {Q' : VK} (s : Sim K G H) (r : Rps K H ds vs) (f : ∀ v H', liftQ K G H Q v H' → Q' v H') (q : newL G ds Q) :
    ∀ p, H p = none → Q' (.ref p) (upd H p (.lst vs)) := fun p hp =>
  f _ _ (.of (d := .ref p) rfl (s.newM (m := .lst ds) hp ⟨vs, rfl, r⟩) (.newM hp) (q p (s.no hp)))
theorem newT.fin {K : PySem.W.Frag} {G : HD} {H : Hp} {ds : List D} {vs : List V} {Q : Post} {Q' : VK} (s : Sim K G H) (r : Rps K H ds vs) (f : ∀ v H', liftQ K G H Q v H' → Q' v H') (q : Q (.tup ds) G) :
    ∀ p, H p = none → Q' (.ref p) (upd H p (.tup vs)) := fun p hp =>
  f _ _ (.of (d := .tup ds) ⟨p, vs, rfl, .of upd_same, r.ext s (Ext.new hp (s.no hp)) _ _⟩ (s.newO hp) (.new hp (s.no hp)) q)

/-! ### + - * // % ** -/
def dAdd : D → D → HD → Post → Prop := fun d e G Q => match d, e with
  | .int i, .int j => Q (.int (i + j)) G
  | .str x, .str y => x.length + y.length ≤ sizeLine ∧ Q (.str (x ++ y)) G
  | .tup xs, .tup ys => xs.length + ys.length ≤ sizeLine ∧ Q (.tup (xs ++ ys)) G
  | .ref a, .ref b => match G a, G b with
    | some (.lst xs), some (.lst ys) => xs.length + ys.length ≤ sizeLine ∧ newL G (xs ++ ys) Q
    | _, _ => False
  | _, _ => False
def rAddU (K : PySem.W.Frag) : R2 := fun x y H Q => rI0 (fun i j => .int (i + j)) x y H Q ∨ (∃ i j, x = .str i ∧ y = .str j ∧ i.length + j.length ≤ sizeLine ∧ Q (.str (i ++ j)) H) ∨ rCatA K x y H Q ∨ rCat x y H Q
theorem od_add (K : PySem.W.Frag) : OpD K (rAddU K) dAdd := fun G H d e x y Q Q' s k1 k2 f q => by
  unfold dAdd at q
  split at q
  · cases k1; cases k2
    exact .inl ⟨_, _, rfl, rfl, f _ _ (.of (d := .int _) rfl s .refl q)⟩
  · cases k1; cases k2
    exact .inr (.inl ⟨_, _, rfl, rfl, q.1, f _ _ (.of (d := .str _) rfl s .refl q.2)⟩)
  · rename_i xs ys
    obtain ⟨a, vs, rfl, t1, r1⟩ := id k1
    obtain ⟨b, ws, rfl, t2, r2⟩ := id k2
    refine .inr (.inr (.inl ⟨a, b, vs, ws, rfl, rfl, t1, t2, by rw [r1.length, r2.length]; exact q.1, fun e => ?_, fun _ e => ?_, fun _ _ => newT.fin s (r1.app r2) f q.2⟩))
    · subst e
      have e1 : xs = [] := List.eq_nil_of_length_eq_zero (by rw [← r1.length]; rfl)
      subst e1
      exact f _ _ (.of (d := .tup ys) k2 s .refl q.2)
    · subst e
      have e1 : ys = [] := List.eq_nil_of_length_eq_zero (by rw [← r2.length]; rfl)
      subst e1
      exact f _ _ (.of (d := .tup xs) k1 s .refl (by simpa using q.2))
  · split at q
    · rename_i xs ys e1 e2
      cases k1; cases k2
      obtain ⟨vs, g1, r1⟩ := s.lst e1
      obtain ⟨ws, g2, r2⟩ := s.lst e2
      exact .inr (.inr (.inr ⟨_, _, vs, ws, rfl, rfl, g1, g2, by rw [r1.length, r2.length]; exact q.1, newL.fin s (r1.app r2) f q.2⟩))
    · exact q.elim
  · exact q.elim
def dSub : D → D → HD → Post → Prop := fun d e G Q => match d, e with
  | .int i, .int j => Q (.int (i - j)) G
  | _, _ => False
theorem od_int {K : PySem.W.Frag} {C : Int → Int → Prop} {g : Int → Int → V} {gd : Int → Int → D} (hg : ∀ i j K H, Rp K H (gd i j) (g i j)) :
    OpD K (rI C g) (fun d e G Q => match d, e with | .int i, .int j => C i j ∧ Q (gd i j) G | _, _ => False) := fun G H d e x y Q Q' s k1 k2 f q => by
  dsimp only at q
  split at q
  · cases k1; cases k2
    exact ⟨_, _, rfl, rfl, q.1, f _ _ (.of (hg _ _ _ _) s .refl q.2)⟩
  · exact q.elim
theorem od_int0 {K : PySem.W.Frag} {g : Int → Int → V} {gd : Int → Int → D} (hg : ∀ i j K H, Rp K H (gd i j) (g i j)) :
    OpD K (rI0 g) (fun d e G Q => match d, e with | .int i, .int j => Q (gd i j) G | _, _ => False) := fun G H d e x y Q Q' s k1 k2 f q => by
  dsimp only at q
  split at q
  · cases k1; cases k2
    exact ⟨_, _, rfl, rfl, f _ _ (.of (hg _ _ _ _) s .refl q)⟩
  · exact q.elim
theorem od_sub (K : PySem.W.Frag) : OpD K (rI0 fun i j => .int (i - j)) dSub := od_int0 (gd := fun i j => .int (i - j)) fun _ _ _ _ => rfl
def MulOk (i j : Int) : Prop := CMul i j ∨ CMulW i j
def dMul : D → D → HD → Post → Prop := fun d e G Q => match d, e with
  | .int i, .int j => MulOk i j ∧ Q (.int (i * j)) G
  | _, _ => False
def rMulU : R2 := fun x y H Q => rI CMul (fun i j => .int (i * j)) x y H Q ∨ rI CMulW (fun i j => .int (i * j)) x y H Q
theorem od_mul (K : PySem.W.Frag) : OpD K rMulU dMul := fun G H d e x y Q Q' s k1 k2 f q => by
  unfold dMul at q
  split at q
  · cases k1; cases k2
    exact q.1.elim (fun z => .inl ⟨_, _, rfl, rfl, z, f _ _ (.of (d := .int _) rfl s .refl q.2)⟩) fun z => .inr ⟨_, _, rfl, rfl, z, f _ _ (.of (d := .int _) rfl s .refl q.2)⟩
  · exact q.elim
def dDiv : D → D → HD → Post → Prop := fun d e G Q => match d, e with
  | .int i, .int j => CDivW i j ∧ Q (.int (i / j)) G
  | _, _ => False
theorem od_div (K : PySem.W.Frag) : OpD K (rI CDivW fun i j => .int (i / j)) dDiv := od_int (gd := fun i j => .int (i / j)) fun _ _ _ _ => rfl
def dMod : D → D → HD → Post → Prop := fun d e G Q => match d, e with
  | .int i, .int j => 0 < j ∧ Q (.int (i % j)) G
  | _, _ => False
theorem od_mod (K : PySem.W.Frag) : OpD K (rI (fun _ j => 0 < j) fun i j => .int (i % j)) dMod := od_int (gd := fun i j => .int (i % j)) fun _ _ _ _ => rfl
def dPow : D → D → HD → Post → Prop := fun d e G Q => match d, e with
  | .int i, .int j => CPow i j ∧ Q (.int (i ^ j.toNat)) G
  | _, _ => False
theorem od_pow (K : PySem.W.Frag) : OpD K (rI CPow fun i j => .int (i ^ j.toNat)) dPow := od_int (gd := fun i j => .int (i ^ j.toNat)) fun _ _ _ _ => rfl
section
variable {X : Cx} {a b : Expr} {ta tb : TD} {pos : Pos}
theorem de_add (ha : DE X a ta) (hb : DE X b tb) : DE X (.BinOp a .Add b pos) (dOp dAdd ta tb) := de_op (op_add.or (op_add_str.or (op_catA.or op_cat))) (od_add X.K) ha hb
theorem de_sub (ha : DE X a ta) (hb : DE X b tb) : DE X (.BinOp a .Sub b pos) (dOp dSub ta tb) := de_op op_sub (od_sub X.K) ha hb
theorem de_mul (ha : DE X a ta) (hb : DE X b tb) : DE X (.BinOp a .Mult b pos) (dOp dMul ta tb) := de_op (op_mul.or op_mulW) (od_mul X.K) ha hb
theorem de_div (ha : DE X a ta) (hb : DE X b tb) : DE X (.BinOp a .FloorDiv b pos) (dOp dDiv ta tb) := de_op op_fdivW (od_div X.K) ha hb
theorem de_mod (ha : DE X a ta) (hb : DE X b tb) : DE X (.BinOp a .Mod b pos) (dOp dMod ta tb) := de_op op_mod (od_mod X.K) ha hb
theorem de_pow (ha : DE X a ta) (hb : DE X b tb) : DE X (.BinOp a .Pow b pos) (dOp dPow ta tb) := de_op op_pow (od_pow X.K) ha hb
end

/-! ### comparisons -/
def dCmpI (p : Int → Int → Bool) : D → D → HD → Post → Prop := fun d e G Q => match d, e with
  | .int i, .int j => Q (.bl (p i j)) G
  | _, _ => False
theorem od_cmpI (K : PySem.W.Frag) (p : Int → Int → Bool) : OpD K (rI0 fun i j => .bl (p i j)) (dCmpI p) := od_int0 (gd := fun i j => .bl (p i j)) fun _ _ _ _ => rfl
def isNon : D → Bool
  | .non => true
  | _ => false
theorem isNon_of {K : PySem.W.Frag} {H : Hp} {d : D} {v : V} (r : Rp K H d v) : decide (v = .non) = isNon d := by
  cases d with
  | non => cases r; rfl
  | bl _ => cases r; rfl
  | int _ => cases r; rfl
  | str _ => cases r; rfl
  | ty _ => cases r; rfl
  | ref _ => cases r; rfl
  | tup _ => obtain ⟨_, _, rfl, _⟩ := r; rfl
  | kl _ => obtain ⟨_, _, rfl, _⟩ := r; rfl
  | kc _ => obtain ⟨_, _, rfl, _⟩ := r; rfl
  | exc _ _ _ => obtain ⟨_, _, _, rfl, _⟩ := r; rfl
  | emp => obtain ⟨_, _, rfl, _⟩ := r; rfl
def dIsN (neg : Bool) : D → D → HD → Post → Prop := fun d e G Q => match e with
  | .non => Q (.bl (if neg then !isNon d else isNon d)) G
  | _ => False
theorem od_isN (K : PySem.W.Frag) : OpD K (fun x y H Q => y = .non ∧ Q (.bl (decide (x = .non))) H) (dIsN false) := fun G H d e x y Q Q' s k1 k2 f q => by
  unfold dIsN at q
  split at q
  · cases k2
    refine ⟨rfl, f _ _ (.of (d := .bl (isNon d)) ?_ s .refl q)⟩
    rw [isNon_of k1]; exact rfl
  · exact q.elim
theorem od_notN (K : PySem.W.Frag) : OpD K (fun x y H Q => y = .non ∧ Q (.bl (!decide (x = .non))) H) (dIsN true) := fun G H d e x y Q Q' s k1 k2 f q => by
  unfold dIsN at q
  split at q
  · cases k2
    refine ⟨rfl, f _ _ (.of (d := .bl (!isNon d)) ?_ s .refl q)⟩
    rw [isNon_of k1]; exact rfl
  · exact q.elim

/-! == and != of data -/
/-- data by value, as the library's PyData; fuel: its depth -/
def pyD : Nat → HD → D → Option PyData
  | 0, _, _ => none
  | n + 1, G, d => match d with
    | .non => some .none
    | .bl b => some (.bool b)
    | .int i => some (.int i)
    | .str x => if PyData.strOk x = true then some (.str x) else none
    | .tup ds => (ds.mapM (pyD n G)).map .tuple
    | .kl ds => (ds.mapM (pyD n G)).map .list
    | .kc ds => (ds.mapM (pyD n G)).map .list
    | .exc _ _ _ => none
    | .emp => none
    | .ref a => match G a with
      | some (.lst ds) => (ds.mapM (pyD n G)).map .list
      | _ => none
    | .ty _ => none
section
variable {K : PySem.W.Frag} {G : HD} {H : Hp}
theorem mapM_cons_some {α β : Type} {f : α → Option β} {a : α} {l : List α} {ys : List β} (h : (a :: l).mapM f = some ys) : ∃ y zs, f a = some y ∧ l.mapM f = some zs ∧ ys = y :: zs := by
  rw [List.mapM_cons] at h
  cases e : f a with
  | none => rw [e] at h; cases h
  | some y =>
    rw [e] at h
    cases e2 : l.mapM f with
    | none => rw [e2] at h; cases h
    | some zs => rw [e2] at h; cases h; exact ⟨y, zs, rfl, rfl, rfl⟩
theorem pyDs_dp {n : Nat} (s : Sim K G H) (ih : ∀ (d : D) (v : V) (p : PyData), pyD n G d = some p → Rp K H d v → Dp K H v p ∧ p.canLay0 = true ∧ p.depth ≤ n) :
    ∀ (ds : List D) (vs : List V) (ps : List PyData), ds.mapM (pyD n G) = some ps → Rps K H ds vs → DpAll K H vs ps ∧ PyData.canLayAll0 ps = true ∧ PyData.depthAll ps ≤ n
  | [], vs, ps, h, r => by
    cases r
    simp only [List.mapM_nil, Option.pure_def, Option.some.injEq] at h
    subst h
    exact ⟨.nil, by simp only [PyData.canLayAll0], by simp only [PyData.depthAll]; exact Nat.zero_le _⟩
  | d :: ds, vs, ps, h, r => by
    obtain ⟨y, zs, e1, e2, rfl⟩ := mapM_cons_some h
    obtain ⟨v, r', rfl, h1, h2⟩ := r
    obtain ⟨a1, a2, a3⟩ := ih d v y e1 h1
    obtain ⟨b1, b2, b3⟩ := pyDs_dp s ih ds r' zs e2 h2
    refine ⟨.cons a1 b1, by simp only [PyData.canLayAll0, a2, b2, Bool.and_self], ?_⟩
    simp only [PyData.depthAll]
    omega
theorem pyD_dp (s : Sim K G H) : ∀ (n : Nat) (d : D) (v : V) (p : PyData), pyD n G d = some p → Rp K H d v → Dp K H v p ∧ p.canLay0 = true ∧ p.depth ≤ n
  | 0, _, _, _, h, _ => by cases h
  | n + 1, d, v, p, h, r => by
    cases d with
    | non => cases h; cases r; exact ⟨.non, by simp only [PyData.canLay0], by simp only [PyData.depth]; omega⟩
    | bl b => cases h; cases r; exact ⟨.bl b, by simp only [PyData.canLay0], by simp only [PyData.depth]; omega⟩
    | int i => cases h; cases r; exact ⟨.int i, by simp only [PyData.canLay0], by simp only [PyData.depth]; omega⟩
    | str x =>
      unfold pyD at h
      simp only at h
      split at h
      · rename_i hx
        cases h; cases r; exact ⟨.str x, by simp only [PyData.canLay0, hx], by simp only [PyData.depth]; omega⟩
      · cases h
    | ty _ => cases h
    | tup ds =>
      unfold pyD at h
      simp only [Option.map_eq_some_iff] at h
      obtain ⟨ps, e, rfl⟩ := h
      obtain ⟨a, vs, rfl, t, r2⟩ := r
      obtain ⟨x1, x2, x3⟩ := pyDs_dp s (pyD_dp s n) ds vs ps e r2
      exact ⟨.tup t x1, by simp only [PyData.canLay0, x2], by simp only [PyData.depth]; omega⟩
    | kl ds =>
      have r0 := r
      unfold pyD at h
      simp only [Option.map_eq_some_iff] at h
      obtain ⟨ps, e, rfl⟩ := h
      obtain ⟨a, vs, rfl, t, r2⟩ := Rp.lst (ds := ds) s r rfl
      obtain ⟨x1, x2, x3⟩ := pyDs_dp s (pyD_dp s n) ds vs ps e r2
      exact ⟨.lst t x1, by simp only [PyData.canLay0, x2], by simp only [PyData.depth]; omega⟩
    | kc ds =>
      have r0 := r
      unfold pyD at h
      simp only [Option.map_eq_some_iff] at h
      obtain ⟨ps, e, rfl⟩ := h
      obtain ⟨a, vs, rfl, t, r2⟩ := Rp.lst (ds := ds) s r rfl
      obtain ⟨x1, x2, x3⟩ := pyDs_dp s (pyD_dp s n) ds vs ps e r2
      exact ⟨.lst t x1, by simp only [PyData.canLay0, x2], by simp only [PyData.depth]; omega⟩
    | exc _ _ _ => cases h
    | emp => cases h
    | ref a =>
      unfold pyD at h
      simp only at h
      split at h
      · rename_i ds eg
        simp only [Option.map_eq_some_iff] at h
        obtain ⟨ps, e, rfl⟩ := h
        cases r
        obtain ⟨vs, e1, r2⟩ := s.lst eg
        obtain ⟨x1, x2, x3⟩ := pyDs_dp s (pyD_dp s n) ds vs ps e r2
        exact ⟨.lst (.of e1) x1, by simp only [PyData.canLay0, x2], by simp only [PyData.depth]; omega⟩
      · cases h
theorem pyD_shaped {n : Nat} (s : Sim K G H) {d : D} {v : V} {p : PyData} (h : pyD n G d = some p) (hn : n ≤ 64) (r : Rp K H d v) : Dp K H v p ∧ SeqAt.shaped p = true := by
  obtain ⟨a, b, c⟩ := pyD_dp s n d v p h r
  exact ⟨a, by unfold SeqAt.shaped; rw [b, decide_eq_true (Nat.le_trans c hn)]; rfl⟩
end
/-- the answer of == -/
def eqO (G : HD) (d e : D) : Option Bool := match pyD 9 G d, pyD 9 G e with
  | some p, some q => some (PyData.eqv p q)
  | _, _ => none
def dEq (neg : Bool) : D → D → HD → Post → Prop := fun d e G Q => match eqO G d e with
  | some b => Q (.bl (if neg then !b else b)) G
  | none => False
theorem eqO_some {G : HD} {d e : D} {b : Bool} (h : eqO G d e = some b) : ∃ p q, pyD 9 G d = some p ∧ pyD 9 G e = some q ∧ b = PyData.eqv p q := by
  unfold eqO at h
  split at h
  · rename_i p q e1 e2
    cases h
    exact ⟨p, q, e1, e2, rfl⟩
  · cases h
theorem od_eq (K : PySem.W.Frag) : OpD K (rEqD K) (dEq false) := fun G H d e x y Q Q' s k1 k2 f q => by
  unfold dEq at q
  split at q
  · rename_i b hb
    obtain ⟨p1, p2, e1, e2, rfl⟩ := eqO_some hb
    obtain ⟨a1, a2⟩ := pyD_shaped s e1 (by decide) k1
    obtain ⟨b1, b2⟩ := pyD_shaped s e2 (by decide) k2
    exact ⟨p1, p2, a1, b1, a2, b2, f _ _ (.of (d := .bl _) rfl s .refl q)⟩
  · exact q.elim
theorem od_ne (K : PySem.W.Frag) : OpD K (rNeD K) (dEq true) := fun G H d e x y Q Q' s k1 k2 f q => by
  unfold dEq at q
  split at q
  · rename_i b hb
    obtain ⟨p1, p2, e1, e2, rfl⟩ := eqO_some hb
    obtain ⟨a1, a2⟩ := pyD_shaped s e1 (by decide) k1
    obtain ⟨b1, b2⟩ := pyD_shaped s e2 (by decide) k2
    exact ⟨p1, p2, a1, b1, a2, b2, f _ _ (.of (d := .bl _) rfl s .refl q)⟩
  · exact q.elim

/-! ### items -/
theorem ixN_len {n m : Nat} (h : n = m) (i : Int) : ixN n i = ixN m i := by rw [h]
theorem Rps.at {K : PySem.W.Frag} {H : Hp} {ds : List D} {vs : List V} {i : Int} {d : D} (r : Rps K H ds vs) (h : atI ds i = some d) : ∃ v, atI vs i = some v ∧ Rp K H d v := by
  unfold atI at h ⊢
  rw [r.length]
  cases e : ixN ds.length i with
  | none => rw [e] at h; cases h
  | some j => rw [e] at h; exact r.get h
def dIx : D → D → HD → Post → Prop := fun d e G Q => match e with
  | .int i => match d with
    | .str z => z.length ≤ sizeLine ∧ match atI z.cps.toList i with
      | some c => Q (.str ⟨#[c]⟩) G
      | none => False
    | _ => match asQ G d with
      | some ds => match atI ds i with
        | some v => Q v G
        | none => False
      | none => False
  | _ => False
theorem od_ix (K : PySem.W.Frag) : OpD K (rIx K) dIx := fun G H d e x y Q Q' s k1 k2 f q => by
  unfold dIx at q
  split at q
  · cases k2
    split at q
    · obtain ⟨hz, q⟩ := q
      split at q
      · rename_i c hc
        cases k1
        exact .inr (.inr ⟨_, _, c, rfl, rfl, hz, hc, f _ _ (.of (d := .str _) rfl s .refl q)⟩)
      · exact q.elim
    · split at q
      · rename_i ds hd
        split at q
        · rename_i v hv
          obtain ⟨a, vs, rfl, t, r⟩ := k1.seq s hd
          obtain ⟨v', h1, h2⟩ := r.at hv
          rcases t with t | t
          · exact .inl ⟨a, vs, _, v', rfl, rfl, t, h1, f _ _ (.of h2 s .refl q)⟩
          · exact .inr (.inl ⟨a, vs, _, v', rfl, rfl, t, h1, f _ _ (.of h2 s .refl q)⟩)
        · exact q.elim
      · exact q.elim
  · exact q.elim
section
variable {X : Cx} {a b : Expr} {ta tb : TD} {pos : Pos}
theorem de_item (ha : DE X a ta) (hb : DE X b tb) (hs : PlainIx b := by intro _ _; rfl) : DE X (.Subscript a b pos) (dOp dIx ta tb) := de_ix ix_seq (od_ix X.K) ha hb hs
end
end DL

namespace DL
open PySem PySem.Spec L2
open PyProof.Rows hiding St

/-! ### argument lists, displays -/
section
variable {X : Cx} {a b e : Expr} {ta tb : TD} {es : List Expr} {ts : TDA} {pos : Pos}
def dNil : TDA := fun _ _ G Q => Q [] G
def dCons (ta : TD) (tr : TDA) : TDA := fun W σ G Q => ta W σ G fun d G1 => tr W σ G1 fun ds G2 => Q (d :: ds) G2
theorem da_nil : DA X [] dNil := ⟨fun G H σ τ W Q r q => semA.of pa_nil ⟨[], G, rfl, r.sim, .refl, q⟩⟩
theorem da_cons (ha : DE X e ta) (hr : DA X es ts) (hs : starEach (e :: es) X.env = (false, eval e X.env) :: starEach es X.env := by rfl) : DA X (e :: es) (dCons ta ts) :=
  ⟨fun G H σ τ W Q r0 h => semA.of (pa_cons peSem paSem hs) (ha.then r0 h fun d v G1 H1 r1 x1 k1 q1 => hr.then r1 q1 fun ds vs G2 H2 r2 x2 k2 q2 =>
    ⟨d :: ds, G2, .cons (k1.ext r1.sim x2 _ _) k2, r2.sim, x1.trans x2, q2⟩)⟩
def dTup (ts : TDA) : TD := fun W σ G Q => ts W σ G fun ds G1 => ds.length ≤ 1000 ∧ Q (.tup ds) G1
def dLst (ts : TDA) : TD := fun W σ G Q => ts W σ G fun ds G1 => ds.length ≤ 1000 ∧ newL G1 ds Q
theorem le1000 {n : Nat} (h : n ≤ 1000) : n ≤ sizeLine := Nat.le_of_lt (small1000 h)
theorem de_tup {x1} (h : DA X es ts) : DE X (.Tuple es x1 pos) (dTup ts) :=
  ⟨fun G H σ τ W Q r0 q => semE.of (pe_tup paSem) (h.then r0 q fun ds vs G1 H1 r1 x1 k1 q1 => ⟨by rw [k1.length]; exact le1000 q1.1, newT.fin r1.sim k1 (fun _ _ z => z.up x1) q1.2⟩)⟩
theorem de_lst (h : DA X es ts) : DE X (.List es pos) (dLst ts) :=
  ⟨fun G H σ τ W Q r0 q => semE.of (pe_lst paSem) (h.then r0 q fun ds vs G1 H1 r1 x1 k1 q1 => ⟨by rw [k1.length]; exact le1000 q1.1, newL.fin r1.sim k1 (fun _ _ z => z.up x1) q1.2⟩)⟩

/-! ### truth -/
def truD (G : HD) : D → Option Bool
  | .non => some false
  | .bl b => some b
  | .int i => some (i != 0)
  | .str x => if x.length ≤ sizeLine then some ((x.length : Int) != 0) else none
  | .tup ds => some (!ds.isEmpty)
  | .kl ds => some (!ds.isEmpty)
  | .kc ds => some (!ds.isEmpty)
  | .exc _ _ _ => none
  | .emp => none
  | .ref a => match G a with
    | some (.lst ds) => some (!ds.isEmpty)
    | some (.dK l) => some (!l.isEmpty)
    | _ => none
  | .ty _ => none
theorem isEmpty_eq {α β : Type} {l : List α} {m : List β} (h : m.length = l.length) : m.isEmpty = l.isEmpty := by
  cases l <;> cases m <;> first | rfl | (simp at h)
theorem truD_ok {K : PySem.W.Frag} {G : HD} {H : Hp} {d : D} {v : V} {b : Bool} (s : Sim K G H) (r : Rp K H d v) (h : truD G d = some b) : TruV K v H b := by
  cases d with
  | non => cases r; cases h; exact rfl
  | bl c => cases r; cases h; exact rfl
  | int i => cases r; cases h; exact rfl
  | str x =>
    cases r
    simp only [truD] at h
    split at h
    · rename_i z; cases h; exact ⟨z, rfl⟩
    · cases h
  | ty _ => cases h
  | tup ds =>
    obtain ⟨a, vs, rfl, t, r2⟩ := r
    cases h
    exact .inr (.inl ⟨vs, t, by rw [isEmpty_eq r2.length]⟩)
  | kl ds =>
    obtain ⟨a, vs, rfl, t, r2⟩ := Rp.lst (ds := ds) s r rfl
    cases h
    exact .inl ⟨vs, t, by rw [isEmpty_eq r2.length]⟩
  | kc ds =>
    obtain ⟨a, vs, rfl, t, r2⟩ := Rp.lst (ds := ds) s r rfl
    cases h
    exact .inl ⟨vs, t, by rw [isEmpty_eq r2.length]⟩
  | exc _ _ _ => cases h
  | emp => cases h
  | ref a =>
    cases r
    simp only [truD] at h
    split at h
    · rename_i ds e
      cases h
      obtain ⟨vs, e1, r1⟩ := s.lst e
      exact .inl ⟨vs, .of e1, by rw [isEmpty_eq r1.length]⟩
    · rename_i l e
      cases h
      obtain ⟨m, e1, r1⟩ := s.dK e
      exact .inr (.inr ⟨m, e1, by rw [isEmpty_eq r1.length]⟩)
    · cases h
def dTru (t : TD) : TDT := fun W σ G Q => t W σ G fun d G1 => match truD G1 d with
  | some b => Q b G1
  | none => False
theorem dt_tru (ha : DE X a ta) (he : ∀ whole, isTrue a X.env whole = (do let v ← whole; standAt a.pos; holding [v] (truthy v)) := by intro _; rfl) : DT X a (dTru ta) :=
  ⟨fun G H σ τ W Q r0 h => semT.of (pt_truth peSem he) (ha.then r0 h fun d v G1 H1 r1 x1 k1 q1 => by
    try dsimp only at q1
    split at q1
    · rename_i b e
      exact ⟨b, truD_ok r1.sim k1 e, G1, r1.sim, x1, q1⟩
    · exact q1.elim)⟩
def dAnd (t u : TDT) : TDT := fun W σ G Q => t W σ G fun c G1 => if c = true then u W σ G1 Q else Q false G1
def dOr (t u : TDT) : TDT := fun W σ G Q => t W σ G fun c G1 => if c = true then Q true G1 else u W σ G1 Q
def dNot (t : TDT) : TDT := fun W σ G Q => t W σ G fun c G1 => Q (!c) G1
variable {t u : TDT} {rest : List Expr}
theorem dtw_and1 (h : DT X a t) : DTw X (.BoolOp .And [a] pos) t := ⟨fun G H σ τ W Q r q => semTw.of (pw_and1 ptSem) (h.run G H σ τ W Q r q)⟩
theorem dtw_or1 (h : DT X a t) : DTw X (.BoolOp .Or [a] pos) t := ⟨fun G H σ τ W Q r q => semTw.of (pw_or1 ptSem) (h.run G H σ τ W Q r q)⟩
theorem dtw_and (h : DT X a t) (k : DTw X (.BoolOp .And (b :: rest) pos) u) : DTw X (.BoolOp .And (a :: b :: rest) pos) (dAnd t u) :=
  ⟨fun G H σ τ W Q r q => semTw.of (pw_and ptSem pwSem) (h.then r q fun c G1 H1 r1 x1 q1 => by
    cases c with
    | true => exact (k.run G1 H1 σ τ W Q r1 q1).imp fun _ _ z => z.up x1
    | false => exact ⟨G1, r1.sim, x1, q1⟩)⟩
theorem dtw_or (h : DT X a t) (k : DTw X (.BoolOp .Or (b :: rest) pos) u) : DTw X (.BoolOp .Or (a :: b :: rest) pos) (dOr t u) :=
  ⟨fun G H σ τ W Q r q => semTw.of (pw_or ptSem pwSem) (h.then r q fun c G1 H1 r1 x1 q1 => by
    cases c with
    | false => exact (k.run G1 H1 σ τ W Q r1 q1).imp fun _ _ z => z.up x1
    | true => exact ⟨G1, r1.sim, x1, q1⟩)⟩
theorem dt_w (h : DTw X a t) : DT X a t := ⟨fun G H σ τ W Q r q => semT.of pwSem.pt (h.run G H σ τ W Q r q)⟩
theorem dt_not (h : DT X a t) : DT X (.UnaryOp .Not a pos) (dNot t) := ⟨fun G H σ τ W Q r q => semT.of (pt_not ptSem) (h.run G H σ τ W (fun c G' => Q (!c) G') r q)⟩
/-- and, or, not as values -/
def dAndV (ta tb : TD) : TD := fun W σ G Q => ta W σ G fun d G1 => match truD G1 d with
  | some b => if b = true then tb W σ G1 Q else Q d G1
  | none => False
def dOrV (ta tb : TD) : TD := fun W σ G Q => ta W σ G fun d G1 => match truD G1 d with
  | some b => if b = true then Q d G1 else tb W σ G1 Q
  | none => False
def dNotV (ta : TD) : TD := fun W σ G Q => ta W σ G fun d G1 => match truD G1 d with
  | some b => Q (.bl (!b)) G1
  | none => False
theorem de_one {op} (h : DE X a ta) : DE X (.BoolOp op [a] pos) ta := ⟨fun G H σ τ W Q r q => semE.of (pe_one peSem) (h.run G H σ τ W Q r q)⟩
theorem de_and (h : DE X a ta) (k : DE X (.BoolOp .And (b :: rest) pos) tb) : DE X (.BoolOp .And (a :: b :: rest) pos) (dAndV ta tb) :=
  ⟨fun G H σ τ W Q r q => semE.of (pe_andT peSem peSem) (h.then r q fun d v G1 H1 r1 x1 k1 q1 => by
    try dsimp only at q1
    split at q1
    · rename_i c e
      refine ⟨c, truD_ok r1.sim k1 e, ?_⟩
      cases c with
      | true => exact (k.run G1 H1 σ τ W Q r1 q1).imp fun _ _ z => z.up x1
      | false => exact .of k1 r1.sim x1 q1
    · exact q1.elim)⟩
theorem de_or (h : DE X a ta) (k : DE X (.BoolOp .Or (b :: rest) pos) tb) : DE X (.BoolOp .Or (a :: b :: rest) pos) (dOrV ta tb) :=
  ⟨fun G H σ τ W Q r q => semE.of (pe_orT peSem peSem) (h.then r q fun d v G1 H1 r1 x1 k1 q1 => by
    try dsimp only at q1
    split at q1
    · rename_i c e
      refine ⟨c, truD_ok r1.sim k1 e, ?_⟩
      cases c with
      | false => exact (k.run G1 H1 σ τ W Q r1 q1).imp fun _ _ z => z.up x1
      | true => exact .of k1 r1.sim x1 q1
    · exact q1.elim)⟩
theorem de_not (h : DE X a ta) : DE X (.UnaryOp .Not a pos) (dNotV ta) :=
  ⟨fun G H σ τ W Q r q => semE.of (pe_notT peSem) (h.then r q fun d v G1 H1 r1 x1 k1 q1 => by
    try dsimp only at q1
    split at q1
    · rename_i c e
      exact ⟨c, truD_ok r1.sim k1 e, .of (d := .bl (!c)) rfl r1.sim x1 q1⟩
    · exact q1.elim)⟩
def dIf (t : TDT) (ta tb : TD) : TD := fun W σ G Q => t W σ G fun c G1 => if c = true then ta W σ G1 Q else tb W σ G1 Q
theorem de_ifExp {c : Expr} (hc : DT X c t) (ha : DE X a ta) (hb : DE X b tb) : DE X (.IfExp c a b pos) (dIf t ta tb) :=
  ⟨fun G H σ τ W Q r q => semE.of (pe_ifExp ptSem peSem peSem) (hc.then r q fun c G1 H1 r1 x1 q1 => by
    cases c with
    | true => exact (ha.run G1 H1 σ τ W Q r1 q1).imp fun _ _ z => z.up x1
    | false => exact (hb.run G1 H1 σ τ W Q r1 q1).imp fun _ _ z => z.up x1)⟩
def dNeg : D → HD → Post → Prop := fun d G Q => match d with
  | .int i => Q (.int (-i)) G
  | _ => False
def dUn (rd : D → HD → Post → Prop) (ta : TD) : TD := fun W σ G Q => ta W σ G fun d G1 => rd d G1 Q
theorem de_neg (ha : DE X a ta) : DE X (.UnaryOp .USub a pos) (dUn dNeg ta) :=
  ⟨fun G H σ τ W Q r q => semE.of (pe_un un_neg peSem) (ha.then r q fun d v G1 H1 r1 x1 k1 q1 => by
    unfold dNeg at q1
    split at q1
    · cases k1; exact ⟨_, rfl, .of (d := .int _) rfl r1.sim x1 q1⟩
    · exact q1.elim)⟩
/-- a < b < c -/
def dChain (rd rd' : D → D → HD → Post → Prop) (ta tb tc : TD) : TD := fun W σ G Q => ta W σ G fun d G1 => tb W σ G1 fun e G2 => rd d e G2 fun z G3 => match z with
  | .bl true => tc W σ G3 fun f G4 => rd' e f G4 fun y G5 => match y with
    | .bl k => Q (.bl k) G5
    | _ => False
  | .bl false => Q (.bl false) G3
  | _ => False
end
end DL

namespace DL
open PySem PySem.Spec L2
open PyProof.Rows hiding St

/-! ### comparisons by their rules -/
/-- an operator of two values and its reading over data -/
def CmpR (X : Cx) (op : CmpOp) (rd : D → D → HD → Post → Prop) : Prop := ∃ r, OpR X (compareOp op) r ∧ OpD X.K r rd
def asInts : List D → Option (List Int)
  | [] => some []
  | .int i :: r => (asInts r).map (i :: ·)
  | _ :: _ => none
theorem asInts_eq : ∀ {ds : List D} {ns : List Int}, asInts ds = some ns → ds = ns.map D.int
  | [], _, h => by cases h; rfl
  | .int i :: r, ns, h => by
    simp only [asInts, Option.map_eq_some_iff] at h
    obtain ⟨ms, e, rfl⟩ := h
    rw [asInts_eq e]; rfl
  | .non :: _, _, h => by cases h
  | .bl _ :: _, _, h => by cases h
  | .str _ :: _, _, h => by cases h
  | .ty _ :: _, _, h => by cases h
  | .ref _ :: _, _, h => by cases h
  | .tup _ :: _, _, h => by cases h
  | .kl _ :: _, _, h => by cases h
  | .kc _ :: _, _, h => by cases h
  | .exc _ _ _ :: _, _, h => by cases h
  | .emp :: _, _, h => by cases h
theorem asInts_map : ∀ ns : List Int, asInts (ns.map D.int) = some ns
  | [] => rfl
  | n :: ns => by show (asInts (ns.map D.int)).map (n :: ·) = _; rw [asInts_map ns]; rfl
def dLtD : D → D → HD → Post → Prop := fun d e G Q => match d, e with
  | .int i, .int j => Q (.bl (decide (i < j))) G
  | .str x, .str y => Q (.bl (decide (x.cps.toList < y.cps.toList))) G
  | .tup xs, .tup ys => match asInts xs, asInts ys with
    | some ns, some ms => Q (.bl (HT.lexLt ns ms)) G
    | _, _ => False
  | _, _ => False
theorem c_lt {X : Cx} (hu : X.A.units + 64 < cLine) : CmpR X .Lt dLtD := ⟨_, op_lt.or (op_lt_str.or (op_ltT (Nat.lt_of_le_of_lt (Nat.le_add_right _ _) hu))), fun G H d e x y Q Q' s k1 k2 f q => by
  unfold dLtD at q
  split at q
  · cases k1; cases k2
    exact .inl ⟨_, _, rfl, rfl, f _ _ (.of (d := .bl _) rfl s .refl q)⟩
  · cases k1; cases k2
    exact .inr (.inl ⟨_, _, rfl, rfl, f _ _ (.of (d := .bl _) rfl s .refl q)⟩)
  · split at q
    · rename_i ns ms e1 e2
      obtain rfl := asInts_eq e1
      obtain rfl := asInts_eq e2
      obtain ⟨a, vs, rfl, t1, r1⟩ := k1
      obtain ⟨b, ws, rfl, t2, r2⟩ := k2
      obtain rfl := r1.ints
      obtain rfl := r2.ints
      exact .inr (.inr ⟨a, b, ns, ms, rfl, rfl, t1, t2, f _ _ (.of (d := .bl _) rfl s .refl q)⟩)
    · exact q.elim
  · exact q.elim⟩
theorem c_le {X : Cx} (hu : X.A.units + 64 < cLine) : CmpR X .LtE (dCmpI fun i j => decide (i ≤ j)) := ⟨_, op_le, od_cmpI X.K _⟩
theorem c_gt {X : Cx} (hu : X.A.units + 64 < cLine) : CmpR X .Gt (dCmpI fun i j => decide (j < i)) := ⟨_, op_gt, od_cmpI X.K _⟩
theorem c_ge {X : Cx} (hu : X.A.units + 64 < cLine) : CmpR X .GtE (dCmpI fun i j => decide (j ≤ i)) := ⟨_, op_ge, od_cmpI X.K _⟩
theorem c_eq {X : Cx} (hu : X.A.units + 64 < cLine) : CmpR X .Eq (dEq false) := ⟨_, op_eqD hu, od_eq X.K⟩
theorem c_ne {X : Cx} (hu : X.A.units + 64 < cLine) : CmpR X .NotEq (dEq true) := ⟨_, op_neD hu, od_ne X.K⟩
theorem c_is {X : Cx} (hu : X.A.units + 64 < cLine) : CmpR X .Is (dIsN false) := ⟨_, op_isN, od_isN X.K⟩
theorem c_isnot {X : Cx} (hu : X.A.units + 64 < cLine) : CmpR X .IsNot (dIsN true) := ⟨_, op_notN, od_notN X.K⟩
section
variable {X : Cx} {a b e c : Expr} {ta tb tc : TD} {pos : Pos} {op op' : CmpOp} {rd rd' : D → D → HD → Post → Prop}
theorem de_c1 (h : CmpR X op rd) (ha : DE X a ta) (hb : DE X b tb) (hm : behindInMarks op b = false := by first | exact nobehind _ (by decide) (by decide) | rfl) : DE X (.Compare a [op] [b] pos) (dOp rd ta tb) :=
  let ⟨_, h1, h2⟩ := h; de_cmp h1 h2 ha hb hm
theorem dt_c1 (h : CmpR X op rd) (ha : DE X a ta) (hb : DE X b tb) (hm : behindInMarks op b = false := by first | exact nobehind _ (by decide) (by decide) | rfl) : DT X (.Compare a [op] [b] pos) (dTest (dOp rd ta tb)) :=
  let ⟨_, h1, h2⟩ := h; dt_cmp h1 h2 ha hb hm
/-! chains: the rest of one, behind its first value -/
structure DCh (X : Cx) (ops : List CmpOp) (rs : List Expr) (t : D → TD) : Prop where
  val : ∀ (pos : Pos) (pins : List (Addr × Obj)) (s : Shared) (G : HD) (H : Hp) (σ : DSt) (τ : St) (W : DW) (Q : Post) (d : D) (x : V) (v : Value), SR X G H σ τ W → Inv X pins τ H s → Rp X.K H d x → RelV x v → t d W σ G Q →
    wpAny (model X.prog X.w) X.A (compareChain pos v ops (evalEach rs X.env)) (EP X pins τ (liftQ X.K G H Q)) X.xe s
  test : ∀ (pos : Pos) (pins : List (Addr × Obj)) (s : Shared) (G : HD) (H : Hp) (σ : DSt) (τ : St) (W : DW) (Q : Bool → HD → Prop) (d : D) (x : V) (v : Value), SR X G H σ τ W → Inv X pins τ H s → Rp X.K H d x → RelV x v →
    t d W σ G (fun z G1 => match z with | .bl k => Q k G1 | _ => False) → wpAny (model X.prog X.w) X.A (testChain pos v ops (evalEach rs X.env)) (TP X pins τ (liftB X.K G H Q)) X.xe s
def dLast (rd : D → D → HD → Post → Prop) (tb : TD) : D → TD := fun d W σ G Q => tb W σ G fun e G1 => rd d e G1 fun z G2 => match z with
  | .bl k => Q (.bl k) G2
  | _ => False
def dLink (rd : D → D → HD → Post → Prop) (tb : TD) (t : D → TD) : D → TD := fun d W σ G Q => tb W σ G fun e G1 => rd d e G1 fun z G2 => match z with
  | .bl k => if k = true then t e W σ G2 Q else Q (.bl false) G2
  | _ => False
theorem dch_last (h : CmpR X op rd) (hb : DE X b tb) : DCh X [op] [b] (dLast rd tb) := by
  obtain ⟨r, h1, h2⟩ := h
  refine ⟨fun pos pins s G H σ τ W Q d x v r0 I k0 l0 q => ?_, fun pos pins s G H σ τ W Q d x v r0 I k0 l0 q => ?_⟩
  · show wpAny _ _ (compareChain pos v [op] [eval b X.env]) _ _ _
    refine chain_last (thn ((hb.then (Q := fun y H1 => r x y H1 (liftQ X.K G H Q)) r0 q fun e y G1 H1 r1 x1 k1 q1 => ?_) pins s I) fun u s1 ⟨y, H1, I1, l1, q1⟩ => h1 pins s1 τ H1 x y v u _ I1 l0 l1 q1)
    refine h2 G1 H1 d e x y _ _ r1.sim (k0.ext r0.sim x1 _ _) k1 (fun w H2 ⟨z, G2, k2, s2, x2, q2⟩ => ?_) q1
    cases z with
    | bl k => exact ⟨.bl k, G2, k2, s2, x1.trans x2, q2⟩
    | _ => exact q2.elim
  · show wpAny _ _ (testChain pos v [op] [eval b X.env]) _ _ _
    refine test_last (thn ((hb.then (Q := fun y H1 => r x y H1 (fun w H2 => ∃ k, w = .bl k ∧ liftB X.K G H Q k H2)) r0 q fun e y G1 H1 r1 x1 k1 q1 => ?_) pins s I) fun u s1 ⟨y, H1, I1, l1, q1⟩ =>
      thn (h1 pins s1 τ H1 x y v u _ I1 l0 l1 q1) fun c s2 ⟨w, H2, I2, l2, k, ew, q2⟩ => ?_)
    · refine h2 G1 H1 d e x y _ _ r1.sim (k0.ext r0.sim x1 _ _) k1 (fun w H2 ⟨z, G2, k2, s2, x2, q2⟩ => ?_) q1
      cases z with
      | bl k => exact ⟨k, k2, G2, s2, x1.trans x2, q2⟩
      | _ => exact q2.elim
    · subst ew; cases l2
      exact wpAny_truthy_bool ⟨H2, I2, q2⟩
theorem dch_link {ops : List CmpOp} {rs : List Expr} {t : D → TD} (h : CmpR X op rd) (hb : DE X b tb) (hc : DCh X (op' :: ops) (c :: rs) t) : DCh X (op :: op' :: ops) (b :: c :: rs) (dLink rd tb t) := by
  obtain ⟨r, h1, h2⟩ := h
  refine ⟨fun pos pins s G H σ τ W Q d x v r0 I k0 l0 q => ?_, fun pos pins s G H σ τ W Q d x v r0 I k0 l0 q => ?_⟩
  · show wpAny _ _ (compareChain pos v (op :: op' :: ops) (eval b X.env :: eval c X.env :: evalEach rs X.env)) _ _ _
    refine chain_link (thn ((hb.run G H σ τ W _ r0 q) pins s I) fun u s1 ⟨y, H1, I1, l1, e, G1, k1, sm1, x1, q1⟩ => ?_)
    have r1 := r0.ext sm1 x1
    refine thn (h1 pins s1 τ H1 x y v u (fun w H2 => ∃ k G2, w = .bl k ∧ Sim X.K G2 H2 ∧ Ext G1 H1 G2 H2 ∧ if k = true then t e W σ G2 Q else Q (.bl false) G2) I1 l0 l1
      (h2 G1 H1 d e x y _ _ sm1 (k0.ext r0.sim x1 _ _) k1 (fun w H2 ⟨z, G2, k2, s2, x2, q2⟩ => ?_) q1)) fun cv s2 ⟨w, H2, I2, l2, k, G2, ew, sm2, x2, q2⟩ => ?_
    · subst ew; cases l2
      refine wpAny_truthy_bool ?_
      cases k with
      | false => exact ite_ff ⟨.bl false, H2, I2, rfl, .of (d := .bl false) rfl sm2 (x1.trans x2) q2⟩
      | true => exact ite_tt (thn (hc.val pos pins s2 G2 H2 σ τ W Q e y u (r1.ext sm2 x2) I2 (k1.ext sm1 x2 _ _) l1 q2) fun _ _ ⟨v3, H3, I3, l3, q3⟩ => ⟨v3, H3, I3, l3, q3.up (x1.trans x2)⟩)
    · cases z with
      | bl k => exact ⟨k, G2, k2, s2, x2, q2⟩
      | _ => exact q2.elim
  · show wpAny _ _ (testChain pos v (op :: op' :: ops) (eval b X.env :: eval c X.env :: evalEach rs X.env)) _ _ _
    refine test_link (thn ((hb.run G H σ τ W _ r0 q) pins s I) fun u s1 ⟨y, H1, I1, l1, e, G1, k1, sm1, x1, q1⟩ => ?_)
    have r1 := r0.ext sm1 x1
    refine thn (h1 pins s1 τ H1 x y v u (fun w H2 => ∃ k G2, w = .bl k ∧ Sim X.K G2 H2 ∧ Ext G1 H1 G2 H2 ∧ if k = true then t e W σ G2 (fun z G1 => match z with | .bl k => Q k G1 | _ => False) else Q false G2) I1 l0 l1
      (h2 G1 H1 d e x y _ _ sm1 (k0.ext r0.sim x1 _ _) k1 (fun w H2 ⟨z, G2, k2, s2, x2, q2⟩ => ?_) q1)) fun cv s2 ⟨w, H2, I2, l2, k, G2, ew, sm2, x2, q2⟩ => ?_
    · subst ew; cases l2
      refine wpAny_truthy_bool ?_
      cases k with
      | false => exact ite_ff ⟨H2, I2, G2, sm2, x1.trans x2, q2⟩
      | true => exact ite_tt (thn (hc.test pos pins s2 G2 H2 σ τ W Q e y u (r1.ext sm2 x2) I2 (k1.ext sm1 x2 _ _) l1 q2) fun _ _ ⟨H3, I3, q3⟩ => ⟨H3, I3, q3.up (x1.trans x2)⟩)
    · cases z with
      | bl k => exact ⟨k, G2, k2, s2, x2, q2⟩
      | _ => exact q2.elim
def dChn (ta : TD) (t : D → TD) : TD := fun W σ G Q => ta W σ G fun d G1 => t d W σ G1 Q
def dChnT (ta : TD) (t : D → TD) : TDT := fun W σ G Q => ta W σ G fun d G1 => t d W σ G1 fun z G2 => match z with
  | .bl k => Q k G2
  | _ => False
theorem de_chain {ops : List CmpOp} {rs : List Expr} {t : D → TD} (ha : DE X a ta) (h : DCh X (op :: op' :: ops) (b :: c :: rs) t) (hm : lastMarks (op :: op' :: ops) (b :: c :: rs) = false := by with_unfolding_all rfl) :
    DE X (.Compare a (op :: op' :: ops) (b :: c :: rs) pos) (dChn ta t) := ⟨fun G H σ τ W Q r0 q pins s I => by
  refine Compare_chain (thn ((ha.run G H σ τ W _ r0 q) pins s I) fun u s1 ⟨y, H1, I1, l1, d, G1, k1, sm1, x1, q1⟩ => ?_) hm
  exact thn (h.val pos pins s1 G1 H1 σ τ W Q d y u (r0.ext sm1 x1) I1 k1 l1 q1) fun _ _ ⟨v3, H3, I3, l3, q3⟩ => ⟨v3, H3, I3, l3, q3.up x1⟩⟩
theorem dt_chain {ops : List CmpOp} {rs : List Expr} {t : D → TD} (ha : DE X a ta) (h : DCh X (op :: op' :: ops) (b :: c :: rs) t) (hm : lastMarks (op :: op' :: ops) (b :: c :: rs) = false := by with_unfolding_all rfl) :
    DT X (.Compare a (op :: op' :: ops) (b :: c :: rs) pos) (dChnT ta t) := ⟨fun G H σ τ W Q r0 q pins s I => by
  refine isTrue_chain (thn ((ha.run G H σ τ W _ r0 q) pins s I) fun u s1 ⟨y, H1, I1, l1, d, G1, k1, sm1, x1, q1⟩ => ?_) hm
  exact thn (h.test pos pins s1 G1 H1 σ τ W Q d y u (r0.ext sm1 x1) I1 k1 l1 q1) fun _ _ ⟨H3, I3, q3⟩ => ⟨H3, I3, q3.up x1⟩⟩
end

/-! ### statements -/
section
variable {X : Cx} {a b e : Expr} {ta tb : TD} {pos : Pos} {st : Stmt} {sts ss1 ss2 : List Stmt} {t u : TDS}
def sNext : TDS := fun _ D σ G => D.nx σ G
def sSeq (t u : TDS) : TDS := fun W D σ G => t W { D with nx := fun σ' G' => u W D σ' G' } σ G
theorem dss_nil : DSs X [] sNext := ⟨fun G H σ τ W D r q => semSs.of pss_nil ⟨σ, G, r.slots, r.sim, .refl, q⟩⟩
theorem endsUp {K : PySem.W.Frag} {G G1 : HD} {H H1 : Hp} {D : DEnds} (x : Ext G H G1 H1) : EndsLe (liftD K G1 H1 D) (liftD K G H D) := ⟨fun _ _ h => h.up x, fun _ _ h => h.up x, fun _ _ h => h.up x, fun _ _ h => h.up x⟩
theorem dss_cons (h : DS X st t) (k : DSs X sts u) : DSs X (st :: sts) (sSeq t u) := ⟨fun G H σ τ W D r q => semSs.of (pss_cons psSem pssSem)
  ((h.run G H σ τ W _ r q).imp ⟨fun τ' H' ⟨σ', G', k1, s1, x1, q1⟩ => (k.run G' H' σ' τ' W D ⟨s1, k1, r.takes.imp fun _ _ _ _ z => z.up x1⟩ q1).imp (endsUp x1), fun _ _ z => z, fun _ _ z => z, fun _ _ z => z⟩)⟩
theorem dss_one (h : DS X st t) : DSs X [st] t := ⟨fun G H σ τ W D r q => semSs.of (pss_one psSem) (h.run G H σ τ W D r q)⟩
theorem ds_pass : DS X (.Pass pos) sNext := ⟨fun G H σ τ W D r q => semS.of ps_pass ⟨σ, G, r.slots, r.sim, .refl, q⟩⟩
def sBrk : TDS := fun _ D σ G => D.bk σ G
def sCont : TDS := fun _ D σ G => D.ct σ G
theorem ds_break : DS X (.Break pos) sBrk := ⟨fun G H σ τ W D r q => semS.of ps_break ⟨σ, G, r.slots, r.sim, .refl, q⟩⟩
theorem ds_continue : DS X (.Continue pos) sCont := ⟨fun G H σ τ W D r q => semS.of ps_continue ⟨σ, G, r.slots, r.sim, .refl, q⟩⟩
def sNever : TDS := fun _ _ _ _ => False
theorem ds_never : DS X st sNever := ⟨fun _ _ _ _ _ _ _ q => q.elim⟩
def sDrop (te : TD) : TDS := fun W D σ G => te W σ G fun _ G1 => D.nx σ G1
theorem ds_expr (he : DE X e ta) (hs : swapsWith e none pos.line X.env = pure false := by rfl) : DS X (.Expr e pos) (sDrop ta) :=
  ⟨fun G H σ τ W D r q => semS.of (ps_expr peSem hs) (he.then r q fun d v G1 H1 r1 x1 k1 q1 => ⟨σ, G1, r1.slots, r1.sim, x1, q1⟩)⟩
def sRet (te : TD) : TDS := fun W D σ G => te W σ G D.rt
theorem ds_ret (he : DE X e ta) : DS X (.Return (some e) pos) (sRet ta) := ⟨fun G H σ τ W D r q => semS.of (ps_ret peSem) (he.run G H σ τ W D.rt r q)⟩
def sRetN : TDS := fun _ D _ G => D.rt .non G
theorem ds_retN : DS X (.Return none pos) sRetN := ⟨fun G H σ τ W D r q => semS.of ps_retN (show liftQ X.K G H D.rt .non H from .of (d := .non) rfl r.sim .refl q)⟩
def sIf (c : TDT) (t u : TDS) : TDS := fun W D σ G => c W σ G fun b G1 => if b = true then t W D σ G1 else u W D σ G1
theorem ds_if {c : Expr} {tc : TDT} (hc : DT X c tc) (h1 : DSs X ss1 t) (h2 : DSs X ss2 u) : DS X (.If c ss1 ss2 pos) (sIf tc t u) :=
  ⟨fun G H σ τ W D r q => semS.of (ps_if ptSem pssSem pssSem) (hc.then r q fun b G1 H1 r1 x1 q1 => by
    cases b with
    | true => exact (h1.run G1 H1 σ τ W D r1 q1).imp (endsUp x1)
    | false => exact (h2.run G1 H1 σ τ W D r1 q1).imp (endsUp x1))⟩
/-! targets: a name, or names of a tuple -/
def sSet (i : Nat) (te : TD) : TDS := fun W D σ G => te W σ G fun d G1 => D.nx (σ.set i (some d)) G1
theorem ds_set {i : Nat} {x : Str} {pos' : Pos} (he : DE X e ta) (hN : X.N.Nodup) (hi : X.N[i]? = some x := by rfl) (hx : Loc X.env.scope x := by first | exact Or.inl rfl | exact Or.inr rfl) (hs : swapsWith e (some (.Name x pos')) pos.line X.env = pure false := by rfl) (hf : X.fn x = true ∨ X.env.scope.names.lookup x = some .local := by first | exact .inl rfl | exact .inr rfl | assumption) :
    DS X (.Assign [.Name x pos'] e pos) (sSet i ta) :=
  ⟨fun G H σ τ W D r q => semS.of (ps_set hN hi hx peSem hs hf) (he.then r q fun d v G1 H1 r1 x1 k1 q1 => ⟨_, G1, r1.slots.set k1, r1.sim, x1, q1⟩)⟩
def setAll : List Nat → List D → DSt → DSt
  | i :: is, d :: ds, σ => setAll is ds (σ.set i (some d))
  | _, _, σ => σ
def sUnp (is : List Nat) (te : TD) : TDS := fun W D σ G => te W σ G fun d G1 => match d with
  | .tup ds => ds.length = is.length ∧ D.nx (setAll is ds σ) G1
  | _ => False
/-- the names of a tuple target, by their slots -/
inductive Slots (X : Cx) : List Expr → List Nat → TGs → Prop where
  | nil : Slots X [] [] gNil
  | cons {x : Str} {pos : Pos} {i : Nat} {es : List Expr} {is : List Nat} {g : TGs} (h : PG X (.Name x pos) (gName i)) (r : Slots X es is g) (hs : (assignEach (.Name x pos :: es) X.env).map (·.2) = assign (.Name x pos) X.env :: (assignEach es X.env).map (·.2)) : Slots X (.Name x pos :: es) (i :: is) (gCons (gName i) g)
theorem Slots.pgs {es : List Expr} {is : List Nat} {g : TGs} (s : Slots X es is g) : PGs X es g := by
  induction s with
  | nil => exact pgs_nil
  | cons h _ hs ih => exact pgs_cons h ih hs
theorem Slots.run {es : List Expr} {is : List Nat} {g : TGs} (s : Slots X es is g) {K : PySem.W.Frag} {H : Hp} {Q : St → Hp → Prop} : ∀ {ds : List D} {vs : List V} {σ : DSt} {τ : St}, Rps K H ds vs → ds.length = is.length → RpS K H σ τ → (∀ τ', RpS K H (setAll is ds σ) τ' → Q τ' H) → g vs τ H Q := by
  induction s with
  | nil =>
    intro ds vs σ τ r hl k q
    have e : ds = [] := List.eq_nil_of_length_eq_zero hl
    subst e
    cases r
    exact ⟨rfl, q τ k⟩
  | cons h _ hs ih =>
    intro ds vs σ τ r hl k q
    cases ds with
    | nil => cases hl
    | cons d ds =>
      obtain ⟨v, vr, rfl, r1, r2⟩ := r
      exact ⟨v, vr, rfl, ih r2 (Nat.succ.inj hl) (k.set r1) q⟩
theorem Slots.one (hN : X.N.Nodup) {x : Str} {pos : Pos} (i : Nat) {es : List Expr} {is : List Nat} {g : TGs} (r : Slots X es is g) (hi : X.N[i]? = some x := by rfl) (hx : Loc X.env.scope x := by first | exact Or.inl rfl | exact Or.inr rfl) (hf : X.fn x = true ∨ X.env.scope.names.lookup x = some .local := by first | exact .inl rfl | exact .inr rfl | assumption)
    (hs : (assignEach (.Name x pos :: es) X.env).map (·.2) = assign (.Name x pos) X.env :: (assignEach es X.env).map (·.2) := by rfl) : Slots X (.Name x pos :: es) (i :: is) (gCons (gName i) g) := .cons (pg_name hN hi hx hf) r hs
theorem ds_unp {es : List Expr} {is : List Nat} {g : TGs} {k : Nat} {pos' : Pos} (he : DE X e ta) (hc : X.calm = true) (s : Slots X es is g) (hn : (assignEach es X.env).length = is.length := by rfl) (hst : (assignEach es X.env).findIdx? (·.1) = none := by rfl)
    (hs : swapsWithSole [.Tuple es k pos'] e pos.line X.env = pure false := by rfl) (hw : swappedStores [.Tuple es k pos'] e X.env = pure none := by rfl) (h1 : (assignEach [.Tuple es k pos'] X.env).map (·.2) = [assign (.Tuple es k pos') X.env] := by rfl) :
    DS X (.Assign [.Tuple es k pos'] e pos) (sUnp is ta) :=
  ⟨fun G H σ τ W D r q => semS.of (ps_asg peSem (pg_tup hc s.pgs hn hst) hs hw h1) (he.then r q fun d v G1 H1 r1 x1 k1 q1 => by
    try dsimp only at q1
    split at q1
    · rename_i ds
      obtain ⟨a, vs, rfl, t, rr⟩ := k1
      exact ⟨a, vs, rfl, t, rr.length.trans q1.1, s.run rr q1.1 r1.slots fun τ' z => ⟨_, G1, z, r1.sim, x1, q1.2⟩⟩
    · exact q1.elim)⟩
/-- a, b = x, y -/
def sPar (i j : Nat) (ts : TDA) : TDS := fun W D σ G => ts W σ G fun ds G1 => match ds with
  | [d, e] => D.nx ((σ.set i (some d)).set j (some e)) G1
  | _ => False
theorem ds_par {i j : Nat} {ts : TDA} {st : Stmt} (p : PS X st (tPar i j (semA X [a, b]))) (h : DA X [a, b] ts) : DS X st (sPar i j ts) :=
  ⟨fun G H σ τ W D r q => semS.of p (h.then r q fun ds vs G1 H1 r1 x1 k1 q1 => by
    try dsimp only at q1
    split at q1
    · rename_i d e
      obtain ⟨v, r', rfl, a1, a2⟩ := k1
      obtain ⟨w, r'', rfl, b1, b2⟩ := a2
      cases b2
      exact ⟨v, w, rfl, _, G1, (r1.slots.set a1).set b1, r1.sim, x1, q1⟩
    · exact q1.elim)⟩
end
end DL

namespace DL
open PySem PySem.Spec L2
open PyProof.Rows hiding St

/-! ### fields -/
def AttrOk (K : PySem.W.Frag) (C : Addr) (f : Str) : Prop := Cls K C ∧ NoAttr K C f
section
variable {X : Cx} {a b e o : Expr} {ta tb : TD} {pos pos' : Pos} {f : Str} {ok : Addr → Str → Prop}
def dFld (ok : Addr → Str → Prop) (f : Str) (ta : TD) : TD := fun W σ G Q => ta W σ G fun d G1 => match d with
  | .ref a => match G1 a with
    | some (.ins C fs) => ok C f ∧ match fs.lookup f with
      | some v => Q v G1
      | none => False
    | _ => False
  | _ => False
theorem de_fld (hok : ∀ C f, ok C f → AttrOk X.K C f) (ha : DE X e ta) (hb : attributeBase e f X.env (eval e X.env) = eval e X.env := by rfl) : DE X (.Attribute e f pos) (dFld ok f ta) :=
  ⟨fun G H σ τ W Q r q => semE.of (pe_fld peSem hb) (ha.then r q fun d v G1 H1 r1 x1 k1 q1 => by
    try dsimp only at q1
    split at q1
    · rename_i p
      cases k1
      split at q1
      · rename_i C fs eg
        obtain ⟨h1, q1⟩ := q1
        split at q1
        · rename_i w ew
          obtain ⟨dx, l, el, rl⟩ := r1.sim.ins eg
          obtain ⟨z, e1, e2⟩ := rl.lookup ew
          obtain ⟨c1, c2⟩ := hok _ _ h1
          exact ⟨p, C, dx, l, z, rfl, el, c1, c2, e1, .of e2 r1.sim x1 q1⟩
        · exact q1.elim
      · exact q1.elim
    · exact q1.elim)⟩
theorem RKV.put {K : PySem.W.Frag} {H : Hp} {f : Str} {d : D} {v : V} (k : Rp K H d v) : ∀ {l : List (Str × D)} {m : List (Str × V)}, RKV K H l m → RKV K H (putD f d l) (putF f v m)
  | [], _, h => by cases h; exact ⟨v, [], rfl, k, rfl⟩
  | (n, e) :: l, _, h => by
    obtain ⟨w, r, rfl, h1, h2⟩ := h
    show RKV K H (if n = f then (n, d) :: l else (n, e) :: putD f d l) (if n = f then (n, v) :: r else (n, w) :: putF f v r)
    by_cases z : n = f
    · rw [if_pos z, if_pos z]; exact ⟨v, r, rfl, k, h2⟩
    · rw [if_neg z, if_neg z]; exact ⟨w, _, rfl, h1, RKV.put k h2⟩
def sFldD (ok : Addr → Str → Prop) (f : Str) (to tv : TD) : TDS := fun W D σ G => tv W σ G fun v G1 => to W σ G1 fun d G2 => match d with
  | .ref a => match G2 a with
    | some (.ins C fs) => ok C f ∧ fs.length < 1000 ∧ D.nx σ (put G2 a (.ins C (putD f v fs)))
    | _ => False
  | _ => False
theorem ds_fld (hok : ∀ C f, ok C f → AttrOk X.K C f) (ha : DE X o ta) (hv : DE X e tb) (hs : swapsWith e (some (.Attribute o f pos')) pos.line X.env = pure false := by rfl) : DS X (.Assign [.Attribute o f pos'] e pos) (sFldD ok f ta tb) :=
  ⟨fun G H σ τ W D r q => semS.of (ps_fld peSem peSem hs) (hv.then r q fun v y G1 H1 r1 x1 k1 q1 => ha.then r1 q1 fun d x G2 H2 r2 x2 k2 q2 => by
    try dsimp only at q2
    split at q2
    · rename_i p
      cases k2
      split at q2
      · rename_i C fs eg
        obtain ⟨h1, h2, q2⟩ := q2
        obtain ⟨dx, l, el, rl⟩ := r2.sim.ins eg
        obtain ⟨c1, c2⟩ := hok _ _ h1
        have sm := r2.sim.wr (m := .ins C (putD f v fs)) (o := .ins C dx (putF f y l)) eg ⟨dx, _, rfl, RKV.put (k1.ext r1.sim x2 _ _) rl⟩
        have xx : Ext G2 H2 (put G2 p (.ins C (putD f v fs))) (upd H2 p (.ins C dx (putF f y l))) := .wr eg
        exact ⟨p, C, dx, l, rfl, el, c1, c2, by rw [rl.length]; exact h2, σ, _, r2.slots.ext r2.sim xx _ _, sm, (x1.trans x2).trans xx, q2⟩
      · exact q2.elim
    · exact q2.elim)⟩
/-- o.f += e, ints -/
def sFldAug (ok : Addr → Str → Prop) (f : Str) (to tv : TD) : TDS := fun W D σ G => to W σ G fun d G1 => match d with
  | .ref a => match G1 a with
    | some (.ins C fs) => ok C f ∧ match fs.lookup f with
      | some (.int i) => tv W σ G1 fun v G2 => match v with
        | .int j => match G2 a with
          | some (.ins C2 fs2) => C2 = C ∧ fs2.length < 1000 ∧ D.nx σ (put G2 a (.ins C2 (putD f (.int (i + j)) fs2)))
          | _ => False
        | _ => False
      | _ => False
    | _ => False
  | _ => False
end

/-! ### defs: promises over data -/
abbrev SpD := List D → HD → Post → DX → Prop
/-- what may be forgotten at a def's end -/
def fg (Q : Post) : Post := fun d G => ∃ G0, Le G0 G ∧ Q d G0
def fgX (E : DX) : DX := fun c fs G => ∃ G0, Le G0 G ∧ E c fs G0
def liftSp (K : PySem.W.Frag) (n : Nat) (sp : SpD) : Sp := fun vs H Q E => vs.length = n ∧ ∃ ds G Qd Ed, Rps K H ds vs ∧ Sim K G H ∧ sp ds G Qd Ed ∧ (∀ v H', liftQ K G H Qd v H' → Q v H') ∧ (∀ c dd H', liftX K G H Ed c dd H' → E c dd H')
/-- a def's body, read from its arguments -/
def wpf (n m : Nat) (t : TDS) : SpD := fun ds G Q E => ds.length = n ∧ t (fun c fs _ G' => fgX E c fs G') { nx := fun _ G' => fg Q .non G', rt := fg Q } (ds.map some ++ List.replicate m none) G
/-- room for k calls, and no repr under way -/
structure RoomG (k : Nat) (A : Around) : Prop extends Room k A where
  gd : A.guards = some []
theorem RoomG.mono {j k : Nat} {A : Around} (r : RoomG k A) (h : j ≤ k) : RoomG j A := ⟨r.toRoom.mono h, r.gd⟩
theorem RoomG.units {k : Nat} {A : Around} (r : RoomG k A) : A.units + 64 < cLine := r.toRoom.units
theorem RoomG.deeper {k : Nat} {A : Around} (r : RoomG (k + 1) A) (env : Env) : RoomG k (A.deeper env) := ⟨r.toRoom.deeper env, r.gd⟩
theorem RoomG.in1 {k : Nat} {A : Around} (r : RoomG (k + 1) A) : RoomG k A.in1 := ⟨r.toRoom.in1, r.gd⟩
theorem RoomG.make {k : Nat} {A : Around} (r : RoomG (k + 1) A) (C : Addr) (us : List Value) (kw : List (Str × Value)) : RoomG k (A.under (.builtin "type.__call__" ⟨.ref C :: us, kw⟩)) :=
  ⟨r.toRoom.make C us kw, by have := r.gd; first | exact this | simpa [Around.under, guardIds] using this⟩
/-- a def's promise, kept where no repr is under way -/
structure FnG (P : Program) (w : World) (K : PySem.W.Frag) (mg : Str → Option Value) (base : Heap) (k : Nat) (f : Addr) (fd : FuncData) (ps : List Str) (sp : Sp) : Prop where
  len : ∀ vs H Q E, sp vs H Q E → vs.length = ps.length
  run : ∀ (A : Around) (outer : List Env) (s : Shared) (H : Hp) (args : Args) (us : List Value) (vs : List V) (Q : VK) (E : XK), RoomG k A → Env0 P w K mg base A outer s H →
    BindsTo s fd args (ps.zip us) → Vals vs us → sp vs H Q E → codeAny (model P w) A (.call (.ref f) args) (CR (L2.CX P w) outer P w H s Q E) s
section
variable {P : Program} {w : World} {K : PySem.W.Frag} {mg : Str → Option Value} {base : Heap} {k : Nat} {f : Addr} {fd : FuncData} {ps : List Str} {sp sp' : Sp}
theorem FnG.imp (F : FnG P w K mg base k f fd ps sp) (i : ∀ vs H Q E, sp' vs H Q E → sp vs H Q E) : FnG P w K mg base k f fd ps sp' :=
  ⟨fun _ _ _ _ q => F.len _ _ _ _ (i _ _ _ _ q), fun A o s H args us vs Q E r e b v q => F.run A o s H args us vs Q E r e b v (i _ _ _ _ q)⟩
theorem FnG.mono {j : Nat} (F : FnG P w K mg base k f fd ps sp) (h : k ≤ j) : FnG P w K mg base j f fd ps sp :=
  ⟨F.len, fun A o s H args us vs Q E r => F.run A o s H args us vs Q E (r.mono h)⟩
theorem fnG_of {N : List Str} {x qual : Str} {pa : Arguments} {bd : List Stmt} {sc : Scope} {dvs : List V} {kws : List (Str × V)} (F : L2.FunD K x qual pa bd sc dvs kws f fd) (S : FnScope N ps sc) (len : ∀ vs H Q E, sp vs H Q E → vs.length = ps.length)
    (hb : ∀ (cdv : Value) (A : Around) (outer : List Env) (s : Shared) (H : Hp) (vs : List V) (Q : VK) (E : XK), RoomG k (A.deeper (envOfC qual sc s.heap.objs.size f cdv)) → sp vs H Q E →
      ∃ t, PSs (cxOf (L2.CX P w) P w K mg base N qual sc f cdv A outer s H E) bd t ∧ t { nx := fun _ H' => Q .non H', rt := Q } (L2.start N vs) H) : FnG P w K mg base (k + 1) f fd ps sp := by
  obtain ⟨oc, od, dV, kV, doc, pm, an, cdv, ct, osl, rfl, lk, hcd, hD, hK⟩ := F.ex
  refine ⟨len, ?_⟩
  intro A outer s H args us vs Q E room e0 bind rv hsp
  have stay : ∀ b o, base.get? b = some o → s.heap.get? b = some o := fun b o e => (e0.bs b o e).1
  have kin := e0.mod.kin.keeps stay
  have par : ∀ z ∈ ps.zip us, sc.names.lookup z.1 = some .local ∨ (sc.names.lookup z.1 = some .cell ∧ ((cellsFrom (s.heap.objs.size + 1) sc.names []).lookup z.1).isSome = true) := by
    intro z hz
    exact (S.par z.1 (List.of_mem_zip (a := z.1) (b := z.2) hz).1).imp id fun q => ⟨q, PySem.W.cellsFrom_some _ _ _ (.inl q)⟩
  refine codeAny_call_function room.toRoom.depth (kin _ _ lk) rfl S.co S.gen rfl (PySem.W.codeRec_of kin hcd) (bind _ _ _ _ (wpAny_newFunctionEnv_cells S.kind par fun env ee s1 fresh => ?_))
  subst ee
  obtain ⟨t, pt, q⟩ := hb cdv A outer s H vs Q E (room.deeper _) hsp
  have inv := inv_start (CX := L2.CX P w) (E := E) (N := N) S room.hd e0 (len _ _ _ _ hsp) rv fresh
  refine ⟨(e0.mod.nolimit.keeps stay).keeps fresh.toInCall.keep, codeAny_func (wpAny_mono (pt.run [] s1 (L2.start N vs) H _ inv q) (fun fl s2 h => ?_) fun _ _ z => z)⟩
  match fl, h with
  | .ret u, ⟨v, _, H2, J, r2, q2⟩ => exact ⟨v, H2, J.os, J.bare, J.base, J.hok, r2, q2⟩
  | .next, ⟨_, H2, J, q2⟩ => exact ⟨V.non, H2, J.os, J.bare, J.base, J.hok, rfl, q2⟩
  | .brk, ⟨_, _, _, z⟩ => exact z.elim
  | .cont, ⟨_, _, _, z⟩ => exact z.elim
end
abbrev FnK (P : Program) (w : World) (K : PySem.W.Frag) (mg : Str → Option Value) (base : Heap) (k : Nat) (f : Addr) (fd : FuncData) (ps : List Str) (sp : SpD) : Prop := FnG P w K mg base k f fd ps (liftSp K ps.length sp)
theorem FnK.imp {P : Program} {w : World} {K : PySem.W.Frag} {mg : Str → Option Value} {base : Heap} {k : Nat} {f : Addr} {fd : FuncData} {ps : List Str} {sp sp' : SpD} (h : FnK P w K mg base k f fd ps sp) (i : ∀ ds G Q E, sp' ds G Q E → sp ds G Q E) : FnK P w K mg base k f fd ps sp' :=
  FnG.imp h fun vs H Q E ⟨l, ds, G, Qd, Ed, r, s, q, z1, z2⟩ => ⟨l, ds, G, Qd, Ed, r, s, i _ _ _ _ q, z1, z2⟩
section
variable {P : Program} {w : World} {K : PySem.W.Frag} {mg : Str → Option Value} {base : Heap} {x qual : Str} {params : Arguments} {body : List Stmt} {scope : Scope} {dvs : List V} {kws : List (Str × V)} {f : Addr} {fd : FuncData}
/-- a def: its body's reading is its promise -/
theorem fnd {N ps : List Str} {k n m : Nat} {t : TDS} (F : L2.FunD K x qual params body scope dvs kws f fd) (S : FnScope N ps scope) (hn : ps.length = n) (hm : N.length - n = m)
    (hb : ∀ (cdv : Value) (A : Around) (outer : List Env) (s : Shared) (H : Hp) (E : XK), RoomG k (A.deeper (envOfC qual scope s.heap.objs.size f cdv)) → DSs (cxOf (L2.CX P w) P w K mg base N qual scope f cdv A outer s H E) body t) : FnK P w K mg base (k + 1) f fd ps (wpf n m t) := by
  subst hn hm
  refine fnG_of F S (fun vs H Q E h => h.1) fun cdv A outer s H vs Q E hr h => ?_
  obtain ⟨hl, ds, G, Qd, Ed, rr, sm, ⟨hl2, q⟩, z1, z2⟩ := h
  refine ⟨semSs _ body, pssSem, ?_⟩
  have tk : Takes (cxOf (L2.CX P w) P w K mg base N qual scope f cdv A outer s H E) (fun c d _ H' => E c d H') := takes_of rfl rfl rfl rfl
  have st : RpS K H (ds.map some ++ List.replicate (N.length - ps.length) none) (L2.start N vs) := by
    unfold L2.start
    rw [hl]
    exact RpS.start _ rr
  refine ((hb cdv A outer s H E hr).run G H _ _ _ _ ⟨sm, st, tk.imp fun c dd τ H' hw => ?_⟩ q).imp ⟨fun τ' H' hh => ?_, fun v H' hh => ?_, fun _ _ hh => ?_, fun _ _ hh => ?_⟩
  · obtain ⟨σ', fs, G', k1, xf, s1, x1, G0, l0, q0⟩ := hw
    exact z2 c dd H' ⟨fs, G0, xf, s1.le l0, x1.le l0, q0⟩
  · obtain ⟨σ', G', k1, s1, x1, G0, l0, q0⟩ := hh
    exact z1 _ _ ⟨.non, G0, rfl, s1.le l0, x1.le l0, q0⟩
  · obtain ⟨d, G', k1, s1, x1, G0, l0, q0⟩ := hh
    exact z1 _ _ ⟨d, G0, k1, s1.le l0, x1.le l0, q0⟩
  · obtain ⟨_, _, _, _, _, q0⟩ := hh
    exact q0.elim
  · obtain ⟨_, _, _, _, _, q0⟩ := hh
    exact q0.elim
end

/-! ### calls of them -/
section
variable {X : Cx} {k n : Nat} {f C : Addr} {fd : FuncData} {ps ks : List Str} {sp : SpD} {x m : Str} {p pos apos : Pos} {e o : Expr} {es : List Expr} {ta : TD} {ts tk : TDA} {dvs : List V} {dds : List D} {ds : List Value}
/-- the exceptions of a callee, wished for here -/
theorem passK {G : HD} {H : Hp} {σ : DSt} {τ : St} {W : DW} (r : SR X G H σ τ W) : PassesAt (L2.CX X.prog X.w) X τ (liftX X.K G H fun c fs G' => W c fs σ G') := fun pins H0 s e s' I c =>
  r.takes e s' (XE.of_call I (W := liftW X.K G H W) (fun c dd H' ⟨fs, G', xf, s1, x1, q⟩ => ⟨σ, fs, G', r.slots.ext r.sim x1 _ _, xf, s1, x1, q⟩) c)
/-- the callee runs -/
theorem runK {pins : List (Addr × Obj)} {s : Shared} {G : HD} {H : Hp} {σ : DSt} {τ : St} {W : DW} {Q : Post} {us : List Value} {vs : List V} {es : List D} {args : Args} (F : FnK X.prog X.w X.K X.mg X.base k f fd ps sp) (hr : RoomG k X.A) (hb : BindsTo s fd args (ps.zip us))
    (r : SR X G H σ τ W) (I : Inv X pins τ H s) (rv : Vals vs us) (rd : Rps X.K H es vs) (hl : vs.length = ps.length) (h : sp es G Q fun c fs G' => W c fs σ G') :
    codeAny (model X.prog X.w) X.A (.call (.ref f) args) (fun z s' => match z with | .ok (.ret u) => EP X pins τ (liftQ X.K G H Q) u s' | .ok _ => False | .error e => X.xe e s') s := by
  refine codeAny_mono (F.run X.A X.stack s H args us vs (liftQ X.K G H Q) (liftX X.K G H fun c fs G' => W c fs σ G') hr I.env0 hb rv ⟨hl, es, G, Q, _, rd, r.sim, h, fun _ _ z => z, fun _ _ _ z => z⟩) fun z s' hq => ?_
  cases z with
  | error e => exact passK r pins H s e s' I hq
  | ok fl =>
    cases fl with
    | ret u => exact I.after hq
    | next => exact False.elim hq
    | brk => exact False.elim hq
    | cont => exact False.elim hq
def dCall (sp : SpD) (dds : List D) (ts : TDA) : TD := fun W σ G Q => ts W σ G fun ds G1 => sp (ds ++ dds) G1 Q fun c fs G' => W c fs σ G'
/-- what is bound beside the written arguments: values of the written part -/
structure Dfl (K : PySem.W.Frag) (dds : List D) (dvs : List V) : Prop where
  rel : ∀ H, Rps K H dds dvs
theorem Dfl.nil {K : PySem.W.Frag} : Dfl K [] [] := ⟨fun _ => rfl⟩
theorem runC {pins : List (Addr × Obj)} {s : Shared} {G : HD} {H : Hp} {σ : DSt} {τ : St} {W : DW} {Q : Post} {us : List Value} {vs : List V} {es : List D} (F : FnK X.prog X.w X.K X.mg X.base k f fd ps sp) (hr : RoomG k X.A) (hb : Binds X.K fd ps ds) (hd : Vals dvs ds) (hdd : Dfl X.K dds dvs)
    (r : SR X G H σ τ W) (I : Inv X pins τ H s) (rv : Vals vs us) (rd : Rps X.K H es vs) (hl : es.length + dds.length = ps.length) (h : sp (es ++ dds) G Q fun c fs G' => W c fs σ G') : wpAny (model X.prog X.w) X.A (call (.ref f) us) (EP X pins τ (liftQ X.K G H Q)) X.xe s := by
  have r2 := rv.append hd
  have r3 : Rps X.K H (es ++ dds) (vs ++ dvs) := rd.app (hdd.rel H)
  have l3 : (vs ++ dvs).length = ps.length := by rw [r3.length, List.length_append, hl]
  exact wpAny_call (codeAny_mono (runK F hr (hb s us I.kIn (by rw [← r2.length]; exact l3)) r I r2 r3 l3 h) fun z s' hq => by
    cases z with
    | error e => exact hq
    | ok fl => cases fl <;> first | exact hq | exact False.elim hq)
theorem de_call (F : FnK X.prog X.w X.K X.mg X.base k f fd ps sp) (hr : RoomG k X.A) (hm : X.mg x = some (.ref f)) (hk : PySem.W.keepIn X.K (.ref f) = true) (hb : Binds X.K fd ps ds) (hd : Vals dvs ds) (hdd : Dfl X.K dds dvs) (ha : DA X (e :: es) ts)
    (hl : ∀ ds G E Q, sp ds G E Q → ds.length = ps.length) (hg : Gl X x := by rfl) (hdb : (x == ("__debug__" : Str)) = false := by decide) (he : starEach (e :: es) X.env = (false, eval e X.env) :: starEach es X.env := by rfl) (hpl : (backTo pos (starEach es X.env)).any (·.1) = false := by rfl) :
    DE X (.Call (.Name x p) (e :: es) [] pos) (dCall sp dds ts) := ⟨fun G H σ τ W Q r q pins s I => by
  refine wpAny_Call_Name_kw (ld_glob I hg hm ?_ hdb)
  refine PySem.W.callWith_K (h₀ := X.base) I.ok.mod.kin hk (thn ((ha.run G H σ τ W _ r q) pos pins s I) fun us s1 ⟨vs, H1, I1, rv, es', G1, k1, sm1, x1, q1⟩ => ⟨I1.kIn, ?_⟩) he hpl
  exact thn (runC F hr hb hd hdd (r.ext sm1 x1) I1 rv k1 (by have := hl _ _ _ _ q1; rwa [List.length_append] at this) q1) fun _ _ ⟨v, H2, I2, l2, q2⟩ => ⟨v, H2, I2, l2, q2.up x1⟩⟩
theorem de_call0 (F : FnK X.prog X.w X.K X.mg X.base k f fd ps sp) (hr : RoomG k X.A) (hm : X.mg x = some (.ref f)) (hk : PySem.W.keepIn X.K (.ref f) = true) (hb : Binds X.K fd ps ds) (hd : Vals dvs ds) (hdd : Dfl X.K dds dvs)
    (hl : ∀ ds G E Q, sp ds G E Q → ds.length = ps.length) (hg : Gl X x := by rfl) (hdb : (x == ("__debug__" : Str)) = false := by decide) :
    DE X (.Call (.Name x p) [] [] pos) (dCall sp dds dNil) := ⟨fun G H σ τ W Q r q pins s I => by
  refine wpAny_Call_Name_kw (ld_glob I hg hm ?_ hdb)
  exact PySem.W.callWith_K0 I.kIn hk (runC (us := []) (vs := []) (es := []) F hr hb hd hdd r I .nil rfl (by have := hl _ _ _ _ q; rwa [List.length_append] at this) q)⟩
theorem wpf_len {n m : Nat} {t : TDS} : ∀ ds G E Q, wpf n m t ds G E Q → ds.length = n := fun _ _ _ _ h => h.1

/-! ### methods -/
/-- a method of the class at C, by its promise -/
structure MethK (X : Cx) (k : Nat) (m : Str) (C : Addr) (sp : SpD) (dds : List D) : Prop where
  ex : ∃ (f : Addr) (fd : FuncData) (ps : List Str) (dvs : List V) (ds : List Value), Cls X.K C ∧ Meth X.K C m f ∧ FnK X.prog X.w X.K X.mg X.base k f fd ps sp ∧ Binds X.K fd ps ds ∧ Vals dvs ds ∧ Dfl X.K dds dvs ∧ ∀ ds G E Q, sp ds G E Q → ds.length = ps.length
/-- o.m(..): tab: the classes that may have it -/
def dMeth (tab : List (Addr × SpD)) (m : Str) (dds : List D) (ta : TD) (ts : TDA) : TD := fun W σ G Q => ta W σ G fun d G1 => match d with
  | .ref a => match G1 a with
    | some (.ins C fs) => fs.lookup m = none ∧ ∃ q ∈ tab, q.1 = C ∧ ts W σ G1 fun ds G2 => q.2 (.ref a :: (ds ++ dds)) G2 Q fun c fs G' => W c fs σ G'
    | _ => False
  | _ => False
theorem de_meth {tab : List (Addr × SpD)} {pl : Sem Bool} (hr : RoomG k X.A) (ht : ∀ q ∈ tab, MethK X k m q.1 q.2 dds) (ho : DE X o ta) (ha : DA X (e :: es) ts)
    (hst : starEach (e :: es) X.env = (false, eval e X.env) :: starEach es X.env := by rfl) (hpl : (backTo pos (starEach es X.env)).any (·.1) = false := by rfl)
    (hc : eval (.Call (.Attribute o m apos) (e :: es) [] pos) X.env = (do
      let ov ← eval o X.env
      standAt apos.atName
      let (f, first) ← holding [ov] (getMethod ov m pl)
      callWith pos f first (backTo pos (starEach (e :: es) X.env)) (backToKw pos (keywordEach [] X.env))) := by rfl) :
    DE X (.Call (.Attribute o m apos) (e :: es) [] pos) (dMeth tab m dds ta ts) := ⟨fun G H σ τ W Q r q pins s I => by
  refine PySem.W.methodCall_KW (pl := pl) (thn ((ho.run G H σ τ W _ r q) pins s I) fun u s1 ⟨x, H1, I1, rx, d, G1, k1, sm1, x1, q1⟩ => ?_) hc
  try dsimp only at q1
  split at q1
  · rename_i a
    cases k1; cases rx
    split at q1
    · rename_i C fs eg
      obtain ⟨hno, ⟨C', sp'⟩, hmem, rfl, q1⟩ := q1
      obtain ⟨f, fd, ps, dvs, dsv, hcl, hme, F, hb, hd, hdd, hl⟩ := (ht _ hmem).ex
      obtain ⟨dx, l, el, rl⟩ := sm1.ins eg
      have r1 := r.ext sm1 x1
      refine getmeth_ok I1 el hcl hme (rl.lookup_none hno) ?_
      refine PySem.W.callWith_K (first := [.ref a]) (h₀ := X.base) I.ok.mod.kin hme.kp (thn ((ha.run G1 H1 σ τ W _ r1 q1) pos pins s1 I1) fun us s2 ⟨vs, H2, I2, rv, es', G2, k2, sm2, x2, q2⟩ => ⟨I2.kIn, ?_⟩) hst hpl
      exact thn (runC (us := .ref a :: us) (vs := .ref a :: vs) (es := .ref a :: es') F hr hb hd hdd (r1.ext sm2 x2) I2 (.cons rfl rv) (.cons rfl k2) (by have := hl _ _ _ _ q2; simpa [Nat.add_assoc, Nat.add_comm, Nat.add_left_comm] using this) q2)
        fun _ _ ⟨v, H3, I3, l3, q3⟩ => ⟨v, H3, I3, l3, q3.up (x1.trans x2)⟩
    · exact q1.elim
  · exact q1.elim⟩
theorem de_meth0 {tab : List (Addr × SpD)} {pl : Sem Bool} (hr : RoomG k X.A) (ht : ∀ q ∈ tab, MethK X k m q.1 q.2 dds) (ho : DE X o ta)
    (hc : eval (.Call (.Attribute o m apos) [] [] pos) X.env = (do
      let ov ← eval o X.env
      standAt apos.atName
      let (f, first) ← holding [ov] (getMethod ov m pl)
      callWith pos f first (backTo pos (starEach [] X.env)) (backToKw pos (keywordEach [] X.env))) := by rfl) :
    DE X (.Call (.Attribute o m apos) [] [] pos) (dMeth tab m dds ta dNil) := ⟨fun G H σ τ W Q r q pins s I => by
  refine PySem.W.methodCall_KW (pl := pl) (thn ((ho.run G H σ τ W _ r q) pins s I) fun u s1 ⟨x, H1, I1, rx, d, G1, k1, sm1, x1, q1⟩ => ?_) hc
  try dsimp only at q1
  split at q1
  · rename_i a
    cases k1; cases rx
    split at q1
    · rename_i C fs eg
      obtain ⟨hno, ⟨C', sp'⟩, hmem, rfl, q1⟩ := q1
      obtain ⟨f, fd, ps, dvs, dsv, hcl, hme, F, hb, hd, hdd, hl⟩ := (ht _ hmem).ex
      obtain ⟨dx, l, el, rl⟩ := sm1.ins eg
      have r1 := r.ext sm1 x1
      refine getmeth_ok I1 el hcl hme (rl.lookup_none hno) ?_
      exact PySem.W.callWith_K0 (first := [.ref a]) I1.kIn hme.kp (thn (runC (us := [.ref a]) (vs := [.ref a]) (es := [.ref a]) F hr hb hd hdd r1 I1 (.cons rfl .nil) (.cons rfl .nil) (by have := hl _ _ _ _ q1; simpa [Nat.add_comm] using this) q1)
        fun _ _ ⟨v, H3, I3, l3, q3⟩ => ⟨v, H3, I3, l3, q3.up x1⟩)
    · exact q1.elim
  · exact q1.elim⟩

/-! ### a new instance -/
def dMake (C : Addr) (sp : SpD) (dds : List D) (ts : TDA) : TD := fun W σ G Q => ts W σ G fun ds G1 => ∀ p, G1 p = none → sp (.ref p :: (ds ++ dds)) (put G1 p (.ins C [])) (fun d G2 => match d with | .non => Q (.ref p) G2 | _ => False) fun c fs G' => W c fs σ G'
theorem runM {pins : List (Addr × Obj)} {s : Shared} {G : HD} {H : Hp} {σ : DSt} {τ : St} {W : DW} {Q : Post} {us : List Value} {vs : List V} {es : List D} (M : Mk X.K C f) (F : FnK X.prog X.w X.K X.mg X.base k f fd ps sp) (hr : RoomG (k + 1) X.A) (hb : Binds X.K fd ps ds) (hd : Vals dvs ds) (hdd : Dfl X.K dds dvs)
    (r : SR X G H σ τ W) (I : Inv X pins τ H s) (rv : Vals vs us) (rd : Rps X.K H es vs) (hl : ∀ ds G E Q, sp ds G E Q → ds.length = ps.length)
    (h : ∀ p, G p = none → sp (.ref p :: (es ++ dds)) (put G p (.ins C [])) (fun d G2 => match d with | .non => Q (.ref p) G2 | _ => False) fun c fs G' => W c fs σ G') : wpAny (model X.prog X.w) X.A (call (.ref C) us) (EP X pins τ (liftQ X.K G H Q)) X.xe s := by
  have f1 : H s.heap.objs.size = none := I.hok.fresh (Nat.le_refl _)
  have f2 : H (s.heap.objs.size + 1) = none := I.hok.fresh (Nat.le_succ _)
  have ne : s.heap.objs.size + 1 ≠ s.heap.objs.size := Nat.succ_ne_self _
  have hq := h (s.heap.objs.size + 1) (r.sim.no f2)
  have hl' := hl _ _ _ _ hq
  have I2 := Inv.made (C := C) I
  have sm1 : Sim X.K G (upd H s.heap.objs.size (.own (s.heap.objs.size + 1))) := r.sim.newO f1
  have x1 : Ext G H G (upd H s.heap.objs.size (.own (s.heap.objs.size + 1))) := .new f1 (r.sim.no f1)
  have f3 : upd H s.heap.objs.size (.own (s.heap.objs.size + 1)) (s.heap.objs.size + 1) = none := by rw [upd_ne ne]; exact f2
  have sm2 := sm1.newM (m := .ins C []) (o := .ins C s.heap.objs.size []) f3 ⟨_, _, rfl, rfl⟩
  have x2 : Ext G _ (put G (s.heap.objs.size + 1) (.ins C [])) (upd (upd H s.heap.objs.size (.own (s.heap.objs.size + 1))) (s.heap.objs.size + 1) (.ins C s.heap.objs.size [])) := .newM (m := .ins C []) f3
  have xx := x1.trans x2
  have r2 : Vals (V.ref (s.heap.objs.size + 1) :: (vs ++ dvs)) (Value.ref (s.heap.objs.size + 1) :: (us ++ ds)) := .cons rfl (rv.append hd)
  have r3 : Rps X.K _ (.ref (s.heap.objs.size + 1) :: (es ++ dds)) (V.ref (s.heap.objs.size + 1) :: (vs ++ dvs)) := .cons rfl ((rd.ext r.sim xx _ _).app (hdd.rel _))
  have l3 : (V.ref (s.heap.objs.size + 1) :: (vs ++ dvs)).length = ps.length := by rw [r3.length]; exact hl'
  have l4 : (Value.ref (s.heap.objs.size + 1) :: us ++ ds).length = ps.length := by rw [List.cons_append, ← r2.length]; exact l3
  have sr2 := r.ext sm2 xx
  refine wpAny_call (make_map (f := f) I.kIn M.makes M.init (beq_iff_eq.mp M.fn) (codeAny_mono (F.run _ X.stack _ _ ⟨Value.ref (s.heap.objs.size + 1) :: us, []⟩ (Value.ref (s.heap.objs.size + 1) :: (us ++ ds)) _
    (fun v H' => v = .non ∧ liftQ X.K G H Q (.ref (s.heap.objs.size + 1)) H') (liftX X.K G H fun c fs G' => W c fs σ G') (hr.make C us []) (I2.env0.make C us []) (hb _ (Value.ref (s.heap.objs.size + 1) :: us) I2.kIn l4) r2
    ⟨l3, _, _, _, _, r3, sm2, hq, fun v H' ⟨d, G', k1, s1, y1, q1⟩ => ?_, fun c dd H' z => z.up xx⟩) fun z s' hz => ?_))
  · cases d with
    | non => exact ⟨k1, .of (d := .ref _) rfl s1 (xx.trans y1) q1⟩
    | _ => exact q1.elim
  · cases z with
    | error e => exact passK r pins _ _ e s' I2 hz
    | ok fl =>
      cases fl with
      | ret u =>
        obtain ⟨v, H', I3, rv3, ev, q3⟩ := I2.after hz
        subst ev
        exact ⟨rv3, ⟨V.ref (s.heap.objs.size + 1), H', I3, rfl, q3⟩⟩
      | next => exact False.elim hz
      | brk => exact False.elim hz
      | cont => exact False.elim hz
end
end DL

namespace DL
open PySem PySem.Spec L2
open PyProof.Rows hiding St

section
variable {X : Cx} {k n : Nat} {f C : Addr} {fd : FuncData} {ps ks : List Str} {sp : SpD} {x m : Str} {p pos apos : Pos} {e o : Expr} {es : List Expr} {ta : TD} {ts tk : TDA} {dvs : List V} {dds : List D} {ds : List Value}
theorem de_make (M : Mk X.K C f) (F : FnK X.prog X.w X.K X.mg X.base k f fd ps sp) (hr : RoomG (k + 1) X.A) (hm : X.mg x = some (.ref C)) (hb : Binds X.K fd ps ds) (hd : Vals dvs ds) (hdd : Dfl X.K dds dvs) (ha : DA X (e :: es) ts)
    (hl : ∀ ds G E Q, sp ds G E Q → ds.length = ps.length) (hg : Gl X x := by rfl) (hdb : (x == ("__debug__" : Str)) = false := by decide) (he : starEach (e :: es) X.env = (false, eval e X.env) :: starEach es X.env := by rfl) (hpl : (backTo pos (starEach es X.env)).any (·.1) = false := by rfl) :
    DE X (.Call (.Name x p) (e :: es) [] pos) (dMake C sp dds ts) := ⟨fun G H σ τ W Q r q pins s I => by
  refine wpAny_Call_Name_kw (ld_glob I hg hm ?_ hdb)
  refine PySem.W.callWith_K (h₀ := X.base) I.ok.mod.kin M.kp (thn ((ha.run G H σ τ W _ r q) pos pins s I) fun us s1 ⟨vs, H1, I1, rv, es', G1, k1, sm1, x1, q1⟩ => ⟨I1.kIn, ?_⟩) he hpl
  exact thn (runM M F hr hb hd hdd (r.ext sm1 x1) I1 rv k1 hl q1) fun _ _ ⟨v, H2, I2, l2, q2⟩ => ⟨v, H2, I2, l2, q2.up x1⟩⟩
theorem de_make0 (M : Mk X.K C f) (F : FnK X.prog X.w X.K X.mg X.base k f fd ps sp) (hr : RoomG (k + 1) X.A) (hm : X.mg x = some (.ref C)) (hb : Binds X.K fd ps ds) (hd : Vals dvs ds) (hdd : Dfl X.K dds dvs)
    (hl : ∀ ds G E Q, sp ds G E Q → ds.length = ps.length) (hg : Gl X x := by rfl) (hdb : (x == ("__debug__" : Str)) = false := by decide) :
    DE X (.Call (.Name x p) [] [] pos) (dMake C sp dds dNil) := ⟨fun G H σ τ W Q r q pins s I => by
  refine wpAny_Call_Name_kw (ld_glob I hg hm ?_ hdb)
  exact PySem.W.callWith_K0 I.kIn M.kp (runM (us := []) (vs := []) (es := []) M F hr hb hd hdd r I .nil rfl hl q)⟩
end

/-! ### what a loop walks: items that stand fixed, while ok holds -/
structure ItD where
  xs : List D
  ok : HD → Prop
structure ItRel (K : PySem.W.Frag) (G1 : HD) (H1 : Hp) (I : ItD) (J : It) : Prop where
  go : ∀ i G H, Sim K G H → ExtL G1 H1 G H → I.ok G → i < I.xs.length → J.go i H
  yld : ∀ i G H x H', Sim K G H → ExtL G1 H1 G H → I.ok G → i < I.xs.length → J.yld i H x H' → ∃ d, I.xs[i]? = some d ∧ Rp K H' d x ∧ Sim K G H' ∧ Ext G H G H'
  stop : ∀ i G H, Sim K G H → ExtL G1 H1 G H → I.ok G → I.xs.length ≤ i → J.stop i H
abbrev TDI := DW → DSt → HD → (ItD → HD → Prop) → Prop
structure DI (X : Cx) (tg iter : Expr) (wi : TI) (ti : TDI) : Prop where
  pi : PI X tg iter wi
  run : ∀ (G : HD) (H : Hp) (σ : DSt) (τ : St) (W : DW) (R : ItD → HD → Prop) (R' : It → Hp → Prop), SR X G H σ τ W → ti W σ G R →
    (∀ I J G1 H1, Sim X.K G1 H1 → Ext G H G1 H1 → ItRel X.K G1 H1 I J → R I G1 → R' J H1) → wi τ H R'
section
variable {X : Cx} {tg l a b : Expr} {tl ta tb : TD} {pos p : Pos}
/-- a list or a tuple -/
def iSeq (K : PySem.W.Frag) (te : TE) : TI := fun σ H R => te σ H fun x H1 => ∃ a, x = .ref a ∧ ((∃ xs, SqL K H1 a xs ∧ R (Itl K a) H1) ∨ ∃ xs, SqT K H1 a xs ∧ R (Itt K a) H1)
theorem pi_seq {te : TE} (he : PE X l te) : PI X tg l (iSeq X.K te) := by
  refine ⟨fun pins s0 σ H R J h => thn (he.run pins s0 σ H _ J h) fun v s1 hv => ?_⟩
  obtain ⟨x, H1, I1, r1, a, rfl, q1⟩ := hv
  cases r1
  rcases q1 with ⟨xs, hq, q⟩ | ⟨xs, hq, q⟩
  · obtain ⟨its, rv, pl, hz⟩ := I1.list hq
    refine wpAny_pyIter_list pl.isList ⟨s1.heap.objs.size, [s1.heap.objs.size], _, _, H1, rfl, I1.kept (t' := s1.toks) fun b o ho => Heap.get?_push_of_some _ ho, turn_list a _, ⟨_, Heap.get?_push_size _ rfl, rfl, rfl⟩, fun b hb => ?_, q⟩
    obtain rfl : b = s1.heap.objs.size := by simpa using hb
    exact I1.fpOk (Nat.le_refl _) (I1.hok.fresh (Nat.le_refl _))
  · obtain ⟨its, rv, pl, hz⟩ := I1.tuple hq
    refine wpAny_pyIter_tuple (show s1.heap.IsTuple a its.toArray from pl) ⟨s1.heap.objs.size, [s1.heap.objs.size], _, _, H1, rfl, I1.kept (t' := s1.toks) fun b o ho => Heap.get?_push_of_some _ ho, turn_tuple a _, ⟨_, Heap.get?_push_size _ rfl, rfl, rfl⟩, fun b hb => ?_, q⟩
    obtain rfl : b = s1.heap.objs.size := by simpa using hb
    exact I1.fpOk (Nat.le_refl _) (I1.hok.fresh (Nat.le_refl _))
def jSeq (tl : TD) : TDI := fun W σ G R => tl W σ G fun d G1 => match d with
  | .tup ds => R ⟨ds, fun _ => True⟩ G1
  | .kl ds => R ⟨ds, fun _ => True⟩ G1
  | .kc ds => R ⟨ds, fun _ => True⟩ G1
  | .ref a => match G1 a with
    | some (.lst ds) => R ⟨ds, fun G => G a = some (.lst ds)⟩ G1
    | _ => False
  | _ => False
theorem di_seq (hl : DE X l tl) : DI X tg l (iSeq X.K (semE X l)) (jSeq tl) :=
  ⟨pi_seq peSem, fun G H σ τ W R R' r q fin => hl.then r q fun d v G1 H1 r1 x1 k1 q1 => by
    try dsimp only at q1
    split at q1
    · rename_i ds
      obtain ⟨a, vs, rfl, t, rr⟩ := k1
      refine ⟨a, rfl, .inr ⟨vs, t, fin _ _ G1 H1 r1.sim x1 ⟨fun i G2 H2 s2 x2 _ hi => ?_, fun i G2 H2 x H3 s2 x2 _ hi hy => ?_, fun i G2 H2 s2 x2 _ hi => ?_⟩ q1⟩⟩
      · exact ⟨vs, vs[i]'(by rw [rr.length]; exact hi), SqT.extL r1.sim x2 t, by simp⟩
      · obtain ⟨rfl, hy⟩ := hy
        have e1 := hy vs (SqT.extL r1.sim x2 t)
        obtain ⟨v', e2, e3⟩ := rr.get (i := i) (d := ds[i]) (by simp)
        rw [e1] at e2; cases e2
        exact ⟨ds[i], by simp, e3.extL r1.sim x2 _ _, s2, .refl⟩
      · exact ⟨vs, SqT.extL r1.sim x2 t, by rw [rr.length]; exact hi⟩
    · rename_i ds
      obtain ⟨a, vs, rfl, ⟨o, t⟩, rr⟩ := id k1
      have sq : ∀ {G2 H2}, ExtL G1 H1 G2 H2 → SqL X.K H2 a vs := fun {G2 H2} x2 => by
        exact .inl (.inr ⟨o, (x2 a _ nl_frz (r1.sim.frzL t) t).1⟩)
      refine ⟨a, rfl, .inl ⟨vs, sq Ext.refl.l, fin _ _ G1 H1 r1.sim x1 ⟨fun i G2 H2 s2 x2 _ hi => ?_, fun i G2 H2 x H3 s2 x2 _ hi hy => ?_, fun i G2 H2 s2 x2 _ hi => ?_⟩ q1⟩⟩
      · exact ⟨vs, vs[i]'(by rw [rr.length]; exact hi), sq x2, by simp⟩
      · obtain ⟨rfl, hy⟩ := hy
        have e1 := hy vs (sq x2)
        obtain ⟨v', e2, e3⟩ := rr.get (i := i) (d := ds[i]) (by simp)
        rw [e1] at e2; cases e2
        exact ⟨ds[i], by simp, e3.extL r1.sim x2 _ _, s2, .refl⟩
      · exact ⟨vs, sq x2, by rw [rr.length]; exact hi⟩
    · rename_i ds
      obtain ⟨a, vs, rfl, t, rr⟩ := id k1
      have sq : ∀ {G2 H2}, ExtL G1 H1 G2 H2 → SqL X.K H2 a vs := fun {G2 H2} x2 => by
        rcases t with ⟨o, t⟩ | t
        · exact .inl (.inr ⟨o, (x2 a _ nl_frz (r1.sim.frzL t) t).1⟩)
        · exact .inr t
      refine ⟨a, rfl, .inl ⟨vs, sq Ext.refl.l, fin _ _ G1 H1 r1.sim x1 ⟨fun i G2 H2 s2 x2 _ hi => ?_, fun i G2 H2 x H3 s2 x2 _ hi hy => ?_, fun i G2 H2 s2 x2 _ hi => ?_⟩ q1⟩⟩
      · exact ⟨vs, vs[i]'(by rw [rr.length]; exact hi), sq x2, by simp⟩
      · obtain ⟨rfl, hy⟩ := hy
        have e1 := hy vs (sq x2)
        obtain ⟨v', e2, e3⟩ := rr.get (i := i) (d := ds[i]) (by simp)
        rw [e1] at e2; cases e2
        exact ⟨ds[i], by simp, e3.extL r1.sim x2 _ _, s2, .refl⟩
      · exact ⟨vs, sq x2, by rw [rr.length]; exact hi⟩
    · rename_i a
      cases k1
      split at q1
      · rename_i ds eg
        obtain ⟨vs, e1, rr⟩ := r1.sim.lst eg
        refine ⟨a, rfl, .inl ⟨vs, .of e1, fin _ _ G1 H1 r1.sim x1 ⟨fun i G2 H2 s2 x2 hok hi => ?_, fun i G2 H2 x H3 s2 x2 hok hi hy => ?_, fun i G2 H2 s2 x2 hok hi => ?_⟩ q1⟩⟩
        · obtain ⟨ws, e2, r2⟩ := s2.lst hok
          exact ⟨ws, ws[i]'(by rw [r2.length]; exact hi), .of e2, by simp⟩
        · obtain ⟨ws, e2, r2⟩ := s2.lst hok
          obtain ⟨rfl, hy⟩ := hy
          have e3 := hy ws (.of e2)
          obtain ⟨v', e4, e5⟩ := r2.get (i := i) (d := ds[i]) (by simp)
          rw [e3] at e4; cases e4
          exact ⟨ds[i], by simp, e5, s2, .refl⟩
        · obtain ⟨ws, e2, r2⟩ := s2.lst hok
          exact ⟨ws, .of e2, by rw [r2.length]; exact hi⟩
      · exact q1.elim
    · exact q1.elim⟩
end

/-! ### range -/
section
variable {X : Cx} {tg a b : Expr} {ts : TDA} {pos p : Pos}
def intsD (lo : Int) (n : Nat) : List D := (List.range n).map fun i => .int (lo + (i : Nat))
theorem ints_get {lo : Int} {n i : Nat} (h : i < n) : (intsD lo n)[i]? = some (.int (lo + (i : Nat))) := by
  unfold intsD
  rw [List.getElem?_map, List.getElem?_range h]; rfl
theorem ints_len {lo : Int} {n : Nat} : (intsD lo n).length = n := by unfold intsD; rw [List.length_map, List.length_range]
theorem itr_rel {K : PySem.W.Frag} {G1 : HD} {H1 : Hp} (lo : Int) (n : Nat) : ItRel K G1 H1 ⟨intsD lo n, fun _ => True⟩ (Itr lo n) :=
  ⟨fun i G H s x _ hi => by rw [ints_len] at hi; exact hi, fun i G H x H' s _ _ hi hy => by
    obtain ⟨rfl, rfl⟩ := hy
    rw [ints_len] at hi
    exact ⟨_, ints_get hi, rfl, s, .refl⟩, fun i G H s x _ hi => by rw [ints_len] at hi; exact hi⟩
def jRng1 (ts : TDA) : TDI := fun W σ G R => ts W σ G fun ds G1 => match ds with
  | [.int j] => j < 2 ^ 62 ∧ -(2 ^ 62) ≤ j ∧ R ⟨intsD 0 j.toNat, fun _ => True⟩ G1
  | _ => False
theorem di_range1 (hm : X.mg "range" = none) (ha : DA X [a] ts) (hg : Gl X "range" := by rfl) (hs : starEach [a] X.env = [(false, eval a X.env)] := by rfl) : DI X tg (.Call (.Name "range" p) [a] [] pos) (iRng1 (semA X [a])) (jRng1 ts) :=
  ⟨pi_range1 hg hm paSem hs, fun G H σ τ W R R' r q fin => ha.then r q fun ds vs G1 H1 r1 x1 k1 q1 => by
    try dsimp only at q1
    split at q1
    · rename_i j
      obtain ⟨v, t, rfl, h1, h2⟩ := k1
      cases h1; cases h2
      exact ⟨j, rfl, q1.2.1, q1.1, fin _ _ G1 H1 r1.sim x1 (itr_rel 0 j.toNat) q1.2.2⟩
    · exact q1.elim⟩
def jRng2 (ts : TDA) : TDI := fun W σ G R => ts W σ G fun ds G1 => match ds with
  | [.int i, .int j] => (-(2 ^ 62) ≤ i ∧ i < 2 ^ 62 ∧ -(2 ^ 62) ≤ j ∧ j < 2 ^ 62) ∧ R ⟨intsD i (j - i).toNat, fun _ => True⟩ G1
  | _ => False
theorem di_range2 (hm : X.mg "range" = none) (ha : DA X [a, b] ts) (hg : Gl X "range" := by rfl) (hs : starEach [a, b] X.env = [(false, eval a X.env), (false, eval b X.env)] := by rfl) (hs2 : starEach [b] X.env = [(false, eval b X.env)] := by rfl) : DI X tg (.Call (.Name "range" p) [a, b] [] pos) (iRng2 (semA X [a, b])) (jRng2 ts) :=
  ⟨pi_range2 hg hm paSem hs hs2, fun G H σ τ W R R' r q fin => ha.then r q fun ds vs G1 H1 r1 x1 k1 q1 => by
    try dsimp only at q1
    split at q1
    · rename_i i j
      obtain ⟨v, t, rfl, h1, v2, t2, rfl, h2, h3⟩ := k1
      cases h1; cases h2; cases h3
      exact ⟨i, j, rfl, q1.1, fin _ _ G1 H1 r1.sim x1 (itr_rel i (j - i).toNat) q1.2⟩
    · exact q1.elim⟩
end

/-! ### targets of loops -/
inductive Tgt where
  | one (i : Nat) | many (is : List Nat)
def Tgt.slots : Tgt → List Nat
  | .one i => [i]
  | .many is => is
def Tgt.put : Tgt → D → DSt → (DSt → Prop) → Prop
  | .one i, d, σ, k => k (σ.set i (some d))
  | .many is, d, σ, k => match d with
    | .tup ds => ds.length = is.length ∧ k (setAll is ds σ)
    | _ => False
theorem wipe_at {τ : L2.St} {j : Nat} : ∀ {vs : List Nat}, (wipe τ vs)[j]? = if j ∈ vs then (if j < τ.length then some none else none) else τ[j]?
  | [] => by simp [wipe]
  | v :: vs => by
    unfold wipe
    by_cases h : v = j
    · subst h
      by_cases hl : v < τ.length
      · rw [List.getElem?_set_self (by rw [wipe_length]; exact hl)]; simp [hl]
      · rw [List.getElem?_eq_none (by rw [List.length_set, wipe_length]; omega)]; simp [hl]
    · rw [List.getElem?_set_ne h, wipe_at (vs := vs)]
      have : (j ∈ v :: vs) ↔ j ∈ vs := by simp [Ne.symm h]
      simp only [this]
theorem wipe_set {τ : L2.St} {i : Nat} {w : Option V} {vs : List Nat} (h : i ∈ vs) : wipe (τ.set i w) vs = wipe τ vs := by
  apply List.ext_getElem?
  intro j
  rw [wipe_at, wipe_at, List.length_set]
  by_cases e : i = j
  · subst e; rw [if_pos h, if_pos h]
  · rw [List.getElem?_set_ne e]
theorem wipe_wipe {τ : L2.St} {vs : List Nat} : wipe (wipe τ vs) vs = wipe τ vs := by
  apply List.ext_getElem?
  intro j
  rw [wipe_at, wipe_length, wipe_at]
  by_cases e : j ∈ vs
  · rw [if_pos e, if_pos e]
  · simp only [if_neg e]
structure TgRun (K : PySem.W.Frag) (t : Tgt) (g : TG) : Prop where
  run : ∀ (H : Hp) (σ : DSt) (τ : L2.St) (d : D) (v : V) (k : DSt → Prop) (Q : L2.St → Hp → Prop), RpS K H σ τ → Rp K H d v → t.put d σ k → (∀ σ' τ', RpS K H σ' τ' → k σ' → (∀ vs, (∀ i ∈ t.slots, i ∈ vs) → wipe τ' vs = wipe τ vs) → Q τ' H) → g v τ H Q
structure TgOk (X : Cx) (tg : Expr) (t : Tgt) (g : TG) : Prop where
  pg : PG X tg g
  rn : TgRun X.K t g
theorem tr_one {K : PySem.W.Frag} {i : Nat} : TgRun K (.one i) (gName i) := ⟨fun H σ τ d v k Q r rd hk q => q _ _ (r.set rd) hk fun vs h => wipe_set (h i (by simp [Tgt.slots]))⟩
section
variable {X : Cx} {pos : Pos}
theorem tg_one {x : Str} (hN : X.N.Nodup) (i : Nat) (hi : X.N[i]? = some x := by rfl) (hx : Loc X.env.scope x := by first | exact Or.inl rfl | exact Or.inr rfl) (hf : X.fn x = true ∨ X.env.scope.names.lookup x = some .local := by first | exact .inl rfl | exact .inr rfl | assumption) : TgOk X (.Name x pos) (.one i) (gName i) :=
  ⟨pg_name hN hi hx hf, tr_one⟩
theorem Slots.run2 {es : List Expr} {is : List Nat} {g : TGs} (s : Slots X es is g) {K : PySem.W.Frag} {H : Hp} {Q : L2.St → Hp → Prop} : ∀ {ds : List D} {vs : List V} {σ : DSt} {τ : L2.St}, Rps K H ds vs → ds.length = is.length → RpS K H σ τ → (∀ τ', RpS K H (setAll is ds σ) τ' → (∀ ws, (∀ i ∈ is, i ∈ ws) → wipe τ' ws = wipe τ ws) → Q τ' H) → g vs τ H Q := by
  induction s with
  | nil =>
    intro ds vs σ τ r hl k q
    obtain rfl : ds = [] := List.eq_nil_of_length_eq_zero hl
    cases r
    exact ⟨rfl, q τ k fun _ _ => rfl⟩
  | cons h _ hs ih =>
    intro ds vs σ τ r hl k q
    cases ds with
    | nil => cases hl
    | cons d ds =>
      obtain ⟨v, vr, rfl, r1, r2⟩ := r
      exact ⟨v, vr, rfl, ih r2 (Nat.succ.inj hl) (k.set r1) fun τ' k' hw => q τ' k' fun ws hi => (hw ws fun i hm => hi i (List.mem_cons_of_mem _ hm)).trans (wipe_set (hi _ List.mem_cons_self))⟩
theorem tg_many {es : List Expr} {is : List Nat} {g : TGs} {kk : Nat} (hc : X.calm = true) (s : Slots X es is g) (hn : (assignEach es X.env).length = is.length := by rfl) (hst : (assignEach es X.env).findIdx? (·.1) = none := by rfl) : TgOk X (.Tuple es kk pos) (.many is) (gTup X.K is.length g) :=
  ⟨pg_tup hc s.pgs hn hst, ⟨fun H σ τ d v k Q r rd hk q => by
    simp only [Tgt.put] at hk
    split at hk
    · obtain ⟨a, vs, rfl, t, rr⟩ := rd
      exact ⟨a, vs, rfl, t, rr.length.trans hk.1, s.run2 rr hk.1 r fun τ' k' hw => q _ τ' k' hk.2 hw⟩
    · exact hk.elim⟩⟩
end

/-! ### for -/
def forD (ok : HD → Prop) (step : D → (DSt → HD → Prop) → DSt → HD → Prop) (fin : DSt → HD → Prop) : List D → DSt → HD → Prop
  | [] => fun σ G => ∃ G0, Le G0 G ∧ ok G0 ∧ fin σ G0
  | x :: xs => fun σ G => ∃ G0, Le G0 G ∧ ok G0 ∧ step x (forD ok step fin xs) σ G0
def sFor (ti : TDI) (t : Tgt) (tb : TDS) : TDS := fun W D σ G => ti W σ G fun I G1 => forD I.ok (fun d k σ' G' => t.put d σ' fun σ2 => tb W { D with nx := k, ct := k, bk := D.nx } σ2 G') D.nx I.xs σ G1
theorem drop_get {α : Type} {l : List α} {i : Nat} {x : α} (h : l[i]? = some x) : l.drop i = x :: l.drop (i + 1) := by
  obtain ⟨h1, h2⟩ := List.getElem?_eq_some_iff.mp h
  rw [← h2]
  exact List.drop_eq_getElem_cons h1
theorem ds_for {X : Cx} {tg iter : Expr} {body : List Stmt} {wi : TI} {ti : TDI} {t : Tgt} {g : TG} {tb : TDS} {pos : Pos} (hp : PassesOwn (model X.prog X.w) X.A X.env X.xe) (hc : X.calm = true) (hi : DI X tg iter wi ti) (hg : TgOk X tg t g) (hb : DSs X body tb)
    (hs : ∀ x, foldedSetIterable iter X.env x = pure x := by intro _; rfl) : DS X (.For tg iter body [] pos) (sFor ti t tb) := ⟨fun G H σ τ W D r q => semS.of (ps_for hp hc hi.pi hg.pg pssSem hs) (hi.run G H σ τ W _ _ r q fun I J G1 H1 s1 x1 rel q1 => by
  have r1 := r.ext s1 x1
  refine ⟨fun i m τ' H' => ∃ σ' G', RpS X.K H' σ' τ' ∧ Sim X.K G' H' ∧ Ext G1 H1 G' H' ∧ m = I.xs.length - i ∧ i ≤ I.xs.length ∧ forD I.ok (fun d k σ' G' => t.put d σ' fun σ2 => tb W { D with nx := k, ct := k, bk := D.nx } σ2 G') D.nx (I.xs.drop i) σ' G',
    ⟨_, σ, G1, r1.slots, s1, .refl, rfl, Nat.zero_le _, by rw [List.drop_zero]; exact q1⟩, ?_⟩
  rintro i m τ' H' ⟨σ', G', k', s', x', rfl, hle, q'⟩
  by_cases hlt : i < I.xs.length
  · have hx : I.xs[i]? = some I.xs[i] := by simp [hlt]
    rw [drop_get hx] at q'
    obtain ⟨G0, l0, ok0, q0⟩ := q'
    have s0 := s'.le l0
    have x0 : Ext G1 H1 G0 H' := x'.le l0
    refine .inr ⟨rel.go i G0 H' s0 x0.l ok0 hlt, fun τ2 H2 => ∃ σ2 G2, RpS X.K H2 σ2 τ2 ∧ Sim X.K G2 H2 ∧ Ext G1 H1 G2 H2 ∧ forD I.ok (fun d k σ' G' => t.put d σ' fun σ2 => tb W { D with nx := k, ct := k, bk := D.nx } σ2 G') D.nx (I.xs.drop (i + 1)) σ2 G2,
      fun τ2 H2 ⟨σ2, G2, a1, a2, a3, a4⟩ => ⟨_, by omega, σ2, G2, a1, a2, a3, rfl, hlt, a4⟩, fun v H2 hy => ?_⟩
    obtain ⟨d, e1, e2, e3, e4⟩ := rel.yld i G0 H' v H2 s0 x0.l ok0 hlt hy
    rw [hx] at e1; cases e1
    refine hg.rn.run H2 σ' τ' _ v _ _ (k'.ext s0 e4 _ _) e2 q0 fun σ2 τ2 k2 q2 _ => ?_
    have x2 := x0.trans e4
    have rr : SR X G0 H2 σ2 τ2 W := ⟨e3, k2, r1.takes.imp fun _ _ _ _ z => z.up x2⟩
    exact (hb.run G0 H2 σ2 τ2 W _ rr q2).imp ⟨fun τ3 H3 ⟨σ3, G3, b1, b2, b3, b4⟩ => ⟨σ3, G3, b1, b2, x2.trans b3, b4⟩, fun v H3 z => z.up (x1.trans x2), fun τ3 H3 z => z.up (x1.trans x2), fun τ3 H3 ⟨σ3, G3, b1, b2, b3, b4⟩ => ⟨σ3, G3, b1, b2, x2.trans b3, b4⟩⟩
  · have e : I.xs.drop i = [] := List.drop_eq_nil_of_le (by omega)
    rw [e] at q'
    obtain ⟨G0, l0, ok0, q0⟩ := q'
    exact .inl ⟨rel.stop i G0 H' (s'.le l0) (x'.le l0).l ok0 (by omega), σ', G0, k', s'.le l0, (x1.trans x').le l0, q0⟩)⟩

/-! ### while -/
def whD (test : DSt → HD → (Bool → HD → Prop) → Prop) (body : (DSt → HD → Prop) → DSt → HD → Prop) (fin : DSt → HD → Prop) : Nat → DSt → HD → Prop
  | 0 => fun _ _ => False
  | n + 1 => fun σ G => ∃ G0, Le G0 G ∧ test σ G0 fun b G1 => if b = true then body (whD test body fin n) σ G1 else fin σ G1
def sWhile (tc : TDT) (tb : TDS) : TDS := fun W D σ G => ∃ n, whD (fun σ' G' k => tc W σ' G' k) (fun k σ' G' => tb W { D with nx := k, ct := k, bk := D.nx } σ' G') D.nx n σ G
theorem ds_while {X : Cx} {c : Expr} {body : List Stmt} {tc : TDT} {tb : TDS} {pos : Pos} (hp : PassesOwn (model X.prog X.w) X.A X.env X.xe) (hc : DT X c tc) (hb : DSs X body tb) : DS X (.While c body [] pos) (sWhile tc tb) := ⟨fun G H σ τ W D r q => semS.of (ps_while hp ptSem pssSem) (by
  obtain ⟨n, q⟩ := q
  refine ⟨fun m τ' H' => ∃ σ' G', RpS X.K H' σ' τ' ∧ Sim X.K G' H' ∧ Ext G H G' H' ∧ whD (fun σ' G' k => tc W σ' G' k) (fun k σ' G' => tb W { D with nx := k, ct := k, bk := D.nx } σ' G') D.nx m σ' G', ⟨n, σ, G, r.slots, r.sim, .refl, q⟩, ?_⟩
  rintro m τ' H' ⟨σ', G', k', s', x', q'⟩
  cases m with
  | zero => exact q'.elim
  | succ m =>
    obtain ⟨G0, l0, q0⟩ := q'
    have x0 : Ext G H G0 H' := x'.le l0
    have r0 : SR X G0 H' σ' τ' W := ⟨s'.le l0, k', r.takes.imp fun _ _ _ _ z => z.up x0⟩
    refine hc.then r0 q0 fun b G1 H1 r1 x1 q1 => ?_
    have x2 := x0.trans x1
    cases b with
    | true =>
      refine ⟨fun τ2 H2 => ∃ σ2 G2, RpS X.K H2 σ2 τ2 ∧ Sim X.K G2 H2 ∧ Ext G H G2 H2 ∧ whD (fun σ' G' k => tc W σ' G' k) (fun k σ' G' => tb W { D with nx := k, ct := k, bk := D.nx } σ' G') D.nx m σ2 G2, fun τ2 H2 h2 => ⟨m, Nat.lt_succ_self _, h2⟩, ?_⟩
      exact (hb.run G1 H1 σ' τ' W _ r1 q1).imp ⟨fun τ3 H3 ⟨σ3, G3, b1, b2, b3, b4⟩ => ⟨σ3, G3, b1, b2, x2.trans b3, b4⟩, fun v H3 z => z.up x2, fun τ3 H3 z => z.up x2, fun τ3 H3 ⟨σ3, G3, b1, b2, b3, b4⟩ => ⟨σ3, G3, b1, b2, x2.trans b3, b4⟩⟩
    | false => exact ⟨σ', G1, r1.slots, r1.sim, x2, q1⟩)⟩
end DL

namespace DL
open PySem PySem.Spec L2
open PyProof.Rows hiding St

/-! ### list comprehensions -/
section
variable (X : Cx)
def semTs (ifs : List Expr) : TT := fun σ H Q => ∀ (pins : List (Addr × Obj)) (s : Shared), Inv X pins σ H s →
  wpAny (model X.prog X.w) X.A (forIn ifs true fun c r => if r = true then do let ok ← isTrue c X.env (eval c X.env); pure (ForInStep.yield ok) else pure (ForInStep.yield r)) (TP X pins σ Q) X.xe s
end
theorem ptsSem {X : Cx} {ifs : List Expr} : PTs X ifs (semTs X ifs) := ⟨fun pins s _ _ _ I h => h pins s I⟩
/-- a clause's tests -/
structure DTs (X : Cx) (ifs : List Expr) (t : TDT) : Prop where
  run : ∀ (G : HD) (H : Hp) (σ : DSt) (τ : L2.St) (W : DW) (Q : Bool → HD → Prop), SR X G H σ τ W → t W σ G Q → semTs X ifs τ H (liftB X.K G H Q)
def dYes : TDT := fun _ _ G Q => Q true G
section
variable {X : Cx} {c : Expr} {cs : List Expr} {t u : TDT}
theorem dts_nil : DTs X [] dYes := ⟨fun G H σ τ W Q r q pins s I => pts_nil.run pins s τ H _ I ⟨G, r.sim, .refl, q⟩⟩
theorem tests_skip {env : Env} {prog : Program} {w : World} {A : Around} {Q : Bool → Shared → Prop} {E : Value → Shared → Prop} {s : Shared} : ∀ {ifs : List Expr}, Q false s →
    wpAny (model prog w) A (forIn ifs false fun c r => if r = true then do let ok ← isTrue c env (eval c env); pure (ForInStep.yield ok) else pure (ForInStep.yield r)) Q E s
  | [], h => wpAny_pure h
  | c :: cs, h => by
    simp only [List.forIn_cons, Bool.false_eq_true, if_false]
    exact wpAny_bind (wpAny_pure (tests_skip (ifs := cs) h))
theorem dts_cons (h : DT X c t) (k : DTs X cs u) : DTs X (c :: cs) (dAnd t u) := ⟨fun G H σ τ W Q r q pins s I => by
  simp only [List.forIn_cons, if_true]
  refine wpAny_bind (wpAny_bind (thn ((h.run G H σ τ W _ r q) pins s I) fun b s1 ⟨H1, I1, G1, sm1, x1, q1⟩ => wpAny_pure ?_))
  cases b with
  | true => exact thn (k.run G1 H1 σ τ W Q (r.ext sm1 x1) q1 pins s1 I1) fun b2 s2 ⟨H2, I2, z⟩ => ⟨H2, I2, z.up x1⟩
  | false => exact tests_skip ⟨H1, I1, G1, sm1, x1, q1⟩⟩
theorem dts_one (h : DT X c t) : DTs X [c] t := ⟨fun G H σ τ W Q r q pins s I => (pts_one ptSem).run pins s τ H _ I (h.run G H σ τ W Q r q)⟩
end

section
variable {K : PySem.W.Frag} {G : HD} {H : Hp}
/-- a list that is not of ours grows -/
theorem SqT.aside {p : Addr} {l : List V} {o' : HO} (hp : H p = some (.lst l)) {a : Addr} {vs : List V} (h : SqT K H a vs) : SqT K (upd H p o') a vs := by
  rcases h with (h | ⟨o, h⟩) | h
  · exact .inl (.inl (by rw [upd_ne (by rintro rfl; rw [hp] at h; cases h)]; exact h))
  · exact .inl (.inr ⟨o, by rw [upd_ne (by rintro rfl; rw [hp] at h; cases h)]; exact h⟩)
  · exact .inr h
mutual
theorem Rp.aside {p : Addr} {l : List V} {o' : HO} (hp : H p = some (.lst l)) : ∀ (d : D) (v : V), Rp K H d v → Rp K (upd H p o') d v
  | .non, _, h => h
  | .bl _, _, h => h
  | .int _, _, h => h
  | .str _, _, h => h
  | .ty _, _, h => h
  | .ref _, _, h => h
  | .tup ds, v, h => by
    obtain ⟨a, vs, e, t, r⟩ := h
    exact ⟨a, vs, e, SqT.aside hp t, Rps.aside hp ds vs r⟩
  | .kl ds, v, h => by
    obtain ⟨a, vs, e, ⟨o, t⟩, r⟩ := h
    exact ⟨a, vs, e, ⟨o, by rw [upd_ne (by rintro rfl; rw [hp] at t; cases t)]; exact t⟩, Rps.aside hp ds vs r⟩
  | .kc ds, v, h => by
    obtain ⟨a, vs, e, t, r⟩ := h
    refine ⟨a, vs, e, ?_, Rps.aside hp ds vs r⟩
    rcases t with ⟨o, t⟩ | t
    · exact .inl ⟨o, by rw [upd_ne (by rintro rfl; rw [hp] at t; cases t)]; exact t⟩
    · exact .inr t
  | .exc C ns ds, v, h => by
    obtain ⟨a, dd, vs, e, t, hl, q, r⟩ := h
    refine ⟨a, dd, vs, e, by rw [upd_ne (by rintro rfl; rw [hp] at t; cases t)]; exact t, hl, ?_, Rps.aside hp ds vs r⟩
    rcases q with q | ⟨b, q1, q2⟩
    · exact .inl q
    · exact .inr ⟨b, q1, by rw [upd_ne (by rintro rfl; rw [hp] at q2; cases q2)]; exact q2⟩
  | .emp, v, h => by
    obtain ⟨a, ob, e, m, t, q⟩ := h
    exact ⟨a, ob, e, m, by rw [upd_ne (by rintro rfl; rw [hp] at t; cases t)]; exact t, q⟩
theorem Rps.aside {p : Addr} {l : List V} {o' : HO} (hp : H p = some (.lst l)) : ∀ (ds : List D) (vs : List V), Rps K H ds vs → Rps K (upd H p o') ds vs
  | [], _, h => h
  | d :: ds, vs, h => by
    obtain ⟨v, r, e, h1, h2⟩ := h
    exact ⟨v, r, e, Rp.aside hp d v h1, Rps.aside hp ds r h2⟩
end
theorem RKV.aside {κ : Type} {p : Addr} {l : List V} {o1 : HO} (hp : H p = some (.lst l)) : ∀ (a : List (κ × D)) (m : List (κ × V)), RKV K H a m → RKV K (upd H p o1) a m
  | [], _, h => h
  | q :: a, m, h => by
    obtain ⟨v, r, e, h1, h2⟩ := h
    exact ⟨v, r, e, h1.aside hp _ _, RKV.aside hp a r h2⟩
theorem RO.aside {p : Addr} {l : List V} {o1 : HO} (hp : H p = some (.lst l)) : ∀ (o : MO) (o' : HO), RO K H o o' → RO K (upd H p o1) o o'
  | .lst ds, _, h => let ⟨vs, e, r⟩ := h; ⟨vs, e, r.aside hp _ _⟩
  | .dK _, _, h => let ⟨vs, e, r⟩ := h; ⟨vs, e, r.aside hp _ _⟩
  | .dT _, _, h => let ⟨vs, e, r⟩ := h; ⟨vs, e, r.aside hp _ _⟩
  | .ins _ _, _, h => let ⟨dx, vs, e, r⟩ := h; ⟨dx, vs, e, r.aside hp _ _⟩
  | .fz ob w u, _, h => let ⟨e, r, z⟩ := h; ⟨e, RO.aside hp u w r, z⟩
theorem Sim.aside (s : Sim K G H) {p : Addr} {l : List V} {o1 : HO} (hp : H p = some (.lst l)) (hg : G p = none) : Sim K G (upd H p o1) := fun a o e => by
  obtain ⟨o', e1, r⟩ := s a o e
  have hn : a ≠ p := by rintro rfl; rw [hg] at e; cases e
  exact ⟨o', by rw [upd_ne hn]; exact e1, r.aside hp _ _⟩
theorem RpS.aside {p : Addr} {l : List V} {o1 : HO} (hp : H p = some (.lst l)) : ∀ (σ : DSt) (t : L2.St), RpS K H σ t → RpS K (upd H p o1) σ t
  | [], _, h => h
  | o :: r, _, h => by
    obtain ⟨w, t, rfl, h1, h2⟩ := h
    refine ⟨w, t, rfl, fun d e => ?_, RpS.aside hp r t h2⟩
    obtain ⟨v, e1, e2⟩ := h1 d e
    exact ⟨v, e1, e2.aside hp _ _⟩
end
def dwipe (σ : DSt) : List Nat → DSt
  | [] => σ
  | v :: vs => (dwipe σ vs).set v none
theorem RpS.wipe {K : PySem.W.Frag} {H : Hp} {σ : DSt} {τ : L2.St} (h : RpS K H σ τ) : ∀ vs : List Nat, RpS K H (dwipe σ vs) (L2.wipe τ vs)
  | [] => h
  | v :: vs => (RpS.wipe h vs).drop1
abbrev W0 : DW := fun _ _ _ _ => False
def lcD (ok : HD → Prop) (step : D → (D → HD → Prop) → (HD → Prop) → HD → Prop) (fin : List D → HD → Prop) : List D → List D → HD → Prop
  | [], acc => fun G => ∃ G0, Le G0 G ∧ ok G0 ∧ fin acc G0
  | x :: xs, acc => fun G => ∃ G0, Le G0 G ∧ ok G0 ∧ step x (fun y G' => lcD ok step fin xs (acc ++ [y]) G') (fun G' => lcD ok step fin xs acc G') G0
def dLcG (fin : List D → HD → Prop) (ti : TDI) (t : Tgt) (dt : TDT) (te : TD) (vs : List Nat) (W : DW) (σ : DSt) (G : HD) : Prop := ti W σ G fun I G1 => I.xs.length ≤ 1000000 ∧
  lcD I.ok (fun d ky kn G' => t.put d (dwipe σ vs) fun σ2 => dt W0 σ2 G' fun b G2 => if b = true then te W0 σ2 G2 ky else kn G2) fin I.xs [] G1
def dLc (ti : TDI) (t : Tgt) (dt : TDT) (te : TD) (vs : List Nat) : TD := fun W σ G Q => dLcG (fun acc G2 => newL G2 acc Q) ti t dt te vs W σ G
/-- the same, the list by value -/
def dLcV (ti : TDI) (t : Tgt) (dt : TDT) (te : TD) (vs : List Nat) : TD := fun W σ G Q => dLcG (fun acc G2 => Q (.kl acc) G2) ti t dt te vs W σ G
section
variable {X : Cx} {elt tg iter : Expr} {ifs : List Expr} {scope : Scope} {own : List (Str × Nat)} {pos : Pos} {wi : TI} {ti : TDI} {t : Tgt} {g : TG} {dt : TDT} {te : TD}
theorem million {n : Nat} (h : n ≤ 1000000) : n ≤ sizeLine := by rw [sizeLine_eq]; omega
/-- the loop of a block, shown once for values and for stores -/
theorem lc_run (hi : DI X tg iter wi ti) (hg : TgRun X.K t g)
    (hsl : ∀ i ∈ t.slots, i ∈ own.map (·.2))
    {tt : TT} {teV : TE}
    (htt : ∀ (G : HD) (H : Hp) (σ : DSt) (τ : L2.St) (Q : Bool → HD → Prop) (Q' : Bool → Hp → Prop), Sim X.K G H → RpS X.K H σ τ → dt W0 σ G Q → (∀ b H', liftB X.K G H Q b H' → Q' b H') → tt τ H Q')
    (hte : ∀ (G : HD) (H : Hp) (σ : DSt) (τ : L2.St) (Q : Post) (Q' : VK), Sim X.K G H → RpS X.K H σ τ → te W0 σ G Q → (∀ v H', liftQ X.K G H Q v H' → Q' v H') → teV τ H Q')
    {G : HD} {H : Hp} {σ : DSt} {τ : L2.St} {W : DW} {F : List D → HD → Prop} {Q' : VK} (r : SR X G H σ τ W) (q : dLcG F ti t dt te (own.map (·.2)) W σ G)
    (fin : ∀ D0 acc accV G0 H', (∀ a o, G a = none → H a = some o → a ≠ D0) → Sim X.K G0 H' → Ext G H G0 H' → H' D0 = some (.lst accV) → G0 D0 = none → Rps X.K H' acc accV → F acc G0 → Q' (.ref D0) H') : tLc wi g tt teV (own.map (·.2)) τ H Q' := by
  refine hi.run G H σ τ W _ _ r q fun I J G1 H1 s1 x1 rel q1 D0 hD => ?_
  obtain ⟨hz, q1⟩ := q1
  have r1 := r.ext s1 x1
  have n0 := s1.no hD
  refine ⟨fun i m H' => ∃ G' acc accV, H' D0 = some (.lst accV) ∧ G' D0 = none ∧ Rps X.K H' acc accV ∧ acc.length ≤ i ∧ Sim X.K G' H' ∧ Ext G1 H1 G' H' ∧ m = I.xs.length - i ∧ i ≤ I.xs.length ∧
      lcD I.ok (fun d ky kn G' => t.put d (dwipe σ (own.map (·.2))) fun σ2 => dt W0 σ2 G' fun b G2 => if b = true then te W0 σ2 G2 ky else kn G2) F (I.xs.drop i) acc G',
    ⟨_, G1, [], [], upd_same, n0, rfl, Nat.zero_le _, s1.newO hD, .new hD n0, rfl, Nat.zero_le _, by rw [List.drop_zero]; exact q1⟩, ?_⟩
  rintro i m H' ⟨G', acc, accV, hl, hn, ra, hle0, s', x', rfl, hle, q'⟩
  by_cases hlt : i < I.xs.length
  · have hx : I.xs[i]? = some I.xs[i] := by simp [hlt]
    rw [drop_get hx] at q'
    obtain ⟨G0, l0, ok0, q0⟩ := q'
    have s0 := s'.le l0
    have x0 : Ext G1 H1 G0 H' := x'.le l0
    have e0 : Ext G' H' G0 H' := .of_le l0
    refine .inr ⟨rel.go i G0 H' s0 x0.l ok0 hlt, fun H2 => ∃ G2 acc2 accV2, H2 D0 = some (.lst accV2) ∧ G2 D0 = none ∧ Rps X.K H2 acc2 accV2 ∧ acc2.length ≤ i + 1 ∧ Sim X.K G2 H2 ∧ Ext G1 H1 G2 H2 ∧
        lcD I.ok (fun d ky kn G' => t.put d (dwipe σ (own.map (·.2))) fun σ2 => dt W0 σ2 G' fun b G2 => if b = true then te W0 σ2 G2 ky else kn G2) F (I.xs.drop (i + 1)) acc2 G2,
      fun H2 ⟨G2, a2, v2, b1, b2, b3, b4, b5, b6, b7⟩ => ⟨_, by omega, G2, a2, v2, b1, b2, b3, b4, b5, b6, rfl, hlt, b7⟩, fun v H2 hy => ?_⟩
    obtain ⟨d, e1, e2, e3, e4⟩ := rel.yld i G0 H' v H2 s0 x0.l ok0 hlt hy
    rw [hx] at e1; cases e1
    have x2 := x0.trans e4
    have slots2 : RpS X.K H2 (dwipe σ (own.map (·.2))) (L2.wipe τ (own.map (·.2))) := (r1.slots.ext s1 x2 _ _).wipe _
    refine hg.run H2 _ _ _ v _ _ slots2 e2 q0 fun σ2 τ2 k2 q2 hw => ⟨(hw _ hsl).trans wipe_wipe, ?_⟩
    have n1 : G0 D0 = none := l0.no hn
    obtain ⟨hl2, n2⟩ := e4 D0 _ n1 hl
    have ra2 : Rps X.K H2 acc accV := ra.ext s' (e0.trans e4) _ _
    refine htt G0 H2 σ2 τ2 _ _ e3 k2 q2 fun b H3 ⟨G3, s3, x3, q3⟩ => ?_
    obtain ⟨hl3, n3⟩ := x3 D0 _ n2 hl2
    have ra3 : Rps X.K H3 acc accV := ra2.ext e3 x3 _ _
    cases b with
    | true =>
      refine hte G3 H3 σ2 τ2 _ _ s3 (k2.ext e3 x3 _ _) q3 fun y H4 ⟨dy, G4, ry, s4, x4, q4⟩ => ?_
      obtain ⟨hl4, n4⟩ := x4 D0 _ n3 hl3
      have ra4 : Rps X.K H4 acc accV := ra3.ext s3 x4 _ _
      refine ⟨accV, hl4, ?_, G4, acc ++ [dy], accV ++ [y], upd_same, n4, (ra4.app (.cons ry .nil)).aside hl4 _ _, by simp; omega, s4.aside hl4 n4, fun a o ga ha => ?_, q4⟩
      · rw [ra4.length]
        have := million hz
        omega
      · obtain ⟨h5, g5⟩ := ((x2.trans x3).trans x4) a o ga ha
        have hne : a ≠ D0 := by rintro rfl; rw [hD] at ha; cases ha
        exact ⟨by rw [upd_ne hne]; exact h5, g5⟩
    | false => exact ⟨G3, acc, accV, hl3, n3, ra3, by omega, s3, x2.trans x3, q3⟩
  · have e : I.xs.drop i = [] := List.drop_eq_nil_of_le (by omega)
    rw [e] at q'
    obtain ⟨G0, l0, ok0, q0⟩ := q'
    have s0 := s'.le l0
    have n1 : G0 D0 = none := l0.no hn
    have h0 : ∀ a o, G a = none → H a = some o → a ≠ D0 := fun a o ga ha e => by
      obtain ⟨h6, _⟩ := x1 a o ga ha
      rw [e, hD] at h6; cases h6
    exact .inl ⟨rel.stop i G0 H' s0 (x'.le l0).l ok0 (by omega), fin D0 acc accV G0 H' h0 s0 (x1.trans (x'.le l0)) hl n1 (ra.ext s' (.of_le l0) _ _) q0⟩

end

theorem finL {K : PySem.W.Frag} {G : HD} {H : Hp} {Q : Post} {Q' : VK} (f : ∀ v H', liftQ K G H Q v H' → Q' v H') : ∀ D0 acc accV G0 H', (∀ a o, G a = none → H a = some o → a ≠ D0) → Sim K G0 H' → Ext G H G0 H' → H' D0 = some (.lst accV) → G0 D0 = none → Rps K H' acc accV → newL G0 acc Q → Q' (.ref D0) H' :=
  fun D0 acc accV G0 H' h0 s0 x0 hl n1 ra q0 => f _ _ ⟨.ref D0, put G0 D0 (.lst acc), rfl, fun a o ea => by
      by_cases ha : a = D0
      · subst ha
        rw [put_same] at ea; cases ea
        exact ⟨_, hl, _, rfl, ra⟩
      · rw [put_ne ha] at ea
        exact s0 a o ea, fun a o ga ha => by
      obtain ⟨h5, g5⟩ := x0 a o ga ha
      exact ⟨h5, by rw [put_ne (h0 a o ga ha)]; exact g5⟩, q0 D0 n1⟩
/-- what a new list may still become: a value that never changes -/
def liftF (K : PySem.W.Frag) (G : HD) (H : Hp) (Q : Post) : VK := fun v H' => liftQ K G H Q v H' ∨ ∃ p vs, v = .ref p ∧ H' p = some (.lst vs) ∧ ∀ ob, liftQ K G H Q (.ref p) (upd H' p (.frz ob (.lst vs)))
theorem liftF.of {K : PySem.W.Frag} {G G' : HD} {H H' : Hp} {Q : Post} {d : D} {v : V} (r : Rp K H' d v) (s : Sim K G' H') (x : Ext G H G' H') (q : Q d G') : liftF K G H Q v H' := .inl ⟨d, G', r, s, x, q⟩
theorem liftF.up {K : PySem.W.Frag} {G G1 : HD} {H H1 H2 : Hp} {Q : Post} {v : V} (x : Ext G H G1 H1) (h : liftF K G1 H1 Q v H2) : liftF K G H Q v H2 :=
  h.elim (fun z => .inl (z.up x)) fun ⟨p, vs, e, hp, q⟩ => .inr ⟨p, vs, e, hp, fun ob => (q ob).up x⟩
theorem semE.frz {X : Cx} {e : Expr} {τ : L2.St} {G : HD} {H H0 : Hp} {Q : Post} (h : semE X e τ H (liftF X.K G H0 Q)) : semE X e τ H (liftQ X.K G H0 Q) := fun pins s I =>
  thn (h pins s I) fun u s1 ⟨v, H1, I1, r, q⟩ => by
    rcases q with q | ⟨p, vs, rfl, hp, q⟩
    · exact ⟨v, H1, I1, r, q⟩
    · obtain ⟨od, I2⟩ := I1.lock hp trivial
      exact ⟨.ref p, _, I2, r, q od⟩
theorem finV {K : PySem.W.Frag} {G : HD} {H : Hp} {Q : Post} {Q' : VK} (f : ∀ v H', liftF K G H Q v H' → Q' v H') : ∀ D0 acc accV G0 H', (∀ a o, G a = none → H a = some o → a ≠ D0) → Sim K G0 H' → Ext G H G0 H' → H' D0 = some (.lst accV) → G0 D0 = none → Rps K H' acc accV → Q (.kl acc) G0 → Q' (.ref D0) H' :=
  fun D0 acc accV G0 H' h0 s0 x0 hl n1 ra q0 => f _ _ (.inr ⟨D0, accV, rfl, hl, fun ob => ⟨.kl acc, G0, ⟨D0, accV, rfl, ⟨ob, upd_same⟩, ra.aside hl _ _⟩, s0.aside hl n1, fun a o ga ha => by
      obtain ⟨h5, g5⟩ := x0 a o ga ha
      exact ⟨by rw [upd_ne (h0 a o ga ha)]; exact h5, g5⟩, q0⟩⟩)
theorem newV.fin {K : PySem.W.Frag} {G : HD} {H : Hp} {ds : List D} {vs : List V} {Q : Post} {Q' : VK} (s : Sim K G H) (r : Rps K H ds vs) (f : ∀ v H', liftF K G H Q v H' → Q' v H') (q : Q (.kl ds) G) :
    ∀ p, H p = none → Q' (.ref p) (upd H p (.lst vs)) := fun p hp => f _ _ (.inr ⟨p, vs, rfl, upd_same, fun ob => by
  rw [upd_upd]
  exact .of (d := .kl ds) ⟨p, vs, rfl, ⟨ob, upd_same⟩, r.ext s (Ext.new hp (s.no hp)) _ _⟩ (s.newO hp) (.new hp (s.no hp)) q⟩)
def gOf : List Nat → TGs
  | [] => gNil
  | i :: is => gCons (gName i) (gOf is)
theorem gOf_run {K : PySem.W.Frag} {H : Hp} {Q : L2.St → Hp → Prop} : ∀ {is : List Nat} {ds : List D} {vs : List V} {σ : DSt} {τ : L2.St}, Rps K H ds vs → ds.length = is.length → RpS K H σ τ → (∀ τ', RpS K H (setAll is ds σ) τ' → (∀ ws, (∀ i ∈ is, i ∈ ws) → L2.wipe τ' ws = L2.wipe τ ws) → Q τ' H) → gOf is vs τ H Q
  | [], ds, vs, σ, τ, r, hl, k, q => by
    obtain rfl : ds = [] := List.eq_nil_of_length_eq_zero hl
    cases r
    exact ⟨rfl, q τ k fun _ _ => rfl⟩
  | i :: is, [], vs, σ, τ, r, hl, k, q => by cases hl
  | i :: is, d :: ds, vs, σ, τ, r, hl, k, q => by
    obtain ⟨v, vr, rfl, r1, r2⟩ := r
    exact ⟨v, vr, rfl, gOf_run r2 (Nat.succ.inj hl) (k.set r1) fun τ' k' hw => q τ' k' fun ws hi => (hw ws fun j hm => hi j (List.mem_cons_of_mem _ hm)).trans (wipe_set (hi _ List.mem_cons_self))⟩
theorem tr_many {K : PySem.W.Frag} {is : List Nat} : TgRun K (.many is) (gTup K is.length (gOf is)) := ⟨fun H σ τ d v k Q r rd hk q => by
  simp only [Tgt.put] at hk
  split at hk
  · obtain ⟨a, vs, rfl, t, rr⟩ := rd
    exact ⟨a, vs, rfl, t, rr.length.trans hk.1, gOf_run rr hk.1 r fun τ' k' hw => q _ τ' k' hk.2 hw⟩
  · exact hk.elim⟩
theorem takes_w0 {X : Cx} {G : HD} {H : Hp} : Takes X (liftW X.K G H W0) := fun _ _ ⟨_, _, _, _, _, _, _, _, _, _, _, _, _, _, _, _, ⟨_, _, _, _, _, _, _, z⟩⟩ => z.elim
section
variable {X : Cx} {elt tg iter : Expr} {ifs : List Expr} {scope : Scope} {own : List (Str × Nat)} {pos : Pos} {wi : TI} {ti : TDI} {t : Tgt} {g : TG} {dt : TDT} {te : TD}
/-- the block's context -/
abbrev BlkDE (X : Cx) (scope : Scope) (e : Expr) (te : TD) : Prop := ∀ (s : Shared) (H : Hp) (C : Addr) (cl : List (Str × Addr)) (fp : List Addr), DE (X.blk s H scope (compEnvC scope cl C X.env) fp) e te
abbrev BlkDTs (X : Cx) (scope : Scope) (es : List Expr) (dt : TDT) : Prop := ∀ (s : Shared) (H : Hp) (C : Addr) (cl : List (Str × Addr)) (fp : List Addr), DTs (X.blk s H scope (compEnvC scope cl C X.env) fp) es dt
abbrev BlkPG (X : Cx) (scope : Scope) (e : Expr) (g : TG) : Prop := ∀ (s : Shared) (H : Hp) (C : Addr) (cl : List (Str × Addr)) (fp : List Addr), PG (X.blk s H scope (compEnvC scope cl C X.env) fp) e g
def blkT (X : Cx) (scope : Scope) (ifs : List Expr) : TT := fun τ H Q => ∀ (s : Shared) (H0 : Hp) (C : Addr) (cl : List (Str × Addr)) (fp : List Addr), semTs (X.blk s H0 scope (compEnvC scope cl C X.env) fp) ifs τ H Q
def blkE (X : Cx) (scope : Scope) (e : Expr) : TE := fun τ H Q => ∀ (s : Shared) (H0 : Hp) (C : Addr) (cl : List (Str × Addr)) (fp : List Addr), semE (X.blk s H0 scope (compEnvC scope cl C X.env) fp) e τ H Q
theorem blk_pts (s : Shared) (H : Hp) (C : Addr) (cl : List (Str × Addr)) (fp : List Addr) : PTs (X.blk s H scope (compEnvC scope cl C X.env) fp) ifs (blkT X scope ifs) := ⟨fun pins s1 _ _ _ I h => h s H C cl fp pins s1 I⟩
theorem blk_pe (s : Shared) (H : Hp) (C : Addr) (cl : List (Str × Addr)) (fp : List Addr) : PE (X.blk s H scope (compEnvC scope cl C X.env) fp) elt (blkE X scope elt) := ⟨fun pins s1 _ _ _ I h => h s H C cl fp pins s1 I⟩
theorem lc_sem (hi : DI X tg iter wi ti) (hgr : TgRun X.K t g) (hsl : ∀ i ∈ t.slots, i ∈ own.map (·.2)) (ht : BlkDTs X scope ifs dt) (he : BlkDE X scope elt te) {G : HD} {H : Hp} {σ : DSt} {τ : L2.St} {W : DW} {F : List D → HD → Prop} (r : SR X G H σ τ W) (q : dLcG F ti t dt te (own.map (·.2)) W σ G)
    {Q' : VK} (fin : ∀ D0 acc accV G0 H', (∀ a o, G a = none → H a = some o → a ≠ D0) → Sim X.K G0 H' → Ext G H G0 H' → H' D0 = some (.lst accV) → G0 D0 = none → Rps X.K H' acc accV → F acc G0 → Q' (.ref D0) H') : tLc wi g (blkT X scope ifs) (blkE X scope elt) (own.map (·.2)) τ H Q' :=
  lc_run hi hgr hsl (fun G H σ τ Q Q' s k q f s0 H0 C cl fp pins s1 I => thn ((ht s0 H0 C cl fp).run G H σ τ W0 Q ⟨s, k, takes_w0⟩ q pins s1 I) fun b s2 ⟨H2, I2, z⟩ => ⟨H2, I2, f b H2 z⟩)
    (fun G H σ τ Q Q' s k q f s0 H0 C cl fp => ((he s0 H0 C cl fp).run G H σ τ W0 Q ⟨s, k, takes_w0⟩ q).imp f) r q fin
theorem de_lc (hc : X.calm = true) (hN : X.N.Nodup) (hi : DI X tg iter wi ti) (ok : BlkOk X.N X.env.scope scope own) (hg : BlkPG X scope tg g) (hgr : TgRun X.K t g) (hsl : ∀ i ∈ t.slots, i ∈ own.map (·.2)) (ht : BlkDTs X scope ifs dt) (he : BlkDE X scope elt te)
    (hs : ∀ x, foldedSetIterable iter X.env x = pure x := by intro _; rfl) : DE X (.ListComp elt [⟨tg, iter, ifs, 0⟩] scope pos) (dLc ti t dt te (own.map (·.2))) :=
  ⟨fun G H σ τ W Q r q => semE.of (pe_lc hc hN hi.pi ok hg blk_pts blk_pe hs) (lc_sem hi hgr hsl ht he r q (finL fun _ _ z => z))⟩
theorem de_lcV (hc : X.calm = true) (hN : X.N.Nodup) (hi : DI X tg iter wi ti) (ok : BlkOk X.N X.env.scope scope own) (hg : BlkPG X scope tg g) (hgr : TgRun X.K t g) (hsl : ∀ i ∈ t.slots, i ∈ own.map (·.2)) (ht : BlkDTs X scope ifs dt) (he : BlkDE X scope elt te)
    (hs : ∀ x, foldedSetIterable iter X.env x = pure x := by intro _; rfl) : DE X (.ListComp elt [⟨tg, iter, ifs, 0⟩] scope pos) (dLcV ti t dt te (own.map (·.2))) :=
  ⟨fun G H σ τ W Q r q => semE.frz (semE.of (pe_lc hc hN hi.pi ok hg blk_pts blk_pe hs) (lc_sem hi hgr hsl ht he r q (finV fun _ _ z => z)))⟩
theorem ds_setLc {i : Nat} {y : Str} {py spos : Pos} (hc : X.calm = true) (hN : X.N.Nodup) (hy : X.N[i]? = some y) (hyl : X.env.scope.names.lookup y = some .local) (hsw : swapsWith (.ListComp elt [⟨tg, iter, ifs, 0⟩] scope pos) (some (.Name y py)) spos.line X.env = pure true)
    (hi : DI X tg iter wi ti) (ok : BlkOk X.N X.env.scope scope own) (hg : BlkPG X scope tg g) (hgr : TgRun X.K t g) (hsl : ∀ i ∈ t.slots, i ∈ own.map (·.2)) (ht : BlkDTs X scope ifs dt) (he : BlkDE X scope elt te)
    (hs : ∀ x, foldedSetIterable iter X.env x = pure x := by intro _; rfl) : DS X (.Assign [.Name y py] (.ListComp elt [⟨tg, iter, ifs, 0⟩] scope pos) spos) (sSet i (dLc ti t dt te (own.map (·.2)))) :=
  ⟨fun G H σ τ W D r q => semS.of (ps_setLc hc hN hy hyl hsw hi.pi ok hg blk_pts blk_pe hs) (lc_sem hi hgr hsl ht he r q (finL (K := X.K) (G := G) (H := H) (Q := fun d G1 => D.nx (σ.set i (some d)) G1) (Q' := fun v H' => gName i v τ H' (liftN X.K G H D.nx)) fun v H' ⟨d, G', k, s, x, q'⟩ => ⟨_, G', (r.slots.ext r.sim x _ _).set k, s, x, q'⟩))⟩
/-- .. at the end of a statement -/
def liftNF (K : PySem.W.Frag) (G : HD) (H : Hp) (Q : DSt → HD → Prop) : L2.St → Hp → Prop := fun t H' => liftN K G H Q t H' ∨ ∃ p vs, H' p = some (.lst vs) ∧ ∀ ob, liftN K G H Q t (upd H' p (.frz ob (.lst vs)))
theorem semS.frz {st : Stmt} {G : HD} {τ : L2.St} {H : Hp} {D : DEnds} (h : semS X st { liftD X.K G H D with nx := liftNF X.K G H D.nx } τ H) : semS X st (liftD X.K G H D) τ H := fun pins s I =>
  thn (h pins s I) fun f s1 q => by
    cases f with
    | next =>
      obtain ⟨τ1, H1, I1, q⟩ := q
      rcases q with q | ⟨p, vs, hp, q⟩
      · exact ⟨τ1, H1, I1, q⟩
      · obtain ⟨od, I2⟩ := I1.lock hp trivial
        exact ⟨τ1, _, I2, q od⟩
    | brk => exact q
    | cont => exact q
    | ret u => exact q
theorem ds_setLcV {i : Nat} {y : Str} {py spos : Pos} (hc : X.calm = true) (hN : X.N.Nodup) (hy : X.N[i]? = some y) (hyl : X.env.scope.names.lookup y = some .local) (hsw : swapsWith (.ListComp elt [⟨tg, iter, ifs, 0⟩] scope pos) (some (.Name y py)) spos.line X.env = pure true)
    (hi : DI X tg iter wi ti) (ok : BlkOk X.N X.env.scope scope own) (hg : BlkPG X scope tg g) (hgr : TgRun X.K t g) (hsl : ∀ i ∈ t.slots, i ∈ own.map (·.2)) (ht : BlkDTs X scope ifs dt) (he : BlkDE X scope elt te)
    (hs : ∀ x, foldedSetIterable iter X.env x = pure x := by intro _; rfl) : DS X (.Assign [.Name y py] (.ListComp elt [⟨tg, iter, ifs, 0⟩] scope pos) spos) (sSet i (dLcV ti t dt te (own.map (·.2)))) :=
  ⟨fun G H σ τ W D r q => semS.frz (semS.of (ps_setLc hc hN hy hyl hsw hi.pi ok hg blk_pts blk_pe hs) (lc_sem hi hgr hsl ht he r q (finV (K := X.K) (G := G) (H := H) (Q := fun d G1 => D.nx (σ.set i (some d)) G1) (Q' := fun v H' => gName i v τ H' (liftNF X.K G H D.nx)) fun v H' z => by
    rcases z with ⟨d, G', k, s, x, q'⟩ | ⟨p, vs, rfl, hp, z⟩
    · exact .inl ⟨_, G', (r.slots.ext r.sim x _ _).set k, s, x, q'⟩
    · exact .inr ⟨p, vs, hp, fun ob => by
        obtain ⟨d, G', k, s, x, q'⟩ := z ob
        exact ⟨_, G', (r.slots.ext r.sim x _ _).set k, s, x, q'⟩⟩)))⟩
end
end DL

namespace DL
open PySem PySem.Spec L2
open PyProof.Rows hiding St

/-! ### calls of built-ins -/
def CallD (K : PySem.W.Frag) (r : List V → Hp → VK → Prop) (rd : List D → HD → Post → Prop) : Prop :=
  ∀ (G : HD) (H : Hp) (ds : List D) (vs : List V) (Q : Post) (Q' : VK), Sim K G H → Rps K H ds vs → (∀ v H', liftQ K G H Q v H' → Q' v H') → rd ds G Q → r vs H Q'
theorem CallR.or {X : Cx} {f : Value} {r r' : List V → Hp → VK → Prop} (h : CallR X f r) (h' : CallR X f r') : CallR X f (fun xs H Q => r xs H Q ∨ r' xs H Q) := by
  intro pins s σ H xs us Q I rv q
  exact q.elim (h pins s σ H xs us Q I rv) (h' pins s σ H xs us Q I rv)
def dCB (rd : List D → HD → Post → Prop) (ts : TDA) : TD := fun W σ G Q => ts W σ G fun ds G1 => rd ds G1 Q
section
variable {X : Cx} {x : Str} {p pos : Pos} {e : Expr} {es : List Expr} {ts : TDA} {id T : String} {r : List V → Hp → VK → Prop} {rd : List D → HD → Post → Prop}
theorem de_cb (hc : CallR X (.builtin id) r) (hd : CallD X.K r rd) (hm : X.mg x = none) (hv : bootBuiltins x = some (.builtin id)) (ha : DA X (e :: es) ts) (hg : Gl X x := by rfl) (hn : x ≠ "__name__" := by decide) (hdb : (x == ("__debug__" : Str)) = false := by decide)
    (he : starEach (e :: es) X.env = (false, eval e X.env) :: starEach es X.env := by rfl) (hpl : (backTo pos (starEach es X.env)).any (·.1) = false := by rfl) : DE X (.Call (.Name x p) (e :: es) [] pos) (dCB rd ts) :=
  ⟨fun G H σ τ W Q r0 q => semE.of (pe_callB hc hg hm hv paSem hn hdb he hpl) (ha.then r0 q fun ds vs G1 H1 r1 x1 k1 q1 => hd G1 H1 ds vs Q _ r1.sim k1 (fun _ _ z => z.up x1) q1)⟩
theorem de_ct (hc : CallR X (.type T) r) (hd : CallD X.K r rd) (hm : X.mg x = none) (hv : bootBuiltins x = some (.type T)) (ha : DA X (e :: es) ts) (hg : Gl X x := by rfl) (hn : x ≠ "__name__" := by decide) (hdb : (x == ("__debug__" : Str)) = false := by decide)
    (he : starEach (e :: es) X.env = (false, eval e X.env) :: starEach es X.env := by rfl) (hpl : (backTo pos (starEach es X.env)).any (·.1) = false := by rfl) : DE X (.Call (.Name x p) (e :: es) [] pos) (dCB rd ts) :=
  ⟨fun G H σ τ W Q r0 q => semE.of (pe_callTy hc hg hm hv paSem hn hdb he hpl) (ha.then r0 q fun ds vs G1 H1 r1 x1 k1 q1 => hd G1 H1 ds vs Q _ r1.sim k1 (fun _ _ z => z.up x1) q1)⟩
end
theorem one_of {K : PySem.W.Frag} {H : Hp} {d : D} {vs : List V} (h : Rps K H [d] vs) : ∃ v, vs = [v] ∧ Rp K H d v := by
  obtain ⟨v, r, rfl, h1, h2⟩ := h
  cases h2
  exact ⟨v, rfl, h1⟩
theorem two_of {K : PySem.W.Frag} {H : Hp} {d e : D} {vs : List V} (h : Rps K H [d, e] vs) : ∃ v w, vs = [v, w] ∧ Rp K H d v ∧ Rp K H e w := by
  obtain ⟨v, r, rfl, h1, h2⟩ := h
  obtain ⟨w, rfl, h3⟩ := one_of h2
  exact ⟨v, w, rfl, h1, h3⟩

def lenD (G : HD) : D → Option Nat
  | .str x => if x.length ≤ sizeLine then some x.length else none
  | .tup ds => some ds.length
  | .kl ds => some ds.length
  | .kc ds => some ds.length
  | .ref a => match G a with
    | some (.lst ds) => some ds.length
    | some (.dK l) => some l.length
    | _ => none
  | _ => none
def rLen : List D → HD → Post → Prop := fun ds G Q => match ds with
  | [d] => match lenD G d with
    | some n => Q (.int n) G
    | none => False
  | _ => False
theorem cd_len (K : PySem.W.Frag) : CallD K (fun xs H Q => (∃ x n, xs = [x] ∧ LenV K x H n ∧ Q (.int n) H) ∨ (∃ a kvs, xs = [V.ref a] ∧ H a = some (.dK kvs) ∧ Q (.int kvs.length) H)) rLen := fun G H ds vs Q Q' s k f q => by
  unfold rLen at q
  split at q
  · rename_i d
    obtain ⟨v, rfl, kd⟩ := one_of k
    split at q
    · rename_i n hn
      have fin : Q' (.int n) H := f _ _ (.of (d := .int n) rfl s .refl q)
      cases d with
      | str x =>
        cases kd
        simp only [lenD] at hn
        split at hn
        · rename_i z; cases hn; exact .inl ⟨_, _, rfl, ⟨z, rfl⟩, fin⟩
        · cases hn
      | tup es =>
        obtain ⟨a, ws, rfl, t, r⟩ := kd
        cases hn
        exact .inl ⟨_, _, rfl, .inr ⟨ws, t, r.length.symm⟩, fin⟩
      | kl es =>
        obtain ⟨a, ws, rfl, t, r⟩ := Rp.lst (ds := es) s kd rfl
        cases hn
        exact .inl ⟨_, _, rfl, .inl ⟨ws, t, r.length.symm⟩, fin⟩
      | kc es =>
        obtain ⟨a, ws, rfl, t, r⟩ := Rp.lst (ds := es) s kd rfl
        cases hn
        exact .inl ⟨_, _, rfl, .inl ⟨ws, t, r.length.symm⟩, fin⟩
      | exc _ _ _ => cases hn
      | emp => cases hn
      | ref a =>
        cases kd
        simp only [lenD] at hn
        split at hn
        · rename_i es eg
          cases hn
          obtain ⟨ws, e1, r⟩ := s.lst eg
          exact .inl ⟨_, _, rfl, .inl ⟨ws, .of e1, r.length.symm⟩, fin⟩
        · rename_i l eg
          cases hn
          obtain ⟨m, e1, r⟩ := s.dK eg
          exact .inr ⟨a, m, rfl, e1, by rw [r.length]; exact fin⟩
        · cases hn
      | non => cases hn
      | bl _ => cases hn
      | int _ => cases hn
      | ty _ => cases hn
    · exact q.elim
  · exact q.elim
/-- max, min of two ints -/
def rMax2 : List D → HD → Post → Prop := fun ds G Q => match ds with
  | [.int i, .int j] => Q (.int (if j > i then j else i)) G
  | [d] => match asL G d with
    | some es => match asInts es with
      | some ns => 0 < ns.length ∧ ∀ m, m ∈ ns → (∀ y, y ∈ ns → y ≤ m) → Q (.int m) G
      | none => False
    | none => False
  | _ => False
def rMin2 : List D → HD → Post → Prop := fun ds G Q => match ds with
  | [.int i, .int j] => Q (.int (if j < i then j else i)) G
  | [d] => match asL G d with
    | some es => match asInts es with
      | some ns => 0 < ns.length ∧ ∀ m, m ∈ ns → (∀ y, y ∈ ns → m ≤ y) → Q (.int m) G
      | none => False
    | none => False
  | _ => False
theorem intsL {K : PySem.W.Frag} {G : HD} {H : Hp} {d : D} {v : V} {es : List D} {ns : List Int} (s : Sim K G H) (k : Rp K H d v) (h : asL G d = some es) (h2 : asInts es = some ns) : ∃ a, v = .ref a ∧ SqL K H a (ns.map V.int) := by
  obtain ⟨a, vs, rfl, t, r⟩ := k.lst s h
  obtain rfl := asInts_eq h2
  obtain rfl := r.ints
  exact ⟨a, rfl, t⟩
theorem cd_max (K : PySem.W.Frag) : CallD K (fun xs H Q => (∃ i j, xs = [.int i, .int j] ∧ Q (.int (if j > i then j else i)) H) ∨ L2.rMax K xs H Q) rMax2 := fun G H ds vs Q Q' s k f q => by
  unfold rMax2 at q
  split at q
  · obtain ⟨v, w, rfl, h1, h2⟩ := two_of k
    cases h1; cases h2
    exact .inl ⟨_, _, rfl, f _ _ (.of (d := .int _) rfl s .refl q)⟩
  · obtain ⟨v, rfl, kd⟩ := one_of k
    split at q
    · rename_i es e1
      split at q
      · rename_i ns e2
        obtain ⟨a, rfl, t⟩ := intsL s kd e1 e2
        exact .inr ⟨a, ns, rfl, t, q.1, fun m h1 h2 => f _ _ (.of (d := .int m) rfl s .refl (q.2 m h1 h2))⟩
      · exact q.elim
    · exact q.elim
  · exact q.elim
theorem cd_min (K : PySem.W.Frag) : CallD K (fun xs H Q => (∃ i j, xs = [.int i, .int j] ∧ Q (.int (if j < i then j else i)) H) ∨ L2.rMin K xs H Q) rMin2 := fun G H ds vs Q Q' s k f q => by
  unfold rMin2 at q
  split at q
  · obtain ⟨v, w, rfl, h1, h2⟩ := two_of k
    cases h1; cases h2
    exact .inl ⟨_, _, rfl, f _ _ (.of (d := .int _) rfl s .refl q)⟩
  · obtain ⟨v, rfl, kd⟩ := one_of k
    split at q
    · rename_i es e1
      split at q
      · rename_i ns e2
        obtain ⟨a, rfl, t⟩ := intsL s kd e1 e2
        exact .inr ⟨a, ns, rfl, t, q.1, fun m h1 h2 => f _ _ (.of (d := .int m) rfl s .refl (q.2 m h1 h2))⟩
      · exact q.elim
    · exact q.elim
  · exact q.elim
def rSumD : List D → HD → Post → Prop := fun ds G Q => match ds with
  | [d] => match asL G d with
    | some es => match asInts es with
      | some ns => Q (.int ns.sum) G
      | none => False
    | none => False
  | _ => False
theorem cd_sum (K : PySem.W.Frag) : CallD K (L2.rSum K) rSumD := fun G H ds vs Q Q' s k f q => by
  unfold rSumD at q
  split at q
  · obtain ⟨v, rfl, kd⟩ := one_of k
    split at q
    · rename_i es e1
      split at q
      · rename_i ns e2
        obtain ⟨a, rfl, t⟩ := intsL s kd e1 e2
        exact ⟨a, ns, rfl, t, f _ _ (.of (d := .int _) rfl s .refl q)⟩
      · exact q.elim
    · exact q.elim
  · exact q.elim
def rAbs : List D → HD → Post → Prop := fun ds G Q => match ds with
  | [.int i] => Q (.int (if i < 0 then -i else i)) G
  | _ => False
theorem cd_abs (K : PySem.W.Frag) : CallD K (fun xs H Q => ∃ i, xs = [.int i] ∧ Q (.int (if i < 0 then -i else i)) H) rAbs := fun G H ds vs Q Q' s k f q => by
  unfold rAbs at q
  split at q
  · obtain ⟨v, rfl, kd⟩ := one_of k
    cases kd
    exact ⟨_, rfl, f _ _ (.of (d := .int _) rfl s .refl q)⟩
  · exact q.elim
def rInt : List D → HD → Post → Prop := fun ds G Q => match ds with
  | [.int i] => Q (.int i) G
  | [.bl b] => Q (.int (if b then 1 else 0)) G
  | _ => False
theorem cd_int (K : PySem.W.Frag) : CallD K (fun xs H Q => (∃ i, xs = [.int i] ∧ Q (.int i) H) ∨ ∃ k, xs = [.bl k] ∧ Q (.int (if k then 1 else 0)) H) rInt := fun G H ds vs Q Q' s k f q => by
  unfold rInt at q
  split at q
  · obtain ⟨v, rfl, kd⟩ := one_of k
    cases kd
    exact .inl ⟨_, rfl, f _ _ (.of (d := .int _) rfl s .refl q)⟩
  · obtain ⟨v, rfl, kd⟩ := one_of k
    cases kd
    exact .inr ⟨_, rfl, f _ _ (.of (d := .int _) rfl s .refl q)⟩
  · exact q.elim
/-- list(x), tuple(x) of a list, a tuple -/
def rList : List D → HD → Post → Prop := fun ds G Q => match ds with
  | [d] => match asQ G d with
    | some es => newL G es Q
    | none => False
  | _ => False
theorem cd_list (K : PySem.W.Frag) : CallD K (fun xs H Q => ∃ p ys, xs = [.ref p] ∧ (SqL K H p ys ∨ SqT K H p ys) ∧ ∀ l, H l = none → Q (.ref l) (upd H l (.lst ys))) rList := fun G H ds vs Q Q' s k f q => by
  unfold rList at q
  split at q
  · obtain ⟨v, rfl, kd⟩ := one_of k
    split at q
    · rename_i es e1
      obtain ⟨a, ws, rfl, t, r⟩ := kd.seq s e1
      exact ⟨a, ws, rfl, t, newL.fin s r f q⟩
    · exact q.elim
  · exact q.elim
def rTuple : List D → HD → Post → Prop := fun ds G Q => match ds with
  | [d] => match asQ G d with
    | some es => Q (.tup es) G
    | none => False
  | _ => False
theorem cd_tuple (K : PySem.W.Frag) : CallD K (fun xs H Q => ∃ p ys, xs = [.ref p] ∧ ((SqL K H p ys ∧ ∀ l, H l = none → Q (.ref l) (upd H l (.tup ys))) ∨ (SqT K H p ys ∧ Q (.ref p) H))) rTuple := fun G H ds vs Q Q' s k f q => by
  unfold rTuple at q
  split at q
  · obtain ⟨v, rfl, kd⟩ := one_of k
    split at q
    · rename_i es e1
      obtain ⟨a, ws, rfl, t, r⟩ := kd.seq s e1
      rcases t with t | t
      · exact ⟨a, ws, rfl, .inl ⟨t, newT.fin s r f q⟩⟩
      · exact ⟨a, ws, rfl, .inr ⟨t, f _ _ (.of (d := .tup es) ⟨a, ws, rfl, t, r⟩ s .refl q)⟩⟩
    · exact q.elim
  · exact q.elim
def asBls : List D → Option (List Bool)
  | [] => some []
  | .bl i :: r => (asBls r).map (i :: ·)
  | _ :: _ => none
theorem asBls_eq : ∀ {ds : List D} {ns : List Bool}, asBls ds = some ns → ds = ns.map D.bl
  | [], _, h => by cases h; rfl
  | .bl i :: r, ns, h => by
    simp only [asBls, Option.map_eq_some_iff] at h
    obtain ⟨ms, e, rfl⟩ := h
    rw [asBls_eq e]; rfl
  | .non :: _, _, h => by cases h
  | .int _ :: _, _, h => by cases h
  | .str _ :: _, _, h => by cases h
  | .ty _ :: _, _, h => by cases h
  | .ref _ :: _, _, h => by cases h
  | .tup _ :: _, _, h => by cases h
  | .kl _ :: _, _, h => by cases h
  | .kc _ :: _, _, h => by cases h
  | .exc _ _ _ :: _, _, h => by cases h
  | .emp :: _, _, h => by cases h
theorem asBls_map : ∀ ns : List Bool, asBls (ns.map D.bl) = some ns
  | [] => rfl
  | n :: ns => by show (asBls (ns.map D.bl)).map (n :: ·) = _; rw [asBls_map ns]; rfl
def rAllD (p : List Bool → Bool) : List D → HD → Post → Prop := fun ds G Q => match ds with
  | [d] => match asL G d with
    | some es => match asBls es with
      | some bs => Q (.bl (p bs)) G
      | none => False
    | none => False
  | _ => False
theorem cd_all (K : PySem.W.Frag) : CallD K (L2.rAll K) (rAllD fun bs => bs.all id) := fun G H ds vs Q Q' s k f q => by
  unfold rAllD at q
  split at q
  · obtain ⟨v, rfl, kd⟩ := one_of k
    split at q
    · rename_i es e1
      split at q
      · rename_i ns e2
        obtain ⟨a, vs, rfl, t, r⟩ := kd.lst s e1
        obtain rfl := asBls_eq e2
        obtain rfl := r.bls
        exact ⟨a, ns, rfl, t, f _ _ (.of (d := .bl _) rfl s .refl q)⟩
      · exact q.elim
    · exact q.elim
  · exact q.elim

/-! isinstance -/
/-- a datum's type: a built-in one by its name, or an own class -/
def tyD (G : HD) : D → Option (String ⊕ Addr)
  | .non => some (.inl "NoneType")
  | .bl _ => some (.inl "bool")
  | .int _ => some (.inl "int")
  | .str _ => some (.inl "str")
  | .tup _ => some (.inl "tuple")
  | .kl _ => some (.inl "list")
  | .kc _ => some (.inl "list")
  | .exc _ _ _ => none
  | .emp => none
  | .ty _ => none
  | .ref a => match G a with
    | some (.lst _) => some (.inl "list")
    | some (.dK _) => some (.inl "dict")
    | some (.dT _) => some (.inl "dict")
    | some (.ins C _) => some (.inr C)
    | _ => none
def tyV2 : String ⊕ Addr → Value
  | .inl n => .type n
  | .inr C => .ref C
/-- isinstance between built-in types -/
def isiB (a b : String) : Option Bool :=
  if a ∈ ["NoneType", "bool", "int", "str", "tuple", "list", "dict"] ∧ b ∈ ["bool", "int", "str", "tuple", "list", "dict"] then some (a == b || (a == "bool" && b == "int")) else none
theorem isiB_ok {a b : String} {r : Bool} (h : isiB a b = some r) : kitB a b = some r := by
  unfold isiB at h
  split at h
  · rename_i z
    obtain ⟨z1, z2⟩ := z
    cases h
    simp only [List.mem_cons, List.not_mem_nil, or_false] at z1 z2
    rcases z1 with rfl | rfl | rfl | rfl | rfl | rfl | rfl <;> rcases z2 with rfl | rfl | rfl | rfl | rfl | rfl <;> decide +kernel
  · cases h
/-- what an own class must have, to be asked for -/
def InsOk (K : PySem.W.Frag) (C : Addr) : Prop := Cls K C ∧ PySem.W.findIn K (.ref C) "__class__" = some (some (.builtin "object.__class__")) ∧
  PySem.W.specialIn K (.builtin "object.__class__") "__get__" = some (some (.builtin "getset_descriptor.__get__")) ∧ PySem.W.takesIn K (.builtin "object.__class__") = some true ∧ PySem.W.mroIn K C (.type "object") = some true
def InsO (K : PySem.W.Frag) : String ⊕ Addr → Prop
  | .inl _ => True
  | .inr C => InsOk K C
/-- ic a c b: a thing of the type a is (b) an instance of c -/
def IsiOk (K : PySem.W.Frag) (a c : String ⊕ Addr) (b : Bool) : Prop := InsO K a ∧ PySem.W.kitOne K (tyV2 a) (tyV2 c) = some b
def rIsiD (ic : String ⊕ Addr → String ⊕ Addr → Bool → Prop) : List D → HD → Post → Prop := fun ds G Q => match ds with
  | [d, .ty n] => match tyD G d with
    | some (.inl a) => match isiB a n with
      | some b => Q (.bl b) G
      | none => False
    | some (.inr C) => ∃ b, ic (.inr C) (.inl n) b ∧ Q (.bl b) G
    | none => False
  | [d, .ref c] => match tyD G d with
    | some t => ∃ b, ic t (.inr c) b ∧ Q (.bl b) G
    | none => False
  | _ => False
theorem tyD_ok {K : PySem.W.Frag} {G : HD} {H : Hp} {d : D} {v : V} {t : String ⊕ Addr} (s : Sim K G H) (k : Rp K H d v) (h : tyD G d = some t) (hi : InsO K t) : TyX K H v (tyV2 t) := by
  cases d with
  | non => cases h; cases k; exact .base .non
  | bl b => cases h; cases k; exact .base (.bl b)
  | int b => cases h; cases k; exact .base (.int b)
  | str b => cases h; cases k; exact .base (.str b)
  | ty _ => cases h
  | tup ds =>
    cases h
    obtain ⟨a, vs, rfl, t, r⟩ := k
    rcases t with (t | ⟨o, t⟩) | ⟨o, its, n, t1, t2, _⟩
    · exact .base (.tup t)
    · exact .fTuple t
    · exact .kTuple t1 t2
  | kl ds =>
    cases h
    obtain ⟨a, vs, rfl, ⟨o, t⟩, r⟩ := k
    exact .base (.frz t)
  | kc ds =>
    cases h
    obtain ⟨a, vs, rfl, t, r⟩ := k
    rcases t with ⟨o, t⟩ | ⟨o, its, n, t1, t2, _⟩
    · exact .base (.frz t)
    · exact .kList t1 t2
  | exc _ _ _ => cases h
  | emp => cases h
  | ref a =>
    cases k
    simp only [tyD] at h
    split at h
    · rename_i ds e
      cases h
      obtain ⟨vs, e1, _⟩ := s.lst e
      exact .base (.lst e1)
    · rename_i ds e
      cases h
      obtain ⟨vs, e1, _⟩ := s.dK e
      exact .base (.dK e1)
    · rename_i ds e
      cases h
      obtain ⟨vs, e1, _⟩ := s.dT e
      exact .base (.dT e1)
    · rename_i C fs e
      cases h
      obtain ⟨dx, l, e1, _⟩ := s.ins e
      obtain ⟨h1, h2, h3, h4, h5⟩ := hi
      exact .base (.ins e1 h1 h2 h3 h4 h5)
    · cases h
theorem cd_isi {K : PySem.W.Frag} {ic : String ⊕ Addr → String ⊕ Addr → Bool → Prop} (hic : ∀ a c b, ic a c b → IsiOk K a c b) : CallD K (rIsi K) (rIsiD ic) := fun G H ds vs Q Q' s k f q => by
  unfold rIsiD at q
  split at q
  · rename_i d n
    obtain ⟨v, w, rfl, h1, h2⟩ := two_of k
    cases h2
    split at q
    · rename_i a e
      split at q
      · rename_i b hb
        exact ⟨v, .ty n, _, _, b, rfl, .ty n, tyD_ok s h1 e trivial, kit_ty (isiB_ok hb), f _ _ (.of (d := .bl b) rfl s .refl q)⟩
      · exact q.elim
    · rename_i C e
      obtain ⟨b, hb, q⟩ := q
      obtain ⟨z1, z2⟩ := hic _ _ _ hb
      exact ⟨v, .ty n, _, _, b, rfl, .ty n, tyD_ok s h1 e z1, z2, f _ _ (.of (d := .bl b) rfl s .refl q)⟩
    · exact q.elim
  · rename_i d c
    obtain ⟨v, w, rfl, h1, h2⟩ := two_of k
    cases h2
    split at q
    · rename_i t e
      obtain ⟨b, hb, q⟩ := q
      obtain ⟨z1, z2⟩ := hic _ _ _ hb
      exact ⟨v, .ref c, _, _, b, rfl, .own c, tyD_ok s h1 e z1, z2, f _ _ (.of (d := .bl b) rfl s .refl q)⟩
    · exact q.elim
  · exact q.elim

/-! o[i] = e, a list -/
def rSetD : D → D → D → HD → (HD → Prop) → Prop := fun o i v G Q => match o, i with
  | .ref a, .int k => match G a with
    | some (.lst xs) => match ixN xs.length k with
      | some j => Q (put G a (.lst (xs.set j v)))
      | none => False
    | _ => False
  | _, _ => False
def sSub (to ti te : TD) (rd : D → D → D → HD → (HD → Prop) → Prop) : TDS := fun W D σ G => te W σ G fun v G1 => to W σ G1 fun o G2 => ti W σ G2 fun i G3 => rd o i v G3 fun G4 => D.nx σ G4
section
variable {X : Cx} {o i e : Expr} {to ti te : TD} {pos pos' : Pos}
def SetD (K : PySem.W.Frag) (r : TSet) (rd : D → D → D → HD → (HD → Prop) → Prop) : Prop :=
  ∀ (G : HD) (H : Hp) (o i v : D) (x y z : V) (Q : HD → Prop) (Q' : Hp → Prop), Sim K G H → Rp K H o x → Rp K H i y → Rp K H v z → (∀ G' H', Sim K G' H' → Ext G H G' H' → Q G' → Q' H') → rd o i v G Q → r x y z H Q'
theorem sd_list (K : PySem.W.Frag) : SetD K rSetL rSetD := fun G H o i v x y z Q Q' s k1 k2 k3 f q => by
  unfold rSetD at q
  split at q
  · rename_i a k
    cases k1; cases k2
    split at q
    · rename_i xs e
      split at q
      · rename_i j hj
        obtain ⟨vs, e1, r⟩ := s.lst e
        exact ⟨a, vs, k, j, rfl, rfl, e1, by rw [r.length]; exact hj, f _ _ (s.wr (m := .lst (xs.set j v)) (o := .lst (vs.set j z)) e ⟨_, rfl, r.set k3⟩) (.wr e) q⟩
      · exact q.elim
    · exact q.elim
  · exact q.elim
theorem ds_sub {r : TSet} {rd : D → D → D → HD → (HD → Prop) → Prop} (hp : PSet X r) (hd : SetD X.K r rd) (ho : DE X o to) (hi : DE X i ti) (he : DE X e te)
    (ha : ∀ v, assign (.Subscript o i pos') X.env v = (do
      let ov ← holding [v] (eval o X.env)
      let iv ← holding [v, ov] (eval i X.env)
      standAt pos'
      holding [v, ov, iv] (setItem ov iv v)
      release [v, ov, iv] []) := by intro _; rfl)
    (hs : swapsWithSole [.Subscript o i pos'] e pos.line X.env = pure false := by rfl) (hw : swappedStores [.Subscript o i pos'] e X.env = pure none := by rfl) (h1 : (assignEach [.Subscript o i pos'] X.env).map (·.2) = [assign (.Subscript o i pos') X.env] := by rfl) :
    DS X (.Assign [.Subscript o i pos'] e pos) (sSub to ti te rd) :=
  ⟨fun G H σ τ W D r0 q => semS.of (ps_asg peSem (pg_sub peSem peSem hp ha) hs hw h1) (he.then r0 q fun v z G1 H1 r1 x1 k1 q1 => ho.then r1 q1 fun d x G2 H2 r2 x2 k2 q2 => hi.then r2 q2 fun c y G3 H3 r3 x3 k3 q3 =>
    hd G3 H3 d c v x y z _ _ r3.sim (k2.ext r2.sim x3 _ _) k3 (k1.ext r1.sim (x2.trans x3) _ _) (fun G4 H4 s4 x4 q4 => ⟨σ, G4, r3.slots.ext r3.sim x4 _ _, s4, ((x1.trans x2).trans x3).trans x4, q4⟩) q3)⟩
end

/-! x += e, o.f += e -/
def dCmpA (g : Int → Int → Int) : D → D → HD → Post → Prop := fun d e G Q => match d, e with
  | .int i, .int j => Q (.int (g i j)) G
  | _, _ => False
theorem od_ipI (K : PySem.W.Frag) (g : Int → Int → Int) : OpD K (ipI g) (dCmpA g) := fun G H d e x y Q Q' s k1 k2 f q => by
  unfold dCmpA at q
  split at q
  · cases k1; cases k2
    exact ⟨_, _, rfl, rfl, f _ _ (.of (d := .int _) rfl s .refl q)⟩
  · exact q.elim
def sFldG (ok : Addr → Str → Prop) (f : Str) (g : Int → Int → Int) (to tv : TD) : TDS := fun W D σ G => to W σ G fun d G1 => match d with
  | .ref a => match G1 a with
    | some (.ins C fs) => ok C f ∧ match fs.lookup f with
      | some (.int i) => tv W σ G1 fun v G2 => match v with
        | .int j => match G2 a with
          | some (.ins C2 fs2) => C2 = C ∧ fs2.length < 1000 ∧ D.nx σ (put G2 a (.ins C2 (putD f (.int (g i j)) fs2)))
          | _ => False
        | _ => False
      | _ => False
    | _ => False
  | _ => False
def sAug (i : Nat) (rd : D → D → HD → Post → Prop) (te : TD) : TDS := fun W D σ G => match σ[i]? with
  | some (some d) => te W σ G fun e G1 => rd d e G1 fun z G2 => D.nx (σ.set i (some z)) G2
  | _ => False
section
variable {X : Cx} {e o : Expr} {te to : TD} {pos pos' : Pos}
theorem ds_aug {i : Nat} {x : Str} {op : Operator} {r : TIp} {rd : D → D → HD → Post → Prop} (hp : PIp X op r) (hd : OpD X.K r rd) (he : DE X e te) (hN : X.N.Nodup) (hi : X.N[i]? = some x := by rfl) (hx : Loc X.env.scope x := by first | exact Or.inl rfl | exact Or.inr rfl) (hf : X.fn x = true ∨ X.env.scope.names.lookup x = some .local := by first | exact .inl rfl | exact .inr rfl | assumption) :
    DS X (.AugAssign (.Name x pos') op e pos) (sAug i rd te) :=
  ⟨fun G H σ τ W D r0 q => semS.of (ps_aug hN hi hx peSem hp hf) (by
    unfold sAug at q
    split at q
    · rename_i d ed
      obtain ⟨v, e1, k0⟩ := r0.slots.get ed
      exact ⟨v, e1, he.then r0 q fun c y G1 H1 r1 x1 k1 q1 => hd G1 H1 d c v y _ _ r1.sim (k0.ext r0.sim x1 _ _) k1 (fun w H2 ⟨z, G2, k2, s2, x2, q2⟩ => ⟨_, G2, (r1.slots.ext r1.sim x2 _ _).set k2, s2, x1.trans x2, q2⟩) q1⟩
    · exact q.elim)⟩
theorem ds_augAdd {i : Nat} {x : Str} (he : DE X e te) (hN : X.N.Nodup) (hi : X.N[i]? = some x := by rfl) (hx : Loc X.env.scope x := by first | exact Or.inl rfl | exact Or.inr rfl) (hf : X.fn x = true ∨ X.env.scope.names.lookup x = some .local := by first | exact .inl rfl | exact .inr rfl | assumption) :
    DS X (.AugAssign (.Name x pos') .Add e pos) (sAug i (dCmpA fun i j => i + j) te) := ds_aug ip_add (od_ipI X.K _) he hN hi hx hf
theorem ds_augSub {i : Nat} {x : Str} (he : DE X e te) (hN : X.N.Nodup) (hi : X.N[i]? = some x := by rfl) (hx : Loc X.env.scope x := by first | exact Or.inl rfl | exact Or.inr rfl) (hf : X.fn x = true ∨ X.env.scope.names.lookup x = some .local := by first | exact .inl rfl | exact .inr rfl | assumption) :
    DS X (.AugAssign (.Name x pos') .Sub e pos) (sAug i (dCmpA fun i j => i - j) te) := ds_aug ip_sub (od_ipI X.K _) he hN hi hx hf
theorem ds_fldaug {op : Operator} {f : Str} {ok : Addr → Str → Prop} {g : Int → Int → Int} (hok : ∀ C f, ok C f → AttrOk X.K C f) (hop : InOp X op (fun x y H Q => ∃ i j, x = .int i ∧ y = .int j ∧ Q (.int (g i j)) H)) (ho : DE X o to) (he : DE X e te) :
    DS X (.AugAssign (.Attribute o f pos') op e pos) (sFldG ok f g to te) :=
  ⟨fun G H σ τ W D r0 q => semS.of (ps_fldaug peSem peSem hop) (ho.then r0 q fun d x G1 H1 r1 x1 k1 q1 => by
    try dsimp only at q1
    split at q1
    · rename_i a
      cases k1
      split at q1
      · rename_i C fs eg
        obtain ⟨h1, q1⟩ := q1
        split at q1
        · rename_i i ei
          obtain ⟨dx, l, el, rl⟩ := r1.sim.ins eg
          obtain ⟨z, e1, e2⟩ := rl.lookup ei
          cases e2
          obtain ⟨c1, c2⟩ := hok _ _ h1
          refine ⟨a, C, dx, l, _, rfl, el, c1, c2, e1, he.then r1 q1 fun v y G2 H2 r2 x2 k2 q2 => ?_⟩
          try dsimp only at q2
          split at q2
          · rename_i j
            cases k2
            split at q2
            · rename_i C2 fs2 eg2
              obtain ⟨rfl, h3, q2⟩ := q2
              obtain ⟨dx2, l2, el2, rl2⟩ := r2.sim.ins eg2
              have sm := r2.sim.wr (m := .ins C2 (putD f (.int (g i j)) fs2)) (o := .ins C2 dx2 (putF f (.int (g i j)) l2)) eg2 ⟨dx2, _, rfl, RKV.put (d := .int (g i j)) (v := .int (g i j)) rfl rl2⟩
              have xx : Ext G2 H2 (put G2 a (.ins C2 (putD f (.int (g i j)) fs2))) (upd H2 a (.ins C2 dx2 (putF f (.int (g i j)) l2))) := .wr eg2
              exact ⟨i, j, rfl, rfl, dx2, l2, el2, by rw [rl2.length]; exact h3, σ, _, r2.slots.ext r2.sim xx _ _, sm, (x1.trans x2).trans xx, q2⟩
            · exact q2.elim
          · exact q2.elim
        · exact q1.elim
      · exact q1.elim
    · exact q1.elim)⟩
end
end DL

namespace DL
open PySem PySem.Spec L2
open PyProof.Rows hiding St

/-! ### bundles: a def of the module, a method, a class to be made, as callers want them -/
structure DefK (P : Program) (w : World) (K : PySem.W.Frag) (mg : Str → Option Value) (base : Heap) (k : Nat) (x : Str) (sp : SpD) (dds : List D) : Prop where
  ex : ∃ (f : Addr) (fd : FuncData) (ps : List Str) (dvs : List V) (ds : List Value), FnK P w K mg base k f fd ps sp ∧ mg x = some (.ref f) ∧ PySem.W.keepIn K (.ref f) = true ∧ Binds K fd ps ds ∧ Vals dvs ds ∧ Dfl K dds dvs ∧ ∀ ds G E Q, sp ds G E Q → ds.length = ps.length
structure MetK (P : Program) (w : World) (K : PySem.W.Frag) (mg : Str → Option Value) (base : Heap) (k : Nat) (m : Str) (C : Addr) (sp : SpD) (dds : List D) : Prop where
  ex : ∃ (f : Addr) (fd : FuncData) (ps : List Str) (dvs : List V) (ds : List Value), Cls K C ∧ Meth K C m f ∧ FnK P w K mg base k f fd ps sp ∧ Binds K fd ps ds ∧ Vals dvs ds ∧ Dfl K dds dvs ∧ ∀ ds G E Q, sp ds G E Q → ds.length = ps.length
structure MakK (P : Program) (w : World) (K : PySem.W.Frag) (mg : Str → Option Value) (base : Heap) (k : Nat) (x : Str) (C : Addr) (sp : SpD) (dds : List D) : Prop where
  ex : ∃ (f : Addr) (fd : FuncData) (ps : List Str) (dvs : List V) (ds : List Value), Mk K C f ∧ FnK P w K mg base k f fd ps sp ∧ mg x = some (.ref C) ∧ Binds K fd ps ds ∧ Vals dvs ds ∧ Dfl K dds dvs ∧ ∀ ds G E Q, sp ds G E Q → ds.length = ps.length
section
variable {X : Cx} {k j : Nat} {C : Addr} {sp : SpD} {x m : Str} {p pos apos : Pos} {e o : Expr} {es : List Expr} {ta : TD} {ts : TDA} {dds : List D}
theorem dk_call (F : DefK X.prog X.w X.K X.mg X.base k x sp dds) (hr : RoomG j X.A) (ha : DA X (e :: es) ts) (hj : k ≤ j := by decide) (hg : Gl X x := by rfl) (hdb : (x == ("__debug__" : Str)) = false := by decide) (he : starEach (e :: es) X.env = (false, eval e X.env) :: starEach es X.env := by rfl) (hpl : (backTo pos (starEach es X.env)).any (·.1) = false := by rfl) :
    DE X (.Call (.Name x p) (e :: es) [] pos) (dCall sp dds ts) := by
  obtain ⟨f, fd, ps, dvs, ds, h1, h2, h3, h4, h5, h6, h7⟩ := F.ex
  exact de_call h1 (hr.mono hj) h2 h3 h4 h5 h6 ha h7 hg hdb he hpl
theorem dk_call0 (F : DefK X.prog X.w X.K X.mg X.base k x sp dds) (hr : RoomG j X.A) (hj : k ≤ j := by decide) (hg : Gl X x := by rfl) (hdb : (x == ("__debug__" : Str)) = false := by decide) :
    DE X (.Call (.Name x p) [] [] pos) (dCall sp dds dNil) := by
  obtain ⟨f, fd, ps, dvs, ds, h1, h2, h3, h4, h5, h6, h7⟩ := F.ex
  exact de_call0 h1 (hr.mono hj) h2 h3 h4 h5 h6 h7 hg hdb
theorem dk_make (F : MakK X.prog X.w X.K X.mg X.base k x C sp dds) (hr : RoomG j X.A) (ha : DA X (e :: es) ts) (hj : k + 1 ≤ j := by decide) (hg : Gl X x := by rfl) (hdb : (x == ("__debug__" : Str)) = false := by decide) (he : starEach (e :: es) X.env = (false, eval e X.env) :: starEach es X.env := by rfl) (hpl : (backTo pos (starEach es X.env)).any (·.1) = false := by rfl) :
    DE X (.Call (.Name x p) (e :: es) [] pos) (dMake C sp dds ts) := by
  obtain ⟨f, fd, ps, dvs, ds, h1, h2, h3, h4, h5, h6, h7⟩ := F.ex
  exact de_make h1 h2 (hr.mono hj) h3 h4 h5 h6 ha h7 hg hdb he hpl
theorem dk_make0 (F : MakK X.prog X.w X.K X.mg X.base k x C sp dds) (hr : RoomG j X.A) (hj : k + 1 ≤ j := by decide) (hg : Gl X x := by rfl) (hdb : (x == ("__debug__" : Str)) = false := by decide) :
    DE X (.Call (.Name x p) [] [] pos) (dMake C sp dds dNil) := by
  obtain ⟨f, fd, ps, dvs, ds, h1, h2, h3, h4, h5, h6, h7⟩ := F.ex
  exact de_make0 h1 h2 (hr.mono hj) h3 h4 h5 h6 h7 hg hdb
theorem MetK.to {q : Addr × SpD} (F : MetK X.prog X.w X.K X.mg X.base k m q.1 q.2 dds) (hj : k ≤ j) : MethK X j m q.1 q.2 dds := by
  obtain ⟨f, fd, ps, dvs, ds, h1, h2, h3, h4, h5, h6, h7⟩ := F.ex
  exact ⟨f, fd, ps, dvs, ds, h1, h2, h3.mono hj, h4, h5, h6, h7⟩
/-- the classes that have the method -/
inductive Mets (X : Cx) (j : Nat) (m : Str) (dds : List D) : List (Addr × SpD) → Prop where
  | nil : Mets X j m dds []
  | cons {q : Addr × SpD} {l : List (Addr × SpD)} (h : MethK X j m q.1 q.2 dds) (t : Mets X j m dds l) : Mets X j m dds (q :: l)
theorem Mets.all {l : List (Addr × SpD)} (h : Mets X j m dds l) : ∀ q ∈ l, MethK X j m q.1 q.2 dds := by
  induction h with
  | nil => intro q hq; cases hq
  | cons h _ ih =>
    intro q hq
    rcases List.mem_cons.mp hq with rfl | hq
    · exact h
    · exact ih q hq
theorem mets1 (F : MetK X.prog X.w X.K X.mg X.base k m C sp dds) (hj : k ≤ j := by decide) : Mets X j m dds [(C, sp)] := .cons (F.to hj) .nil
theorem metsC {l : List (Addr × SpD)} (F : MetK X.prog X.w X.K X.mg X.base k m C sp dds) (t : Mets X j m dds l) (hj : k ≤ j := by decide) : Mets X j m dds ((C, sp) :: l) := .cons (F.to hj) t
end

/-! ### built-ins in short -/
section
variable {X : Cx} {p pos : Pos} {e : Expr} {es : List Expr} {ts : TDA}
theorem bc_len (hm : X.mg "len" = none) (ha : DA X [e] ts) (hg : Gl X "len" := by rfl) (he : starEach [e] X.env = (false, eval e X.env) :: starEach [] X.env := by rfl) : DE X (.Call (.Name "len" p) [e] [] pos) (dCB rLen ts) := de_cb (CallR.or call_len call_lenD) (cd_len X.K) hm boot_len ha hg (by decide) (by decide) he (by rfl)
theorem bc_max (hc : X.calm = true) (hm : X.mg "max" = none) (ha : DA X (e :: es) ts) (hg : Gl X "max" := by rfl) (he : starEach (e :: es) X.env = (false, eval e X.env) :: starEach es X.env := by rfl) (hpl : (backTo pos (starEach es X.env)).any (·.1) = false := by rfl) : DE X (.Call (.Name "max" p) (e :: es) [] pos) (dCB rMax2 ts) := de_cb (CallR.or (call_max2 hc) (cr_max hc)) (cd_max X.K) hm boot_max ha hg (by decide) (by decide) he hpl
theorem bc_min (hc : X.calm = true) (hm : X.mg "min" = none) (ha : DA X (e :: es) ts) (hg : Gl X "min" := by rfl) (he : starEach (e :: es) X.env = (false, eval e X.env) :: starEach es X.env := by rfl) (hpl : (backTo pos (starEach es X.env)).any (·.1) = false := by rfl) : DE X (.Call (.Name "min" p) (e :: es) [] pos) (dCB rMin2 ts) := de_cb (CallR.or (call_min2 hc) (cr_min hc)) (cd_min X.K) hm boot_min ha hg (by decide) (by decide) he hpl
theorem bc_sum (hc : X.calm = true) (hm : X.mg "sum" = none) (ha : DA X [e] ts) (hg : Gl X "sum" := by rfl) (he : starEach [e] X.env = (false, eval e X.env) :: starEach [] X.env := by rfl) : DE X (.Call (.Name "sum" p) [e] [] pos) (dCB rSumD ts) := de_cb (cr_sum hc) (cd_sum X.K) hm boot_sum ha hg (by decide) (by decide) he (by rfl)
theorem bc_abs (hm : X.mg "abs" = none) (ha : DA X [e] ts) (hg : Gl X "abs" := by rfl) (he : starEach [e] X.env = (false, eval e X.env) :: starEach [] X.env := by rfl) : DE X (.Call (.Name "abs" p) [e] [] pos) (dCB rAbs ts) := de_cb call_abs (cd_abs X.K) hm (by decide +kernel) ha hg (by decide) (by decide) he (by rfl)
theorem bc_all (hc : X.calm = true) (hm : X.mg "all" = none) (ha : DA X [e] ts) (hg : Gl X "all" := by rfl) (he : starEach [e] X.env = (false, eval e X.env) :: starEach [] X.env := by rfl) : DE X (.Call (.Name "all" p) [e] [] pos) (dCB (rAllD fun bs => bs.all id) ts) := de_cb (cr_all hc) (cd_all X.K) hm boot_all ha hg (by decide) (by decide) he (by rfl)
theorem bc_int (hm : X.mg "int" = none) (ha : DA X [e] ts) (hg : Gl X "int" := by rfl) (he : starEach [e] X.env = (false, eval e X.env) :: starEach [] X.env := by rfl) : DE X (.Call (.Name "int" p) [e] [] pos) (dCB rInt ts) := de_ct call_int1 (cd_int X.K) hm (by decide +kernel) ha hg (by decide) (by decide) he (by rfl)
theorem bc_list (hm : X.mg "list" = none) (ha : DA X [e] ts) (hg : Gl X "list" := by rfl) (he : starEach [e] X.env = (false, eval e X.env) :: starEach [] X.env := by rfl) : DE X (.Call (.Name "list" p) [e] [] pos) (dCB rList ts) := de_ct call_list_of (cd_list X.K) hm (by decide +kernel) ha hg (by decide) (by decide) he (by rfl)
theorem bc_tuple (hm : X.mg "tuple" = none) (ha : DA X [e] ts) (hg : Gl X "tuple" := by rfl) (he : starEach [e] X.env = (false, eval e X.env) :: starEach [] X.env := by rfl) : DE X (.Call (.Name "tuple" p) [e] [] pos) (dCB rTuple ts) := de_ct call_tuple_of (cd_tuple X.K) hm (by decide +kernel) ha hg (by decide) (by decide) he (by rfl)
theorem bc_isi {ic : String ⊕ Addr → String ⊕ Addr → Bool → Prop} (hic : ∀ a c b, ic a c b → IsiOk X.K a c b) (hm : X.mg "isinstance" = none) (ha : DA X (e :: es) ts) (hg : Gl X "isinstance" := by rfl) (he : starEach (e :: es) X.env = (false, eval e X.env) :: starEach es X.env := by rfl) (hpl : (backTo pos (starEach es X.env)).any (·.1) = false := by rfl) :
    DE X (.Call (.Name "isinstance" p) (e :: es) [] pos) (dCB (rIsiD ic) ts) := de_cb call_isi (cd_isi hic) hm boot_isinstance ha hg (by decide) (by decide) he hpl
end

/-! ### slices -/
abbrev TDO := DW → DSt → HD → (Option Int → HD → Prop) → Prop
section
variable (X : Cx)
def semO (e : Option Expr) : TO := fun σ H Q => ∀ (pins : List (Addr × Obj)) (s : Shared), Inv X pins σ H s → wpAny (model X.prog X.w) X.A (evalPart e X.env) (fun u s' => ∃ o H', Inv X pins σ H' s' ∧ IsPart u o ∧ Q o H') X.xe s
end
structure DO (X : Cx) (e : Option Expr) (t : TDO) : Prop where
  run : ∀ (G : HD) (H : Hp) (σ : DSt) (τ : L2.St) (W : DW) (R : Option Int → HD → Prop) (Q : Option Int → Hp → Prop), SR X G H σ τ W → t W σ G R → (∀ o G1 H1, SR X G1 H1 σ τ W → Ext G H G1 H1 → R o G1 → Q o H1) → semO X e τ H Q
def oNone : TDO := fun _ _ G Q => Q none G
def oSome (te : TD) : TDO := fun W σ G Q => te W σ G fun d G1 => match d with
  | .int i => Q (some i) G1
  | _ => False
def cutD (xs : List D) (lo hi : Option Int) : List D := (xs.drop (HT.sIx xs.length 0 lo)).take (HT.sIx xs.length xs.length hi - HT.sIx xs.length 0 lo)
def rSliceD : D → Option Int → Option Int → HD → Post → Prop := fun d lo hi G Q => match d with
  | .tup xs => Q (.tup (cutD xs lo hi)) G
  | .str z => z.length ≤ sizeLine ∧ Q (.str (cutS z lo hi)) G
  | d => match asL G d with
    | some xs => newL G (cutD xs lo hi) Q
    | none => False
def dSlice (te : TD) (tl th : TDO) : TD := fun W σ G Q => te W σ G fun d G1 => tl W σ G1 fun lo G2 => th W σ G2 fun hi G3 => rSliceD d lo hi G3 Q
theorem Rps.cut {K : PySem.W.Frag} {H : Hp} {ds : List D} {vs : List V} (r : Rps K H ds vs) (lo hi : Option Int) : Rps K H (cutD ds lo hi) (cutV vs lo hi) := by
  unfold cutD cutV
  rw [r.length]
  exact (r.drop _).take _
section
variable {X : Cx} {e : Expr} {te : TD} {lo hi : Option Expr} {tl th : TDO} {p2 pos : Pos}
theorem do_none : DO X none oNone := ⟨fun G H σ τ W R Q r q f pins s I => po_none.run pins s τ H Q I (f _ _ _ r .refl q)⟩
theorem do_some (h : DE X e te) : DO X (some e) (oSome te) := ⟨fun G H σ τ W R Q r q f pins s I => (po_some peSem).run pins s τ H Q I (h.then r q fun d v G1 H1 r1 x1 k1 q1 => by
  try dsimp only at q1
  split at q1
  · cases k1; exact ⟨_, rfl, f _ _ _ r1 x1 q1⟩
  · exact q1.elim)⟩
theorem poSem {e : Option Expr} : PO X e (semO X e) := ⟨fun pins s _ _ _ I h => h pins s I⟩
def rSlU (K : PySem.W.Frag) : V → Option Int → Option Int → Hp → VK → Prop := fun x lo hi H Q => rSlL K x lo hi H Q ∨ rSlA K x lo hi H Q ∨ rSlS x lo hi H Q
theorem de_slice (he : DE X e te) (hl : DO X lo tl) (hh : DO X hi th) : DE X (.Subscript e (.Slice lo hi none p2) pos) (dSlice te tl th) :=
  ⟨fun G H σ τ W Q r q => semE.of (pe_slice (r := rSlU X.K) (sl_list.or (sl_tupA.or sl_str)) peSem poSem poSem) (he.then r q fun d x G1 H1 r1 x1 k1 q1 => hl.run G1 H1 σ τ W _ _ r1 q1 fun l G2 H2 r2 x2 q2 => hh.run G2 H2 σ τ W _ _ r2 q2 fun h G3 H3 r3 x3 q3 => by
    have k3 := k1.ext r1.sim (x2.trans x3) _ _
    have xx := (x1.trans x2).trans x3
    unfold rSliceD at q3
    split at q3
    · obtain ⟨a, vs, rfl, t, rr⟩ := id k3
      refine .inr (.inl ⟨a, vs, rfl, t, fun hw => ?_, fun _ => newT.fin r3.sim (rr.cut l h) (fun _ _ z => z.up xx) q3⟩)
      rename_i xs
      have e1 : cutD xs l h = xs := by
        unfold cutD
        rw [rr.length] at hw
        rw [hw.1, hw.2]
        simp
      rw [e1] at q3
      exact .of (d := .tup xs) k3 r3.sim xx q3
    · cases k3
      exact .inr (.inr ⟨_, rfl, q3.1, .of (d := .str _) rfl r3.sim xx q3.2⟩)
    · split at q3
      · rename_i xs e1
        obtain ⟨a, vs, rfl, t, rr⟩ := k3.lst r3.sim e1
        exact .inl ⟨a, vs, rfl, t, newL.fin r3.sim (rr.cut l h) (fun _ _ z => z.up xx) q3⟩
      · exact q3.elim)⟩
end

/-! ### the law's own call -/
/-- the law's promise: a script of at most 63 ints is handed in, True comes out -/
def lawSp (K : PySem.W.Frag) : Sp := fun vs H Q _ => ∃ (a : Addr) (ns : List Int), vs = [.ref a] ∧ ns.length ≤ 63 ∧ Only H ∧ SqL K H a (ns.map V.int) ∧ ∀ H', Q (.bl true) H'
theorem law_lift {K : PySem.W.Frag} {sp : SpD} (h : ∀ ns : List Int, ns.length ≤ 63 → sp [.kc (ns.map D.int)] (fun _ => none) (fun d _ => d = .bl true) fun _ _ _ => False) : ∀ vs H Q E, lawSp K vs H Q E → liftSp K 1 sp vs H Q E := fun vs H Q E ⟨a, ns, e, hl, ho, hs, q⟩ => by
  subst e
  refine ⟨rfl, [.kc (ns.map D.int)], fun _ => none, _, _, ⟨_, _, rfl, ⟨a, ns.map V.int, rfl, ?_, Rps.ofInts ns⟩, rfl⟩, (fun a o e => by cases e), h ns hl, fun v H' ⟨d, G', k, _, _, e⟩ => ?_, fun c dd H' ⟨_, _, _, _, _, z⟩ => z.elim⟩
  · rcases hs with (hs | ⟨o, hs⟩) | hs
    · rcases ho a with z | ⟨o, xs, z⟩
      · rw [z] at hs; cases hs
      · rw [z] at hs; cases hs
    · exact .inl ⟨o, hs⟩
    · exact .inr hs
  · subst e
    cases k
    exact q H'
end DL

namespace DL
open PySem PySem.Spec L2
open PyProof.Rows hiding St
/-! ### what the top holds, told by values -/
inductive ScaF : Value → D → Prop where
  | non : ScaF .none .non
  | bl {b : Bool} : ScaF (.bool b) (.bl b)
  | int {i : Int} {t : Tok} : ScaF (.int i t) (.int i)
  | str {x : Str} {t : Tok} : ScaF (.str x t) (.str x)
inductive ScasF : List Value → List D → Prop where
  | nil : ScasF [] []
  | cons {u : Value} {d : D} {us : List Value} {ds : List D} (h : ScaF u d) (t : ScasF us ds) : ScasF (u :: us) (d :: ds)
theorem ScaF.to {K : PySem.W.Frag} {u : Value} {d : D} (h : ScaF u d) : ∃ v, RelV v u ∧ ∀ H, Rp K H d v := by
  cases h with
  | non => exact ⟨.non, rfl, fun _ => rfl⟩
  | bl => exact ⟨.bl _, rfl, fun _ => rfl⟩
  | int => exact ⟨.int _, ⟨_, rfl⟩, fun _ => rfl⟩
  | str => exact ⟨.str _, ⟨_, rfl⟩, fun _ => rfl⟩
theorem ScasF.to {K : PySem.W.Frag} {us : List Value} {ds : List D} (h : ScasF us ds) : ∃ vs, Vals vs us ∧ ∀ H, Rps K H ds vs := by
  induction h with
  | nil => exact ⟨[], .nil, fun _ => rfl⟩
  | cons h _ ih =>
    obtain ⟨v, r, p⟩ := h.to (K := K)
    obtain ⟨vs, rs, ps⟩ := ih
    exact ⟨v :: vs, .cons r rs, fun H => ⟨v, vs, rfl, p H, ps H⟩⟩
def ConstF (K : PySem.W.Frag) (mg : Str → Option Value) (x : Str) (d : D) : Prop := ∃ (v : V) (u : Value), mg x = some u ∧ RelV v u ∧ ∀ H, Rp K H d v
theorem ScaF.cf {K : PySem.W.Frag} {mg : Str → Option Value} {x : Str} {u : Value} {d : D} (h : ScaF u d) (m : mg x = some u) : ConstF K mg x d :=
  let ⟨v, r, p⟩ := h.to (K := K)
  ⟨v, u, m, r, p⟩
theorem ConstF.de {X : Cx} {x : Str} {d : D} {pos : Pos} (h : ConstF X.K X.mg x d) (hg : Gl X x) (hd : (x == ("__debug__" : Str)) = false := by decide) : DE X (.Name x pos) (dC d) :=
  let ⟨_, _, m, r, p⟩ := h
  de_glob hg m r p hd
/-- a tuple of the top -/
structure TupF (K : PySem.W.Frag) (o : Obj) (ds : List D) : Prop where
  ex : ∃ (its : Array Value) (n : Nat), o.cls = .type "tuple" ∧ o.data = .seq its n ∧ its.size ≤ sizeLine ∧ ScasF its.toList ds
theorem TupF.rp {K : PySem.W.Frag} {o : Obj} {ds : List D} {a : Addr} (h : TupF K o ds) (l : K.lookup a = some o) : ∀ H, Rp K H (.tup ds) (.ref a) := fun H =>
  let ⟨its, n, h1, h2, h3, h4⟩ := h.ex
  let ⟨vs, r, p⟩ := h4.to (K := K)
  ⟨a, vs, rfl, .inr ⟨o, its, n, l, h1, h2, h3, r⟩, p H⟩
inductive ValF (K : PySem.W.Frag) : Value → D → Prop where
  | sca {u : Value} {d : D} (h : ScaF u d) : ValF K u d
  | tup {a : Addr} {o : Obj} {ds : List D} (l : K.lookup a = some o) (t : TupF K o ds) : ValF K (.ref a) (.tup ds)
inductive ValsF (K : PySem.W.Frag) : List Value → List D → Prop where
  | nil : ValsF K [] []
  | cons {u : Value} {d : D} {us : List Value} {ds : List D} (h : ValF K u d) (t : ValsF K us ds) : ValsF K (u :: us) (d :: ds)
theorem ValF.to {K : PySem.W.Frag} {u : Value} {d : D} (h : ValF K u d) : ∃ v, RelV v u ∧ ∀ H, Rp K H d v := by
  cases h with
  | sca h => exact h.to
  | tup l t => exact ⟨.ref _, rfl, t.rp l⟩
theorem ValsF.to {K : PySem.W.Frag} {us : List Value} {ds : List D} (h : ValsF K us ds) : ∃ vs, Vals vs us ∧ ∀ H, Rps K H ds vs := by
  induction h with
  | nil => exact ⟨[], .nil, fun _ => rfl⟩
  | cons h _ ih =>
    obtain ⟨v, r, p⟩ := h.to
    obtain ⟨vs, rs, ps⟩ := ih
    exact ⟨v :: vs, .cons r rs, fun H => ⟨v, vs, rfl, p H, ps H⟩⟩
/-- a def of the top, a method -/
def DefF (K : PySem.W.Frag) (mg : Str → Option Value) (x : Str) (st : Stmt) (dds : List D) : Prop := ∃ (f : Addr) (fd : FuncData) (dvs : List V), Dfl K dds dvs ∧ L2.FunD K x x (defArgs st) (defBody st) (defScope st) dvs [] f fd ∧ mg x = some (.ref f)
def MetF (K : PySem.W.Frag) (C : Addr) (m qual : Str) (st : Stmt) (dds : List D) : Prop := ∃ (f : Addr) (fd : FuncData) (dvs : List V), Dfl K dds dvs ∧ L2.FunD K m qual (defArgs st) (defBody st) (defScope st) dvs [] f fd ∧ Meth K C m f
theorem Dfl.drop {K : PySem.W.Frag} {dds : List D} {dvs : List V} (h : Dfl K dds dvs) (j : Nat) : Dfl K (dds.drop j) (dvs.drop j) := ⟨fun H => (h.rel H).drop j⟩
section
variable {K : PySem.W.Frag} {x qual : Str} {pa : Arguments} {bd : List Stmt} {sc : Scope} {f T : Addr} {oc kV dc pm cd ct : Value} {od an : Option Addr} {sl : Array (Option Value)} {o : Obj} {ds : List D}
theorem fun_nd (l : K.lookup f = some ⟨oc, od, .func (PySem.W.fnOf x qual pa bd sc .none kV dc pm an cd ct), sl⟩) (c : PySem.W.codeIn K cd qual = true) (k : PySem.W.keepIn K (.ref f) = true) :
    ∃ dvs : List V, Dfl K [] dvs ∧ L2.FunD K x qual pa bd sc dvs [] f (PySem.W.fnOf x qual pa bd sc .none kV dc pm an cd ct) :=
  ⟨[], .nil, ⟨⟨oc, od, .none, kV, dc, pm, an, cd, ct, sl, rfl, l, c, .inl ⟨rfl, rfl⟩, .inl rfl⟩, k⟩⟩
/-- a def's defaults -/
structure DflF (K : PySem.W.Frag) (o : Obj) (ds : List D) : Prop where mk0 ::
  ex : ∃ (its : List Value) (n : Nat), o.data = .seq its.toArray n ∧ ValsF K its ds ∧ ds ≠ []
theorem DflF.mk (h : DflF K o ds) (m : K.lookup T = some o) (l : K.lookup f = some ⟨oc, od, .func (PySem.W.fnOf x qual pa bd sc (.ref T) kV dc pm an cd ct), sl⟩) (c : PySem.W.codeIn K cd qual = true) (k : PySem.W.keepIn K (.ref f) = true) :
    ∃ dvs : List V, Dfl K ds dvs ∧ L2.FunD K x qual pa bd sc dvs [] f (PySem.W.fnOf x qual pa bd sc (.ref T) kV dc pm an cd ct) := by
  obtain ⟨its, n, h1, h2, h3⟩ := h.ex
  obtain ⟨vs, r, p⟩ := h2.to
  refine ⟨vs, ⟨p⟩, ⟨⟨oc, od, .ref T, kV, dc, pm, an, cd, ct, sl, rfl, l, c, .inr ⟨?_, T, o, its, n, rfl, m, h1, r⟩, .inl rfl⟩, k⟩⟩
  rintro rfl
  have := (p (fun _ => none)).length
  cases ds with
  | nil => exact h3 rfl
  | cons _ _ => cases this
end
end DL

namespace DL
open PySem PySem.Spec L2
open PyProof.Rows hiding St
/-! ### for the plain laws -/
theorem fg_in {Q : Post} {d : D} {G : HD} (h : Q d G) : fg Q d G := ⟨G, Le.refl _, h⟩
theorem fg_le {Q : Post} {d : D} {G G0 : HD} (l : Le G0 G) (h : Q d G0) : fg Q d G := ⟨G0, l, h⟩
theorem newL_in {G : HD} {ds : List D} {Q : Post} (h : ∀ (p : Addr) (G' : HD), G p = none → G' = put G p (.lst ds) → G' p = some (.lst ds) → Le G G' → (∀ b, b ≠ p → G' b = G b) → Q (.ref p) G') : newL G ds Q :=
  fun p hp => h p _ hp rfl put_same (Le.newB hp) fun _ hb => put_ne hb
theorem ne_of {G : HD} {a p : Addr} {o : MO} (h : G a = some o) (hp : G p = none) : a ≠ p := by rintro rfl; rw [h] at hp; cases hp
/-- a loop keeps I -/
theorem forD_inv {ok : HD → Prop} {step : D → (DSt → HD → Prop) → DSt → HD → Prop} {fin : DSt → HD → Prop} (I : List D → DSt → HD → Prop) (hok : ∀ l σ G, I l σ G → ok G)
    (hs : ∀ x l k σ G, I (x :: l) σ G → (∀ σ' G', I l σ' G' → k σ' G') → step x k σ G) (hf : ∀ σ G, I [] σ G → fin σ G) : ∀ (l : List D) (σ : DSt) (G : HD), I l σ G → forD ok step fin l σ G
  | [], σ, G, h => ⟨G, Le.refl _, hok _ _ _ h, hf _ _ h⟩
  | x :: l, σ, G, h => ⟨G, Le.refl _, hok _ _ _ h, hs x l _ σ G h fun σ' G' h' => forD_inv I hok hs hf l σ' G' h'⟩
/-- a loop over n ints from lo -/
theorem forR_inv {ok : HD → Prop} {step : D → (DSt → HD → Prop) → DSt → HD → Prop} {fin : DSt → HD → Prop} (I : Nat → DSt → HD → Prop) {lo : Int} {n : Nat} (hok : ∀ G, ok G)
    (hs : ∀ i k σ G, i < n → I i σ G → (∀ σ' G', I (i + 1) σ' G' → k σ' G') → step (.int (lo + (i : Nat))) k σ G) (hf : ∀ σ G, I n σ G → fin σ G) {σ : DSt} {G : HD} (h : I 0 σ G) : forD ok step fin (intsD lo n) σ G := by
  refine forD_inv (fun l σ G => ∃ i, i ≤ n ∧ l = (intsD lo n).drop i ∧ I i σ G) (fun _ _ G _ => hok G) (fun x l k σ G ⟨i, hi, e, h⟩ hk => ?_) (fun σ G ⟨i, hi, e, h⟩ => ?_) _ _ _ ⟨0, Nat.zero_le _, rfl, h⟩
  · by_cases hin : i < n
    · rw [drop_get (ints_get hin)] at e
      injection e with e1 e2
      subst e1
      exact hs i k σ G hin h fun σ' G' h' => hk σ' G' ⟨i + 1, hin, e2, h'⟩
    · rw [List.drop_eq_nil_of_le (by rw [ints_len]; omega)] at e; cases e
  · have : i = n := by
      have := congrArg List.length e
      rw [List.length_drop, ints_len] at this
      simp at this; omega
    subst this; exact hf _ _ h
/-- a loop with a measure -/
theorem whD_inv {test : DSt → HD → (Bool → HD → Prop) → Prop} {body : (DSt → HD → Prop) → DSt → HD → Prop} {fin : DSt → HD → Prop} (I : Nat → DSt → HD → Prop)
    (hs : ∀ n k σ G, I n σ G → (∀ m σ' G', m < n → I m σ' G' → k σ' G') → test σ G fun b G1 => if b = true then body k σ G1 else fin σ G1) : ∀ (n m : Nat), m ≤ n → ∀ (σ : DSt) (G : HD), I m σ G → whD test body fin (n + 1) σ G
  | 0, m, hm, σ, G, h => ⟨G, Le.refl _, hs m _ σ G h fun m' _ _ h1 _ => absurd h1 (by omega)⟩
  | n + 1, m, hm, σ, G, h => ⟨G, Le.refl _, hs m _ σ G h fun m' σ' G' h1 h2 => whD_inv I hs n m' (by omega) σ' G' h2⟩
theorem wh_in {test : DSt → HD → (Bool → HD → Prop) → Prop} {body : (DSt → HD → Prop) → DSt → HD → Prop} {fin : DSt → HD → Prop} (I : Nat → DSt → HD → Prop)
    (hs : ∀ n k σ G, I n σ G → (∀ m σ' G', m < n → I m σ' G' → k σ' G') → test σ G fun b G1 => if b = true then body k σ G1 else fin σ G1) {n : Nat} {σ : DSt} {G : HD} (h : I n σ G) : ∃ N, whD test body fin N σ G :=
  ⟨n + 1, whD_inv I hs n n (Nat.le_refl _) σ G h⟩
theorem ixN_nat {n k : Nat} (h : k < n) : ixN n (k : Int) = some k := by
  unfold ixN
  rw [if_pos (by omega), if_pos (by omega)]; rfl
theorem ixN_of {n : Nat} {i : Int} (h0 : 0 ≤ i) (h : i < n) : ixN n i = some i.toNat := by
  obtain ⟨k, rfl⟩ := Int.eq_ofNat_of_zero_le h0
  exact ixN_nat (by omega)
theorem atI_nat {α : Type} {l : List α} {k : Nat} {x : α} (h : l[k]? = some x) : atI l (k : Int) = some x := by
  unfold atI
  rw [ixN_nat (List.getElem?_eq_some_iff.mp h).1]; exact h
theorem atI_of {α : Type} {l : List α} {i : Int} (h0 : 0 ≤ i) : atI l i = l[i.toNat]? := by
  obtain ⟨k, rfl⟩ := Int.eq_ofNat_of_zero_le h0
  cases h : l[((k : Int)).toNat]? with
  | some x => exact atI_nat h
  | none =>
    unfold atI
    rw [show ixN l.length (k : Int) = none from by
      unfold ixN
      have := List.getElem?_eq_none_iff.mp h
      rw [if_pos (by omega), if_neg (by omega)]]
    rfl
theorem atI0 {α : Type} {x : α} {l : List α} : atI (x :: l) 0 = some x := atI_nat (k := 0) rfl
theorem atI1 {α : Type} {x y : α} {l : List α} : atI (x :: y :: l) 1 = some y := atI_nat (k := 1) rfl
theorem atI2 {α : Type} {x y z : α} {l : List α} : atI (x :: y :: z :: l) 2 = some z := atI_nat (k := 2) rfl
theorem atI3 {α : Type} {x y z u : α} {l : List α} : atI (x :: y :: z :: u :: l) 3 = some u := atI_nat (k := 3) rfl
theorem atI4 {α : Type} {x y z u v : α} {l : List α} : atI (x :: y :: z :: u :: v :: l) 4 = some v := atI_nat (k := 4) rfl
theorem ixN3a : ixN 3 0 = some 0 := rfl
theorem ixN3b : ixN 3 1 = some 1 := rfl
theorem ixN3c : ixN 3 2 = some 2 := rfl
theorem pick {α : Type} {l : List α} {r : Int} (h0 : 0 ≤ r) (h1 : r < l.length) : ∃ x, x ∈ l ∧ atI l r = some x := by
  rw [atI_of h0]
  have : r.toNat < l.length := by omega
  exact ⟨l[r.toNat], List.getElem_mem _, List.getElem?_eq_getElem _⟩
theorem eqO_int {G : HD} {i j : Int} : eqO G (.int i) (.int j) = some (decide (i = j)) := by
  simp only [eqO, pyD]
  congr 1
/-! sizes -/
theorem mul_ok {i j : Int} {a b : Nat} (ha : i.natAbs < 2 ^ a) (hb : j.natAbs < 2 ^ b) (h0 : 0 < a) (h1 : 0 < b) (h : a + b ≤ 1000000) : MulOk i j := .inr (wide_mul ha hb h0 h1 h)
theorem mul_l {i j : Int} (h1 : -(2 ^ 64) < i) (h2 : i < 2 ^ 64) : MulOk i j := .inl (.inl ⟨h1, h2⟩)
theorem mul_r {i j : Int} (h1 : -(2 ^ 64) < j) (h2 : j < 2 ^ 64) : MulOk i j := .inl (.inr ⟨h1, h2⟩)
theorem div_s {i j : Int} (h : 0 < j) (h1 : j < 2 ^ 64) : CDivW i j := wide_div (b := 64) h (by omega) (by omega) (by omega)
theorem abs_mul_lt {i j : Int} {a b : Nat} (ha : i.natAbs < 2 ^ a) (hb : j.natAbs < 2 ^ b) : (i * j).natAbs < 2 ^ (a + b) := by
  rw [Int.natAbs_mul, Nat.pow_add]
  exact Nat.mul_lt_mul'' ha hb
end DL

namespace DL
open PySem PySem.Spec L2
open PyProof.Rows hiding St
/-! ### readings at known data (for simp) -/
section
variable {G : HD} {Q : Post} {i j : Int} {a : Addr} {ds xs ys : List D} {b : Bool} {x y : Str} {d : D} {p : Int → Int → Bool} {W : DW} {σ : DSt} {E : DEnds}
def optP (o : Option D) (G : HD) (Q : Post) : Prop := match o with
  | some v => Q v G
  | none => False
theorem r_opt {v : D} : optP (some v) G Q = Q v G := propext ⟨fun h => h, fun h => h⟩
def pickD (o : Option (List D)) (i : Int) (G : HD) (Q : Post) : Prop := match o with
  | some ds => optP (atI ds i) G Q
  | none => False
theorem r_pick : pickD (some ds) i G Q = optP (atI ds i) G Q := propext ⟨fun h => h, fun h => h⟩
theorem r_add : dAdd (.int i) (.int j) G Q = Q (.int (i + j)) G := propext ⟨fun h => h, fun h => h⟩
theorem r_addS : dAdd (.str x) (.str y) G Q = (x.length + y.length ≤ sizeLine ∧ Q (.str (x ++ y)) G) := propext ⟨fun h => h, fun h => h⟩
theorem r_addT : dAdd (.tup xs) (.tup ys) G Q = (xs.length + ys.length ≤ sizeLine ∧ Q (.tup (xs ++ ys)) G) := propext ⟨fun h => h, fun h => h⟩
def addL (u v : Option MO) (G : HD) (Q : Post) : Prop := match u, v with
  | some (.lst xs), some (.lst ys) => xs.length + ys.length ≤ sizeLine ∧ newL G (xs ++ ys) Q
  | _, _ => False
theorem r_addR {c : Addr} : dAdd (.ref a) (.ref c) G Q = addL (G a) (G c) G Q := propext ⟨fun h => h, fun h => h⟩
theorem r_addL : addL (some (.lst xs)) (some (.lst ys)) G Q = (xs.length + ys.length ≤ sizeLine ∧ newL G (xs ++ ys) Q) := propext ⟨fun h => h, fun h => h⟩
theorem r_sub : dSub (.int i) (.int j) G Q = Q (.int (i - j)) G := propext ⟨fun h => h, fun h => h⟩
theorem r_mul : dMul (.int i) (.int j) G Q = (MulOk i j ∧ Q (.int (i * j)) G) := propext ⟨fun h => h, fun h => h⟩
theorem r_div : dDiv (.int i) (.int j) G Q = (CDivW i j ∧ Q (.int (i / j)) G) := propext ⟨fun h => h, fun h => h⟩
theorem r_mod : dMod (.int i) (.int j) G Q = (0 < j ∧ Q (.int (i % j)) G) := propext ⟨fun h => h, fun h => h⟩
theorem r_pow : dPow (.int i) (.int j) G Q = (CPow i j ∧ Q (.int (i ^ j.toNat)) G) := propext ⟨fun h => h, fun h => h⟩
theorem r_cmp : dCmpI p (.int i) (.int j) G Q = Q (.bl (p i j)) G := propext ⟨fun h => h, fun h => h⟩
theorem r_lt : dLtD (.int i) (.int j) G Q = Q (.bl (decide (i < j))) G := propext ⟨fun h => h, fun h => h⟩
theorem r_ltT : dLtD (.tup xs) (.tup ys) G Q = (match asInts xs, asInts ys with | some ns, some ms => Q (.bl (HT.lexLt ns ms)) G | _, _ => False) := propext ⟨fun h => h, fun h => h⟩
theorem r_neg : dNeg (.int i) G Q = Q (.int (-i)) G := propext ⟨fun h => h, fun h => h⟩
theorem r_isN {n : Bool} : dIsN n d .non G Q = Q (.bl (if n then !isNon d else isNon d)) G := propext ⟨fun h => h, fun h => h⟩
theorem r_isNr : isNon (.ref a) = false := rfl
theorem r_isNi : isNon (.int i) = false := rfl
theorem r_isNn : isNon .non = true := rfl
theorem r_isNt : isNon (.tup xs) = false := rfl
theorem r_eqI {n : Bool} : dEq n (.int i) (.int j) G Q = Q (.bl (if n then !decide (i = j) else decide (i = j))) G := by simp only [dEq, eqO_int]
theorem r_ixP : (match asQ G d with | some ds => (match atI ds i with | some v => Q v G | none => False) | none => False) = pickD (asQ G d) i G Q := propext ⟨fun h => h, fun h => h⟩
theorem r_ixT : dIx (.tup xs) (.int i) G Q = pickD (some xs) i G Q := r_ixP (d := .tup xs)
theorem r_ixK : dIx (.kl xs) (.int i) G Q = pickD (some xs) i G Q := r_ixP (d := .kl xs)
theorem r_ixC : dIx (.kc xs) (.int i) G Q = pickD (some xs) i G Q := r_ixP (d := .kc xs)
def lstOf : Option MO → Option (List D)
  | some (.lst ds) => some ds
  | _ => none
theorem r_lstOf : lstOf (some (.lst xs)) = some xs := rfl
theorem asL_ref : asL G (.ref a) = lstOf (G a) := by
  simp only [asL]; unfold lstOf; cases G a with
  | none => rfl
  | some o => cases o <;> rfl
theorem r_ixR : dIx (.ref a) (.int i) G Q = pickD (lstOf (G a)) i G Q := (r_ixP (d := .ref a)).trans (by rw [show asQ G (.ref a) = asL G (.ref a) from rfl, asL_ref])
theorem r_truB : truD G (.bl b) = some b := rfl
theorem r_truI : truD G (.int i) = some (i != 0) := rfl
theorem r_truT : truD G (.tup xs) = some (!xs.isEmpty) := rfl
theorem r_truN : truD G .non = some false := rfl
def truO : Option MO → Option Bool
  | some (.lst ds) => some (!ds.isEmpty)
  | some (.dK l) => some (!l.isEmpty)
  | _ => none
theorem r_truR : truD G (.ref a) = truO (G a) := by
  simp only [truD]; unfold truO; cases G a with
  | none => rfl
  | some o => cases o <;> rfl
theorem r_truL : truO (some (.lst xs)) = some (!xs.isEmpty) := rfl
theorem r_max : rMax2 [.int i, .int j] G Q = Q (.int (if j > i then j else i)) G := propext ⟨fun h => h, fun h => h⟩
theorem r_min : rMin2 [.int i, .int j] G Q = Q (.int (if j < i then j else i)) G := propext ⟨fun h => h, fun h => h⟩
theorem r_intB : rInt [.bl b] G Q = Q (.int (if b then 1 else 0)) G := propext ⟨fun h => h, fun h => h⟩
theorem r_intI : rInt [.int i] G Q = Q (.int i) G := propext ⟨fun h => h, fun h => h⟩
theorem r_abs : rAbs [.int i] G Q = Q (.int (if i < 0 then -i else i)) G := propext ⟨fun h => h, fun h => h⟩
theorem r_lenT : rLen [.tup xs] G Q = Q (.int xs.length) G := propext ⟨fun h => h, fun h => h⟩
theorem r_lenK : rLen [.kl xs] G Q = Q (.int xs.length) G := propext ⟨fun h => h, fun h => h⟩
theorem r_lenC : rLen [.kc xs] G Q = Q (.int xs.length) G := propext ⟨fun h => h, fun h => h⟩
def lenO : Option MO → Option Nat
  | some (.lst ds) => some ds.length
  | some (.dK l) => some l.length
  | _ => none
def lenP (o : Option Nat) (G : HD) (Q : Post) : Prop := match o with
  | some n => Q (.int n) G
  | none => False
theorem r_lenR : rLen [.ref a] G Q = lenP (lenO (G a)) G Q := by
  simp only [rLen, lenD]; unfold lenP lenO; cases G a with
  | none => rfl
  | some o => cases o <;> rfl
theorem r_lenL : lenP (lenO (some (.lst xs))) G Q = Q (.int xs.length) G := propext ⟨fun h => h, fun h => h⟩
def natP (o : Option Nat) (Q : Nat → Prop) : Prop := match o with
  | some n => Q n
  | none => False
theorem r_nat {Q : Nat → Prop} {n : Nat} : natP (some n) Q = Q n := propext ⟨fun h => h, fun h => h⟩
def setP (o : Option MO) (a : Addr) (i : Int) (v : D) (G : HD) (Q : HD → Prop) : Prop := match o with
  | some (.lst xs) => natP (ixN xs.length i) fun j => Q (put G a (.lst (xs.set j v)))
  | _ => False
theorem r_set {Q : HD → Prop} {v : D} : rSetD (.ref a) (.int i) v G Q = setP (G a) a i v G Q := propext ⟨fun h => h, fun h => h⟩
theorem r_setL {Q : HD → Prop} {v : D} : setP (some (.lst xs)) a i v G Q = natP (ixN xs.length i) fun j => Q (put G a (.lst (xs.set j v))) := propext ⟨fun h => h, fun h => h⟩
theorem r_unp {is : List Nat} {k : DSt → HD → Prop} (h : ds.length = is.length) : (match (D.tup ds) with | .tup ds => ds.length = is.length ∧ k (setAll is ds σ) G | _ => False) = k (setAll is ds σ) G := propext ⟨fun q => q.2, fun q => ⟨h, q⟩⟩
theorem r_isI {ic : String ⊕ Addr → String ⊕ Addr → Bool → Prop} : rIsiD ic [.int i, .ty "int"] G Q = Q (.bl true) G := propext ⟨fun h => h, fun h => h⟩
theorem r_isB {ic : String ⊕ Addr → String ⊕ Addr → Bool → Prop} : rIsiD ic [.int i, .ty "bool"] G Q = Q (.bl false) G := propext ⟨fun h => h, fun h => h⟩
theorem r_isT {ic : String ⊕ Addr → String ⊕ Addr → Bool → Prop} : rIsiD ic [.tup xs, .ty "tuple"] G Q = Q (.bl true) G := propext ⟨fun h => h, fun h => h⟩
theorem r_jT {tl : TD} : True := trivial
end
section
variable {G : HD} {Q : Post} {a : Addr} {ds : List D} {lo hi : Option Int}
theorem r_sliT : rSliceD (.tup ds) lo hi G Q = Q (.tup (cutD ds lo hi)) G := propext ⟨fun h => h, fun h => h⟩
theorem r_sliK : rSliceD (.kl ds) lo hi G Q = newL G (cutD ds lo hi) Q := propext ⟨fun h => h, fun h => h⟩
theorem r_sliC : rSliceD (.kc ds) lo hi G Q = newL G (cutD ds lo hi) Q := propext ⟨fun h => h, fun h => h⟩
def sliP (o : Option (List D)) (lo hi : Option Int) (G : HD) (Q : Post) : Prop := match o with
  | some xs => newL G (cutD xs lo hi) Q
  | none => False
theorem r_sliR : rSliceD (.ref a) lo hi G Q = sliP (lstOf (G a)) lo hi G Q := by
  rw [← asL_ref]; rfl
theorem r_sliL : sliP (some ds) lo hi G Q = newL G (cutD ds lo hi) Q := propext ⟨fun h => h, fun h => h⟩
end
/-- an instance at a -/
def fldP (o : Option MO) (ok : Addr → Str → Prop) (f : Str) (G : HD) (Q : Post) : Prop := match o with
  | some (.ins C fs) => ok C f ∧ optP (fs.lookup f) G Q
  | _ => False
def fldD (ok : Addr → Str → Prop) (f : Str) (d : D) (G : HD) (Q : Post) : Prop := match d with
  | .ref a => fldP (G a) ok f G Q
  | _ => False
section
variable {G : HD} {Q : Post} {a C : Addr} {ok : Addr → Str → Prop} {f m : Str} {fs : List (Str × D)} {v : D}
theorem r_fld {ta : TD} {W : DW} {σ : DSt} : dFld ok f ta W σ G Q = ta W σ G fun d G1 => fldD ok f d G1 Q := propext ⟨fun h => h, fun h => h⟩
theorem r_fldR : fldD ok f (.ref a) G Q = fldP (G a) ok f G Q := propext ⟨fun h => h, fun h => h⟩
theorem r_fldI : fldP (some (.ins C fs)) ok f G Q = (ok C f ∧ optP (fs.lookup f) G Q) := propext ⟨fun h => h, fun h => h⟩
end
/-- the store of a field -/
def sfdP (o : Option MO) (ok : Addr → Str → Prop) (f : Str) (a : Addr) (v : D) (G : HD) (Q : HD → Prop) : Prop := match o with
  | some (.ins C fs) => ok C f ∧ fs.length < 1000 ∧ Q (put G a (.ins C (putD f v fs)))
  | _ => False
def sfdD (ok : Addr → Str → Prop) (f : Str) (d v : D) (G : HD) (Q : HD → Prop) : Prop := match d with
  | .ref a => sfdP (G a) ok f a v G Q
  | _ => False
section
variable {G : HD} {Q : HD → Prop} {a C : Addr} {ok : Addr → Str → Prop} {f m : Str} {fs : List (Str × D)} {v : D}
theorem r_sfd {to tv : TD} {W : DW} {D : DEnds} {σ : DSt} : sFldD ok f to tv W D σ G = tv W σ G fun v G1 => to W σ G1 fun d G2 => sfdD ok f d v G2 fun G3 => D.nx σ G3 := propext ⟨fun h => h, fun h => h⟩
theorem r_sfdR : sfdD ok f (.ref a) v G Q = sfdP (G a) ok f a v G Q := propext ⟨fun h => h, fun h => h⟩
theorem r_sfdI : sfdP (some (.ins C fs)) ok f a v G Q = (ok C f ∧ fs.length < 1000 ∧ Q (put G a (.ins C (putD f v fs)))) := propext ⟨fun h => h, fun h => h⟩
end
/-- a method's call -/
def metP (o : Option MO) (tab : List (Addr × SpD)) (m : Str) (k : SpD → Prop) : Prop := match o with
  | some (.ins C fs) => fs.lookup m = none ∧ ∃ q ∈ tab, q.1 = C ∧ k q.2
  | _ => False
def metD (tab : List (Addr × SpD)) (m : Str) (d : D) (G : HD) (k : SpD → Prop) : Prop := match d with
  | .ref a => metP (G a) tab m k
  | _ => False
section
variable {G : HD} {Q : Post} {a C : Addr} {m : Str} {tab : List (Addr × SpD)} {dds : List D} {fs : List (Str × D)} {k : SpD → Prop} {sp : SpD}
theorem r_met {ta : TD} {ts : TDA} {W : DW} {σ : DSt} : dMeth tab m dds ta ts W σ G Q = ta W σ G fun d G1 => metD tab m d G1 fun sp => ts W σ G1 fun ds G2 => sp (d :: (ds ++ dds)) G2 Q fun c fs G' => W c fs σ G' := by
  unfold dMeth
  congr 1
  funext d G1
  cases d <;> rfl
theorem r_metR : metD tab m (.ref a) G k = metP (G a) tab m k := propext ⟨fun h => h, fun h => h⟩
theorem r_metI : metP (some (.ins C fs)) tab m k = (fs.lookup m = none ∧ ∃ q ∈ tab, q.1 = C ∧ k q.2) := propext ⟨fun h => h, fun h => h⟩
theorem r_met1 : metP (some (.ins C fs)) [(C, sp)] m k = (fs.lookup m = none ∧ k sp) := by
  rw [r_metI]
  apply propext; constructor
  · rintro ⟨h, q, hq, h1, h2⟩
    rw [List.mem_singleton] at hq; subst hq; exact ⟨h, h2⟩
  · rintro ⟨h, h2⟩; exact ⟨h, _, List.mem_singleton.mpr rfl, rfl, h2⟩
end
/-- a field changed by +=, -= -/
def augP (ok : Addr → Str → Prop) (f : Str) (g : Int → Int → Int) (d : D) (tv : HD → Post → Prop) (G1 : HD) (k : HD → Prop) : Prop := match d with
  | .ref a => match G1 a with
    | some (.ins C fs) => ok C f ∧ match fs.lookup f with
      | some (.int i) => tv G1 fun v G2 => match v with
        | .int j => match G2 a with
          | some (.ins C2 fs2) => C2 = C ∧ fs2.length < 1000 ∧ k (put G2 a (.ins C2 (putD f (.int (g i j)) fs2)))
          | _ => False
        | _ => False
      | _ => False
    | _ => False
  | _ => False
/-! ### readings' own choices, behind names -/
def varP (o : Option (Option D)) (G : HD) (Q : Post) : Prop := match o with
  | some (some d) => Q d G
  | _ => False
def blP (d : D) (k : Bool → Prop) : Prop := match d with
  | .bl b => k b
  | _ => False
def boolP (o : Option Bool) (k : Bool → Prop) : Prop := match o with
  | some b => k b
  | none => False
def unpP (d : D) (n : Nat) (k : List D → Prop) : Prop := match d with
  | .tup ds => ds.length = n ∧ k ds
  | _ => False
def parP (ds : List D) (k : D → D → Prop) : Prop := match ds with
  | [d, e] => k d e
  | _ => False
section
variable {G : HD} {Q : Post} {W : DW} {σ : DSt} {i j : Nat} {d : D} {b : Bool} {k : Bool → Prop} {D : DEnds} {ta tb : TD} {rd : DL.D → DL.D → HD → Post → Prop} {QB : Bool → HD → Prop} {t : DL.D → TD} {ts : TDA}
theorem r_var : dVar i W σ G Q = varP σ[i]? G Q := propext ⟨fun h => h, fun h => h⟩
theorem r_varS : varP (some (some d)) G Q = Q d G := propext ⟨fun h => h, fun h => h⟩
theorem r_blP : blP (.bl b) k = k b := propext ⟨fun h => h, fun h => h⟩
theorem r_boolP : boolP (some b) k = k b := propext ⟨fun h => h, fun h => h⟩
theorem r_unpP {n : Nat} {ds : List DL.D} {k : List DL.D → Prop} : unpP (.tup ds) n k = (ds.length = n ∧ k ds) := propext ⟨fun h => h, fun h => h⟩
theorem r_parP {e : DL.D} {k : DL.D → DL.D → Prop} : parP [d, e] k = k d e := propext ⟨fun h => h, fun h => h⟩
theorem r_test : dTest ta W σ G QB = ta W σ G fun d G1 => blP d fun b => QB b G1 := propext ⟨fun h => h, fun h => h⟩
theorem r_tru : dTru ta W σ G QB = ta W σ G fun d G1 => boolP (truD G1 d) fun b => QB b G1 := propext ⟨fun h => h, fun h => h⟩
theorem r_andV : dAndV ta tb W σ G Q = ta W σ G fun d G1 => boolP (truD G1 d) fun b => if b = true then tb W σ G1 Q else Q d G1 := propext ⟨fun h => h, fun h => h⟩
theorem r_orV : dOrV ta tb W σ G Q = ta W σ G fun d G1 => boolP (truD G1 d) fun b => if b = true then Q d G1 else tb W σ G1 Q := propext ⟨fun h => h, fun h => h⟩
theorem r_notV : dNotV ta W σ G Q = ta W σ G fun d G1 => boolP (truD G1 d) fun b => Q (.bl (!b)) G1 := propext ⟨fun h => h, fun h => h⟩
theorem r_last : dLast rd tb d W σ G Q = tb W σ G fun e G1 => rd d e G1 fun z G2 => blP z fun b => Q (.bl b) G2 := propext ⟨fun h => h, fun h => h⟩
theorem r_link : dLink rd tb t d W σ G Q = tb W σ G fun e G1 => rd d e G1 fun z G2 => blP z fun b => if b = true then t e W σ G2 Q else Q (.bl false) G2 := propext ⟨fun h => h, fun h => h⟩
theorem r_chn : dChn ta t W σ G Q = ta W σ G fun d G1 => t d W σ G1 Q := propext ⟨fun h => h, fun h => h⟩
theorem r_chnT : dChnT ta t W σ G QB = ta W σ G fun d G1 => t d W σ G1 fun z G2 => blP z fun b => QB b G2 := propext ⟨fun h => h, fun h => h⟩
theorem r_unp' {is : List Nat} : sUnp is ta W D σ G = ta W σ G fun d G1 => unpP d is.length fun ds => D.nx (setAll is ds σ) G1 := propext ⟨fun h => h, fun h => h⟩
theorem r_par : sPar i j ts W D σ G = ts W σ G fun ds G1 => parP ds fun d e => D.nx ((σ.set i (some d)).set j (some e)) G1 := by
  unfold sPar
  congr 1
theorem r_set0 : setAll [] [] σ = σ := rfl
theorem r_set1 {is : List Nat} {ds : List DL.D} : setAll (i :: is) (d :: ds) σ = setAll is ds (σ.set i (some d)) := rfl
/-! the frames of statements and values -/
theorem q_seq {t u : TDS} : sSeq t u W D σ G = t W { D with nx := fun σ' G' => u W D σ' G' } σ G := propext ⟨fun h => h, fun h => h⟩
theorem q_set : sSet i ta W D σ G = ta W σ G fun d G1 => D.nx (σ.set i (some d)) G1 := propext ⟨fun h => h, fun h => h⟩
theorem q_ret : sRet ta W D σ G = ta W σ G D.rt := propext ⟨fun h => h, fun h => h⟩
theorem q_retN : sRetN W D σ G = D.rt .non G := propext ⟨fun h => h, fun h => h⟩
theorem q_drop : sDrop ta W D σ G = ta W σ G fun _ G1 => D.nx σ G1 := propext ⟨fun h => h, fun h => h⟩
theorem q_if {c : TDT} {t u : TDS} : sIf c t u W D σ G = c W σ G fun b G1 => if b = true then t W D σ G1 else u W D σ G1 := propext ⟨fun h => h, fun h => h⟩
theorem q_next : sNext W D σ G = D.nx σ G := propext ⟨fun h => h, fun h => h⟩
theorem q_brk : sBrk W D σ G = D.bk σ G := propext ⟨fun h => h, fun h => h⟩
theorem q_cont : sCont W D σ G = D.ct σ G := propext ⟨fun h => h, fun h => h⟩
theorem q_op {u : TD} : dOp rd ta u W σ G Q = ta W σ G fun d G1 => u W σ G1 fun e G2 => rd d e G2 Q := propext ⟨fun h => h, fun h => h⟩
theorem q_un {r1 : DL.D → HD → Post → Prop} : dUn r1 ta W σ G Q = ta W σ G fun d G1 => r1 d G1 Q := propext ⟨fun h => h, fun h => h⟩
theorem q_c : dC d W σ G Q = Q d G := propext ⟨fun h => h, fun h => h⟩
theorem q_cons {R : List DL.D → HD → Prop} : dCons ta ts W σ G R = ta W σ G fun d G1 => ts W σ G1 fun ds G2 => R (d :: ds) G2 := propext ⟨fun h => h, fun h => h⟩
theorem q_nil {R : List DL.D → HD → Prop} : dNil W σ G R = R [] G := propext ⟨fun h => h, fun h => h⟩
theorem q_cb {r : List DL.D → HD → Post → Prop} : dCB r ts W σ G Q = ts W σ G fun ds G1 => r ds G1 Q := propext ⟨fun h => h, fun h => h⟩
theorem q_tup : dTup ts W σ G Q = ts W σ G fun ds G1 => ds.length ≤ 1000 ∧ Q (.tup ds) G1 := propext ⟨fun h => h, fun h => h⟩
theorem q_lst : dLst ts W σ G Q = ts W σ G fun ds G1 => ds.length ≤ 1000 ∧ newL G1 ds Q := propext ⟨fun h => h, fun h => h⟩
theorem q_call {sp : SpD} {dds : List DL.D} : dCall sp dds ts W σ G Q = ts W σ G fun ds G1 => sp (ds ++ dds) G1 Q fun c fs G' => W c fs σ G' := propext ⟨fun h => h, fun h => h⟩
theorem q_sub {to ti te : TD} {r : DL.D → DL.D → DL.D → HD → (HD → Prop) → Prop} : sSub to ti te r W D σ G = te W σ G fun v G1 => to W σ G1 fun o G2 => ti W σ G2 fun i G3 => r o i v G3 fun G4 => D.nx σ G4 := propext ⟨fun h => h, fun h => h⟩
theorem q_not {c : TDT} : dNot c W σ G QB = c W σ G fun b G1 => QB (!b) G1 := propext ⟨fun h => h, fun h => h⟩
theorem q_and {c u : TDT} : dAnd c u W σ G QB = c W σ G fun b G1 => if b = true then u W σ G1 QB else QB false G1 := propext ⟨fun h => h, fun h => h⟩
theorem q_or {c u : TDT} : dOr c u W σ G QB = c W σ G fun b G1 => if b = true then QB true G1 else u W σ G1 QB := propext ⟨fun h => h, fun h => h⟩
theorem q_for {ti : TDI} {tg : Tgt} {u : TDS} : sFor ti tg u W D σ G = ti W σ G fun I G1 => forD I.ok (fun d k σ' G' => tg.put d σ' fun σ2 => u W { D with nx := k, ct := k, bk := D.nx } σ2 G') D.nx I.xs σ G1 := propext ⟨fun h => h, fun h => h⟩
def rng1P (ds : List DL.D) (k : Int → Prop) : Prop := match ds with
  | [.int j] => j < 2 ^ 62 ∧ -(2 ^ 62) ≤ j ∧ k j
  | _ => False
theorem r_rng1P {j : Int} {k : Int → Prop} : rng1P [.int j] k = (j < 2 ^ 62 ∧ -(2 ^ 62) ≤ j ∧ k j) := propext ⟨fun h => h, fun h => h⟩
theorem q_rng1 {R : ItD → HD → Prop} : jRng1 ts W σ G R = ts W σ G fun ds G1 => rng1P ds fun j => R ⟨intsD 0 j.toNat, fun _ => True⟩ G1 := propext ⟨fun h => h, fun h => h⟩
theorem q_if' {c : TDT} : dIf c ta tb W σ G Q = c W σ G fun b G1 => if b = true then ta W σ G1 Q else tb W σ G1 Q := propext ⟨fun h => h, fun h => h⟩
def putP (t : Tgt) (d : DL.D) (σ : DSt) (k : DSt → Prop) : Prop := t.put d σ k
theorem q_put1 {k : DSt → Prop} : (Tgt.one i).put d σ k = k (σ.set i (some d)) := propext ⟨fun h => h, fun h => h⟩
theorem q_putN {is : List Nat} {ds : List DL.D} {k : DSt → Prop} : (Tgt.many is).put (.tup ds) σ k = (ds.length = is.length ∧ k (setAll is ds σ)) := propext ⟨fun h => h, fun h => h⟩
theorem q_slice {tl th : TDO} : dSlice ta tl th W σ G Q = ta W σ G fun d G1 => tl W σ G1 fun lo G2 => th W σ G2 fun hi G3 => rSliceD d lo hi G3 Q := propext ⟨fun h => h, fun h => h⟩
def intP (d : DL.D) (k : Int → Prop) : Prop := match d with
  | .int i => k i
  | _ => False
theorem r_intP {i : Int} {k : Int → Prop} : intP (.int i) k = k i := propext ⟨fun h => h, fun h => h⟩
theorem q_some {R : Option Int → HD → Prop} : oSome ta W σ G R = ta W σ G fun d G1 => intP d fun i => R (some i) G1 := propext ⟨fun h => h, fun h => h⟩
theorem q_none {R : Option Int → HD → Prop} : oNone W σ G R = R none G := propext ⟨fun h => h, fun h => h⟩
theorem q_wpf {n m : Nat} {t : TDS} {ds : List DL.D} {E : DX} : wpf n m t ds G Q E = (ds.length = n ∧ t (fun c fs _ G' => fgX E c fs G') { nx := fun _ G' => fg Q .non G', rt := fg Q } (ds.map some ++ List.replicate m none) G) := propext ⟨fun h => h, fun h => h⟩
end
end DL

namespace DL
open PySem PySem.Spec L2
open PyProof.Rows hiding St
theorem eqO_t2 {G : HD} {a b c d : Int} : eqO G (.tup [.int a, .int b]) (.tup [.int c, .int d]) = some (decide (a = c) && decide (b = d)) := by
  simp only [eqO, pyD, List.mapM_cons, List.mapM_nil]
  simp [PyData.eqv, PyData.eqvAll]
  rfl
theorem r_eqT2 {G : HD} {Q : Post} {a b c d : Int} {n : Bool} : dEq n (.tup [.int a, .int b]) (.tup [.int c, .int d]) G Q = Q (.bl (if n then !(decide (a = c) && decide (b = d)) else (decide (a = c) && decide (b = d)))) G := by simp only [dEq, eqO_t2]
/-- made anew: None must come of __init__ -/
def nonP (k : HD → Prop) : Post := fun d G => match d with
  | .non => k G
  | _ => False
theorem r_nonP {k : HD → Prop} {G : HD} : nonP k .non G = k G := propext ⟨fun h => h, fun h => h⟩
def makP (C : Addr) (sp : SpD) (ds : List D) (G : HD) (Q : Post) (E : DX) : Prop := ∀ p, G p = none → sp (.ref p :: ds) (put G p (.ins C [])) (nonP fun G2 => Q (.ref p) G2) E
theorem q_make {C : Addr} {sp : SpD} {dds : List D} {ts : TDA} {W : DW} {σ : DSt} {G : HD} {Q : Post} : dMake C sp dds ts W σ G Q = ts W σ G fun ds G1 => makP C sp (ds ++ dds) G1 Q fun c fs G' => W c fs σ G' := by
  unfold dMake makP
  congr 1
theorem q_fldg {ok : Addr → Str → Prop} {f : Str} {g : Int → Int → Int} {to tv : TD} {W : DW} {E : DEnds} {σ : DSt} {G : HD} : sFldG ok f g to tv W E σ G = to W σ G fun d G1 => augP ok f g d (fun G2 Q => tv W σ G2 Q) G1 fun G3 => E.nx σ G3 := by
  unfold sFldG augP
  congr 1
theorem aug_in {ok : Addr → Str → Prop} {f : Str} {g : Int → Int → Int} {a C : Addr} {fs : List (Str × D)} {i j : Int} {G : HD} {k : HD → Prop} (h1 : G a = some (.ins C fs)) (hok : ok C f) (h2 : fs.lookup f = some (.int i)) (h3 : fs.length < 1000) (q : k (put G a (.ins C (putD f (.int (g i j)) fs)))) :
    augP ok f g (.ref a) (fun G1 Q => Q (.int j) G1) G k := by
  unfold augP
  simp only [h1, h2]
  exact ⟨hok, by simp only [h3]; exact ⟨trivial, trivial, q⟩⟩
/-- what stands beside a stays -/
def LeX (a : Addr) (G G' : HD) : Prop := ∀ b o, b ≠ a → G b = some o → G' b = some o
theorem LeX.refl {a : Addr} {G : HD} : LeX a G G := fun _ _ _ h => h
theorem LeX.trans {a : Addr} {A B C : HD} (x : LeX a A B) (y : LeX a B C) : LeX a A C := fun b o n h => y b o n (x b o n h)
theorem LeX.put {a : Addr} {G : HD} {o : MO} : LeX a G (put G a o) := fun b u n h => (put_ne n).trans h
theorem LeX.of {a : Addr} {A B : HD} (x : Le A B) : LeX a A B := fun b o _ h => x b o h
theorem ixN2a : ixN 2 0 = some 0 := rfl
theorem ixN2b : ixN 2 1 = some 1 := rfl
theorem ixN1a : ixN 1 0 = some 0 := rfl
theorem ixN4d : ixN 4 3 = some 3 := rfl
/-! Euclid -/
theorem gcd_step (m n : Nat) : Nat.gcd n (m % n) = Nat.gcd m n := by rw [Nat.gcd_comm m n, Nat.gcd_rec n m, Nat.gcd_comm]
end DL

namespace DN
open PySem PySem.Spec PyProof.Rows PySem.SeqAt
section
variable {M : Model} {prog : Program} {w : World} {A : Around} {E : Value → Shared → Prop} {s : Shared} {K : PySem.W.Frag} {x y C f : Addr} {ox : Obj} {od : Option Obj}
theorem ifBound_objNe {args : List Value} {Q : Option Value → Shared → Prop} (X : K.In s.heap) (I : PySem.W.InstAt s.heap x ox C od) (hs : PySem.W.findIn K (.ref C) "__ne__" = some (some (.builtin "object.__ne__")))
    (h : wpAny M A (call (.builtin "object.__ne__") (.ref x :: args)) (fun v => Q (some v)) E s) : wpAny M A (callSpecialIfBound? (.ref x) "__ne__" args) Q E s := by
  simp only [callSpecialIfBound?, bindSpecialIfBound?]
  refine wpAny_holding (wpAny_bind (wpAny_bind (wpAny_bind (I.type.here ((PySem.W.looks_findIn X hs).here ?_)))))
  refine wpAny_bind (wpAny_askSetting (wpAny_ite ?_))
  have fin : wpAny M A (call (.builtin "object.__ne__") ([.ref x] ++ args) >>= fun v => pure (some v)) Q E s := wpAny_bind (wpAny_mono h (fun v s2 h2 => wpAny_pure h2) fun _ _ h2 => h2)
  split
  · exact wpAny_bind (wpAny_of_eq (F.cmp_object.ne.bind _) (wpAny_pure (by exact fin)))
  · exact wpAny_tryCatch (wpAny_bind (wpAny_of_eq (F.cmp_object.ne.bind _) (wpAny_pure (by exact fin))))
theorem entry_ne {Q : Fin → Shared → Prop} (hu : A.units < cLine) (X : K.In s.heap) (I : PySem.W.InstAt s.heap x ox C od) (hs : PySem.W.findIn K (.ref C) "__eq__" = some (some (.ref f))) (hf : PySem.W.isFn K (.ref f) = true)
    (h : wpAny M A (call (.ref f) [.ref x, .ref y]) (fun v s2 => ∃ b, v = .bool b ∧ Q (.done (.ret (.bool (!b)))) s2) E s) : wpAny M A (Builtin.«object.__ne__» ⟨[.ref x, .ref y], []⟩) Q E s := by
  unfold Builtin.«object.__ne__»
  repeat (first
    | with_reducible refine wpAny_cRoomFor hu ?_
    | (refine wpAny_bind (m := callSpecialIfBound? (.ref x) (Str.ofString "__eq__") [.ref y])
        (PySem.W.ifBound_K X I hs hf (wpAny_mono h (fun r s2 hr => by
          obtain ⟨b, rfl, hq⟩ := hr
          repeat (first | exact hq | exact wpAny_pure hq | exact wpAny_truthy_bool hq | (refine wpAny_bind (m := truthy (.bool _)) (wpAny_truthy_bool ?_)) | wp_step)) fun _ _ e => e)))
    | wp_step)
theorem call_objNe {Q : Value → Shared → Prop} (hu : A.units + 1 < cLine) (X : K.In s.heap) (I : PySem.W.InstAt s.heap x ox C od) (hm : PySem.W.mroIn K C (.type "object") = some true) (hs : PySem.W.findIn K (.ref C) "__eq__" = some (some (.ref f))) (hf : PySem.W.isFn K (.ref f) = true)
    (h : wpAny (model prog w) A.in1 (call (.ref f) [.ref x, .ref y]) (fun v s2 => ∃ b, v = .bool b ∧ Q (.bool (!b)) s2) E s) : wpAny (model prog w) A (call (.builtin "object.__ne__") [.ref x, .ref y]) Q E s :=
  wpAny_call (codeAny_call_builtin F.cmp_object.ne.plain F.cmpEntry_ne (PySem.W.check_slot F.cmpKind_ne F.cmpSplit_ne (I.type.andThen (PySem.W.looks_mroIn X hm)) (F.cmpArgs_ne _ _) (entry_ne (A := A.in1) hu X I hs hf (wpAny_mono h (fun v s2 z => by
    obtain ⟨b, e, hq⟩ := z
    exact ⟨b, e, hq⟩) fun _ _ e => e))))
theorem rc_ne {Q : Value → Shared → Prop} {oy : Obj} {oe : Option Obj} (hu : A.units + 1 < cLine) (X : K.In s.heap) (I : PySem.W.InstAt s.heap x ox C od) (J : PySem.W.InstAt s.heap y oy C oe) (hm : PySem.W.mroIn K C (.type "object") = some true) (hs : PySem.W.findIn K (.ref C) "__eq__" = some (some (.ref f))) (hf : PySem.W.isFn K (.ref f) = true)
    (hn : PySem.W.findIn K (.ref C) "__ne__" = some (some (.builtin "object.__ne__"))) (h : wpAny (model prog w) A.in1 (call (.ref f) [.ref x, .ref y]) (fun v s2 => ∃ b, v = .bool b ∧ Q (.bool (!b)) s2) E s) : wpAny (model prog w) A (richCompare .NotEq (.ref x) (.ref y)) Q E s := by
  have one : wpAny (model prog w) A (tryCompare (.ref x) "__ne__" (.ref y)) (fun r s2 => ∃ v, r = some v ∧ Q v s2) E s := by
    unfold tryCompare
    refine wpAny_bind (ifBound_objNe X I hn (call_objNe hu X I hm hs hf (wpAny_mono h (fun v s2 z => ?_) fun _ _ e => e)))
    obtain ⟨b, e, hq⟩ := z
    exact ⟨b, e, wpAny_pure ⟨_, rfl, hq⟩⟩
  unfold richCompare
  simp only [oneThing_ref]
  refine wpAny_holding (wpAny_bind (wpAny_cRoomFor (Nat.lt_of_succ_lt hu) ?_))
  refine wpAny_bind (I.type.here (wpAny_bind (J.type.here ?_)))
  rw [show (Value.ref C != Value.ref C) = false from by simp]
  simp only [Bool.false_eq_true, if_false]
  refine wpAny_bind (wpAny_pure ?_)
  simp only [Bool.false_eq_true, if_false]
  refine wpAny_bind (wpAny_mono one (fun r s2 z => ?_) fun _ _ e => e)
  obtain ⟨v, rfl, hq⟩ := z
  exact wpAny_pure hq
end
end DN
namespace DL
open PySem PySem.Spec L2
open PyProof.Rows hiding St
section
variable {X : Cx} {k j : Nat} {C : Addr} {sp : SpD}
/-- below the body of X, no repr under way -/
structure SubG (X : Cx) (k : Nat) (A : Around) : Prop where
  room : RoomG k A
  fr : A.frames = X.A.frames
theorem takesF : Takes X (fun _ _ _ _ => False) := fun _ _ ⟨_, _, _, _, _, _, _, _, _, _, _, _, _, _, _, _, z⟩ => z.elim
theorem passF {τ : L2.St} : PassesAt (L2.CX X.prog X.w) X τ (fun _ _ _ => False) := fun pins H0 s e s' I c => takesF e s' (XE.of_call I (W := fun _ _ _ _ => False) (fun _ _ _ z => z) c)
/-- an own == called from below the body -/
theorem runE {A : Around} {pins : List (Addr × Obj)} {s : Shared} {G : HD} {H : Hp} {τ : L2.St} {Q : Post} {a b : Addr} {f : Addr} {fd : FuncData} {ps : List Str} (F : FnK X.prog X.w X.K X.mg X.base k f fd ps sp) (sb : SubG X k A) (hb : Binds X.K fd ps [])
    (sm : Sim X.K G H) (I : Inv X pins τ H s) (hl : ps.length = 2) (h : sp [.ref a, .ref b] G Q fun _ _ _ => False) : wpAny (model X.prog X.w) A (call (.ref f) [.ref a, .ref b]) (EP X pins τ (liftQ X.K G H Q)) X.xe s := by
  have e0 : Env0 X.prog X.w X.K X.mg X.base A X.stack s H := by
    have e := I.env0
    exact ⟨by rw [sb.fr]; exact e.frames, e.mod, e.bs, e.bsz, e.funs, e.frf, e.hok, e.bare⟩
  have r2 : Vals [V.ref a, V.ref b] [Value.ref a, Value.ref b] := .cons rfl (.cons rfl .nil)
  have rd : Rps X.K H [.ref a, .ref b] [V.ref a, V.ref b] := ⟨_, _, rfl, rfl, _, _, rfl, rfl, rfl⟩
  refine wpAny_call (codeAny_mono (F.run A X.stack s H ⟨[.ref a, .ref b], []⟩ [.ref a, .ref b] [.ref a, .ref b] (liftQ X.K G H Q) (fun _ _ _ => False) sb.room e0 (by
    have := hb s [.ref a, .ref b] I.kIn (by simp [hl])
    simpa using this) r2 ⟨hl.symm, _, G, Q, fun _ _ _ => False, rd, sm, h, fun _ _ z => z, fun _ _ _ ⟨_, _, _, _, _, z⟩ => z⟩) fun z s' hq => ?_)
  cases z with
  | error e => exact passF pins H s e s' I hq
  | ok fl =>
    cases fl with
    | ret u => exact I.after hq
    | next => exact False.elim hq
    | brk => exact False.elim hq
    | cont => exact False.elim hq
/-- what an own == tells -/
def ownP (neg : Bool) (Q : Post) : Post := fun d G => match d with
  | .bl r => Q (.bl (if neg then !r else r)) G
  | _ => False
def rOwn (X : Cx) (C : Addr) (sp : SpD) (neg : Bool) : R2 := fun x y H Q => ∃ (a b : Addr) (dx dy : Addr) (fs gs : List (Str × V)) (G : HD) (Qd : Post), x = .ref a ∧ y = .ref b ∧ H a = some (.ins C dx fs) ∧ H b = some (.ins C dy gs) ∧ Sim X.K G H ∧ sp [.ref a, .ref b] G (ownP neg Qd) (fun _ _ _ => False) ∧
  ∀ v H', liftQ X.K G H Qd v H' → Q v H'
theorem own_back {neg : Bool} {pins : List (Addr × Obj)} {τ : L2.St} {G : HD} {H : Hp} {Qd : Post} {v : Value} {s' : Shared} (hq : EP X pins τ (liftQ X.K G H (ownP neg Qd)) v s') : ∃ r, v = .bool r ∧ EP X pins τ (liftQ X.K G H Qd) (.bool (if neg then !r else r)) s' := by
  obtain ⟨y, H', I', ry, d, G', rd, sm, x1, q⟩ := hq
  unfold ownP at q
  split at q
  · cases rd
    cases ry
    exact ⟨_, rfl, V.bl _, H', I', rfl, D.bl _, G', rfl, sm, x1, q⟩
  · exact q.elim
theorem op_ownE (F : MetK X.prog X.w X.K X.mg X.base k "__eq__" C sp []) (hr : RoomG k X.A) : OpR X (compareOp .Eq) (rOwn X C sp false) := by
  intro pins s σ H x y v u Q I rx ry hq
  obtain ⟨a, b, dx, dy, fs, gs, G, Qd, rfl, rfl, ha, hb', sm, q, fin⟩ := hq
  cases rx
  cases ry
  obtain ⟨f, fd, ps, dvs, ds, hc, hm, F1, hb, hv, hdd, hlen⟩ := F.ex
  have z1 := (hdd.rel (fun _ => none)).length
  cases dvs with
  | cons _ _ => cases z1
  | nil =>
  cases hv
  obtain ⟨mA, J, _⟩ := ins_get I.hok ha
  obtain ⟨mB, J', _⟩ := ins_get I.hok hb'
  obtain ⟨od, J, _⟩ := J.look
  obtain ⟨od', J', _⟩ := J'.look
  obtain ⟨m, hF⟩ := I.fr
  show wpAny (model X.prog X.w) X.A (richCompare .Eq (.ref a) (.ref b)) (EP X pins σ Q) X.xe s
  refine PySem.W.cmp_K (op := .Eq) (tb := .ref C) hr.toRoom.units0 hF I.ok.mod.kin J J'.type (by simp [PySem.W.notFirst]) hm.at_ hm.fn ?_
  refine wpAny_mono (runE F1 ⟨hr, rfl⟩ hb sm I (hlen _ _ _ _ q).symm q) (fun w s' z => ?_) fun _ _ e => e
  obtain ⟨r, rfl, y, H', I', ry, q'⟩ := own_back z
  exact ⟨y, H', I', ry, fin _ _ q'⟩
theorem op_ownN (F : MetK X.prog X.w X.K X.mg X.base k "__eq__" C sp []) (hr : RoomG (k + 1) X.A) (hn : PySem.W.findIn X.K (.ref C) "__ne__" = some (some (.builtin "object.__ne__"))) (ho : PySem.W.mroIn X.K C (.type "object") = some true) : OpR X (compareOp .NotEq) (rOwn X C sp true) := by
  intro pins s σ H x y v u Q I rx ry hq
  obtain ⟨a, b, dx, dy, fs, gs, G, Qd, rfl, rfl, ha, hb', sm, q, fin⟩ := hq
  cases rx
  cases ry
  obtain ⟨f, fd, ps, dvs, ds, hc, hm, F1, hb, hv, hdd, hlen⟩ := F.ex
  have z1 := (hdd.rel (fun _ => none)).length
  cases dvs with
  | cons _ _ => cases z1
  | nil =>
  cases hv
  obtain ⟨mA, J, _⟩ := ins_get I.hok ha
  obtain ⟨mB, J', _⟩ := ins_get I.hok hb'
  obtain ⟨od, J, _⟩ := J.look
  obtain ⟨od', J', _⟩ := J'.look
  show wpAny (model X.prog X.w) X.A (richCompare .NotEq (.ref a) (.ref b)) (EP X pins σ Q) X.xe s
  refine DN.rc_ne (by have := hr.un; omega) I.kIn J J' ho hm.at_ hm.fn hn ?_
  refine wpAny_mono (runE F1 ⟨hr.in1, rfl⟩ hb sm I (hlen _ _ _ _ q).symm q) (fun w s' z => ?_) fun _ _ e => e
  obtain ⟨r, e, y, H', I', ry, q'⟩ := own_back z
  exact ⟨r, e, y, H', I', ry, fin _ _ q'⟩
/-- == and != of two instances of C by its own __eq__ -/
def dOwn (C : Addr) (sp : SpD) (neg : Bool) : D → D → HD → Post → Prop := fun d e G Q => match d, e with
  | .ref a, .ref b => (∃ fs, G a = some (.ins C fs)) ∧ (∃ fs, G b = some (.ins C fs)) ∧ sp [.ref a, .ref b] G (ownP neg Q) (fun _ _ _ => False)
  | _, _ => False
theorem od_own {neg : Bool} : OpD X.K (rOwn X C sp neg) (dOwn C sp neg) := fun G H d e x y Q Q' s k1 k2 f q => by
  unfold dOwn at q
  split at q
  · rename_i a b
    obtain ⟨⟨fs, h1⟩, ⟨gs, h2⟩, q⟩ := q
    cases k1
    cases k2
    obtain ⟨o1, e1, dx, l1, rfl, _⟩ := s _ _ h1
    obtain ⟨o2, e2, dy, l2, rfl, _⟩ := s _ _ h2
    exact ⟨a, b, dx, dy, l1, l2, G, Q, rfl, rfl, e1, e2, s, q, f⟩
  · exact q.elim
theorem c_ownE (F : MetK X.prog X.w X.K X.mg X.base k "__eq__" C sp []) (hr : RoomG j X.A) (hj : k ≤ j := by decide) : CmpR X .Eq (dOwn C sp false) := ⟨_, op_ownE F (hr.mono hj), od_own⟩
theorem c_ownN (F : MetK X.prog X.w X.K X.mg X.base k "__eq__" C sp []) (hn : PySem.W.findIn X.K (.ref C) "__ne__" = some (some (.builtin "object.__ne__")) ∧ PySem.W.mroIn X.K C (.type "object") = some true) (hr : RoomG j X.A) (hj : k + 1 ≤ j := by decide) : CmpR X .NotEq (dOwn C sp true) := ⟨_, op_ownN F (hr.mono hj) hn.1 hn.2, od_own⟩
end
/-! ### what is gone through -/
def seqO (o : Option MO) (a : Addr) (G : HD) (R : ItD → HD → Prop) : Prop := match o with
  | some (.lst ds) => R ⟨ds, fun G => G a = some (.lst ds)⟩ G
  | _ => False
def seqP (d : D) (G : HD) (R : ItD → HD → Prop) : Prop := match d with
  | .tup ds => R ⟨ds, fun _ => True⟩ G
  | .kl ds => R ⟨ds, fun _ => True⟩ G
  | .kc ds => R ⟨ds, fun _ => True⟩ G
  | .ref a => seqO (G a) a G R
  | _ => False
section
variable {G : HD} {a : Addr} {ds : List D} {R : ItD → HD → Prop} {W : DW} {σ : DSt} {tl : TD}
theorem q_jseq : jSeq tl W σ G R = tl W σ G fun d G1 => seqP d G1 R := by
  unfold jSeq seqP
  congr 1
theorem r_seqT : seqP (.tup ds) G R = R ⟨ds, fun _ => True⟩ G := propext ⟨fun h => h, fun h => h⟩
theorem r_seqK : seqP (.kl ds) G R = R ⟨ds, fun _ => True⟩ G := propext ⟨fun h => h, fun h => h⟩
theorem r_seqC : seqP (.kc ds) G R = R ⟨ds, fun _ => True⟩ G := propext ⟨fun h => h, fun h => h⟩
theorem r_seqR : seqP (.ref a) G R = seqO (G a) a G R := propext ⟨fun h => h, fun h => h⟩
theorem r_seqL : seqO (some (.lst ds)) a G R = R ⟨ds, fun G => G a = some (.lst ds)⟩ G := propext ⟨fun h => h, fun h => h⟩
theorem q_yes {Q : Bool → HD → Prop} : dYes W σ G Q = Q true G := propext ⟨fun h => h, fun h => h⟩
theorem q_lc {ti : TDI} {t : Tgt} {dt : TDT} {te : TD} {vs : List Nat} {Q : Post} : dLc ti t dt te vs W σ G Q = ti W σ G fun I G1 => I.xs.length ≤ 1000000 ∧ lcD I.ok (fun d ky kn G' => t.put d (dwipe σ vs) fun σ2 => dt W0 σ2 G' fun b G2 => if b = true then te W0 σ2 G2 ky else kn G2) (fun acc G2 => newL G2 acc Q) I.xs [] G1 := propext ⟨fun h => h, fun h => h⟩
theorem q_own {C : Addr} {sp : SpD} {n : Bool} {c : Addr} {Q : Post} : dOwn C sp n (.ref a) (.ref c) G Q = ((∃ fs, G a = some (.ins C fs)) ∧ (∃ fs, G c = some (.ins C fs)) ∧ sp [.ref a, .ref c] G (ownP n Q) (fun _ _ _ => False)) := propext ⟨fun h => h, fun h => h⟩
theorem r_ownP {n b : Bool} {Q : Post} : ownP n Q (.bl b) G = Q (.bl (if n then !b else b)) G := propext ⟨fun h => h, fun h => h⟩
end
end DL

namespace DL
open PySem PySem.Spec L2
open PyProof.Rows hiding St
/-! ### raise X('text') -/
/-- an own class without __init__ whose instances are raised -/
structure RaiseF (K : PySem.W.Frag) (mg : Str → Option Value) (x : Str) (C : Addr) : Prop where
  ex : ∃ (bmB : List Value) (B newId initId : String), ExcBaseFacts B newId initId bmB ∧ PySem.W.excIn K C bmB newId = true
  mgC : mg x = some (.ref C)
  kp : PySem.W.keepIn K (.ref C) = true
  sub : PySem.W.subIn K (.ref C) (.type "BaseException") = some true
  ty : PySem.W.typeIn K (.ref C) = some (.type "type")
def sRaise (c : Value) : TDS := fun W _ σ G => W c [] σ G
theorem ds_raise {X : Cx} {C : Addr} {x m : Str} {j : Nat} {p p2 pos pos2 : Pos} (R : RaiseF X.K X.mg x C) (hc : X.calm = true) (hg : Gl X x := by rfl) (hdb : (x == ("__debug__" : Str)) = false := by decide) :
    DS X (.Raise (some (.Call (.Name x p) [.Constant (.str m) j p2] [] pos)) none pos2) (sRaise (.ref C)) := by
  obtain ⟨bmB, B, newId, initId, F, q⟩ := R.ex
  exact ⟨fun G H σ τ W D r z => semS.of (ps_raise hc r.takes (pmk_own F q R.mgC R.kp (raises_own R.sub R.ty) hg hdb)) ⟨σ, [], G, r.slots, rfl, r.sim, .refl, z⟩⟩
/-! ### try: .. except X: .. -/
def sTry (xm : Value → Bool → Prop) (tb ts : TDS) : TDS := fun W D σ G => tb (fun c fs σ' G' => ∃ b, xm c b ∧ (b = true → ts W0 D σ' G') ∧ (b = false → W c fs σ' G')) D σ G
theorem liftD_up {K : PySem.W.Frag} {G G1 : HD} {H H1 : Hp} {D : DEnds} (x : Ext G H G1 H1) : EndsLe (liftD K G1 H1 D) (liftD K G H D) :=
  ⟨fun _ _ ⟨a, b, c, d, y, f⟩ => ⟨a, b, c, d, x.trans y, f⟩, fun _ _ ⟨a, b, c, d, y, f⟩ => ⟨a, b, c, d, x.trans y, f⟩, fun _ _ ⟨a, b, c, d, y, f⟩ => ⟨a, b, c, d, x.trans y, f⟩, fun _ _ ⟨a, b, c, d, y, f⟩ => ⟨a, b, c, d, x.trans y, f⟩⟩
theorem ds_try {X : Cx} {x : Str} {c : Value} {xm : Value → Bool → Prop} {body suite : List Stmt} {b₀ : Stmt} {np pos pos2 : Pos} {tb ts : TDS} (hs : X.stack = X.env :: X.outer) (hf : X.env.frame = some X.env.locals) (hc : Names X x c) (hxm : ∀ u b, xm u b → PySem.W.exmOne X.K u c = some b)
    (hb : ∀ (pn : List (Addr × Obj)) (xe : Value → Shared → Prop), DSs (X.tr pn xe) body tb) (hsu : ∀ (a : Addr) (pn : List (Addr × Obj)), DSs (X.suite a pn) (b₀ :: suite) ts) :
    DS X (.Try body [.ExceptHandler (some (.Name x np)) none (b₀ :: suite) pos2] [] [] pos) (sTry xm tb ts) := ⟨fun G H σ τ W D r q => by
  refine semS.of (ps_try_only (tb := fun W' D' τ' H' => ∀ (pn : List (Addr × Obj)) (xe : Value → Shared → Prop), Takes (X.tr pn xe) W' → semSs (X.tr pn xe) body D' τ' H') (ts := fun a _ _ D' τ' H' => ∀ pn, semSs (X.suite a pn) (b₀ :: suite) D' τ' H')
    hs hf hc r.takes (fun W' pn xe tk _ => ⟨fun pins s σ' H' D' I h => h pn xe tk pins s I⟩) fun a oe cls d pn _ _ => ⟨fun pins s σ' H' D' I h => h _ pins s I⟩) ?_
  intro pn xe tk
  refine (hb pn xe).run G H σ τ _ D ⟨r.sim, r.slots, tk.imp fun cls dd τ' H' hw => ?_⟩ q
  obtain ⟨σ', fs, G', rp, xf, sm, ext, b, hx, hy, hn⟩ := hw
  refine ⟨b, hxm _ _ hx, fun e a ha pn2 => ?_, fun e => ⟨σ', fs, G', rp, xf, sm, ext, hn e⟩⟩
  exact ((hsu a pn2).run G' H' σ' τ' W0 D ⟨sm, rp, takes_w0⟩ (hy e)).imp (liftD_up ext)⟩
/-! ### xs.append(e) -/
def appO (o : Option MO) (a : Addr) (d : D) (G : HD) (Q : Post) : Prop := match o with
  | some (.lst xs) => xs.length < 1000000 ∧ Q .non (put G a (.lst (xs ++ [d])))
  | _ => False
def appP (o d : D) (G : HD) (Q : Post) : Prop := match o with
  | .ref a => appO (G a) a d G Q
  | _ => False
def lstP (o : D) (G : HD) (k : Prop) : Prop := match o with
  | .ref a => (∃ xs, G a = some (.lst xs)) ∧ k
  | _ => False
def dApp (to : TD) (ts : TDA) : TD := fun W σ G Q => to W σ G fun o G1 => lstP o G1 (ts W σ G1 fun ds G2 => match ds with
  | [d] => appP o d G2 Q
  | _ => False)
theorem de_app {X : Cx} {o e : Expr} {to : TD} {ts : TDA} {apos cpos : Pos} (ho : DE X o to) (ha : DA X [e] ts)
    (hbase : attributeBase o "append" X.env (eval o X.env) = eval o X.env := by rfl)
    (hfew : ((backTo cpos (starEach [e] X.env)).all (fun x => !x.1) && (backToKw cpos (keywordEach [] X.env)).all (fun x => x.1.isSome)
      && decide (([e] : List Expr).length + ([] : List Keyword).length + (if ([] : List Keyword).isEmpty then 0 else 1) < 30)) = true := by rfl)
    (hline : (apos.endLine == cpos.line) = true := by rfl) (hs : starEach [e] X.env = (false, eval e X.env) :: starEach [] X.env := by rfl) (hplain : (backTo cpos (starEach [] X.env)).any (·.1) = false := by rfl) :
    DE X (.Call (.Attribute o "append" apos) [e] [] cpos) (dApp to ts) := ⟨fun G H σ τ W Q r q => by
  refine semE.of (pe_bm PySem.F.plainAttrs_list PySem.F.slot_list_append PySem.F.type_list_append mt_append peSem paSem hbase hfew hline hs hplain) ?_
  refine ho.then r q fun d v G1 H1 r1 x1 k1 q1 => ?_
  unfold lstP at q1
  split at q1
  · rename_i a
    obtain ⟨⟨xs, hx⟩, q2⟩ := q1
    cases k1
    obtain ⟨o', e1, vs, rfl, rr⟩ := r1.sim _ _ hx
    refine ⟨.inl ⟨rfl, vs, SqL.of e1⟩, ha.then r1 q2 fun ds us G2 H2 r2 x2 k2 q3 => ?_⟩
    try dsimp only at q3
    split at q3
    · rename_i d
      obtain ⟨w, rfl, kd⟩ := one_of k2
      unfold appP appO at q3
      try dsimp only at q3
      split at q3
      · rename_i ys hy
        obtain ⟨h1, q4⟩ := q3
        obtain ⟨o2, e2, ws, rfl, rr2⟩ := r2.sim _ _ hy
        have hlen : ws.length < sizeLine := by
          rw [rr2.length, sizeLine_eq]; omega
        refine ⟨a, ws, w, rfl, rfl, e2, hlen, ?_⟩
        exact .of (d := .non) rfl (r2.sim.wr (m := .lst (ys ++ [d])) (o := .lst (ws ++ [w])) hy ⟨_, rfl, rr2.app (show Rps X.K H2 [d] [w] from ⟨w, [], rfl, kd, rfl⟩)⟩) ((x1.trans x2).trans (.wr hy)) q4
      · exact q3.elim
    · exact q3.elim
  · exact q1.elim⟩
/-! ### f(k = v, ..), all by names -/
section
variable (X : Cx)
def semK (kws : List Keyword) : TA := fun σ H Q => ∀ (pos : Pos) (pins : List (Addr × Obj)) (s : Shared), Inv X pins σ H s → wpAny (model X.prog X.w) X.A (evalAll ((backToKw pos (keywordEach kws X.env)).map (·.2))) (AP X pins σ Q) X.xe s
end
structure DKw (X : Cx) (kws : List Keyword) (t : TDA) : Prop where
  run : ∀ (G : HD) (H : Hp) (σ : DSt) (τ : L2.St) (W : DW) (Q : List D → HD → Prop), SR X G H σ τ W → t W σ G Q → semK X kws τ H (liftA X.K G H Q)
section
variable {X : Cx} {e : Expr} {te : TD} {t : TDA} {kws : List Keyword} {nm : Option Str} {kpos : Pos}
theorem pkSem : PK X kws (semK X kws) := ⟨fun pos pins s σ H Q I h => h pos pins s I⟩
theorem dkw_nil : DKw X [] dNil := ⟨fun G H σ τ W Q r q pos pins s I => pk_nil.run pos pins s τ H _ I ⟨[], G, rfl, r.sim, .refl, q⟩⟩
theorem dkw_cons (he : DE X e te) (hr : DKw X kws t) : DKw X (⟨nm, e, kpos⟩ :: kws) (dCons te t) := ⟨fun G H σ τ W Q r q pos pins s I =>
  (pk_cons (nm := nm) (kpos := kpos) (t := semK X kws) peSem pkSem).run pos pins s τ H _ I (he.then r q fun d v G1 H1 r1 x1 k1 q1 pos2 pins2 s2 I2 =>
    thn ((hr.run G1 H1 σ τ W _ r1 q1) pos2 pins2 s2 I2) fun us s3 ⟨vs, H2, I3, rv, ds, G2, k2, sm2, x2, q2⟩ => ⟨vs, H2, I3, rv, d :: ds, G2, ⟨v, vs, rfl, k1.ext r1.sim x2 _ _, k2⟩, sm2, x1.trans x2, q2⟩)⟩
end
end DL

namespace DL
open PySem PySem.Spec L2
open PyProof.Rows hiding St
/-- two values, the other way round -/
def swp {α : Type} : List α → List α
  | [a, b] => [b, a]
  | l => l
theorem swp_vals : ∀ {vs : List V} {us : List Value}, Vals vs us → Vals (swp vs) (swp us)
  | _, _, .nil => .nil
  | _, _, .cons a .nil => .cons a .nil
  | _, _, .cons a (.cons b .nil) => .cons b (.cons a .nil)
  | _, _, .cons a (.cons b (.cons c t)) => .cons a (.cons b (.cons c t))
theorem swp_rps {K : PySem.W.Frag} {H : Hp} : ∀ {ds : List D} {vs : List V}, Rps K H ds vs → Rps K H (swp ds) (swp vs)
  | [], _, h => by cases h; exact rfl
  | [_], _, ⟨v, r, e, h1, h2⟩ => by cases h2; subst e; exact ⟨v, [], rfl, h1, rfl⟩
  | [_, _], _, ⟨v, r, e, h1, w, r2, e2, h3, h4⟩ => by cases h4; subst e2; subst e; exact ⟨w, _, rfl, h3, v, [], rfl, h1, rfl⟩
  | _ :: _ :: _ :: _, _, ⟨v, r, e, h1, w, r2, e2, h3, u, r3, e3, h4, h5⟩ => by subst e3; subst e2; subst e; exact ⟨v, _, rfl, h1, w, _, rfl, h3, u, _, rfl, h4, h5⟩
theorem swp_len {α : Type} : ∀ l : List α, (swp l).length = l.length
  | [] => rfl
  | [_] => rfl
  | [_, _] => rfl
  | _ :: _ :: _ :: _ => rfl
/-- a def called by the names of its two parameters, the second one first -/
structure SwpK (P : Program) (w : World) (K : PySem.W.Frag) (mg : Str → Option Value) (base : Heap) (k : Nat) (x : Str) (sp : SpD) (a b : Str) : Prop where
  ex : ∃ (f : Addr) (fd : FuncData), FnK P w K mg base k f fd [a, b] sp ∧ mg x = some (.ref f) ∧ PySem.W.keepIn K (.ref f) = true ∧
    ∀ (s : Shared) (u v : Value), BindsTo s fd ⟨[], [(b, u), (a, v)]⟩ [(a, v), (b, u)]
def dSwp (sp : SpD) (ts : TDA) : TD := fun W σ G Q => ts W σ G fun ds G1 => ds.length = 2 ∧ sp (swp ds) G1 Q fun c fs G' => W c fs σ G'
theorem de_swp {X : Cx} {k j : Nat} {sp : SpD} {x a b : Str} {p pos : Pos} {kws : List Keyword} {tk : TDA} (F : SwpK X.prog X.w X.K X.mg X.base k x sp a b) (hr : RoomG j X.A) (hk : DKw X kws tk) (hj : k ≤ j := by decide) (hg : Gl X x := by rfl)
    (hall : (backToKw pos (keywordEach kws X.env)).all (·.1.isSome) = true := by rfl) (hks : (backToKw pos (keywordEach kws X.env)).filterMap (·.1) = [b, a] := by rfl) (hdb : (x == ("__debug__" : Str)) = false := by decide)
    (hpl : ((backTo pos (starEach [] X.env)).any (·.1) || (backToKw pos (keywordEach kws X.env)).any (·.1.isNone)) = false := by rfl) : DE X (.Call (.Name x p) [] kws pos) (dSwp sp tk) := ⟨fun G H σ τ W Q r q pins s I => by
  obtain ⟨f, fd, F1, hm, hkp, hb⟩ := F.ex
  refine wpAny_Call_Name_kw (ld_glob I hg hm ?_ hdb)
  refine PySem.W.callWith_KW0 (h₀ := X.base) I.ok.mod.kin hkp hall ?_ hpl
  refine thn ((hk.run G H σ τ W _ r q) pos pins s I) fun ws s2 ⟨zs, H2, I2, rz, ds, G1, k1, sm1, x1, hl, q1⟩ => ⟨I2.kIn, ?_⟩
  rw [hks]
  obtain ⟨d1, d2, rfl⟩ : ∃ d1 d2, ds = [d1, d2] := by
    match ds, hl with
    | [d1, d2], _ => exact ⟨d1, d2, rfl⟩
  obtain ⟨v1, _, rfl, kd1, v2, _, rfl, kd2, e2⟩ := k1
  obtain rfl := e2
  obtain ⟨u1, u2, rfl, r1, r2⟩ := vals2 rz
  have hq := runK (es := [d2, d1]) (vs := [v2, v1]) (us := [u2, u1]) F1 (hr.mono hj) (hb s2 u1 u2) (r.ext sm1 x1) I2 (.cons r2 (.cons r1 .nil)) ⟨v2, _, rfl, kd2, v1, [], rfl, kd1, rfl⟩ rfl q1
  refine wpAny_call (codeAny_mono hq fun z s3 hz => ?_)
  cases z with
  | error e => exact hz
  | ok fl =>
    cases fl with
    | ret u =>
      obtain ⟨v, H3, I3, l2, q2⟩ := hz
      exact ⟨v, H3, I3, l2, q2.up x1⟩
    | next => exact False.elim hz
    | brk => exact False.elim hz
    | cont => exact False.elim hz⟩
/-- {} -/
def dDic : TD := fun _ _ G Q => ∀ p, G p = none → Q (.ref p) (put G p (.dK []))
theorem de_dic {X : Cx} {pos : Pos} : DE X (.Dict [] [] pos) dDic := ⟨fun G H σ τ W Q r q => semE.of pe_dnewK fun p hp => .of (d := .ref p) rfl (r.sim.newM (m := .dK []) hp ⟨[], rfl, rfl⟩) (.newM hp) (q p (r.sim.no hp))⟩
theorem exm_of {K : PySem.W.Frag} {S Y : Addr} {b : Bool} (h1 : PySem.W.subIn K (.ref S) (.type "BaseException") = some true) (h2 : PySem.W.isClsIn K S = true) (h3 : PySem.W.typeIn K (.ref S) = some (.type "type")) (h4 : PySem.W.subIn K (.ref Y) (.ref S) = some b) : PySem.W.exmOne K (.ref Y) (.ref S) = some b := by
  have z : (PySem.W.clsIn K S).isSome = true := h2
  unfold PySem.W.exmOne PySem.W.kitCls
  simp [h1, h3, h4, z]
end DL

namespace DL
open PySem PySem.Spec L2
open PyProof.Rows hiding St
/-! ### is, is not: of None, of truths -/
def dIsX (neg : Bool) : D → D → HD → Post → Prop := fun d e G Q => match d, e with
  | .bl a, .bl b => Q (.bl (if neg then !decide (a = b) else decide (a = b))) G
  | d, e => dIsN neg d e G Q
theorem od_isX {X : Cx} : OpD X.K (fun x y H Q => (y = .non ∧ Q (.bl (decide (x = .non))) H) ∨ ∃ a b, x = .bl a ∧ y = .bl b ∧ Q (.bl (decide (a = b))) H) (dIsX false) := fun G H d e x y Q Q' s k1 k2 f q => by
  unfold dIsX at q
  split at q
  · cases k1; cases k2
    exact .inr ⟨_, _, rfl, rfl, f _ _ (.of (d := .bl _) rfl s .refl q)⟩
  · exact .inl (od_isN X.K G H d e x y Q Q' s k1 k2 f q)
theorem od_isXn {X : Cx} {r : R2} (h : OpD X.K r (dIsN true)) : OpD X.K (fun x y H Q => r x y H Q ∨ ∃ a b, x = .bl a ∧ y = .bl b ∧ Q (.bl (!decide (a = b))) H) (dIsX true) := fun G H d e x y Q Q' s k1 k2 f q => by
  unfold dIsX at q
  split at q
  · cases k1; cases k2
    exact .inr ⟨_, _, rfl, rfl, f _ _ (.of (d := .bl _) rfl s .refl q)⟩
  · exact .inl (h G H d e x y Q Q' s k1 k2 f q)
theorem c_isX {X : Cx} (hu : X.A.units + 64 < cLine) : CmpR X .Is (dIsX false) := ⟨_, op_isN.or op_is_bl, od_isX⟩
theorem c_isnotX {X : Cx} (hu : X.A.units + 64 < cLine) : CmpR X .IsNot (dIsX true) := ⟨_, op_notN.or op_isnot_bl, od_isXn (od_notN X.K)⟩
theorem r_isXB {neg a b : Bool} {G : HD} {Q : Post} : dIsX neg (.bl a) (.bl b) G Q = Q (.bl (if neg then !decide (a = b) else decide (a = b))) G := propext ⟨fun h => h, fun h => h⟩
theorem r_isXN {neg : Bool} {d : D} {G : HD} {Q : Post} : dIsX neg d .non G Q = Q (.bl (if neg then !isNon d else isNon d)) G := by
  unfold dIsX
  split
  · rename_i z; cases z
  · exact r_isN
end DL

namespace DL
open PySem PySem.Spec L2
open PyProof.Rows hiding St
/-! ### dicts with keys that are ints, texts -/
def kD : D → Option Key
  | .int i => some (.inl i)
  | .str x => some (.inr x)
  | _ => none
theorem kD_rp {K : PySem.W.Frag} {H : Hp} {d : D} {k : Key} {v : V} (h : kD d = some k) (r : Rp K H d v) : v = kV k := by
  cases d with
  | int i => cases h; cases r; rfl
  | str x => cases h; cases r; rfl
  | _ => cases h
def valD : List (Key × D) → Key → Option D
  | [], _ => none
  | p :: r, k => if p.1 = k then some p.2 else valD r k
def hasD (l : List (Key × D)) (k : Key) : Bool := l.any fun p => decide (p.1 = k)
def putKD (l : List (Key × D)) (k : Key) (d : D) : List (Key × D) := if hasD l k = true then l.map (fun p => if p.1 = k then (p.1, d) else p) else l ++ [(k, d)]
section
variable {K : PySem.W.Frag} {H : Hp} {k : Key}
theorem RKV.val : ∀ {l : List (Key × D)} {m : List (Key × V)}, RKV K H l m → (valD l k = none ∧ valV m k = none) ∨ ∃ d v, valD l k = some d ∧ valV m k = some v ∧ Rp K H d v
  | [], _, h => by cases h; exact .inl ⟨rfl, rfl⟩
  | p :: r, _, h => by
    obtain ⟨v, t, rfl, h1, h2⟩ := h
    by_cases e : p.1 = k
    · exact .inr ⟨p.2, v, if_pos e, valV_pos e, h1⟩
    · have e1 : valD (p :: r) k = valD r k := if_neg e
      have e2 : valV ((p.1, v) :: t) k = valV t k := valV_neg e
      rw [e1, e2]
      exact RKV.val h2
theorem RKV.has : ∀ {l : List (Key × D)} {m : List (Key × V)}, RKV K H l m → (m.any fun p => decide (p.1 = k)) = hasD l k
  | [], _, h => by cases h; rfl
  | p :: r, _, h => by
    obtain ⟨v, t, rfl, h1, h2⟩ := h
    show (decide (p.1 = k) || t.any _) = (decide (p.1 = k) || hasD r k)
    rw [RKV.has h2]
theorem RKV.len : ∀ {l : List (Key × D)} {m : List (Key × V)}, RKV K H l m → m.length = l.length
  | [], _, h => by cases h; rfl
  | p :: r, _, h => by
    obtain ⟨v, t, rfl, h1, h2⟩ := h
    show t.length + 1 = r.length + 1
    rw [RKV.len h2]
theorem RKV.over {d : D} {v : V} (q : Rp K H d v) : ∀ {l : List (Key × D)} {m : List (Key × V)}, RKV K H l m → RKV K H (l.map fun p => if p.1 = k then (p.1, d) else p) (m.map fun p => if p.1 = k then (p.1, v) else p)
  | [], _, h => by cases h; exact rfl
  | p :: r, _, h => by
    obtain ⟨w, t, rfl, h1, h2⟩ := h
    simp only [List.map_cons]
    by_cases e : p.1 = k
    · rw [if_pos e, if_pos e]
      exact ⟨v, _, rfl, q, RKV.over q h2⟩
    · rw [if_neg e, if_neg e]
      exact ⟨w, _, rfl, h1, RKV.over q h2⟩
theorem RKV.more {d : D} {v : V} (q : Rp K H d v) : ∀ {l : List (Key × D)} {m : List (Key × V)}, RKV K H l m → RKV K H (l ++ [(k, d)]) (m ++ [(k, v)])
  | [], _, h => by cases h; exact ⟨v, [], rfl, q, rfl⟩
  | p :: r, _, h => by
    obtain ⟨w, t, rfl, h1, h2⟩ := h
    exact ⟨w, _, rfl, h1, RKV.more q h2⟩
theorem RKV.putK2 {d : D} {v : V} {l : List (Key × D)} {m : List (Key × V)} (h : RKV K H l m) (q : Rp K H d v) : RKV K H (putKD l k d) (putK m k v) := by
  unfold putKD putK
  rw [h.has]
  split
  · exact h.over q
  · exact h.more q
end
/-- d[k] -/
def dkO (o : Option MO) (k : Option Key) (G : HD) (Q : Post) : Prop := match o, k with
  | some (.dK l), some k => optP (valD l k) G Q
  | some (.fz _ (.dK _) (.dK l)), some k => optP (valD l k) G Q
  | _, _ => False
def dkP (o k : D) (G : HD) (Q : Post) : Prop := match o with
  | .ref a => dkO (G a) (kD k) G Q
  | _ => False
def dDGet (td tk : TD) : TD := fun W σ G Q => td W σ G fun o G1 => tk W σ G1 fun k G2 => dkP o k G2 Q
/-- k in d -/
def inO (neg : Bool) (o : Option MO) (k : Option Key) (G : HD) (Q : Post) : Prop := match o, k with
  | some (.dK l), some k => Q (.bl (if neg then !(valD l k).isSome else (valD l k).isSome)) G
  | some (.fz _ (.dK _) (.dK l)), some k => Q (.bl (if neg then !(valD l k).isSome else (valD l k).isSome)) G
  | _, _ => False
def inP (neg : Bool) (k o : D) (G : HD) (Q : Post) : Prop := match o with
  | .ref a => inO neg (G a) (kD k) G Q
  | _ => False
def dDIn (neg : Bool) (tk td : TD) : TD := fun W σ G Q => tk W σ G fun k G1 => td W σ G1 fun o G2 => inP neg k o G2 Q
/-- d[k] = v -/
def dpO (o : Option MO) (a : Addr) (k : Option Key) (v : D) (G : HD) (Q : HD → Prop) : Prop := match o, k with
  | some (.dK l), some k => l.length < 1000000 ∧ Q (put G a (.dK (putKD l k v)))
  | _, _ => False
def dpP (o k v : D) (G : HD) (Q : HD → Prop) : Prop := match o with
  | .ref a => dpO (G a) a (kD k) v G Q
  | _ => False
def sDict (td tk tv : TD) : TDS := fun W E σ G => tv W σ G fun v G1 => td W σ G1 fun o G2 => tk W σ G2 fun k G3 => dpP o k v G3 fun G4 => E.nx σ G4
section
variable {X : Cx} {o i e : Expr} {td tk tv : TD} {pos pos2 : Pos}
theorem fz_at0 {K : PySem.W.Frag} {G2 : HD} {H2 : Hp} {a : Addr} {ob : Obj} {m : List (Key × V)} {l : List (Key × D)} (s2 : Sim K G2 H2) (h2 : G2 a = some (.fz ob (.dK m) (.dK l))) : L2.Rd H2 a (.dK m) ∧ RKV K H2 l m := by
  obtain ⟨o, e1, e2, e3, _⟩ := s2 _ _ h2
  subst e2
  obtain ⟨m', e4, e5⟩ := e3
  cases e4
  exact ⟨.inr ⟨_, e1⟩, e5⟩
theorem dk_at {G : HD} {H : Hp} {od kd : D} {x y : V} {Q : Post} (s : Sim X.K G H) (r1 : Rp X.K H od x) (r2 : Rp X.K H kd y) (q : dkP od kd G Q) : ∃ a l m k, x = .ref a ∧ y = kV k ∧ L2.Rd H a (.dK m) ∧ RKV X.K H l m ∧ optP (valD l k) G Q := by
  unfold dkP at q
  split at q
  · rename_i a
    cases r1
    unfold dkO at q
    split at q
    · rename_i l k e1 e2
      obtain ⟨m, h1, h2⟩ := s.dK e1
      exact ⟨a, l, m, k, rfl, kD_rp e2 r2, .of h1, h2, q⟩
    · rename_i l k e1 e2
      obtain ⟨h1, h2⟩ := fz_at0 s e1
      exact ⟨a, l, _, k, rfl, kD_rp e2 r2, h1, h2, q⟩
    · exact q.elim
  · exact q.elim
theorem de_dget (hu : X.A.units + 64 < cLine) (ho : DE X o td) (hi : DE X i tk) (hs : NoSl i := by intro _ _; rfl) : DE X (.Subscript o i pos) (dDGet td tk) := ⟨fun G H σ τ W Q r q =>
  semE.of (pe_dget (by omega) peSem peSem hs) (ho.then r q fun d x G1 H1 r1 x1 k1 q1 => hi.then r1 q1 fun kd y G2 H2 r2 x2 k2 q2 => by
    obtain ⟨a, l, m, k, rfl, rfl, e2, e3, q3⟩ := dk_at r2.sim (k1.ext r1.sim x2 _ _) k2 q2
    rcases e3.val (k := k) with ⟨z, _⟩ | ⟨d2, v2, z1, z2, z3⟩
    · rw [z] at q3; exact q3.elim
    · rw [z1] at q3
      refine ⟨a, v2, rfl, ?_, .of z3 r2.sim (x1.trans x2) q3⟩
      rw [← z2]
      exact .inl ⟨m, k, e2, rfl, rfl⟩)⟩
theorem in_at {neg : Bool} {G : HD} {H : Hp} {od kd : D} {x y : V} {Q : Post} (s : Sim X.K G H) (r1 : Rp X.K H od x) (r2 : Rp X.K H kd y) (q : inP neg kd od G Q) : ∃ a l m k, x = .ref a ∧ y = kV k ∧ L2.Rd H a (.dK m) ∧ RKV X.K H l m ∧ Q (.bl (if neg then !(valD l k).isSome else (valD l k).isSome)) G := by
  unfold inP at q
  split at q
  · rename_i a
    cases r1
    unfold inO at q
    split at q
    · rename_i l k e1 e2
      obtain ⟨m, h1, h2⟩ := s.dK e1
      exact ⟨a, l, m, k, rfl, kD_rp e2 r2, .of h1, h2, q⟩
    · rename_i l k e1 e2
      obtain ⟨h1, h2⟩ := fz_at0 s e1
      exact ⟨a, l, _, k, rfl, kD_rp e2 r2, h1, h2, q⟩
    · exact q.elim
  · exact q.elim
theorem val_is {K : PySem.W.Frag} {H : Hp} {k : Key} {l : List (Key × D)} {m : List (Key × V)} (h : RKV K H l m) : (valV m k).isSome = (valD l k).isSome := by
  rcases h.val (k := k) with ⟨z, y⟩ | ⟨d2, v2, z1, z2, z3⟩
  · rw [z, y]; rfl
  · rw [z1, z2]; rfl
theorem c_din (hu : X.A.units + 64 < cLine) : CmpR X .In (fun k o G Q => inP false k o G Q) := ⟨fun x y H Q => ∃ a o, y = .ref a ∧ DGet H a x o ∧ Q (.bl o.isSome) H, fun pins s σ H x y v u Q I rx ry h => by
  obtain ⟨a, o, rfl, g, q⟩ := h
  cases ry
  exact d_in (by omega) I g rx fun s3 I3 => ⟨.bl o.isSome, H, I3, rfl, q⟩, fun G H d e x y Q Q' s k1 k2 f q => by
  obtain ⟨a, l, m, k, rfl, rfl, e2, e3, q3⟩ := in_at s k2 k1 q
  refine ⟨a, _, rfl, .inl ⟨m, k, e2, rfl, rfl⟩, ?_⟩
  rw [val_is e3]
  exact f _ _ (.of (d := .bl _) rfl s .refl q3)⟩
theorem c_dnotin (hu : X.A.units + 64 < cLine) : CmpR X .NotIn (fun k o G Q => inP true k o G Q) := ⟨fun x y H Q => ∃ a o, y = .ref a ∧ DGet H a x o ∧ Q (.bl (!o.isSome)) H, fun pins s σ H x y v u Q I rx ry h => by
  obtain ⟨a, o, rfl, g, q⟩ := h
  cases ry
  exact d_notIn (by omega) I g rx fun s3 I3 => ⟨.bl (!o.isSome), H, I3, rfl, q⟩, fun G H d e x y Q Q' s k1 k2 f q => by
  obtain ⟨a, l, m, k, rfl, rfl, e2, e3, q3⟩ := in_at s k2 k1 q
  refine ⟨a, _, rfl, .inl ⟨m, k, e2, rfl, rfl⟩, ?_⟩
  rw [val_is e3]
  exact f _ _ (.of (d := .bl _) rfl s .refl q3)⟩
theorem ds_dict (hu : X.A.units + 64 < cLine) (ho : DE X o td) (hi : DE X i tk) (hv : DE X e tv) (hs : swapsWith e (some (.Subscript o i pos2)) pos.line X.env = pure false := by rfl) : DS X (.Assign [.Subscript o i pos2] e pos) (sDict td tk tv) := ⟨fun G H σ τ W E r q =>
  semS.of (ps_dput (by omega) peSem peSem peSem hs) (hv.then r q fun v r0 G1 H1 r1 x1 k1 q1 => ho.then r1 q1 fun d x G2 H2 r2 x2 k2 q2 => hi.then r2 q2 fun kd y G3 H3 r3 x3 k3 q3 => by
    have k2' := k2.ext r2.sim x3 _ _
    have k1' := (k1.ext r1.sim x2 _ _).ext r2.sim x3 _ _
    unfold dpP at q3
    split at q3
    · rename_i a
      cases k2'
      unfold dpO at q3
      split at q3
      · rename_i l k e1 e2
        obtain ⟨hl, q4⟩ := q3
        obtain ⟨m, h1, h2⟩ := r3.sim.dK e1
        have ey := kD_rp e2 k3
        subst ey
        refine ⟨a, _, rfl, .k h1 (by rw [h2.len, sizeLine_eq]; omega), σ, _, ?_, r3.sim.wr (m := .dK (putKD l k v)) (o := .dK (putK m k r0)) e1 ⟨_, rfl, h2.putK2 k1'⟩, ((x1.trans x2).trans x3).trans (.wr e1), q4⟩
        exact r3.slots.ext r3.sim (.wr (m := .dK (putKD l k v)) e1) _ _
      · exact q3.elim
    · exact q3.elim)⟩
end
end DL

namespace DL
open PySem PySem.Spec L2
open PyProof.Rows hiding St
/-! ### d.get(k), d.get(k, z), d.pop(k, z) -/
def dictP (o : D) (G : HD) (k : Prop) : Prop := match o with
  | .ref a => (∃ l, G a = some (.dK l)) ∧ k
  | _ => False
def getO (o : Option MO) (k : Option Key) (z : D) (G : HD) (Q : Post) : Prop := match o, k with
  | some (.dK l), some k => Q ((valD l k).getD z) G
  | _, _ => False
def getP (o k z : D) (G : HD) (Q : Post) : Prop := match o with
  | .ref a => getO (G a) (kD k) z G Q
  | _ => False
def dGet1 (td tk : TD) : TD := fun W σ G Q => td W σ G fun o G1 => dictP o G1 (tk W σ G1 fun k G2 => getP o k .non G2 Q)
def dGet2 (td tk tz : TD) : TD := fun W σ G Q => td W σ G fun o G1 => dictP o G1 (tk W σ G1 fun k G2 => tz W σ G2 fun z G3 => getP o k z G3 Q)
def dropKD (l : List (Key × D)) (k : Key) : List (Key × D) := l.filter fun p => decide (p.1 ≠ k)
def popO (o : Option MO) (a : Addr) (k : Option Key) (z : D) (G : HD) (Q : Post) : Prop := match o, k with
  | some (.dK l), some k => (∀ v, valD l k = some v → Q v (put G a (.dK (dropKD l k)))) ∧ (valD l k = none → Q z G)
  | _, _ => False
def popP (o k z : D) (G : HD) (Q : Post) : Prop := match o with
  | .ref a => popO (G a) a (kD k) z G Q
  | _ => False
def dPop2 (td tk tz : TD) : TD := fun W σ G Q => td W σ G fun o G1 => dictP o G1 (tk W σ G1 fun k G2 => tz W σ G2 fun z G3 => popP o k z G3 Q)
section
variable {K : PySem.W.Frag} {H : Hp} {k : Key}
theorem RKV.getD {l : List (Key × D)} {m : List (Key × V)} {d : D} {v : V} (h : RKV K H l m) (r : Rp K H d v) : Rp K H ((valD l k).getD d) ((valV m k).getD v) := by
  rcases h.val (k := k) with ⟨z, y⟩ | ⟨d2, v2, z1, z2, z3⟩
  · rw [z, y]; exact r
  · rw [z1, z2]; exact z3
theorem RKV.drop : ∀ {l : List (Key × D)} {m : List (Key × V)}, RKV K H l m → RKV K H (dropKD l k) (dropK m k)
  | [], _, h => by cases h; exact rfl
  | p :: r, _, h => by
    obtain ⟨v, t, rfl, h1, h2⟩ := h
    unfold dropKD dropK
    by_cases e : p.1 = k
    · rw [List.filter_cons_of_neg (by simp [e]), List.filter_cons_of_neg (by simp [e])]
      exact RKV.drop h2
    · rw [List.filter_cons_of_pos (by simp [e]), List.filter_cons_of_pos (by simp [e])]
      exact ⟨v, _, rfl, h1, RKV.drop h2⟩
end
section
variable {X : Cx} {o e f : Expr} {td tk tz : TD} {apos cpos : Pos}
theorem de_get1 (hu : X.A.units + 64 < cLine) (ho : DE X o td) (he : DE X e tk) (m : M1 X o "get" apos e cpos) : DE X (.Call (.Attribute o "get" apos) [e] [] cpos) (dGet1 td tk) := ⟨fun G H σ τ W Q r q =>
  semE.of (pe_dget1 (by omega) peSem peSem m) (ho.then r q fun d x G1 H1 r1 x1 k1 q1 => by
    unfold dictP at q1
    split at q1
    · rename_i a
      obtain ⟨⟨l, hl⟩, q2⟩ := q1
      cases k1
      obtain ⟨m1, e1, _⟩ := r1.sim.dK hl
      refine ⟨a, rfl, .inl ⟨_, .inl e1⟩, he.then r1 q2 fun kd y G2 H2 r2 x2 k2 q3 => ?_⟩
      unfold getP getO at q3
      try dsimp only at q3
      split at q3
      · rename_i l2 k e2 e3
        obtain ⟨m2, h1, h2⟩ := r2.sim.dK e2
        have ey := kD_rp e3 k2
        subst ey
        exact ⟨_, .k h1, .of (h2.getD (d := .non) (v := .non) rfl) r2.sim (x1.trans x2) q3⟩
      · exact q3.elim
    · exact q1.elim)⟩
theorem de_get2 (hu : X.A.units + 64 < cLine) (ho : DE X o td) (he : DE X e tk) (hf : DE X f tz) (m : M2 X o "get" apos e f cpos) : DE X (.Call (.Attribute o "get" apos) [e, f] [] cpos) (dGet2 td tk tz) := ⟨fun G H σ τ W Q r q =>
  semE.of (pe_dget2 (by omega) peSem peSem peSem m) (ho.then r q fun d x G1 H1 r1 x1 k1 q1 => by
    unfold dictP at q1
    split at q1
    · rename_i a
      obtain ⟨⟨l, hl⟩, q2⟩ := q1
      cases k1
      obtain ⟨m1, e1, _⟩ := r1.sim.dK hl
      refine ⟨a, rfl, .inl ⟨_, .inl e1⟩, he.then r1 q2 fun kd y G2 H2 r2 x2 k2 q3 => hf.then r2 q3 fun zd z G3 H3 r3 x3 k3 q4 => ?_⟩
      unfold getP getO at q4
      try dsimp only at q4
      split at q4
      · rename_i l2 k e2 e3
        obtain ⟨m2, h1, h2⟩ := r3.sim.dK e2
        have ey := kD_rp e3 k2
        subst ey
        exact ⟨_, .k h1, .of (h2.getD k3) r3.sim ((x1.trans x2).trans x3) q4⟩
      · exact q4.elim
    · exact q1.elim)⟩
theorem de_pop2 (ho : DE X o td) (he : DE X e tk) (hf : DE X f tz) (m : M2 X o "pop" apos e f cpos) : DE X (.Call (.Attribute o "pop" apos) [e, f] [] cpos) (dPop2 td tk tz) := ⟨fun G H σ τ W Q r q =>
  semE.of (pe_dpop2 peSem peSem peSem m) (ho.then r q fun d x G1 H1 r1 x1 k1 q1 => by
    unfold dictP at q1
    split at q1
    · rename_i a
      obtain ⟨⟨l, hl⟩, q2⟩ := q1
      cases k1
      obtain ⟨m1, e1, _⟩ := r1.sim.dK hl
      refine ⟨a, rfl, .inl ⟨_, .inl e1⟩, he.then r1 q2 fun kd y G2 H2 r2 x2 k2 q3 => hf.then r2 q3 fun zd z G3 H3 r3 x3 k3 q4 => ?_⟩
      unfold popP popO at q4
      try dsimp only at q4
      split at q4
      · rename_i l2 k e2 e3
        obtain ⟨m2, h1, h2⟩ := r3.sim.dK e2
        have ey := kD_rp e3 k2
        subst ey
        refine ⟨m2, k, h1, rfl, fun v hv => ?_, fun hv => ?_⟩
        · rcases h2.val (k := k) with ⟨z0, y0⟩ | ⟨d2, v2, z1, z2, z3⟩
          · rw [y0] at hv; cases hv
          · rw [z2] at hv
            cases hv
            exact .of (z3.ext r3.sim (.wr (m := .dK (dropKD l2 k)) e2) _ _) (r3.sim.wr (m := .dK (dropKD l2 k)) (o := .dK (dropK m2 k)) e2 ⟨_, rfl, h2.drop⟩) (((x1.trans x2).trans x3).trans (.wr e2)) (q4.1 _ z1)
        · rcases h2.val (k := k) with ⟨z0, y0⟩ | ⟨d2, v2, z1, z2, z3⟩
          · exact .of k3 r3.sim ((x1.trans x2).trans x3) (q4.2 z0)
          · rw [z2] at hv; cases hv
      · exact q4.elim
    · exact q1.elim)⟩
end
end DL

namespace DL
open PySem PySem.Spec L2
open PyProof.Rows hiding St
/-! ### sorted(ints) -/
def rSortD : List D → HD → Post → Prop := fun ds G Q => match ds with
  | [d] => match asL G d with
    | some es => match asInts es with
      | some ns => ns.length < 64 ∧ ∀ ms : List Int, ms.Perm ns → ms.Pairwise (· ≤ ·) → newL G (ms.map D.int) Q
      | none => False
    | none => False
  | _ => False
theorem cd_sort (K : PySem.W.Frag) : CallD K (L2.rSorted K) rSortD := fun G H ds vs Q Q' s k f q => by
  unfold rSortD at q
  split at q
  · obtain ⟨v, rfl, kd⟩ := one_of k
    split at q
    · rename_i es e1
      split at q
      · rename_i ns e2
        obtain ⟨a, rfl, t⟩ := intsL s kd e1 e2
        exact ⟨a, ns, rfl, t, q.1, fun ms p h1 h2 h3 => newL.fin s (Rps.ofInts ms) f (q.2 ms h1 h2) p h3⟩
      · exact q.elim
    · exact q.elim
  · exact q.elim
theorem bc_sort {X : Cx} {p pos : Pos} {e : Expr} {ts : TDA} (hm : X.mg "sorted" = none) (ha : DA X [e] ts) (hg : Gl X "sorted" := by rfl) (he : starEach [e] X.env = (false, eval e X.env) :: starEach [] X.env := by rfl) : DE X (.Call (.Name "sorted" p) [e] [] pos) (dCB rSortD ts) :=
  de_cb cr_sorted (cd_sort X.K) hm (by decide +kernel) ha hg (by decide) (by decide) he (by rfl)
end DL

namespace DL
open PySem PySem.Spec L2
open PyProof.Rows hiding St
/-! ### d.setdefault(k, z) -/
def sdfO (o : Option MO) (a : Addr) (k : Option Key) (z : D) (G : HD) (Q : Post) : Prop := match o, k with
  | some (.dK l), some k => l.length < 1000000 ∧ (∀ v, valD l k = some v → Q v G) ∧ (valD l k = none → Q z (put G a (.dK (putKD l k z))))
  | _, _ => False
def sdfP (o k z : D) (G : HD) (Q : Post) : Prop := match o with
  | .ref a => sdfO (G a) a (kD k) z G Q
  | _ => False
def dSetd (td tk tz : TD) : TD := fun W σ G Q => td W σ G fun o G1 => dictP o G1 (tk W σ G1 fun k G2 => tz W σ G2 fun z G3 => sdfP o k z G3 Q)
theorem de_setd {X : Cx} {o e f : Expr} {td tk tz : TD} {apos cpos : Pos} (ho : DE X o td) (he : DE X e tk) (hf : DE X f tz) (m : M2 X o "setdefault" apos e f cpos) : DE X (.Call (.Attribute o "setdefault" apos) [e, f] [] cpos) (dSetd td tk tz) := ⟨fun G H σ τ W Q r q =>
  semE.of (pe_dsetd peSem peSem peSem m) (ho.then r q fun d x G1 H1 r1 x1 k1 q1 => by
    unfold dictP at q1
    split at q1
    · rename_i a
      obtain ⟨⟨l, hl⟩, q2⟩ := q1
      cases k1
      obtain ⟨m1, e1, _⟩ := r1.sim.dK hl
      refine ⟨a, rfl, .inl ⟨_, .inl e1⟩, he.then r1 q2 fun kd y G2 H2 r2 x2 k2 q3 => hf.then r2 q3 fun zd z G3 H3 r3 x3 k3 q4 => ?_⟩
      unfold sdfP sdfO at q4
      try dsimp only at q4
      split at q4
      · rename_i l2 k e2 e3
        obtain ⟨m2, h1, h2⟩ := r3.sim.dK e2
        have ey := kD_rp e3 (k2.ext r2.sim x3 _ _)
        subst ey
        refine ⟨m2, k, h1, rfl, by rw [h2.len, sizeLine_eq]; omega, fun v hv => ?_, fun hv => ?_⟩
        · rcases h2.val (k := k) with ⟨z0, y0⟩ | ⟨d2, v2, z1, z2, z3⟩
          · rw [y0] at hv; cases hv
          · rw [z2] at hv
            cases hv
            exact .of z3 r3.sim ((x1.trans x2).trans x3) (q4.2.1 _ z1)
        · rcases h2.val (k := k) with ⟨z0, y0⟩ | ⟨d2, v2, z1, z2, z3⟩
          · exact .of (k3.ext r3.sim (.wr (m := .dK (putKD l2 k zd)) e2) _ _) (r3.sim.wr (m := .dK (putKD l2 k zd)) (o := .dK (putK m2 k z)) e2 ⟨_, rfl, h2.putK2 k3⟩) (((x1.trans x2).trans x3).trans (.wr e2)) (q4.2.2 z0)
          · rw [z2] at hv; cases hv
      · exact q4.elim
    · exact q1.elim)⟩
end DL

namespace DL
open PySem PySem.Spec L2
open PyProof.Rows hiding St
/-! ### a dict that stands still while a statement runs -/
def lockD (d : Addr) (ob : Obj) (w : HO) (l : List (Key × D)) (E : DEnds) : DEnds :=
  { nx := fun σ G => G d = some (.fz ob w (.dK l)) ∧ E.nx σ (put G d (.dK l)), rt := fun v G => G d = some (.fz ob w (.dK l)) ∧ E.rt v (put G d (.dK l)),
    bk := fun σ G => G d = some (.fz ob w (.dK l)) ∧ E.bk σ (put G d (.dK l)), ct := fun σ G => G d = some (.fz ob w (.dK l)) ∧ E.ct σ (put G d (.dK l)) }
def sLock (t : TDS) : TDS := fun W E σ G => ∃ d l, G d = some (.dK l) ∧ ∀ (ob : Obj) (m : List (Key × V)), t W (lockD d ob (.dK m) l E) σ (put G d (.fz ob (.dK m) (.dK l)))
section
variable {K : PySem.W.Frag} {G G' : HD} {H H' : Hp} {d : Addr} {ob : Obj} {m : List (Key × V)} {l : List (Key × D)}
theorem unlock (sm : Sim K G' H') (hG : G' d = some (.fz ob (.dK m) (.dK l))) : H' d = some (.frz ob (.dK m)) ∧ Sim K (put G' d (.dK l)) (upd H' d (.dK m)) ∧ Ext G' H' (put G' d (.dK l)) (upd H' d (.dK m)) := by
  obtain ⟨o, e, rfl, ⟨m2, e2, rk⟩, _⟩ := sm d _ hG
  cases e2
  exact ⟨e, sm.wr (m := .dK l) (o := .dK m) hG ⟨m, rfl, rk⟩, .wr hG⟩
end
theorem ds_lock {X : Cx} {st : Stmt} {t : TDS} (h : DS X st t) : DS X st (sLock t) := ⟨fun G H σ τ W E r ⟨d, l, hd, q⟩ => by
  obtain ⟨m, e1, rk⟩ := r.sim.dK hd
  refine semS.of (ps_lock (t := semS X st) ⟨fun pins s σ H D I h => h pins s I⟩) ⟨d, .dK m, e1, trivial, fun od => ?_⟩
  have s2 : Sim X.K (put G d (.fz od (.dK m) (.dK l))) (upd H d (.frz od (.dK m))) := r.sim.wr (m := .fz od (.dK m) (.dK l)) (o := .frz od (.dK m)) hd ⟨rfl, ⟨m, rfl, rk⟩, (fun _ z => nomatch z), fun _ z => nomatch z⟩
  have x2 : Ext G H (put G d (.fz od (.dK m) (.dK l))) (upd H d (.frz od (.dK m))) := .wr hd
  refine (h.run _ _ σ τ W (lockD d od (.dK m) l E) (r.ext s2 x2) (q od m)).imp ⟨fun t H1 hh => ?_, fun v H1 hh => ?_, fun t H1 hh => ?_, fun t H1 hh => ?_⟩
  · obtain ⟨σ1, G1, rp, sm, xx, hG, q1⟩ := hh
    obtain ⟨u1, u2, u3⟩ := unlock sm hG
    exact ⟨u1, σ1, _, rp.ext sm u3 _ _, u2, (x2.trans xx).trans u3, q1⟩
  · obtain ⟨v1, G1, rp, sm, xx, hG, q1⟩ := hh
    obtain ⟨u1, u2, u3⟩ := unlock sm hG
    exact ⟨u1, v1, _, rp.ext sm u3 _ _, u2, (x2.trans xx).trans u3, q1⟩
  · obtain ⟨σ1, G1, rp, sm, xx, hG, q1⟩ := hh
    obtain ⟨u1, u2, u3⟩ := unlock sm hG
    exact ⟨u1, σ1, _, rp.ext sm u3 _ _, u2, (x2.trans xx).trans u3, q1⟩
  · obtain ⟨σ1, G1, rp, sm, xx, hG, q1⟩ := hh
    obtain ⟨u1, u2, u3⟩ := unlock sm hG
    exact ⟨u1, σ1, _, rp.ext sm u3 _ _, u2, (x2.trans xx).trans u3, q1⟩⟩
end DL

namespace DL
open PySem PySem.Spec L2
open PyProof.Rows hiding St
/-! ### for k, v in d.items(), the dict standing still -/
def kDi : Key → D
  | .inl i => .int i
  | .inr x => .str x
theorem kDi_rp {K : PySem.W.Frag} {H : Hp} : ∀ k : Key, Rp K H (kDi k) (kV k)
  | .inl _ => rfl
  | .inr _ => rfl
def pairD (p : Key × D) : D := .tup [kDi p.1, p.2]
def jItems (td : TD) : TDI := fun W σ G R => td W σ G fun o G1 => match o with
  | .ref a => match G1 a with
    | some (.fz ob (.dK m) (.dK l)) => R ⟨l.map pairD, fun G => G a = some (.fz ob (.dK m) (.dK l))⟩ G1
    | _ => False
  | _ => False
theorem RKV.nth {K : PySem.W.Frag} {H : Hp} : ∀ {l : List (Key × D)} {m : List (Key × V)} {i : Nat} {k : Key} {v : V}, RKV K H l m → m[i]? = some (k, v) → ∃ dv, l[i]? = some (k, dv) ∧ Rp K H dv v
  | [], _, i, _, _, h, e => by cases h; simp at e
  | p :: r, _, 0, k, v, h, e => by
    obtain ⟨w, t, rfl, h1, h2⟩ := h
    have e' : (p.1, w) = (k, v) := by simpa using e
    cases e'
    exact ⟨p.2, rfl, h1⟩
  | p :: r, _, i + 1, k, v, h, e => by
    obtain ⟨w, t, rfl, h1, h2⟩ := h
    exact RKV.nth (i := i) h2 (by simpa using e)
theorem di_items {X : Cx} {td : TD} {e : Expr} {elts : List Expr} {kk : Nat} {tpos apos cpos : Pos} (he : DE X e td) (hbase : attributeBase e "items" X.env (eval e X.env) = eval e X.env := by rfl) (hline : (apos.endLine == cpos.line) = true := by rfl) :
    DI X (.Tuple elts kk tpos) (.Call (.Attribute e "items" apos) [] [] cpos) (iItems (semE X e)) (jItems td) :=
  ⟨pi_items peSem hbase hline, fun G H σ τ W R R' r q fin => he.then r q fun d v G1 H1 r1 x1 k1 q1 => by
    try dsimp only at q1
    split at q1
    · rename_i a
      cases k1
      split at q1
      · rename_i ob m l hG
        obtain ⟨o1, e1, rfl, ⟨m1, e2, rk⟩, _⟩ := r1.sim a _ hG
        cases e2
        have at_ : ∀ {G2 : HD} {H2 : Hp}, Sim X.K G2 H2 → G2 a = some (.fz ob (.dK m) (.dK l)) → H2 a = some (.frz ob (.dK m)) ∧ RKV X.K H2 l m := fun {G2 H2} s2 h2 => by
          obtain ⟨o2, f1, rfl, ⟨m2, f2, rk2⟩, _⟩ := s2 a _ h2
          cases f2
          exact ⟨f1, rk2⟩
        refine ⟨a, ob, m, rfl, e1, fin _ _ G1 H1 r1.sim x1 ⟨fun i G2 H2 s2 _ hok hi => ?_, fun i G2 H2 x H3 s2 _ hok hi hy => ?_, fun i G2 H2 s2 _ hok hi => ?_⟩ q1⟩
        · obtain ⟨f1, f2⟩ := at_ s2 hok
          rw [List.length_map] at hi
          exact ⟨f1, by rw [f2.len]; exact hi⟩
        · obtain ⟨f1, f2⟩ := at_ s2 hok
          obtain ⟨T, k, v, hk, rfl, hT, rfl⟩ := hy
          obtain ⟨dv, z1, z2⟩ := f2.nth hk
          have xt : Ext G2 H2 G2 (upd H2 T (.tup [kV k, v])) := Ext.new hT (s2.no hT)
          refine ⟨pairD (k, dv), by rw [List.getElem?_map, z1]; rfl, ⟨T, [kV k, v], rfl, SqT.of upd_same, kV k, [v], rfl, kDi_rp k, v, [], rfl, z2.ext s2 xt _ _, rfl⟩, s2.newO hT, xt⟩
        · obtain ⟨f1, f2⟩ := at_ s2 hok
          rw [List.length_map] at hi
          exact ⟨f1, by rw [f2.len]; exact hi⟩
      · exact q1.elim
    · exact q1.elim⟩
end DL

namespace DL
open PySem PySem.Spec L2
open PyProof.Rows hiding St
/-- a dict that stands still while a value is made (a comprehension over it) -/
def dLockE (t : TD) : TD := fun W σ G Q => ∃ d l, G d = some (.dK l) ∧ ∀ (ob : Obj) (m : List (Key × V)), t W σ (put G d (.fz ob (.dK m) (.dK l))) fun v G1 => G1 d = some (.fz ob (.dK m) (.dK l)) ∧ Q v (put G1 d (.dK l))
theorem de_lock {X : Cx} {e : Expr} {t : TD} (h : DE X e t) : DE X e (dLockE t) := ⟨fun G H σ τ W Q r ⟨d, l, hd, q⟩ => by
  obtain ⟨m, e1, rk⟩ := r.sim.dK hd
  refine semE.of (pe_lock (t := semE X e) ⟨fun pins s σ H Q I h => h pins s I⟩) ⟨d, .dK m, e1, trivial, fun od => ?_⟩
  have s2 : Sim X.K (put G d (.fz od (.dK m) (.dK l))) (upd H d (.frz od (.dK m))) := r.sim.wr (m := .fz od (.dK m) (.dK l)) (o := .frz od (.dK m)) hd ⟨rfl, ⟨m, rfl, rk⟩, (fun _ z => nomatch z), fun _ z => nomatch z⟩
  have x2 : Ext G H (put G d (.fz od (.dK m) (.dK l))) (upd H d (.frz od (.dK m))) := .wr hd
  refine (h.run _ _ σ τ W _ (r.ext s2 x2) (q od m)).imp fun v H1 hh => ?_
  obtain ⟨v1, G1, rp, sm, xx, hG, q1⟩ := hh
  obtain ⟨u1, u2, u3⟩ := unlock sm hG
  exact ⟨u1, v1, _, rp.ext sm u3 _ _, u2, (x2.trans xx).trans u3, q1⟩⟩
end DL

namespace DL
open PySem PySem.Spec L2
open PyProof.Rows hiding St
/-! ### lists by value -/
def OpDF (K : PySem.W.Frag) (r : R2) (rd : D → D → HD → Post → Prop) : Prop :=
  ∀ (G : HD) (H : Hp) (d e : D) (x y : V) (Q : Post) (Q' : VK), Sim K G H → Rp K H d x → Rp K H e y → (∀ v H', liftF K G H Q v H' → Q' v H') → rd d e G Q → r x y H Q'
def CallDF (K : PySem.W.Frag) (r : List V → Hp → VK → Prop) (rd : List D → HD → Post → Prop) : Prop :=
  ∀ (G : HD) (H : Hp) (ds : List D) (vs : List V) (Q : Post) (Q' : VK), Sim K G H → Rps K H ds vs → (∀ v H', liftF K G H Q v H' → Q' v H') → rd ds G Q → r vs H Q'
theorem OpD.F {K : PySem.W.Frag} {r : R2} {rd : D → D → HD → Post → Prop} (h : OpD K r rd) : OpDF K r rd := fun G H d e x y Q Q' s k1 k2 f q => h G H d e x y Q Q' s k1 k2 (fun v H' z => f v H' (.inl z)) q
section
variable {X : Cx} {a b e : Expr} {ta tb te : TD} {es : List Expr} {ts : TDA} {pos : Pos}
theorem de_opF {op : Operator} {r : R2} {rd : D → D → HD → Post → Prop} (ho : OpR X (binaryOp op) r) (hd : OpDF X.K r rd) (ha : DE X a ta) (hb : DE X b tb) : DE X (.BinOp a op b pos) (dOp rd ta tb) :=
  ⟨fun G H σ τ W Q r0 h => semE.frz (semE.of (pe_op ho peSem peSem) (ha.then r0 h fun d x G1 H1 r1 x1 k1 q1 => hb.then r1 q1 fun d2 y G2 H2 r2 x2 k2 q2 =>
    hd G2 H2 d d2 x y Q _ r2.sim (k1.ext r1.sim x2 _ _) k2 (fun _ _ z => z.up (x1.trans x2)) q2))⟩
theorem de_cbF {x : Str} {p : Pos} {id : String} {r : List V → Hp → VK → Prop} {rd : List D → HD → Post → Prop} (hc : CallR X (.builtin id) r) (hd : CallDF X.K r rd) (hm : X.mg x = none) (hv : bootBuiltins x = some (.builtin id)) (ha : DA X (e :: es) ts) (hg : Gl X x := by rfl) (hn : x ≠ "__name__" := by decide) (hdb : (x == ("__debug__" : Str)) = false := by decide)
    (he : starEach (e :: es) X.env = (false, eval e X.env) :: starEach es X.env := by rfl) (hpl : (backTo pos (starEach es X.env)).any (·.1) = false := by rfl) : DE X (.Call (.Name x p) (e :: es) [] pos) (dCB rd ts) :=
  ⟨fun G H σ τ W Q r0 q => semE.frz (semE.of (pe_callB hc hg hm hv paSem hn hdb he hpl) (ha.then r0 q fun ds vs G1 H1 r1 x1 k1 q1 => hd G1 H1 ds vs Q _ r1.sim k1 (fun _ _ z => z.up x1) q1))⟩
theorem de_ctF {x : Str} {p : Pos} {T : String} {r : List V → Hp → VK → Prop} {rd : List D → HD → Post → Prop} (hc : CallR X (.type T) r) (hd : CallDF X.K r rd) (hm : X.mg x = none) (hv : bootBuiltins x = some (.type T)) (ha : DA X (e :: es) ts) (hg : Gl X x := by rfl) (hn : x ≠ "__name__" := by decide) (hdb : (x == ("__debug__" : Str)) = false := by decide)
    (he : starEach (e :: es) X.env = (false, eval e X.env) :: starEach es X.env := by rfl) (hpl : (backTo pos (starEach es X.env)).any (·.1) = false := by rfl) : DE X (.Call (.Name x p) (e :: es) [] pos) (dCB rd ts) :=
  ⟨fun G H σ τ W Q r0 q => semE.frz (semE.of (pe_callTy hc hg hm hv paSem hn hdb he hpl) (ha.then r0 q fun ds vs G1 H1 r1 x1 k1 q1 => hd G1 H1 ds vs Q _ r1.sim k1 (fun _ _ z => z.up x1) q1))⟩
def dLstV (ts : TDA) : TD := fun W σ G Q => ts W σ G fun ds G1 => ds.length ≤ 1000 ∧ Q (.kl ds) G1
theorem de_lstV (h : DA X es ts) : DE X (.List es pos) (dLstV ts) :=
  ⟨fun G H σ τ W Q r0 q => semE.frz (semE.of (pe_lst paSem) (h.then r0 q fun ds vs G1 H1 r1 x1 k1 q1 => ⟨by rw [k1.length]; exact le1000 q1.1, newV.fin r1.sim k1 (fun _ _ z => z.up x1) q1.2⟩))⟩
/-! + of lists -/
/-- a list that is ours, or stands still -/
def asW (G : HD) : D → Option (List D)
  | .kl ds => some ds
  | .ref a => lstOf (G a)
  | _ => none
theorem lstOf_some {o : Option MO} {ds : List D} (h : lstOf o = some ds) : o = some (.lst ds) := by
  unfold lstOf at h
  split at h
  · cases h; rfl
  · cases h
theorem Rp.wr {K : PySem.W.Frag} {G : HD} {H : Hp} {d : D} {v : V} {ds : List D} (s : Sim K G H) (r : Rp K H d v) (h : asW G d = some ds) : ∃ a vs, v = .ref a ∧ L2.Rd H a (.lst vs) ∧ Rps K H ds vs := by
  cases d with
  | kl es =>
    cases h
    obtain ⟨a, vs, rfl, ⟨o, t⟩, q⟩ := r
    exact ⟨a, vs, rfl, .inr ⟨o, t⟩, q⟩
  | ref a =>
    cases (show v = .ref a from r)
    obtain ⟨vs, e1, r1⟩ := s.lst (lstOf_some h)
    exact ⟨a, vs, rfl, .inl e1, r1⟩
  | _ => cases h
def rCatL : R2 := fun x y H Q => ∃ l b xs zs, x = .ref l ∧ y = .ref b ∧ L2.Rd H l (.lst xs) ∧ L2.Rd H b (.lst zs) ∧ xs.length + zs.length ≤ sizeLine ∧ ∀ p, H p = none → Q (.ref p) (upd H p (.lst (xs ++ zs)))
theorem op_catL : OpR X (binaryOp .Add) rCatL := by
  intro pins s σ H x y v u Q I rx ry ⟨l, b, xs, zs, ex, ey, hx, hy, hz, q⟩
  subst ex; subst ey
  cases rx; cases ry
  obtain ⟨_, i1, n1, v1, e1⟩ := hx.ok I.hok
  obtain ⟨_, i2, n2, v2, e2⟩ := hy.ok I.hok
  have l1 := v1.length
  have l2 := v2.length
  refine PySem.P.add_list e1 e2 ?_ (by simp only [List.size_toArray]; omega)
  rw [show i1.toArray ++ i2.toArray = (i1 ++ i2).toArray by simp]
  exact ⟨.ref _, _, I.lnew (t' := s.toks) (v1.append v2) (by rw [List.length_append]; omega), rfl, q _ I.fresh⟩
def dAddV : D → D → HD → Post → Prop := fun d e G Q => match asW G d, asW G e with
  | some xs, some ys => xs.length + ys.length ≤ sizeLine ∧ Q (.kl (xs ++ ys)) G
  | _, _ => dAdd d e G Q
theorem od_addV (K : PySem.W.Frag) : OpDF K (fun x y H Q => rAddU K x y H Q ∨ rCatL x y H Q) dAddV := fun G H d e x y Q Q' s k1 k2 f q => by
  unfold dAddV at q
  split at q
  · rename_i xs ys e1 e2
    obtain ⟨a, vs, rfl, t1, r1⟩ := k1.wr s e1
    obtain ⟨b, ws, rfl, t2, r2⟩ := k2.wr s e2
    exact .inr ⟨a, b, vs, ws, rfl, rfl, t1, t2, by rw [r1.length, r2.length]; exact q.1, newV.fin s (r1.app r2) f q.2⟩
  · exact .inl ((od_add K).F G H d e x y Q Q' s k1 k2 f q)
theorem de_addV (ha : DE X a ta) (hb : DE X b tb) : DE X (.BinOp a .Add b pos) (dOp dAddV ta tb) := de_opF (op := .Add) ((op_add.or (op_add_str.or (op_catA.or op_cat))).or op_catL) (od_addV X.K) ha hb
/-! slices -/
def rSliceV : D → Option Int → Option Int → HD → Post → Prop := fun d lo hi G Q => match asL G d with
  | some xs => Q (.kl (cutD xs lo hi)) G
  | none => rSliceD d lo hi G Q
def dSliceV (te : TD) (tl th : TDO) : TD := fun W σ G Q => te W σ G fun d G1 => tl W σ G1 fun lo G2 => th W σ G2 fun hi G3 => rSliceV d lo hi G3 Q
theorem de_sliceV {lo hi : Option Expr} {tl th : TDO} {p2 : Pos} (he : DE X e te) (hl : DO X lo tl) (hh : DO X hi th) : DE X (.Subscript e (.Slice lo hi none p2) pos) (dSliceV te tl th) :=
  ⟨fun G H σ τ W Q r q => semE.frz (semE.of (pe_slice (r := rSlU X.K) (sl_list.or (sl_tupA.or sl_str)) peSem poSem poSem) (he.then r q fun d x G1 H1 r1 x1 k1 q1 => hl.run G1 H1 σ τ W _ _ r1 q1 fun l G2 H2 r2 x2 q2 => hh.run G2 H2 σ τ W _ _ r2 q2 fun h G3 H3 r3 x3 q3 => by
    have k3 := k1.ext r1.sim (x2.trans x3) _ _
    have xx := (x1.trans x2).trans x3
    unfold rSliceV at q3
    split at q3
    · rename_i xs e1
      obtain ⟨a, vs, rfl, t, rr⟩ := k3.lst r3.sim e1
      exact .inl ⟨a, vs, rfl, t, newV.fin r3.sim (rr.cut l h) (fun _ _ z => z.up xx) q3⟩
    · rename_i e0
      unfold rSliceD at q3
      split at q3
      · obtain ⟨a, vs, rfl, t, rr⟩ := id k3
        refine .inr (.inl ⟨a, vs, rfl, t, fun hw => ?_, fun _ => newT.fin r3.sim (rr.cut l h) (fun _ _ z => .inl (z.up xx)) q3⟩)
        rename_i xs
        have e1 : cutD xs l h = xs := by
          unfold cutD
          rw [rr.length] at hw
          rw [hw.1, hw.2]
          simp
        rw [e1] at q3
        exact .of (d := .tup xs) k3 r3.sim xx q3
      · cases k3
        exact .inr (.inr ⟨_, rfl, q3.1, .of (d := .str _) rfl r3.sim xx q3.2⟩)
      · split at q3
        · rename_i xs e1
          rw [e0] at e1; cases e1
        · exact q3.elim))⟩
/-! list(x) -/
def rListV : List D → HD → Post → Prop := fun ds G Q => match ds with
  | [d] => match asQ G d with
    | some es => Q (.kl es) G
    | none => False
  | _ => False
theorem cd_listV (K : PySem.W.Frag) : CallDF K (fun xs H Q => ∃ p ys, xs = [.ref p] ∧ (SqL K H p ys ∨ SqT K H p ys) ∧ ∀ l, H l = none → Q (.ref l) (upd H l (.lst ys))) rListV := fun G H ds vs Q Q' s k f q => by
  unfold rListV at q
  split at q
  · obtain ⟨v, rfl, kd⟩ := one_of k
    split at q
    · rename_i es e1
      obtain ⟨a, ws, rfl, t, r⟩ := kd.seq s e1
      exact ⟨a, ws, rfl, t, newV.fin s r f q⟩
    · exact q.elim
  · exact q.elim
/-! a list that is made over to stand still -/
def delG (G : HD) (p : Addr) : HD := fun b => if b = p then none else G b
def frzO (o : Option MO) (p : Addr) (G : HD) (Q : Post) : Prop := match o with
  | some (.lst ds) => Q (.kl ds) (delG G p)
  | _ => Q (.ref p) G
def frzP (Q : Post) : Post := fun d G => match d with
  | .ref p => frzO (G p) p G Q
  | d => Q d G
def dFrz (t : TD) : TD := fun W σ G Q => t W σ G (frzP Q)
theorem delG_le {G : HD} {p : Addr} : Le (delG G p) G := fun a o h => by
  unfold delG at h
  split at h
  · cases h
  · exact h
theorem liftF.frz {K : PySem.W.Frag} {G : HD} {H : Hp} {Q : Post} {v : V} {H' : Hp} (h : liftQ K G H (frzP Q) v H') : liftF K G H Q v H' := by
  obtain ⟨d, G', r, s, x, q⟩ := h
  unfold frzP at q
  split at q
  · rename_i p
    cases r
    unfold frzO at q
    split at q
    · rename_i ds e
      obtain ⟨vs, e1, r1⟩ := s.lst e
      refine .inr ⟨p, vs, rfl, e1, fun ob => ⟨.kl ds, delG G' p, ⟨p, vs, rfl, ⟨ob, upd_same⟩, r1.aside e1 _ _⟩, (s.le delG_le).aside e1 (if_pos rfl), fun a o ga ha => ?_, q⟩⟩
      obtain ⟨h1, g1⟩ := x a o ga ha
      have hne : a ≠ p := by rintro rfl; rw [g1] at e; cases e
      exact ⟨by rw [upd_ne hne]; exact h1, (if_neg hne).trans g1⟩
    · exact .inl ⟨.ref p, G', rfl, s, x, q⟩
  · exact .inl ⟨_, G', r, s, x, q⟩
theorem de_frz (h : DE X e te) : DE X e (dFrz te) := ⟨fun G H σ τ W Q r q => semE.frz ((h.run G H σ τ W _ r q).imp fun _ _ z => liftF.frz z)⟩
end
/-! for simp -/
section
variable {G : HD} {Q : Post} {a b : Addr} {xs ys ds : List D} {lo hi : Option Int} {i j : Int} {W : DW} {σ : DSt} {ta : TD} {ts : TDA} {tl th : TDO} {x y : Str}
theorem q_lstV : dLstV ts W σ G Q = ts W σ G fun ds G1 => ds.length ≤ 1000 ∧ Q (.kl ds) G1 := propext ⟨fun h => h, fun h => h⟩
theorem q_sliceV : dSliceV ta tl th W σ G Q = ta W σ G fun d G1 => tl W σ G1 fun lo G2 => th W σ G2 fun hi G3 => rSliceV d lo hi G3 Q := propext ⟨fun h => h, fun h => h⟩
theorem q_frz : dFrz ta W σ G Q = ta W σ G (frzP Q) := propext ⟨fun h => h, fun h => h⟩
theorem r_frzR : frzP Q (.ref a) G = frzO (G a) a G Q := propext ⟨fun h => h, fun h => h⟩
theorem r_frzL : frzO (some (.lst ds)) a G Q = Q (.kl ds) (delG G a) := propext ⟨fun h => h, fun h => h⟩
theorem r_frzT : frzP Q (.tup ds) G = Q (.tup ds) G := propext ⟨fun h => h, fun h => h⟩
theorem r_frzK : frzP Q (.kl ds) G = Q (.kl ds) G := propext ⟨fun h => h, fun h => h⟩
theorem r_frzN : frzP Q .non G = Q .non G := propext ⟨fun h => h, fun h => h⟩
theorem r_addVI : dAddV (.int i) (.int j) G Q = Q (.int (i + j)) G := propext ⟨fun h => h, fun h => h⟩
theorem r_addVS : dAddV (.str x) (.str y) G Q = (x.length + y.length ≤ sizeLine ∧ Q (.str (x ++ y)) G) := propext ⟨fun h => h, fun h => h⟩
theorem r_addVT : dAddV (.tup xs) (.tup ys) G Q = (xs.length + ys.length ≤ sizeLine ∧ Q (.tup (xs ++ ys)) G) := propext ⟨fun h => h, fun h => h⟩
theorem r_addVK : dAddV (.kl xs) (.kl ys) G Q = (xs.length + ys.length ≤ sizeLine ∧ Q (.kl (xs ++ ys)) G) := propext ⟨fun h => h, fun h => h⟩
def addVO (u : Option (List D)) (v : Option (List D)) (G : HD) (Q : Post) : Prop := match u, v with
  | some xs, some ys => xs.length + ys.length ≤ sizeLine ∧ Q (.kl (xs ++ ys)) G
  | _, _ => False
theorem r_addVO : addVO (some xs) (some ys) G Q = (xs.length + ys.length ≤ sizeLine ∧ Q (.kl (xs ++ ys)) G) := propext ⟨fun h => h, fun h => h⟩
theorem i_addVR (h : lstOf (G a) = some xs) (q : xs.length + ys.length ≤ sizeLine ∧ Q (.kl (xs ++ ys)) G) : dAddV (.ref a) (.kl ys) G Q := by
  unfold dAddV
  simp only [asW, h]
  exact q
theorem r_sliVK : rSliceV (.kl ds) lo hi G Q = Q (.kl (cutD ds lo hi)) G := propext ⟨fun h => h, fun h => h⟩
theorem r_sliVC : rSliceV (.kc ds) lo hi G Q = Q (.kl (cutD ds lo hi)) G := propext ⟨fun h => h, fun h => h⟩
theorem r_sliVT : rSliceV (.tup ds) lo hi G Q = Q (.tup (cutD ds lo hi)) G := propext ⟨fun h => h, fun h => h⟩
def sliVO (o : Option (List D)) (lo hi : Option Int) (G : HD) (Q : Post) : Prop := match o with
  | some xs => Q (.kl (cutD xs lo hi)) G
  | none => False
theorem r_sliVR : rSliceV (.ref a) lo hi G Q = sliVO (lstOf (G a)) lo hi G Q := by
  unfold rSliceV sliVO
  rw [asL_ref]
  cases hh : lstOf (G a) with
  | some xs => rfl
  | none =>
    show rSliceD (.ref a) lo hi G Q = False
    rw [r_sliR, hh]; rfl
theorem r_sliVL : sliVO (some ds) lo hi G Q = Q (.kl (cutD ds lo hi)) G := propext ⟨fun h => h, fun h => h⟩
theorem r_listVK : rListV [.kl ds] G Q = Q (.kl ds) G := propext ⟨fun h => h, fun h => h⟩
theorem r_listVC : rListV [.kc ds] G Q = Q (.kl ds) G := propext ⟨fun h => h, fun h => h⟩
theorem r_listVT : rListV [.tup ds] G Q = Q (.kl ds) G := propext ⟨fun h => h, fun h => h⟩
theorem r_truK : truD G (.kl xs) = some (!xs.isEmpty) := rfl
theorem r_lcV {ti : TDI} {t : Tgt} {dt : TDT} {te : TD} {vs : List Nat} : dLcV ti t dt te vs W σ G Q = ti W σ G fun I G1 => I.xs.length ≤ 1000000 ∧ lcD I.ok (fun d ky kn G' => t.put d (dwipe σ vs) fun σ2 => dt W0 σ2 G' fun b G2 => if b = true then te W0 σ2 G2 ky else kn G2) (fun acc G2 => Q (.kl acc) G2) I.xs [] G1 := propext ⟨fun h => h, fun h => h⟩
/-- a comprehension that changes nothing: what is kept of each item -/
theorem lcD_pure {ok : HD → Prop} {step : D → (D → HD → Prop) → (HD → Prop) → HD → Prop} {fin : List D → HD → Prop} (f : D → Option D) {G : HD} (hok : ok G) : ∀ {xs : List D} {acc : List D},
    (∀ x, x ∈ xs → ∀ (ky : D → HD → Prop) (kn : HD → Prop), (∀ y, f x = some y → ky y G) → (f x = none → kn G) → step x ky kn G) → fin (acc ++ xs.filterMap f) G → lcD ok step fin xs acc G
  | [], acc, _, h => ⟨G, Le.refl _, hok, by simpa using h⟩
  | x :: xs, acc, hs, h => ⟨G, Le.refl _, hok, hs x (List.mem_cons_self ..) _ _
      (fun y e => lcD_pure f hok (fun z hz => hs z (List.mem_cons_of_mem _ hz)) (by rw [List.filterMap_cons_some e] at h; simpa using h))
      (fun e => lcD_pure f hok (fun z hz => hs z (List.mem_cons_of_mem _ hz)) (by rw [List.filterMap_cons_none e] at h; exact h))⟩
end
end DL

namespace DL
open PySem PySem.Spec L2
open PyProof.Rows hiding St
/-! ### the law's call, where no repr is under way -/
section
variable {P : Program} {w : World} {K : PySem.W.Frag} {mg mb : Str → Option Value} {k : Nat} {fa a : Addr} {fd : FuncData} {x : Str} {sp : Sp} {s1 : Shared} {vs : List Value} {ns : List Int}
abbrev TopP (s1 : Shared) : Result → Shared → Prop := fun r s' => r = .ok (.ret (.bool true)) ∧ OldK s1.heap s'.heap ∧ s'.os = s1.os ∧ AllBare s'.gens
/-- what a tracks, at most the script -/
structure Trk (P : Program) (w : World) (K : PySem.W.Frag) (s1 : Shared) (a : Addr) (H : Hp) : Prop where
  hok : HOk P w H s1.heap
  only : ∀ b, H b = none ∨ (b = a ∧ K.lookup b = none ∧ ∃ o xs, H b = some (.frz o (.lst xs)))
theorem Trk.shown {H : Hp} (t : Trk P w K s1 a H) {b : Addr} {o : Obj} (e : s1.heap.get? b = some o) (h : b ≠ a ∨ (K.lookup b).isSome = true) : (hidT s1.heap H).get? b = some o := by
  refine hidT_get e ?_
  rcases t.only b with z | ⟨z1, z2, _⟩
  · exact z
  · rcases h with h | h
    · exact absurd z1 h
    · rw [z2] at h; cases h
theorem top_run (KX : K.In s1.heap) (hns : s1.heap.Ns mainGlobals mg) (hb : s1.heap.Ns builtinsNs mb) (hbb : ∀ x : Str, x ≠ "__name__" → mb x = bootBuiltins x) (hlim : s1.heap.NoLimit) (hg : s1.gens = #[])
    (ha : s1.heap.get? a = some { cls := .type "list", data := .seq vs.toArray }) (hr : RoomG k callerA) (F : ∀ base : Heap, K.In base → base.Ns mainGlobals mg → FnG P w K mg base k fa fd [x] sp) (bind : ∀ (s : Shared) (u : Value), BindsTo s fd ⟨[u], []⟩ [(x, u)])
    {H : Hp} (t : Trk P w K s1 a H) (h : sp [.ref a] H (fun v _ => v = .bl true) fun _ _ _ => False) (hX : ∀ e s', L2.CX P w [] H s1 (fun _ _ _ => False) e s' → False) :
    codeAny (model P w) callerA (.call (.ref fa) ⟨[.ref a], []⟩) (TopP s1) s1 := by
  have seen : ∀ {b : Addr} {m : Str → Option Value}, s1.heap.Ns b m → (hidT s1.heap H).Ns b m := by
    rintro b m ⟨o, es, ep, e, d, r⟩
    refine ⟨o, es, ep, t.shown e (.inl ?_), d, r⟩
    rintro rfl
    rw [ha] at e
    cases e
    exact nomatch (show Data.seq vs.toArray _ = Data.dict es ep from d)
  have kb : K.In (hidT s1.heap H) := fun b o e => t.shown (KX b o e) (.inr (by rw [e]; rfl))
  obtain ⟨mc, l1, l2⟩ := hlim
  have env : Env0 P w K mg (hidT s1.heap H) callerA [] s1 H :=
    { frames := rfl, mod := ⟨kb, seen hns, ⟨mb, seen hb, hbb⟩, ⟨mc, seen l1, l2⟩⟩, bs := fun b o e => of_hidT e, bsz := Nat.le_of_eq (hidT_size _ _), funs := trivial, frf := fun b hb => absurd hb List.not_mem_nil, hok := t.hok, bare := .of_eq hg }
  refine codeAny_mono ((F _ kb (seen hns)).run callerA [] s1 H ⟨[.ref a], []⟩ [.ref a] [.ref a] _ _ hr env (bind s1 (.ref a)) (.cons rfl .nil) h) fun r s' q => ?_
  match r, q with
  | .error e, q => exact (hX e s' q).elim
  | .ok .next, q => exact q.elim
  | .ok .brk, q => exact q.elim
  | .ok .cont, q => exact q.elim
  | .ok (.ret u), q =>
    obtain ⟨v, H2, os, bare, un, hok2, rv, ev⟩ := q
    cases (show v = .bl true from ev)
    cases (show u = Value.bool true from rv)
    refine ⟨rfl, OldK.of_keep fun b o e => ?_, os, bare⟩
    rcases t.only b with z | ⟨_, _, ob, xs, z⟩
    · exact un.keep b o e z List.not_mem_nil List.not_mem_nil
    · have f1 := (t.hok b _ z).1
      rw [e] at f1
      cases f1
      exact (hok2 b _ (un.frzs b _ _ z)).1
theorem law_callG (KX : K.In s1.heap) (hns : s1.heap.Ns mainGlobals mg) (hb : s1.heap.Ns builtinsNs mb) (hbb : ∀ x : Str, x ≠ "__name__" → mb x = bootBuiltins x) (hlim : s1.heap.NoLimit) (hg : s1.gens = #[])
    (ha : s1.heap.get? a = some { cls := .type "list", data := .seq vs.toArray }) (hi : IntsAre vs ns) (hl : ns.length ≤ 63) (hr : RoomG k callerA) (F : ∀ base : Heap, K.In base → base.Ns mainGlobals mg → FnG P w K mg base k fa fd [x] sp) (bind : ∀ (s : Shared) (u : Value), BindsTo s fd ⟨[u], []⟩ [(x, u)])
    (hsp : ∀ H : Hp, Only H → SqL K H a (ns.map V.int) → sp [.ref a] H (fun v _ => v = .bl true) fun _ _ _ => False) (hX : ∀ H e s', L2.CX P w [] H s1 (fun _ _ _ => False) e s' → False) :
    codeAny (model P w) callerA (.call (.ref fa) ⟨[.ref a], []⟩) (TopP s1) s1 := by
  have rv := vals_ints hi
  have hl2 : ns.length ≤ sizeLine := by rw [sizeLine_eq]; omega
  by_cases hk : ∃ o, K.lookup a = some o
  · obtain ⟨o, hk⟩ := hk
    have e := KX a o hk
    rw [ha] at e
    cases e
    refine top_run KX hns hb hbb hlim hg ha hr F bind (H := fun _ => none) ⟨fun b u z => (nomatch (show (none : Option HO) = some u from z)), fun _ => .inl rfl⟩ (hsp _ (fun _ => .inl rfl) (.inr ⟨_, vs.toArray, _, hk, rfl, rfl, rfl, ?_, by simpa using rv⟩)) (hX _)
    rw [List.size_toArray, hi.length]; exact hl2
  · have hn : K.lookup a = none := by
      cases q : K.lookup a with
      | none => rfl
      | some o => exact absurd ⟨o, q⟩ hk
    let ob : Obj := { cls := .type "list", data := .seq vs.toArray }
    have at_a : upd (fun _ => none) a (.frz ob (.lst (ns.map V.int))) a = some (.frz ob (.lst (ns.map V.int))) := upd_same
    have only : ∀ b, upd (fun _ => none) a (.frz ob (.lst (ns.map V.int))) b = none ∨ (b = a ∧ K.lookup b = none ∧ ∃ o xs, upd (fun _ => none) a (.frz ob (.lst (ns.map V.int))) b = some (.frz o (.lst xs))) := fun b => by
      by_cases e : b = a
      · subst e; exact .inr ⟨rfl, hn, _, _, at_a⟩
      · exact .inl (upd_ne e)
    refine top_run KX hns hb hbb hlim hg ha hr F bind (H := upd (fun _ => none) a (.frz ob (.lst (ns.map V.int)))) ⟨fun b u z => ?_, only⟩ (hsp _ (fun b => (only b).imp id fun z => z.2.2) (.inl (.inr ⟨ob, at_a⟩))) (hX _)
    by_cases e : b = a
    · subst e
      rw [at_a] at z
      cases z
      exact ⟨ha, by rw [List.length_map]; exact hl2, vs, _, rv, ha⟩
    · rw [upd_ne e] at z
      cases z
end
theorem walkG {l : PySem.W.OpenLaw} {k : Nat} {q : Program} {loose : List Str} {XP : (Str → Option Value) → Heap → Prop} {YP : World → Heap → Prop} {d : DefRec} {K : Params → PySem.W.Frag} {x : Str} {sp : World → Sp}
    (hn : l.most = some 63) (hdf : d.params.defaults = []) (hr : RoomG k callerA) (hY : ∀ (w : World) (h : Heap), YP w h → (K w.params).In h)
    (F : ∀ (w : World) (mg : Str → Option Value) (fa : Addr) (h : Heap), (K w.params).In h → h.Ns mainGlobals mg → mg d.name = some (.ref fa) →
      ∃ fd : FuncData, (∀ (s : Shared) (u : Value), BindsTo s fd ⟨[u], []⟩ [(x, u)]) ∧ ∀ base : Heap, (K w.params).In base → base.Ns mainGlobals mg → FnG l.prog w (K w.params) mg base k fa fd [x] (sp w))
    (hsp : ∀ (w : World) (H : Hp) (a : Addr) (ns : List Int), ns.length ≤ 63 → Only H → SqL (K w.params) H a (ns.map V.int) → sp w [.ref a] H (fun v _ => v = .bl true) fun _ _ _ => False)
    (hX : ∀ (w : World) (H : Hp) (s : Shared) (e : Value) (s' : Shared), L2.CX l.prog w [] H s (fun _ _ _ => False) e s' → False) : PySem.W.WalkO q loose XP YP l.row.toRowW d [] (fun f vs => PySem.call f vs) :=
  Att.attach_call hn hdf fun w _ s1 mg mb fa _ _ _ _ a vs ns G Y _ _ _ hmg hobj hints hlen hg => by
    have KX := hY w _ Y
    obtain ⟨fd, hb, hF⟩ := F w mg fa _ KX G.T.g hmg
    exact law_callG KX G.T.g G.T.b G.T.builtins G.T.nolimit hg hobj hints hlen hr hF hb (fun H hO hS => hsp w H a ns hlen hO hS) fun H e s' => hX w H s1 e s'
end DL

namespace DL
open PySem PySem.Spec L2
open PyProof.Rows hiding St
/-! ### repr of data -/
def rRep0 (K : PySem.W.Frag) : List V → Hp → VK → Prop := fun xs H Q => ∃ v p, xs = [v] ∧ Dp K H v p ∧ p.canLay0 = true ∧ p.depth ≤ 9 ∧ p.showable = true ∧ p.shown.length ≤ sizeLine ∧ Q (.str p.shown) H
theorem call_rep0 {X : Cx} (hg : X.A.guards = some []) (hu : X.A.units + 64 < cLine) : CallR X (.builtin "repr") (rRep0 X.K) := by
  intro pins s σ H xs us Q I rv ⟨v, p, e, hd, hc, hdp, hs, hz, q⟩
  subst e
  obtain ⟨u, eu, ru⟩ := vals1 rv
  subst eu
  have big : ∀ {a : Addr} {as : List Addr}, Reads s.heap (.ref a) p as → wpAny (model X.prog X.w) X.A (call (.builtin "repr") [.ref a]) (EP X pins σ Q) X.xe s := fun hr =>
    repr_of_reads' hr hs (PyData.noDict_hsm (PyData.hasDict_of_canLay p hc)) hg (by omega) (fun _ _ e => e) (fun h' u tk k => ⟨.str p.shown, H, I.kept (t' := tk) k, ⟨u, rfl⟩, q⟩) hz
  obtain ⟨as, hr⟩ := Dp.reads I p v u hd ru
  cases hr with
  | none => exact PySem.P.repr_of_none ⟨.str _, H, I.tok _, ⟨_, rfl⟩, q⟩
  | bool b => exact PySem.P.repr_of_bool ⟨.str _, H, I.tok _, ⟨_, rfl⟩, q⟩
  | int i t => exact PySem.P.repr_of_int (of_decide_eq_true hs) ⟨.str _, H, I.tok _, ⟨_, rfl⟩, q⟩
  | str x t => exact PySem.P.repr_of_str ⟨.str _, H, I.tok _, ⟨_, rfl⟩, q⟩ hz
  | list h1 h2 h3 h4 => exact big (.list h1 h2 h3 h4)
  | tuple h1 h2 h3 h4 => exact big (.tuple h1 h2 h3 h4)
  | dict _ _ _ _ _ => cases hd
/-- repr of an empty dict -/
theorem call_repE {X : Cx} (hg : X.A.guards = some []) (hu : X.A.units + 64 < cLine) : CallR X (.builtin "repr") (fun xs H Q => ∃ a, xs = [.ref a] ∧ H a = some (.dK []) ∧ Q (.str (PyData.dict []).shown) H) := by
  intro pins s σ H xs us Q I rv ⟨a, e, ha, q⟩
  subst e
  obtain ⟨u, eu, ru⟩ := vals1 rv
  subst eu
  obtain rfl : u = .ref a := ru
  obtain ⟨_, hm, vs, kv, o, es, ep, ho, hx, hd, r⟩ := I.hok a _ ha
  cases kv
  have e0 : es.toList = [] := List.eq_nil_of_length_eq_zero (by have := r.2.1.length; simpa using this)
  have hc : o.cls = .type "dict" := hx.1
  have hr : Reads s.heap (.ref a) (.dict []) (a :: [] ++ []) := .dict ho hc hd (by rw [e0]; exact .nil) (by rw [e0]; exact .nil)
  refine repr_of_reads' hr (by decide) (fun _ => ?_) hg (by simp only [PyData.depth, PyData.depthKv]; omega) (fun _ _ e => e) (fun h' u tk k => ⟨.str _, H, I.kept (t' := tk) k, ⟨u, rfl⟩, q⟩) (by decide)
  intro z
  have z' : sysModules = a := by simpa using z
  subst z'
  exact absurd hm (by decide)
/-- data as repr shows it -/
def repO (G : HD) (d : D) : Option PyData := match pyD 9 G d with
  | some p => some p
  | none => match d with
    | .ref a => match G a with
      | some (.dK []) => some (.dict [])
      | _ => none
    | _ => none
def rReprO (o : Option PyData) (G : HD) (Q : Post) : Prop := match o with
  | some p => p.showable = true ∧ p.shown.length ≤ sizeLine ∧ Q (.str p.shown) G
  | none => False
def rReprD : List D → HD → Post → Prop := fun ds G Q => match ds with
  | [d] => rReprO (repO G d) G Q
  | _ => False
theorem cd_repr (K : PySem.W.Frag) : CallD K (fun xs H Q => rRep0 K xs H Q ∨ ∃ a, xs = [.ref a] ∧ H a = some (.dK []) ∧ Q (.str (PyData.dict []).shown) H) rReprD := fun G H ds vs Q Q' s k f q => by
  unfold rReprD at q
  split at q
  · rename_i d
    obtain ⟨v, rfl, kd⟩ := one_of k
    unfold repO at q
    split at q
    · rename_i p hp
      obtain ⟨q1, q2, q3⟩ := q
      obtain ⟨h1, h2, h3⟩ := pyD_dp s 9 d v p hp kd
      exact .inl ⟨v, p, rfl, h1, h2, h3, q1, q2, f _ _ (.of (d := .str _) rfl s .refl q3)⟩
    · split at q
      · rename_i a _
        cases kd
        split at q
        · rename_i e
          obtain ⟨m, e1, r1⟩ := s.dK e
          cases r1
          exact .inr ⟨a, rfl, e1, f _ _ (.of (d := .str _) rfl s .refl q.2.2)⟩
        · exact q.elim
      · exact q.elim
  · exact q.elim
theorem bc_repr {X : Cx} {k : Nat} {p pos : Pos} {e : Expr} {ts : TDA} (hr : RoomG k X.A) (hm : X.mg "repr" = none) (ha : DA X [e] ts) (hg : Gl X "repr" := by rfl) (he : starEach [e] X.env = (false, eval e X.env) :: starEach [] X.env := by rfl) : DE X (.Call (.Name "repr" p) [e] [] pos) (dCB rReprD ts) :=
  de_cb (CallR.or (call_rep0 hr.gd hr.units) (call_repE hr.gd hr.units)) (cd_repr X.K) hm (by decide +kernel) ha hg (by decide) (by decide) he (by rfl)
/-! == and != of texts of any length -/
end DL

namespace DL
open PySem PySem.Spec L2
open PyProof.Rows hiding St
/-! ### data that is no object of the heap -/
def pureD : Nat → D → Bool
  | 0, _ => false
  | n + 1, d => match d with
    | .non => true
    | .bl _ => true
    | .int _ => true
    | .str x => PyData.strOk x
    | .tup ds => ds.all (pureD n)
    | .kl ds => ds.all (pureD n)
    | .kc ds => ds.all (pureD n)
    | _ => false
def toPy : Nat → D → PyData
  | 0, _ => .none
  | n + 1, d => match d with
    | .bl b => .bool b
    | .int i => .int i
    | .str x => .str x
    | .tup ds => .tuple (ds.map (toPy n))
    | .kl ds => .list (ds.map (toPy n))
    | .kc ds => .list (ds.map (toPy n))
    | .emp => .dict []
    | _ => .none
theorem mapM_map {G : HD} {n : Nat} (ih : ∀ d, pureD n d = true → pyD n G d = some (toPy n d)) : ∀ {ds : List D}, ds.all (pureD n) = true → ds.mapM (pyD n G) = some (ds.map (toPy n))
  | [], _ => rfl
  | d :: ds, h => by
    rw [List.all_cons, Bool.and_eq_true] at h
    rw [List.mapM_cons, ih d h.1, mapM_map ih h.2]
    rfl
theorem pyD_pure {G : HD} : ∀ (n : Nat) (d : D), pureD n d = true → pyD n G d = some (toPy n d)
  | 0, _, h => by cases h
  | n + 1, d, h => by
    unfold pureD at h
    unfold pyD toPy
    cases d with
    | non => rfl
    | bl _ => rfl
    | int _ => rfl
    | str x => simp only at h ⊢; rw [if_pos h]
    | tup ds => simp only at h ⊢; rw [mapM_map (pyD_pure n) h]; rfl
    | kl ds => simp only at h ⊢; rw [mapM_map (pyD_pure n) h]; rfl
    | kc ds => simp only at h ⊢; rw [mapM_map (pyD_pure n) h]; rfl
    | ty _ => cases h
    | ref _ => cases h
    | exc _ _ _ => cases h
    | emp => cases h
/-- == of two data -/
def eqvD (d e : D) : Bool := PyData.eqv (toPy 9 d) (toPy 9 e)
theorem eqO_pure {G : HD} {d e : D} (h1 : pureD 9 d = true) (h2 : pureD 9 e = true) : eqO G d e = some (eqvD d e) := by
  unfold eqO
  rw [pyD_pure 9 d h1, pyD_pure 9 e h2]
  rfl
/-- == with texts of any length -/
def dEqX (neg : Bool) : D → D → HD → Post → Prop := fun d e G Q => match d, e with
  | .str x, .str y => Q (.bl (if neg then !decide (x = y) else decide (x = y))) G
  | d, e => dEq neg d e G Q
theorem od_eqX (K : PySem.W.Frag) : OpD K (fun x y H Q => rEqD K x y H Q ∨ rEq x y H Q) (dEqX false) := fun G H d e x y Q Q' s k1 k2 f q => by
  unfold dEqX at q
  split at q
  · cases k1; cases k2
    refine .inr ⟨rfl, f _ _ ?_⟩
    have := liftQ.of (K := K) (G := G) (G' := G) (H := H) (H' := H) (Q := Q) (d := .bl _) (v := .bl _) rfl s .refl q
    simpa using this
  · exact .inl (od_eq K G H d e x y Q Q' s k1 k2 f q)
theorem od_neX (K : PySem.W.Frag) : OpD K (fun x y H Q => rNeD K x y H Q ∨ rNe x y H Q) (dEqX true) := fun G H d e x y Q Q' s k1 k2 f q => by
  unfold dEqX at q
  split at q
  · cases k1; cases k2
    refine .inr ⟨rfl, f _ _ ?_⟩
    have := liftQ.of (K := K) (G := G) (G' := G) (H := H) (H' := H) (Q := Q) (d := .bl _) (v := .bl _) rfl s .refl q
    simpa using this
  · exact .inl (od_ne K G H d e x y Q Q' s k1 k2 f q)
theorem c_eqX {X : Cx} (hu : X.A.units + 64 < cLine) : CmpR X .Eq (dEqX false) := ⟨_, (op_eqD hu).or op_eq, od_eqX X.K⟩
theorem c_neX {X : Cx} (hu : X.A.units + 64 < cLine) : CmpR X .NotEq (dEqX true) := ⟨_, (op_neD hu).or op_ne, od_neX X.K⟩
section
variable {G : HD} {Q : Post} {i j : Int} {x y : Str} {n : Bool} {d e : D} {xs ys : List D} {a b : Addr}
theorem r_eqXS : dEqX n (.str x) (.str y) G Q = Q (.bl (if n then !decide (x = y) else decide (x = y))) G := propext ⟨fun h => h, fun h => h⟩
theorem r_eqXI : dEqX n (.int i) (.int j) G Q = Q (.bl (if n then !decide (i = j) else decide (i = j))) G := (r_eqI (n := n) (i := i) (j := j) (G := G) (Q := Q) ▸ rfl : dEqX n (.int i) (.int j) G Q = _)
theorem i_eqX (h1 : pureD 9 d = true) (h2 : pureD 9 e = true) (q : Q (.bl (if n then !eqvD d e else eqvD d e)) G) : dEqX n d e G Q := by
  unfold dEqX
  split
  · rename_i x y
    have e1 : eqvD (.str x) (.str y) = decide (x = y) := by
      unfold eqvD toPy
      simp only [PyData.eqv]
      by_cases h : x = y
      · simp [h]
      · simp [h]
    rw [e1] at q
    exact q
  · unfold dEq
    rw [eqO_pure h1 h2]
    exact q
theorem i_eqXO {b : Bool} (h : eqO G d e = some b) (hs : ∀ x, d ≠ .str x) (q : Q (.bl (if n then !b else b)) G) : dEqX n d e G Q := by
  unfold dEqX
  split
  · exact absurd rfl (hs _)
  · unfold dEq
    rw [h]
    exact q
theorem r_eqXT2 {p q r s : Int} : dEqX n (.tup [.int p, .int q]) (.tup [.int r, .int s]) G Q = Q (.bl (if n then !(decide (p = r) && decide (q = s)) else (decide (p = r) && decide (q = s)))) G := r_eqT2
/-- repr of such data -/
theorem i_repr (h : pureD 9 d = true) (h1 : (toPy 9 d).showable = true) (h2 : (toPy 9 d).shown.length ≤ sizeLine) (q : Q (.str (toPy 9 d).shown) G) : rReprD [d] G Q := by
  have e : repO G d = some (toPy 9 d) := by
    unfold repO
    rw [pyD_pure 9 d h]
  show rReprO (repO G d) G Q
  rw [e]
  exact ⟨h1, h2, q⟩
end
end DL

namespace DL
open PySem PySem.Spec L2
open PyProof.Rows hiding St
section
variable {X : Cx} {p pos : Pos} {e : Expr} {ts : TDA}
theorem bc_listV (hm : X.mg "list" = none) (ha : DA X [e] ts) (hg : Gl X "list" := by rfl) (he : starEach [e] X.env = (false, eval e X.env) :: starEach [] X.env := by rfl) : DE X (.Call (.Name "list" p) [e] [] pos) (dCB rListV ts) :=
  de_ctF call_list_of (cd_listV X.K) hm (by decide +kernel) ha hg (by decide) (by decide) he (by rfl)
/-! str(int), str(text) -/
def rStrD : List D → HD → Post → Prop := fun ds G Q => match ds with
  | [.int i] => i.natAbs.log2 < 1920 ∧ Q (.str (toString i)) G
  | [.str x] => Q (.str x) G
  | _ => False
theorem cd_str (K : PySem.W.Frag) : CallD K (fun xs H Q => (∃ i, xs = [.int i] ∧ i.natAbs.log2 < 1920 ∧ Q (.str (toString i)) H) ∨ ∃ a, xs = [.str a] ∧ Q (.str a) H) rStrD := fun G H ds vs Q Q' s k f q => by
  unfold rStrD at q
  split at q
  · obtain ⟨v, rfl, kd⟩ := one_of k
    cases kd
    exact .inl ⟨_, rfl, q.1, f _ _ (.of (d := .str _) rfl s .refl q.2)⟩
  · obtain ⟨v, rfl, kd⟩ := one_of k
    cases kd
    exact .inr ⟨_, rfl, f _ _ (.of (d := .str _) rfl s .refl q)⟩
  · exact q.elim
theorem bc_str (hm : X.mg "str" = none) (ha : DA X [e] ts) (hg : Gl X "str" := by rfl) (he : starEach [e] X.env = (false, eval e X.env) :: starEach [] X.env := by rfl) : DE X (.Call (.Name "str" p) [e] [] pos) (dCB rStrD ts) :=
  de_ct (CallR.or call_str_int SkE.call_str_str) (cd_str X.K) hm (by decide +kernel) ha hg (by decide) (by decide) he (by rfl)
theorem r_strI {G : HD} {Q : Post} {i : Int} : rStrD [.int i] G Q = (i.natAbs.log2 < 1920 ∧ Q (.str (toString i)) G) := propext ⟨fun h => h, fun h => h⟩
end
/-- a block behind an if: its reading is not opened by itself -/
def sSeqJ (t u : TDS) : TDS := sSeq t u
theorem dss_consJ {X : Cx} {st : Stmt} {sts : List Stmt} {t u : TDS} (h : DS X st t) (k : DSs X sts u) : DSs X (st :: sts) (sSeqJ t u) := dss_cons h k
theorem seqJ_in {t u : TDS} {W : DW} {E : DEnds} {σ : DSt} {G : HD} (h : sSeq t u W E σ G) : sSeqJ t u W E σ G := h
theorem q_seqJ {t u : TDS} {W : DW} {E : DEnds} {σ : DSt} {G : HD} : sSeqJ t u W E σ G = t W { E with nx := fun σ' G' => u W E σ' G' } σ G := q_seq
/-- the ways of an if come together in I -/
theorem seqJ {t u : TDS} {W : DW} {E : DEnds} {σ : DSt} {G : HD} (I : DSt → HD → Prop) (h1 : ∀ k : DSt → HD → Prop, (∀ σ' G', I σ' G' → k σ' G') → t W { E with nx := k } σ G) (h2 : ∀ σ' G', I σ' G' → u W E σ' G') : sSeqJ t u W E σ G := h1 _ h2
/-! ### for the plain laws: places that change, picks, powers of ten -/
def Fr (A : List Addr) (G G' : HD) : Prop := ∀ b o, b ∉ A → G b = some o → G' b = some o
theorem Fr.refl {A : List Addr} {G : HD} : Fr A G G := fun _ _ _ h => h
theorem Fr.trans {A : List Addr} {X Y Z : HD} (x : Fr A X Y) (y : Fr A Y Z) : Fr A X Z := fun b o n h => y b o n (x b o n h)
theorem Fr.mono {A B : List Addr} {X Y : HD} (x : Fr A X Y) (h : ∀ a, a ∈ A → a ∈ B) : Fr B X Y := fun b o n h' => x b o (fun z => n (h b z)) h'
theorem Fr.le {A : List Addr} {X Y : HD} (x : Le X Y) : Fr A X Y := fun b o _ h => x b o h
theorem Fr.put {A : List Addr} {a : Addr} {G : HD} {o : MO} (h : a ∈ A) : Fr A G (put G a o) := fun b u n e => (put_ne (by rintro rfl; exact n h)).trans e
theorem Fr.putN {A : List Addr} {a : Addr} {G : HD} {o : MO} (h : G a = none) : Fr A G (DL.put G a o) := .le (Le.newB h)
theorem Fr.del {A : List Addr} {a : Addr} {G : HD} (h : a ∈ A) : Fr A G (delG G a) := fun b u n e => (if_neg (by rintro rfl; exact n h)).trans e
theorem ne_o {G : HD} {x y : Addr} {u v : MO} (hx : G x = some u) (hy : G y = some v) (h : u ≠ v) : x ≠ y := by
  rintro rfl; rw [hx] at hy; cases hy; exact h rfl
theorem pickP {ds : List D} {r : Int} {G : HD} {Q : Post} (h0 : 0 ≤ r) (h1 : r < ds.length) (h : ∀ x, x ∈ ds → Q x G) : optP (atI ds r) G Q := by
  obtain ⟨x, hx, e⟩ := pick h0 h1
  rw [e]; exact h x hx
def intIn (lo hi : Int) : D → Bool
  | .int v => decide (lo ≤ v) && decide (v ≤ hi)
  | _ => false
theorem pickN {ds : List D} {r : Int} {G : HD} {Q : Post} (lo hi : Int) (h0 : 0 ≤ r) (h1 : r < ds.length) (hb : ds.all (intIn lo hi) = true) (h : ∀ v, lo ≤ v → v ≤ hi → Q (.int v) G) : optP (atI ds r) G Q :=
  pickP h0 h1 fun x hx => by
    have := List.all_eq_true.mp hb x hx
    unfold intIn at this
    split at this
    · rw [Bool.and_eq_true, decide_eq_true_eq, decide_eq_true_eq] at this
      exact h _ this.1 this.2
    · cases this
theorem cp2 : CPow 10 2 = True := propext ⟨fun _ => trivial, fun _ => ⟨by omega, by omega, by omega⟩⟩
theorem pw2 : (10 : Int) ^ (2 : Int).toNat = 100 := by decide
theorem cp3 : CPow 10 3 = True := propext ⟨fun _ => trivial, fun _ => ⟨by omega, by omega, by omega⟩⟩
theorem pw3 : (10 : Int) ^ (3 : Int).toNat = 1000 := by decide
theorem cp4 : CPow 10 4 = True := propext ⟨fun _ => trivial, fun _ => ⟨by omega, by omega, by omega⟩⟩
theorem pw4 : (10 : Int) ^ (4 : Int).toNat = 10000 := by decide
theorem cp5 : CPow 10 5 = True := propext ⟨fun _ => trivial, fun _ => ⟨by omega, by omega, by omega⟩⟩
theorem pw5 : (10 : Int) ^ (5 : Int).toNat = 100000 := by decide
theorem cp6 : CPow 10 6 = True := propext ⟨fun _ => trivial, fun _ => ⟨by omega, by omega, by omega⟩⟩
theorem pw6 : (10 : Int) ^ (6 : Int).toNat = 1000000 := by decide
theorem cp7 : CPow 10 7 = True := propext ⟨fun _ => trivial, fun _ => ⟨by omega, by omega, by omega⟩⟩
theorem pw7 : (10 : Int) ^ (7 : Int).toNat = 10000000 := by decide
theorem cp8 : CPow 10 8 = True := propext ⟨fun _ => trivial, fun _ => ⟨by omega, by omega, by omega⟩⟩
theorem pw8 : (10 : Int) ^ (8 : Int).toNat = 100000000 := by decide
theorem cp9 : CPow 10 9 = True := propext ⟨fun _ => trivial, fun _ => ⟨by omega, by omega, by omega⟩⟩
theorem pw9 : (10 : Int) ^ (9 : Int).toNat = 1000000000 := by decide
theorem cp10 : CPow 10 10 = True := propext ⟨fun _ => trivial, fun _ => ⟨by omega, by omega, by omega⟩⟩
theorem pw10 : (10 : Int) ^ (10 : Int).toNat = 10000000000 := by decide
theorem cp12 : CPow 10 12 = True := propext ⟨fun _ => trivial, fun _ => ⟨by omega, by omega, by omega⟩⟩
theorem pw12 : (10 : Int) ^ (12 : Int).toNat = 1000000000000 := by decide
theorem cp15 : CPow 10 15 = True := propext ⟨fun _ => trivial, fun _ => ⟨by omega, by omega, by omega⟩⟩
theorem pw15 : (10 : Int) ^ (15 : Int).toNat = 1000000000000000 := by decide
theorem cp18 : CPow 10 18 = True := propext ⟨fun _ => trivial, fun _ => ⟨by omega, by omega, by omega⟩⟩
theorem pw18 : (10 : Int) ^ (18 : Int).toNat = 1000000000000000000 := by decide
theorem cp20 : CPow 10 20 = True := propext ⟨fun _ => trivial, fun _ => ⟨by omega, by omega, by omega⟩⟩
theorem pw20 : (10 : Int) ^ (20 : Int).toNat = 100000000000000000000 := by decide
theorem cp24 : CPow 10 24 = True := propext ⟨fun _ => trivial, fun _ => ⟨by omega, by omega, by omega⟩⟩
theorem pw24 : (10 : Int) ^ (24 : Int).toNat = 1000000000000000000000000 := by decide
theorem cp28 : CPow 10 28 = True := propext ⟨fun _ => trivial, fun _ => ⟨by omega, by omega, by omega⟩⟩
theorem pw28 : (10 : Int) ^ (28 : Int).toNat = 10000000000000000000000000000 := by decide
theorem cp29 : CPow 10 29 = True := propext ⟨fun _ => trivial, fun _ => ⟨by omega, by omega, by omega⟩⟩
theorem pw29 : (10 : Int) ^ (29 : Int).toNat = 100000000000000000000000000000 := by decide
theorem cp30 : CPow 10 30 = True := propext ⟨fun _ => trivial, fun _ => ⟨by omega, by omega, by omega⟩⟩
theorem pw30 : (10 : Int) ^ (30 : Int).toNat = 1000000000000000000000000000000 := by decide
end DL

namespace DX
open PySem PySem.Spec PySem.W PySem.Calls PySem.HandSPX
/-! ### what a built-in class gives to own ones over it whose __init__ is their own -/
/-- making of one, up to its own __init__; and the class's __init__ on it -/
structure XBase (newId initId : String) (tl : List Value) : Prop where
  call : ∀ {prog : Program} {w : World} {A : Around} {R : Result → Shared → Prop} {s : Shared} {nm q : PySem.Str} {C N : Addr} {bs bm : List Value} {hdct : Bool} {sn : List PySem.Str} {sub : List Value} {ab : Bool} {col : Option Bool} {dd : Option Addr}
      {k0 k1 k2 k3 k5 : Option Value} {us : List Value} {fI : Addr}, (∀ T : String, bm.contains (.type T) = tl.contains (.type T)) → s.heap.get? C = some (excClassObj nm q C N bs bm hdct sn sub ab col dd k0 k1 k2 k3 k5 newId) →
    W.Looks (model prog w) s.heap (typeLookup (.ref C) "__init__") (some (.ref fI)) → (∀ o, W.Looks (model prog w) s.heap (bindSpecial (.ref fI) o) (.ref fI, [o])) → us.length ≤ sizeLine →
    codeAny (model prog w) (A.under (.builtin "type.__call__" ⟨.ref C :: us, []⟩)) (.call (.ref fI) ⟨.ref (s.heap.objs.size + 1) :: us, []⟩) (W.InitBack (s.heap.objs.size + 1) R) { s with heap := (s.heap.push (W.kdv_tup us)).push (excO C s.heap.objs.size) } →
    codeAny (model prog w) A (.call (.ref C) ⟨us, []⟩) R s
  init : ∀ {prog : Program} {w : World} {A : Around} {R : Result → Shared → Prop} {s : Shared} {nm q : PySem.Str} {C N : Addr} {bs bm : List Value} {hdct : Bool} {sn : List PySem.Str} {sub : List Value} {ab : Bool} {col : Option Bool} {dd : Option Addr}
      {k0 k1 k2 k3 k5 : Option Value} {us : List Value} {e t0 : Addr}, (∀ T : String, bm.contains (.type T) = tl.contains (.type T)) → s.heap.get? C = some (excClassObj nm q C N bs bm hdct sn sub ab col dd k0 k1 k2 k3 k5 newId) →
    s.heap.get? e = some (excO C t0) → us.length ≤ sizeLine →
    (∀ h' t1, (∀ b o, b ≠ e → s.heap.get? b = some o → h'.get? b = some o) → h'.get? e = some (excO C t1) → R (.ok (.ret .none)) { s with heap := h' }) →
    codeAny (model prog w) A (.call (.builtin initId) ⟨.ref e :: us, []⟩) R s
theorem XBase.of {B newId initId : String} {tl : List Value} (F : ExcBaseFacts B newId initId tl) : XBase newId initId tl :=
  ⟨fun {_ _ _ _ s _ _ _ _ _ _ _ _ _ _ _ _ _ _ _ _ _ _ _} hT hC hi hb hl hq => by obtain ⟨hp, g, d, t, os⟩ := s; exact call_own F hT hC hi hb hl hq,
   fun {_ _ _ _ s _ _ _ _ _ _ _ _ _ _ _ _ _ _ _ _ _ _ _ _} hT hC he hl hq => by obtain ⟨hp, g, d, t, os⟩ := s; exact init_base F hT hC he hl hq⟩
/-! ### .. where __new__ is another class's (KeyError has LookupError's) -/
section
variable {prog : Program} {w : World} {A : Around} {E : Value → Shared → Prop} {R : Result → Shared → Prop} {hp : Heap} {g : Array GenState} {d : Drawn} {t : Nat} {os : OsState}
variable {nm q : PySem.Str} {C N : Addr} {bs bm tL : List Value} {hdct : Bool} {sn : List PySem.Str} {sub : List Value} {ab : Bool} {col : Option Bool} {dd : Option Addr} {k0 k1 k2 k3 k5 : Option Value} {L B newId iL initId : String}
abbrev hasT (bm : List Value) (T : String) : Bool := bm.contains (.type T)
theorem hasT_ref {T : String} {b : Bool} (h : hasT bm T = b) : (Value.ref C :: bm).contains (.type T) = b := by rw [List.contains_cons, show bm.contains (.type T) = b from h]; exact Bool.false_or b
theorem kx_check_new (F : ExcBaseFacts L newId iL tL) (hL : hasT bm L = true) {us : List Value} {Q : Unit → Shared → Prop} (hC : hp.get? C = some (excClassObj nm q C N bs bm hdct sn sub ab col dd k0 k1 k2 k3 k5 newId))
    (hq : Q () ⟨hp, g, d, t, os⟩) : wpAny (model prog w) A (checkBuiltinCall newId ⟨.ref C :: us, []⟩) Q E ⟨hp, g, d, t, os⟩ := by
  have c1 := hasT_ref (C := C) hL
  have c2 := F.noStar
  simp only [F.newRow, F.newKind, F.newSplit, checkBuiltinCall]
  repeat (first | refine wpAny_madeBy_exc hC ?_ | refine wpAny_loadPart_at hC ?_ | (refine wpAny_isSubtype_exc hC ?_; rw [c1]) | refine wpAny_staticBase_exc hC ?_ | simp only [Bool.false_eq_true, bne_self_eq_false, if_false] | wp_step)
  exact hq
theorem kx_new (F : ExcBaseFacts L newId iL tL) (hL : hasT bm L = true) (hA : hasT bm "AttributeError" = false) (hN : hasT bm "NameError" = false) {us : List Value} (hC : hp.get? C = some (excClassObj nm q C N bs bm hdct sn sub ab col dd k0 k1 k2 k3 k5 newId))
    (hl : us.length ≤ sizeLine) (hq : R (.ok (.ret (.ref (hp.objs.size + 1)))) ⟨(hp.push (W.kdv_tup us)).push (excO C hp.objs.size), g, d, t, os⟩) :
    codeAny (model prog w) A (.builtin newId ⟨.ref C :: us, []⟩) R ⟨hp, g, d, t, os⟩ := by
  have c0 := F.ends
  have c1 := hasT_ref (C := C) hL
  have c2 := hasT_ref (C := C) hA
  have c3 := hasT_ref (C := C) hN
  refine codeAny_builtinAt F.entry ?_
  unfold Builtin.«BaseException.__new__»
  refine wpAt_bind ?_
  change wpAt _ _ _ (stack >>= _) _ _ _
  refine wpAt_bind (wpAt_stack fun p0 below0 => wpAt_of_wpAny ?_)
  wp_walk
  refine wpAt_of_wpAny ?_
  rw [F.owner]
  repeat (first | with_reducible refine wpAny_loadPart_at hC ?_ | with_reducible refine wpAny_madeHere_exc F.canon hC ?_ | (with_reducible refine wpAny_isSubtype_exc hC ?_; first | rw [c1] | rw [c2] | rw [c3]) | wp_step)
  change R _ _
  rw [Heap.size_push]
  exact hq
theorem kx_type_call (F : ExcBaseFacts L newId iL tL) (hL : hasT bm L = true) (hA : hasT bm "AttributeError" = false) (hN : hasT bm "NameError" = false) {us : List Value} {fI : Addr} {Q : Fin → Shared → Prop}
    (hC : hp.get? C = some (excClassObj nm q C N bs bm hdct sn sub ab col dd k0 k1 k2 k3 k5 newId)) (hi : W.Looks (model prog w) hp (typeLookup (.ref C) "__init__") (some (.ref fI))) (hb : ∀ o, W.Looks (model prog w) hp (bindSpecial (.ref fI) o) (.ref fI, [o])) (hl : us.length ≤ sizeLine)
    (hq : codeAny (model prog w) A (.call (.ref fI) ⟨.ref (hp.objs.size + 1) :: us, []⟩) (fun r s' => match r with | .ok (.ret v) => v = .none ∧ Q (.done (.ret (.ref (hp.objs.size + 1)))) s' | .ok _ => False | .error e => E e s') ⟨(hp.push (W.kdv_tup us)).push (excO C hp.objs.size), g, d, t, os⟩) :
    wpAny (model prog w) A (Builtin.«type.__call__» ⟨.ref C :: us, []⟩) Q E ⟨hp, g, d, t, os⟩ := by
  repeat (first | with_reducible refine wpAny_madeBy_exc hC ?_ | with_reducible refine wpAny_loadPart_at hC ?_ | wp_step)
  refine codeAny_call_builtin_code (Code.quiet_builtin _ F.quiet) (kx_check_new F hL hC (kx_new F hL hA hN hC hl ?_))
  change wpAny _ _ _ _ _ _
  have old : ∀ b o, hp.get? b = some o → ((hp.push (W.kdv_tup us)).push (excO C hp.objs.size)).get? b = some o := fun b o z => Heap.get?_push_of_some _ (Heap.get?_push_of_some _ z)
  have hC2 := old _ _ hC
  have atE : ((hp.push (W.kdv_tup us)).push (excO C hp.objs.size)).get? (hp.objs.size + 1) = some (excO C hp.objs.size) := by heap_get
  have own : (Value.ref C :: bm).contains (.ref C) = true := by simp
  have hi2 := hi.keeps old
  have hb2 := (hb (.ref (hp.objs.size + 1))).keeps old
  unfold isInstance
  repeat (first | with_reducible refine wpAny_loadPart_at atE ?_ | (with_reducible refine wpAny_isSubtype_exc hC2 ?_; rw [own]) | wp_step)
  change wpAny _ _ (typeLookup (.ref C) _) _ _ _
  refine hi2.at (wpAny_holding (wpAny_bind (hb2.at (wpAny_bind (wpAny_call (codeAny_mono hq fun r s' z => ?_))))))
  rcases r with e | (v | _ | _ | _) <;> first | exact z | exact z.elim | skip
  obtain ⟨rfl, z⟩ := z
  first | exact wpAny_pure (wpAny_pure z) | (wp_walk; exact z)
theorem kx_call (F : ExcBaseFacts L newId iL tL) (hL : hasT bm L = true) (hA : hasT bm "AttributeError" = false) (hN : hasT bm "NameError" = false) {us : List Value} {fI : Addr}
    (hC : hp.get? C = some (excClassObj nm q C N bs bm hdct sn sub ab col dd k0 k1 k2 k3 k5 newId)) (hi : W.Looks (model prog w) hp (typeLookup (.ref C) "__init__") (some (.ref fI))) (hb : ∀ o, W.Looks (model prog w) hp (bindSpecial (.ref fI) o) (.ref fI, [o])) (hl : us.length ≤ sizeLine)
    (hq : codeAny (model prog w) (A.under (.builtin "type.__call__" ⟨.ref C :: us, []⟩)) (.call (.ref fI) ⟨.ref (hp.objs.size + 1) :: us, []⟩) (W.InitBack (hp.objs.size + 1) R) ⟨(hp.push (W.kdv_tup us)).push (excO C hp.objs.size), g, d, t, os⟩) :
    codeAny (model prog w) A (.call (.ref C) ⟨us, []⟩) R ⟨hp, g, d, t, os⟩ := by
  have l1 := tc_lookup
  have l2 := tc_bind (.ref C)
  have isT : (⟨hp, g, d, t, os⟩ : Shared).TypeIs (.ref C) "type" := ⟨_, hC, rfl⟩
  refine codeAny_of_tree ?_
  change wpAny _ _ (callAny (.ref C) _) _ _ _
  repeat (any_goals (first | assumption | with_reducible refine wpAny_loadPart_at hC ?_ | wp_step))
  refine ⟨rfl, codeAny_call_builtin_at (Code.quiet_builtin _ (by decide +kernel)) entry_typeCall (wpAny_check_type_call_sub hC (kx_type_call F hL hA hN hC hi hb hl (codeAny_mono hq fun r s' z => ?_)))⟩
  rcases r with e | (v | _ | _ | _) <;> exact z
theorem kx_init (G : PyProof.Rows.ExcClass B newId initId) (hB : hasT bm B = true) {e t0 : Addr} {us : List Value} (hC : hp.get? C = some (excClassObj nm q C N bs bm hdct sn sub ab col dd k0 k1 k2 k3 k5 newId)) (he : hp.get? e = some (excO C t0)) (hl : us.length ≤ sizeLine)
    (hq : ∀ h' t1, (∀ b o, b ≠ e → hp.get? b = some o → h'.get? b = some o) → h'.get? e = some (excO C t1) → R (.ok (.ret .none)) ⟨h', g, d, t, os⟩) :
    codeAny (model prog w) A (.call (.builtin initId) ⟨.ref e :: us, []⟩) R ⟨hp, g, d, t, os⟩ := by
  have c1 := hasT_ref (C := C) hB
  have c2 := G.notStar
  refine codeAny_call_builtin G.init.plain G.initEntry ?_
  simp only [checkBuiltinCall, G.initSplit, G.initKind, G.initSig]
  repeat (first | (with_reducible refine wpAny_loadPart_at he ?_) | with_reducible refine wpAny_loadPart_at hC ?_ | (with_reducible refine wpAny_isSubtype_exc hC ?_; rw [c1]) | wp_step)
  refine wpAny_onRaise ?_
  rw [show ∀ (a b : String) (n : Nat), Bind.check ⟨.positional, "*", B, .self, [⟨"args", .varPos, false⟩]⟩ a b n (List.map (fun y => y.fst) ({ pos := Value.ref e :: us } : Args).kw) = pure () from fun a b n => check_star_args _ _ _ _ _ _]
  refine wpAny_pure ?_
  wp_walk
  refine hq _ hp.objs.size (fun b o hb ho => ?_) ?_
  · rw [Heap.get?_update_other _ _ (Ne.symm hb)]; exact Heap.get?_push_of_some _ ho
  · rw [Heap.get?_update_self _ (Heap.get?_push_of_some _ he) rfl]; rfl
end
theorem xb_KeyError : XBase "LookupError.__new__" "KeyError.__init__" [.type "KeyError", .type "LookupError", .type "Exception", .type "BaseException", .type "object"] :=
  ⟨fun {_ _ _ _ s _ _ _ _ _ _ _ _ _ _ _ _ _ _ _ _ _ _ _} hT hC hi hb hl hq => by obtain ⟨hp, g, d, t, os⟩ := s; exact kx_call PySem.F.excBase_LookupError ((hT _).trans (by decide +kernel)) ((hT _).trans (by decide +kernel)) ((hT _).trans (by decide +kernel)) hC hi hb hl hq,
   fun {_ _ _ _ s _ _ _ _ _ _ _ _ _ _ _ _ _ _ _ _ _ _ _ _} hT hC he hl hq => by obtain ⟨hp, g, d, t, os⟩ := s; exact kx_init PyProof.Rows.excClass_KeyError ((hT _).trans (by decide +kernel)) hC he hl hq⟩
theorem st_KeyError : StoreFacts "KeyError" [.type "KeyError", .type "LookupError", .type "Exception", .type "BaseException", .type "object"] "object.__setattr__" "object" :=
  { mro := by kernel_rfl
    slot := .of (n := "__setattr__") (owner := "object") (by rw [typeLookup_type, builtinLookup_eq_fast]; kernel_rfl) (by decide +kernel) (by decide +kernel) (by decide +kernel) (by first | exact .inl (by decide +kernel) | exact .inr (by decide +kernel)) (by rw [isSubtype_type]; kernel_rfl)
    entry := PySem.F.store_LookupError.entry
    kind := PySem.F.store_LookupError.kind
    split := PySem.F.store_LookupError.split
    hasOwner := by decide +kernel
    args := PySem.F.store_LookupError.args
    passes := fun self => by kernel_rfl }
end DX
/-! ### exceptions with an own __init__ that calls its base's -/
namespace DX
open PySem PySem.Spec PySem.W PySem.Calls PyProof.Rows PySem.HandSPX
section
open Builtin Builtin.ObjectAttr
variable {prog : Program} {w : World} {A : Around} {R : Result → Shared → Prop} {hp : Heap} {g : Array GenState} {d : Drawn} {t : Nat} {os : OsState}
variable {K : Frag} {name : PySem.Str} {tk : Tok} {v : Value} {x C dx : Addr} {fv : Array Value} {cd : ClassData} {B : String} {bmB : List Value}
theorem taker0 (ha : findIn K (.ref C) name = some none) : takerIn K C name = some none := by unfold takerIn; rw [ha]; rfl
/-- the first field -/
theorem osa1 (SF : StoreFacts B bmB "object.__setattr__" "object") (X : K.In hp) (hx : hp.get? x = some { cls := .ref C, data := .fields fv }) (hcd : clsIn K C = some cd) (hh : cd.hasDict = true) (ho : excOver K C bmB = true) (ha : findIn K (.ref C) name = some none)
    (hq : ∀ h' tk' dx, (∀ b o, b ≠ x → hp.get? b = some o → h'.get? b = some o) → hp.objs.size ≤ dx → dx ≠ x → h'.get? x = some { cls := .ref C, dict := some dx, data := .fields fv } → h'.Ns1 dx (fun y => if y = name then some v else none) →
      R (.ok (.ret .none)) ⟨h', g, d, tk', os⟩) : codeAny (model prog w) A (.call (.builtin "object.__setattr__") ⟨[.ref x, .str name tk, v], []⟩) R ⟨hp, g, d, t, os⟩ := by
  refine osa_openX (s := ⟨hp, g, d, t, os⟩) SF X (show InstAt hp x _ C none from ⟨hx, rfl, rfl, trivial⟩) ho (taker0 ha) fun b => ?_
  have far : hp.objs.size ≠ x := (Nat.ne_of_lt (Heap.lt_size hx)).symm
  have lc : Looks (model prog w) hp (classData C) cd := looks_clsIn X hcd
  cases cd with
  | mk nm bs mro ns qn hd sn sb ab col del =>
  have hh' : hd = true := hh
  subst hh'
  unfold storeInOwnDict ownDictForStores
  repeat (first | with_reducible refine store_in_new ?_ ?_ | with_reducible refine wpAny_loadPart_at hx ?_ | with_reducible refine lc.at ?_ | wp_step)
  · exact ⟨_, #[], _, (Heap.get?_update_ne _ _ _ _ far).trans (Heap.get?_push_at rfl rfl), rfl, fun e he => absurd he (by simp), fun _ => rfl⟩
  · intro h2 t2 hn2 sb2
    refine hq h2 t2 hp.objs.size (fun c o hc e => ?_) (Nat.le_refl _) far ?_ hn2
    · exact (sb2.2 c (Nat.ne_of_lt (Heap.lt_size e))).trans ((Heap.get?_update_ne _ _ _ _ hc).trans (Heap.get?_push_of_some _ e))
    · exact (sb2.2 x far.symm).trans (Heap.get?_update_self _ (Heap.get?_push_of_some _ hx) rfl)
/-- a further one -/
theorem osa2 {m0 : PySem.Str → Option Value} {nl : List PySem.Str} (SF : StoreFacts B bmB "object.__setattr__" "object") (X : K.In hp) (hx : hp.get? x = some { cls := .ref C, dict := some dx, data := .fields fv }) (hns : hp.Ns1 dx m0) (hw : Within m0 nl) (hz : nl.length ≤ 1000)
    (hcd : clsIn K C = some cd) (hh : cd.hasDict = true) (ho : excOver K C bmB = true) (ha : findIn K (.ref C) name = some none)
    (hq : ∀ h' tk', (∀ b o, b ≠ dx → hp.get? b = some o → h'.get? b = some o) → h'.Ns1 dx (fun y => if y = name then some v else m0 y) → R (.ok (.ret .none)) ⟨h', g, d, tk', os⟩) :
    codeAny (model prog w) A (.call (.builtin "object.__setattr__") ⟨[.ref x, .str name tk, v], []⟩) R ⟨hp, g, d, t, os⟩ := by
  obtain ⟨oD, _, _, hD, _⟩ := hns.count hw
  refine osa_openX (s := ⟨hp, g, d, t, os⟩) SF X (show InstAt hp x _ C (some oD) from ⟨hx, rfl, rfl, hD⟩) ho (taker0 ha) fun b => ?_
  have lc : Looks (model prog w) hp (classData C) cd := looks_clsIn X hcd
  cases cd with
  | mk nm bs mro ns qn hd sn sb ab col del =>
  have hh' : hd = true := hh
  subst hh'
  unfold storeInOwnDict ownDictForStores
  repeat (first | with_reducible refine OEX.store_in_old hns hw hz ?_ | with_reducible refine wpAny_loadPart_at hx ?_ | with_reducible refine lc.at ?_ | wp_step)
  intro h2 t2 hn2 sb2
  exact hq h2 t2 (fun c o hc e => (sb2.2 c hc).trans e) hn2
end
/-- what the written part says of such a class -/
structure OexB (K : Frag) (B newId : String) (bmB : List Value) (C : Addr) : Prop where
  ini : excInitIn K C bmB newId = true
  over : excOver K C bmB = true
  hd : hasDictIn K C = true
  sa : findIn K (.ref C) "__setattr__" = some (some (.builtin "object.__setattr__"))
  sf : StoreFacts B bmB "object.__setattr__" "object"
theorem OexB.cd {K : Frag} {B newId : String} {bmB : List Value} {C : Addr} (T : OexB K B newId bmB C) : ∃ cd, clsIn K C = some cd ∧ cd.hasDict = true := by
  obtain ⟨cd, h1, h2⟩ := any_some T.hd
  exact ⟨cd, h1, h2⟩
end DX
namespace DL
open PySem PySem.Spec L2 DX
open PyProof.Rows hiding St
section
variable {X : Cx} {pins : List (Addr × Obj)} {σ : L2.St} {H : Hp} {s : Shared} {a C dx : Addr} {f : Str} {y : V} {u : Value} {fs : List (Str × V)} {Q : Unit → Shared → Prop} {E : Value → Shared → Prop} {A : Around} {B newId : String} {bmB : List Value}
theorem at_ext {H : Hp} {a b : Addr} {φ : Heap → Prop} {u : HO} (ha : H a = some (.ext φ)) (hb : H b = some u) (d : ∀ φ, u ≠ .ext φ) : b ≠ a := fun z => by
  rw [z, ha] at hb; cases hb; exact d _ rfl
theorem ostB1 (T : OexB X.K B newId bmB C) (I : Inv X pins σ H s) (e : H a = some (exo a C none)) (hno : PySem.W.findIn X.K (.ref C) f = some none) (ry : RelV y u)
    (h : ∀ dx s', H dx = none → dx ≠ a → Inv X pins σ (upd (upd H dx (exd dx [(f, y)])) a (exo a C (some dx))) s' → Q () s') : wpAny (model X.prog X.w) A (setAttr (.ref a) f u) Q E s := by
  obtain ⟨cd, c1, c2⟩ := T.cd
  obtain ⟨t1, ho⟩ := exo_at I.hok e
  obtain ⟨hp, g, d, t, os⟩ := s
  refine PySem.W.set_plain I.kIn (show PySem.W.InstAt hp a _ C none from ⟨ho, rfl, rfl, trivial⟩) T.sa (osa1 T.sf I.kIn ho c1 c2 T.over hno fun h' tk' dx k dn dne hx hn => ?_)
  have hnd : H dx = none := I.hok.fresh dn
  have old : ∀ {b : Addr} {o : Obj}, hp.get? b = some o → b ≠ dx := fun q => Nat.ne_of_lt (Nat.lt_of_lt_of_le (Heap.lt_size q) dn)
  have una : ∀ {b : Addr}, H b = none → b ≠ a := by rintro b n rfl; rw [e] at n; cases n
  have same : ∀ {b : Addr} {o : HO}, b ≠ a → H b = some o → upd (upd H dx (exd dx [(f, y)])) a (exo a C (some dx)) b = some o := fun hb q => by rw [upd_ne hb, upd_ne (ne_of_none q hnd)]; exact q
  refine h dx _ hnd dne (I.un (t' := tk') ⟨fun b o q n _ _ => k b o (una n) q, fun b o q n _ _ => ⟨o.slots, k b o (una n) q⟩, fun b o q n _ => ?_, fun b o q _ => ?_, fun b xs q => same (at_ext e q fun _ z => nomatch z) q, fun b o v q => same (at_ext e q fun _ z => nomatch z) q,
    fun b ps q => ⟨#[], by rw [same (at_ext e q fun _ z => nomatch z) q]; simp⟩⟩ fun b o q => ?_)
  · rw [upd_ne (una n), upd_ne (old q)]; exact n
  · by_cases hb : b = a
    · exact ⟨_, hb ▸ hx⟩
    · exact ⟨o, k b o hb q⟩
  · by_cases hb : b = a
    · subst hb
      rw [upd_same] at q
      cases q
      exact exo_ok hx
    · rw [upd_ne hb] at q
      by_cases hd : b = dx
      · subst hd
        rw [upd_same] at q
        cases q
        exact exd_ok hn (relO_put (fs := []) ry fun g => True.intro)
      · rw [upd_ne hd] at q
        refine (I.hok b o q).stay (fun c v hc z => k c v (hc.elim (fun e => e ▸ hb) fun hc => at_ext e hc fun _ z => nomatch z) z) (fun c hc => same (at_ext e hc fun _ z => nomatch z) hc) fun c xs hc => same (at_ext e hc fun _ z => nomatch z) hc
theorem ostB2 (T : OexB X.K B newId bmB C) (I : Inv X pins σ H s) (e : H a = some (exo a C (some dx))) (ed : H dx = some (exd dx fs)) (hl : fs.length ≤ 900) (hno : PySem.W.findIn X.K (.ref C) f = some none) (ry : RelV y u)
    (h : ∀ s', Inv X pins σ (upd H dx (exd dx ((f, y) :: fs))) s' → Q () s') : wpAny (model X.prog X.w) A (setAttr (.ref a) f u) Q E s := by
  obtain ⟨cd, c1, c2⟩ := T.cd
  obtain ⟨t1, ho⟩ := exo_at I.hok e
  obtain ⟨mA, hns, rel⟩ := exd_at I.hok ed
  obtain ⟨hp, g, d, t, os⟩ := s
  obtain ⟨oD, _, _, hD, _⟩ := hns.count (within_of rel)
  refine PySem.W.set_plain I.kIn (show PySem.W.InstAt hp a _ C (some oD) from ⟨ho, rfl, rfl, hD⟩) T.sa (osa2 T.sf I.kIn ho hns (within_of rel) (by rw [List.length_map]; omega) c1 c2 T.over hno fun h' tk' k hn => ?_)
  obtain ⟨o, _, _, e', _⟩ := id hn
  exact h _ (I.write (t' := tk') (x := dx) (e := dx) (o := exd dx ((f, y) :: fs)) (by rw [ed]; exact True.intro) (.inl rfl) k ⟨o, e'⟩ (exd_ok hn (relO_put ry rel)))
/-- the base's __init__ on it: nothing of it is told -/
theorem oinitB {initId : String} {us : List Value} {Q : Value → Shared → Prop} (T : OexB X.K B newId bmB C) (FB : DX.XBase newId initId bmB) (I : Inv X pins σ H s) (e : H a = some (exo a C none)) (hl : us.length ≤ sizeLine) (h : ∀ s', Inv X pins σ H s' → Q .none s') :
    wpAny (model X.prog X.w) A (call (.builtin initId) (.ref a :: us)) Q E s := by
  obtain ⟨nm, N, q, bs, bm, hdct, sn, sub, ab, col, dd, k0, k1, k2, k3, k5, hC, hT⟩ := PySem.W.excInit_of I.kIn T.ini
  obtain ⟨t1, ho⟩ := exo_at I.hok e
  obtain ⟨hp, g, d, t, os⟩ := s
  refine wpAny_call (FB.init (s := ⟨hp, g, d, t, os⟩) hT hC ho hl fun h' t2 k hx => ?_)
  have J := I.write (t' := t) (x := a) (e := a) (o := exo a C none) (by rw [e]; exact True.intro) (.inl rfl) k ⟨_, hx⟩ (exo_ok hx)
  have eu : upd H a (exo a C none) = H := by
    funext b
    by_cases hb : b = a
    · rw [hb, upd_same, e]
    · rw [upd_ne hb]
  exact h _ (eu ▸ J)
end
end DL

namespace DL
open PySem PySem.Spec L2 DX
open PyProof.Rows hiding St
/-! ### __init__ of such a class -/
/-- how the base's __init__ is reached: by a built-in class's name, or an own class's -/
structure BaseI (K : PySem.W.Frag) (mg : Str → Option Value) (b : Str) (initId : String) : Prop where
  ex : (∃ T : String, mg b = none ∧ bootBuiltins b = some (.type T) ∧ b ≠ "__name__" ∧ typeOf (.type T) = pure (.type "type") ∧ Manifest.isStub T = false ∧ PySem.W.findCls K (.type T) (.type "type") "__init__" = some (.val (.builtin initId))) ∨
    ∃ W, mg b = some (.ref W) ∧ PySem.W.specialIn K (.ref W) "__getattribute__" = some (some (.builtin "type.__getattribute__")) ∧ PySem.W.readsIn K W (.type "type") = true ∧ PySem.W.findCls K (.ref W) (.type "type") "__init__" = some (.val (.builtin initId))
/-- an exception being made, or of what it holds so far -/
def tBin (K : PySem.W.Frag) (C : Addr) (ta : TA) : TE := fun σ H Q => ta σ H fun vs H1 => ∃ (a : Addr) (ws : List V), vs = .ref a :: ws ∧ ws.length ≤ 1000 ∧ H1 a = some (exo a C none) ∧ Q .non H1
def tSt (f : Str) (C : Addr) (to te : TE) : TS := fun D σ H => te σ H fun y H1 => to σ H1 fun x H2 => ∃ a : Addr, x = .ref a ∧
  ((H2 a = some (exo a C none) ∧ ∀ dx, H2 dx = none → dx ≠ a → D.nx σ (upd (upd H2 dx (exd dx [(f, y)])) a (exo a C (some dx)))) ∨
    ∃ (dx : Addr) (fs : List (Str × V)), H2 a = some (exo a C (some dx)) ∧ H2 dx = some (exd dx fs) ∧ fs.length ≤ 900 ∧ D.nx σ (upd H2 dx (exd dx ((f, y) :: fs))))
section
variable {X : Cx} {o e : Expr} {es : List Expr} {to te : TE} {ta : TA} {f b : Str} {p p' p1 p2 pos : Pos} {B newId initId : String} {bmB : List Value} {C : Addr}
theorem pe_bin {pl : Sem Bool} (T : OexB X.K B newId bmB C) (FB : DX.XBase newId initId bmB) (BI : BaseI X.K X.mg b initId) (hg : Gl X b) (ha : PA X (e :: es) ta) (hh : PySem.W.handedIn (.builtin initId) = true)
    (hc : eval (.Call (.Attribute (.Name b p1) "__init__" p2) (e :: es) [] pos) X.env = (do
      let ov ← eval (.Name b p1) X.env
      standAt p2.atName
      let (f, first) ← holding [ov] (getMethod ov "__init__" pl)
      callWith pos f first (backTo pos (starEach (e :: es) X.env)) (backToKw pos (keywordEach [] X.env))) := by rfl)
    (hdb : (b == ("__debug__" : Str)) = false := by decide) (he : starEach (e :: es) X.env = (false, eval e X.env) :: starEach es X.env := by rfl) (hpl : (backTo pos (starEach es X.env)).any (·.1) = false := by rfl) :
    PE X (.Call (.Attribute (.Name b p1) "__init__" p2) (e :: es) [] pos) (tBin X.K C ta) := by
  refine ⟨fun pins s σ H Q I h => ?_⟩
  have fin : ∀ s0, Inv X pins σ H s0 → wpAny (model X.prog X.w) X.A (callWith pos (Value.builtin initId) [] (backTo pos (starEach (e :: es) X.env)) []) (EP X pins σ Q) X.xe s0 := fun s0 I0 =>
    PyProof.Rows.callWith_method1 (thn (ha.run pos pins _ σ H _ I0 h) fun us s1 ⟨vs, H1, I1, r1, a, ws, ev, hl, ea, q⟩ => by
      subst ev
      cases r1 with
      | @cons _ u0 _ ur ra rw' =>
        obtain rfl : u0 = Value.ref a := ra
        exact oinitB T FB I1 ea (by rw [← Paired.length rw', sizeLine_eq]; omega) fun s' J => ⟨.non, H1, J, rfl, q⟩) he hpl
  obtain ⟨m, fr⟩ := I.fr
  rcases BI.ex with ⟨Ty, b1, b2, b3, b4, b5, b6⟩ | ⟨W, b1, b2, b3, b4⟩
  · exact PySem.W.methodCall_KW (ld_blt I hg b1 b2 (PySem.W.method_type fr I.ok.mod.kin b4 b5 b6 hh (fin _ (I.tok _))) b3 hdb) hc
  · exact PySem.W.methodCall_KW (ld_glob I hg b1 (PySem.W.method_cls I.kIn b2 (PySem.W.cls_value I.kIn b3 b4 hh (fin _ (I.tok _)))) hdb) hc
theorem ps_stB (T : OexB X.K B newId bmB C) (hno : PySem.W.findIn X.K (.ref C) f = some none) (ho : PE X o to) (he : PE X e te) (hs : swapsWith e (some (.Attribute o f p')) pos.line X.env = pure false := by rfl) : PS X (.Assign [.Attribute o f p'] e pos) (tSt f C to te) := by
  refine ⟨fun pins s σ H D I h => ?_⟩
  refine plainObj_wpAny_Assign_Attribute (thn (he.run pins s σ H _ I h) fun v s1 ⟨y, H1, I1, r1, q1⟩ => thn (ho.run pins s1 σ H1 _ I1 q1) fun u s2 ⟨x, H2, I2, r2, a, ex, q⟩ => ?_) hs
  subst ex
  obtain rfl : u = Value.ref a := r2
  rcases q with ⟨ea, q⟩ | ⟨dx, fs, ea, ed, hl, q⟩
  · exact ostB1 T I2 ea hno r1 fun dx s' n ne J => ⟨σ, _, J, q dx n ne⟩
  · exact ostB2 T I2 ea ed hl hno r1 fun s' J => ⟨σ, _, J, q⟩
end
/-- what __init__ keeps: the fields, the last one first -/
def spI (C : Addr) (fs : List Str) : Sp := fun vs H Q _ => ∃ (a : Addr) (ws : List V), vs = .ref a :: ws ∧ ws.length = fs.length ∧ H a = some (exo a C none) ∧
  ∀ dx, H dx = none → dx ≠ a → Q .non (upd (upd H dx (exd dx (fs.zip ws).reverse)) a (exo a C (some dx)))
section
variable {P : Program} {w : World} {K : PySem.W.Frag} {mg : Str → Option Value} {base : Heap} {fI : Addr} {fd : FuncData} {qual f g m : Str} {pa : Arguments} {bd : List Stmt} {sc : Scope} {C : Addr}
abbrev tIni (K : PySem.W.Frag) (C : Addr) (m : Str) : TS := tDrop (tBin K C (tCons (tVar 0) (tCons (tC (.str m)) tNil)))
/-- .. with one field, with two: the body is read by its rules -/
theorem init1 (S : FnScope ["self", f] ["self", f] sc) (F : L2.FunD K "__init__" qual pa bd sc [] [] fI fd)
    (hb : ∀ cdv A outer s H E, PSs (cxOf (L2.CX P w) P w K mg base ["self", f] qual sc fI cdv A outer s H E) bd (tSeq (tIni K C m) (tSt f C (tVar 0) (tVar 1)))) : FnG P w K mg base 1 fI fd ["self", f] (spI C [f]) := by
  refine fnG_of F S (fun vs H Q E ⟨a, ws, e, hl, _⟩ => by rw [e, List.length_cons, hl]; rfl) fun cdv A outer s H vs Q E hr ⟨a, ws, e, hl, ha, q⟩ => ?_
  obtain ⟨v, rfl⟩ : ∃ v, ws = [v] := by
    match ws, hl with
    | [v], _ => exact ⟨v, rfl⟩
  subst e
  exact ⟨_, hb cdv A outer s H E, _, rfl, a, _, rfl, by simp, ha, _, rfl, _, rfl, a, rfl, .inl ⟨ha, fun dx hx hne => q dx hx hne⟩⟩
theorem init2 (S : FnScope ["self", f, g] ["self", f, g] sc) (F : L2.FunD K "__init__" qual pa bd sc [] [] fI fd)
    (hb : ∀ cdv A outer s H E, PSs (cxOf (L2.CX P w) P w K mg base ["self", f, g] qual sc fI cdv A outer s H E) bd (tSeq (tIni K C m) (tSeq (tSt f C (tVar 0) (tVar 1)) (tSt g C (tVar 0) (tVar 2))))) : FnG P w K mg base 1 fI fd ["self", f, g] (spI C [f, g]) := by
  refine fnG_of F S (fun vs H Q E ⟨a, ws, e, hl, _⟩ => by rw [e, List.length_cons, hl]; rfl) fun cdv A outer s H vs Q E hr ⟨a, ws, e, hl, ha, q⟩ => ?_
  obtain ⟨v, u, rfl⟩ : ∃ v u, ws = [v, u] := by
    match ws, hl with
    | [v, u], _ => exact ⟨v, u, rfl⟩
  subst e
  refine ⟨_, hb cdv A outer s H E, _, rfl, a, _, rfl, by simp, ha, _, rfl, _, rfl, a, rfl, .inl ⟨ha, fun dx hx hne => ⟨_, rfl, _, rfl, a, rfl, .inr ⟨dx, _, upd_same, by rw [upd_ne hne, upd_same], by simp, ?_⟩⟩⟩⟩
  have z := q dx hx hne
  have e : upd (upd (upd H dx (exd dx [(f, v)])) a (exo a C (some dx))) dx (exd dx [(g, u), (f, v)]) = upd (upd H dx (exd dx ([f, g].zip [v, u]).reverse)) a (exo a C (some dx)) := by
    funext c
    by_cases h1 : c = dx
    · subst h1; rw [upd_same, upd_ne hne, upd_same]; rfl
    · by_cases h2 : c = a
      · subst h2; rw [upd_ne h1, upd_same, upd_same]
      · rw [upd_ne h1, upd_ne h2, upd_ne h1, upd_ne h2, upd_ne h1]
  show Q .non _
  rw [e]; exact z
end
/-! ### raise X(e, ..) -/
/-- such a class, as it is raised -/
structure RaiseI (P : Program) (w : World) (K : PySem.W.Frag) (mg : Str → Option Value) (base : Heap) (k : Nat) (x : Str) (C : Addr) (fs : List Str) : Prop where
  ex : ∃ (B newId initId : String) (bmB : List Value) (fI : Addr) (fd : FuncData), OexB K B newId bmB C ∧ DX.XBase newId initId bmB ∧ PySem.W.findIn K (.ref C) "__init__" = some (some (.ref fI)) ∧ PySem.W.isFn K (.ref fI) = true ∧
    FnG P w K mg base k fI fd ("self" :: fs) (spI C fs) ∧ Binds K fd ("self" :: fs) []
  mgC : mg x = some (.ref C)
  kp : PySem.W.keepIn K (.ref C) = true
  sub : PySem.W.subIn K (.ref C) (.type "BaseException") = some true
  ty : PySem.W.typeIn K (.ref C) = some (.type "type")
theorem passK0 {X : Cx} {pins : List (Addr × Obj)} {σ : L2.St} {H : Hp} {s s' : Shared} {e : Value} (I : Inv X pins σ H s) (c : L2.CX X.prog X.w X.stack H s (fun _ _ _ => False) e s') : X.xe e s' := passF pins H s e s' I c
def tMkB (C : Addr) (fs : List Str) (ta : TA) : L2.St → Hp → XK → Prop := fun σ H Q => ta σ H fun vs H1 => vs.length = fs.length ∧ ∀ d, H1 d = none → Q (.ref C) (some d) (upd H1 d (.xd (fs.zip vs).reverse))
theorem fresh_ne {H : Hp} {b : Addr} {n : Nat} {o : HO} (h : H b = some o) (hf : ∀ c, n ≤ c → H c = none) : b < n := by
  rcases Nat.lt_or_ge b n with z | z
  · exact z
  · rw [hf b z] at h; cases h
theorem pmkB {X : Cx} {k j : Nat} {x : Str} {C : Addr} {fs : List Str} {e : Expr} {es : List Expr} {ta : TA} {p pos : Pos} (R : RaiseI X.prog X.w X.K X.mg X.base k x C fs) (hr : RoomG j X.A) (hj : k + 1 ≤ j) (hg : Gl X x) (ha : PA X (e :: es) ta) (hz : fs.length ≤ 1000)
    (hdb : (x == ("__debug__" : Str)) = false := by decide) (he : starEach (e :: es) X.env = (false, eval e X.env) :: starEach es X.env := by rfl) (hpl : (backTo pos (starEach es X.env)).any (·.1) = false := by rfl) :
    PMk X (.Call (.Name x p) (e :: es) [] pos) (tMkB C fs ta) := by
  intro pins s σ H Q I h
  obtain ⟨B, newId, initId, bmB, fI, fd, T, FB, iC, tI, F1, hb⟩ := R.ex
  refine wpAny_Call_Name_kw (ld_glob I hg R.mgC ?_ hdb)
  refine PySem.W.callWith_K (h₀ := X.base) I.ok.mod.kin R.kp (thn (ha.run pos pins s σ H _ I h) fun us s1 ⟨vs, H1, I1, rv, hl, q⟩ => ⟨I1.kIn, ?_⟩) he hpl
  obtain ⟨nm, N, qn, bs, bm, hdct, sn, sub, ab, col, dd, k0, k1, k2, k3, k5, hC, hT⟩ := PySem.W.excInit_of I1.kIn T.ini
  obtain ⟨hp, gg, dr, tk, os⟩ := s1
  let h2 := (hp.push (PySem.W.kdv_tup us)).push (PySem.HandSPX.excO C hp.objs.size)
  have kk : ∀ b o, hp.get? b = some o → h2.get? b = some o := fun b o z => Heap.get?_push_of_some _ (Heap.get?_push_of_some _ z)
  have at2 : h2.get? (hp.objs.size + 1) = some (PySem.HandSPX.excO C hp.objs.size) := by show Heap.get? ((hp.push (PySem.W.kdv_tup us)).push (PySem.HandSPX.excO C hp.objs.size)) (hp.objs.size + 1) = _; heap_get
  have big : hp.objs.size ≤ hp.objs.size + 1 := Nat.le_succ _
  have I2 : Inv X pins σ (upd H1 (hp.objs.size + 1) (exo (hp.objs.size + 1) C none)) ⟨h2, gg, dr, tk, os⟩ := I1.laid (t' := tk) kk big (exo_ok at2)
  have r2 : Vals (V.ref (hp.objs.size + 1) :: vs) (Value.ref (hp.objs.size + 1) :: us) := .cons rfl rv
  have lu : us.length = vs.length := (Paired.length rv).symm
  have hus : us.length ≤ sizeLine := by rw [lu, hl, sizeLine_eq]; omega
  have roomC : RoomG k (X.A.under (.builtin "type.__call__" ⟨.ref C :: us, []⟩)) := (hr.mono hj).make C us []
  have bnd := hb ⟨h2, gg, dr, tk, os⟩ (Value.ref (hp.objs.size + 1) :: us) I2.kIn (by simp [lu, hl])
  rw [List.append_nil] at bnd
  refine wpAny_call (FB.call (s := ⟨hp, gg, dr, tk, os⟩) hT hC (PySem.W.looks_findIn I1.kIn iC) (fun self => PySem.W.bind_fn I1.kIn self (beq_iff_eq.mp tI)) hus
    (codeAny_mono (F1.run _ X.stack _ _ ⟨Value.ref (hp.objs.size + 1) :: us, []⟩ _ _ (fun v H3 => v = .non ∧ ∃ d, H1 d = none ∧ H3 = upd (upd (upd H1 (hp.objs.size + 1) (exo (hp.objs.size + 1) C none)) d (exd d (fs.zip vs).reverse)) (hp.objs.size + 1) (exo (hp.objs.size + 1) C (some d)) ∧ d ≠ hp.objs.size + 1) (fun _ _ _ => False) roomC (I2.env0.make C us []) bnd r2
      ⟨_, vs, rfl, hl, upd_same, fun dx hx hne => ⟨rfl, dx, by rw [upd_ne hne] at hx; exact hx, rfl, hne⟩⟩) fun r s' hq => ?_))
  match r, hq with
  | .error er, hq => exact passK0 I2 hq
  | .ok (.ret u), ⟨v, H3, os2, bare2, un2, hok2, rvv, ev, d, hd1, eH, hne⟩ =>
    subst ev
    have ea : H3 (hp.objs.size + 1) = some (exo (hp.objs.size + 1) C (some d)) := by rw [eH, upd_same]
    have ed : H3 d = some (exd d (fs.zip vs).reverse) := by rw [eH, upd_ne hne, upd_same]
    have eq : upd (del H3 (hp.objs.size + 1)) d (.xd (fs.zip vs).reverse) = upd H1 d (.xd (fs.zip vs).reverse) := by
      funext c
      by_cases h1 : c = d
      · subst h1; rw [upd_same, upd_same]
      · rw [upd_ne h1, upd_ne h1]
        by_cases h3 : c = hp.objs.size + 1
        · subst h3; rw [del_same]; exact (I1.hok.fresh big).symm
        · rw [del_ne h3, eH, upd_ne h3, upd_ne h1, upd_ne h3]
    obtain ⟨h4, g4, d4, t4, os4⟩ := s'
    exact ⟨rvv, mk_end (raises_own R.sub R.ty) I1 big kk un2 hok2 os2 bare2 ea ed hd1 (eq ▸ q d hd1)⟩
  | .ok .next, hq => exact hq.elim
  | .ok .brk, hq => exact hq.elim
  | .ok .cont, hq => exact hq.elim
end DL

namespace DL
open PySem PySem.Spec L2 DX
open PyProof.Rows hiding St
/-! ### try: .. except X as n: .., the exception tracked -/
section
variable {X : Cx} {pins : List (Addr × Obj)} {σ : L2.St} {H : Hp} {s sI : Shared} {a C : Addr} {oe : Obj} {d : Option Addr} {vs : Array Value}
theorem track (J : Inv X pins σ H sI) (new : sI.heap.get? a = none) (I : Inv X pins σ H s) (he : s.heap.get? a = some oe) (hz : Zc (.ref C) d oe) (hd : oe.data = .fields vs) (na : H a = none) : Inv X pins σ (upd H a (ExV C d a)) s := by
  have off : ∀ {b : Addr} {o : Obj}, sI.heap.get? b = some o → b ≠ a := by rintro b o e rfl; rw [new] at e; cases e
  have keep : ∀ {b : Addr} {o : HO}, H b = some o → upd H a (ExV C d a) b = some o := fun q => by rw [upd_ne (ne_of_none q na)]; exact q
  obtain ⟨b1, b2, b3, b4, b5, b6, b7⟩ := I.base
  refine ⟨I.ok, I.os, I.bare, ⟨b1, b2, fun b o e n hx => ?_, b4, fun b xs e => keep (b5 b xs e), fun b o u e => keep (b6 b o u e), fun b ps e => ?_⟩, I.loc, I.cell, ?_, fun x c e => ?_, fun p hp => ?_, fun b u e => ?_, I.len⟩
  · obtain ⟨o', e'⟩ := J.base.there b o e hx
    rw [upd_ne (off e')]
    exact b3 b o e n hx
  · obtain ⟨m, q⟩ := b7 b ps e
    exact ⟨m, keep q⟩
  · obtain ⟨m, hn, _⟩ := J.loc
    obtain ⟨o, _, _, eo, _⟩ := id hn
    rw [upd_ne (off eo)]; exact I.free
  · obtain ⟨v, o, eo, _⟩ := J.cell x c e
    rw [upd_ne (off eo)]; exact I.freeC x c e
  · obtain ⟨p1, p2, p3⟩ := I.pin p hp
    exact ⟨p1, by rw [upd_ne (off (J.pin p hp).1)]; exact p2, p3⟩
  · by_cases hb : b = a
    · subst hb
      rw [upd_same] at e
      cases e
      exact ⟨⟨oe, vs, he, hz, hd⟩, ⟨_, he⟩, fun h1 h2 ⟨o, v, q, r⟩ k => ⟨o, v, k _ q, r⟩⟩
    · rw [upd_ne hb] at e
      exact (I.hok b u e).stay (fun c v _ q => q) (fun c q => keep q) fun c xs q => keep q
end
def endsAs : Option Nat → Ends → Ends
  | none, D => D
  | some i, D => { nx := fun σ H => D.nx (σ.set i none) H, rt := D.rt, bk := fun σ H => D.bk (σ.set i none) H, ct := fun σ H => D.ct (σ.set i none) H }
def setAs : Option Nat → Addr → L2.St → L2.St
  | none, _, σ => σ
  | some i, a, σ => σ.set i (some (.ref a))
/-- names of classes, as a tuple has them -/
inductive NamesL (X : Cx) : List Value → List Expr → Prop
  | nil : NamesL X [] []
  | cons {x : Str} {c : Value} {np : Pos} {cs : List Value} {es : List Expr} (hc : Names X x c) (hb : ∃ u v, PySem.W.exmOne X.K u c = some v) (r : NamesL X cs es) : NamesL X (c :: cs) (.Name x np :: es)
/-- the clauses' wishes, one behind the other -/
def wHs (K : PySem.W.Frag) (Wout : WX) (D : Ends) : List (Value × Option Nat × TS) → WX
  | [] => Wout
  | (c, oi, ts) :: r => fun cls d σ H => ∃ b, PySem.W.exmOne K cls c = some b ∧ (b = true → ∃ C, cls = .ref C ∧ ∀ a, H a = none → ts (endsAs oi D) (setAs oi a σ) (upd H a (ExV C d a))) ∧ (b = false → wHs K Wout D r cls d σ H)
inductive Hds (X : Cx) : List ExceptHandler → List (Value × Option Nat × TS) → Prop
  | nil : Hds X [] []
  | one {x : Str} {c : Value} {ts : TS} {b0 : Stmt} {suite : List Stmt} {np hp : Pos} {hs : List ExceptHandler} {l : List (Value × Option Nat × TS)} (hc : Names X x c) (hsu : ∀ (a : Addr) (pn : List (Addr × Obj)), PSs (X.suite a pn) (b0 :: suite) ts) (r : Hds X hs l) :
      Hds X (.ExceptHandler (some (.Name x np)) none (b0 :: suite) hp :: hs) ((c, none, ts) :: l)
  | as_ {x n : Str} {i : Nat} {c : Value} {ts : TS} {b0 : Stmt} {suite : List Stmt} {np hp : Pos} {hs : List ExceptHandler} {l : List (Value × Option Nat × TS)} (hc : Names X x c) (hi : X.N[i]? = some n) (hl : X.env.kindOf n = some .local) (hsu : ∀ (a : Addr) (pn : List (Addr × Obj)), PSs (X.suite a pn) (b0 :: suite) ts)
      (r : Hds X hs l) : Hds X (.ExceptHandler (some (.Name x np)) (some n) (b0 :: suite) hp :: hs) ((c, some i, ts) :: l)
  | tas_ {n : Str} {i : Nat} {cs : List Value} {es : List Expr} {ts : TS} {b0 : Stmt} {suite : List Stmt} {kk : Nat} {tp hp : Pos} {hs : List ExceptHandler} {l : List (Value × Option Nat × TS)} (hx : NamesL X cs es) (hz : cs.length ≤ 100) (hi : X.N[i]? = some n) (hl : X.env.kindOf n = some .local) (hsu : ∀ (a : Addr) (pn : List (Addr × Obj)), PSs (X.suite a pn) (b0 :: suite) ts)
      (r : Hds X hs l) : Hds X (.ExceptHandler (some (.Tuple es kk tp)) (some n) (b0 :: suite) hp :: hs) (cs.map (fun c => (c, some i, ts)) ++ l)
section
variable {X : Cx} {pins : List (Addr × Obj)} {σ : L2.St} {H : Hp} {a : Addr} {B : Heap} {sI s1 : Shared} {cls : Value} {d : Option Addr} {D : Ends} {Wout : WX}
/-- an exception that is looked at by the clauses -/
structure Caught (X : Cx) (pins : List (Addr × Obj)) (σ : L2.St) (H : Hp) (a : Addr) (B : Heap) (sI s1 : Shared) (cls : Value) (d : Option Addr) : Prop where
  J : Inv X pins σ H sI
  nb : ∀ b o, sI.heap.get? b = some o → b ∉ frs X.stack → B.get? b = some o
  up : sI.heap.UpToSlots s1.heap
  fl : HandSPX.FlyingZ B (X.env :: X.outer) a (Zc cls d) s1.heap
  na : H a = none
  os : s1.os = sI.os
  ag : AllBare s1.gens
theorem Caught.off (c : Caught X pins σ H a B sI s1 cls d) : a ∉ frs (X.env :: X.outer) := fun hm => by
  obtain ⟨oe, vs, he, hz, hd⟩ := c.fl.there
  obtain ⟨_, o', e', hnf⟩ := c.fl.2.2.1.mem hm
  rw [he] at e'; cases e'
  exact hnf _ hd
theorem Caught.new (c : Caught X pins σ H a B sI s1 cls d) (hs : X.stack = X.env :: X.outer) : sI.heap.get? a = none := by
  cases e : sI.heap.get? a with
  | none => rfl
  | some o =>
    have z := c.nb a o e (hs ▸ c.off)
    rw [c.fl.2.1] at z; cases z
theorem Caught.inv (c : Caught X pins σ H a B sI s1 cls d) : Inv X pins σ H s1 := c.J.landed c.nb c.fl.1 c.up c.os c.ag
theorem Caught.on {h4 : Heap} (c : Caught X pins σ H a B sI s1 cls d) (f : HandSPX.FlyingZ B (X.env :: X.outer) a (Zc cls d) h4) (u : s1.heap.UpToSlots h4) : Caught X pins σ H a B sI { s1 with heap := h4 } cls d := ⟨c.J, c.nb, c.up.trans u, f, c.na, c.os, c.ag⟩
theorem suite0 {s : Shared} (I : Inv X pins σ H s) (a : Addr) : Inv (X.suite a (X.pn ++ pins)) [] σ H s :=
  ⟨I.ok.suite _ _, I.os, I.bare, I.base, I.loc, I.cell, I.free, I.freeC, fun p hp => I.pin p (by have := hp; rw [List.append_nil] at this; exact this), I.hok, I.len⟩
theorem unsuite0 {s : Shared} (ok : X.Ok) (I : Inv (X.suite a (X.pn ++ pins)) [] σ H s) : Inv X pins σ H s :=
  ⟨ok, I.os, I.bare, I.base, I.loc, I.cell, I.free, I.freeC, fun p hp => I.pin p (List.mem_append_left _ hp), I.hok, I.len⟩
/-- a class by its name, asked where the exception is handled -/
theorem caught_test (c : Caught X pins σ H a B sI s1 cls d) {x : Str} {np : Pos} {cv : Value} {b : Bool} (hc : Names X x cv) (hb : PySem.W.exmOne X.K cls cv = some b) {R : Result → Shared → Prop} {pos : Pos} (q : R (.ok (if b then .brk else .next)) s1) :
    codeAny (model X.prog X.w) (X.A.mark (some (.ref a))) (.handlers (.ref a) [.ExceptHandler (some (.Name x np)) none [] pos] X.env) R s1 := by
  obtain ⟨oe, vs, he, hz, hd⟩ := c.fl.there
  have look : PySem.W.Looks (model X.prog X.w) s1.heap (typeOf (.ref a)) cls := fun _ _ _ _ k q => wpAny_typeOf_ref (k _ _ he) (by rw [hz.1]; exact q)
  have fin := (PySem.W.exm_one (M := model X.prog X.w) c.inv.kIn look hb).here (A := X.A.mark (some (.ref a))) (Q := fun b' s2 => R (.ok (if b' then .brk else .next)) s2) (E := notedBy (model X.prog X.w) (X.A.mark (some (.ref a))) X.env fun x s2 => R (.error x) s2) q
  refine codeAny_handlers_test ?_
  obtain ⟨hg, hdb, hm | ⟨hm, hv, hnn⟩⟩ := hc
  · exact ld_glob (X := X.suite a (X.pn ++ pins)) (suite0 c.inv a) hg hm fin hdb
  · exact ld_blt (X := X.suite a (X.pn ++ pins)) (suite0 c.inv a) hg hm hv fin hnn hdb
/-- a class of a tuple, if any, is hit -/
def hitB (K : PySem.W.Frag) (cls : Value) (cs : List Value) : Bool → Prop
  | true => ∃ pre c post, cs = pre ++ c :: post ∧ (∀ p ∈ pre, PySem.W.exmOne K cls p = some false) ∧ PySem.W.exmOne K cls c = some true
  | false => ∀ p ∈ cs, PySem.W.exmOne K cls p = some false
theorem wHs_tup {K : PySem.W.Frag} {i : Nat} {ts : TS} {l : List (Value × Option Nat × TS)} : ∀ {cs : List Value}, wHs K Wout D (cs.map (fun c => (c, some i, ts)) ++ l) cls d σ H →
    (hitB K cls cs true ∧ ∃ C, cls = .ref C ∧ ∀ a, H a = none → ts (endsAs (some i) D) (setAs (some i) a σ) (upd H a (ExV C d a))) ∨ (hitB K cls cs false ∧ wHs K Wout D l cls d σ H)
  | [], w => .inr ⟨fun p hp => absurd hp (by simp), w⟩
  | c :: cs, ⟨b, hb, hy, hn⟩ => by
    cases b with
    | true => exact .inl ⟨⟨[], c, cs, rfl, fun p hp => absurd hp (by simp), hb⟩, hy rfl⟩
    | false =>
      rcases wHs_tup (cs := cs) (hn rfl) with ⟨⟨pre, c', post, e, h1, h2⟩, q⟩ | ⟨h1, q⟩
      · exact .inl ⟨⟨c :: pre, c', post, by rw [e]; rfl, fun p hp => (List.mem_cons.mp hp).elim (fun z => z ▸ hb) (h1 p), h2⟩, q⟩
      · exact .inr ⟨fun p hp => (List.mem_cons.mp hp).elim (fun z => z ▸ hb) (h1 p), q⟩
theorem fl_keeps {Z : Obj → Prop} {l : List Env} {h h' : Heap} (R : HandSPX.FlyingZ B l a Z h) (k : ∀ b o, h.get? b = some o → h'.get? b = some o) : HandSPX.FlyingZ B l a Z h' := by
  obtain ⟨f1, f2, f3, oe, vs, T, oT, ts, he, hz, hd, h1, h2, h3, hT, hdT, h4⟩ := R
  exact ⟨fun b o q => k b o (f1 b o q), f2, f3.of_keeps fun b o q _ => ⟨o, k b o q, rfl⟩, oe, vs, T, oT, ts, k _ _ he, hz, hd, h1, h2, h3, k _ _ hT, hdT, h4⟩
section
variable {M : Model} {A : Around} {E : Value → Shared → Prop}
theorem fin_go {β : Type} {f : Value → β → Sem (ForInStep β)} {b : β} {s : Shared} {Q : β → Shared → Prop} : ∀ {cs : List Value}, (∀ c ∈ cs, ∀ Q : ForInStep β → Shared → Prop, Q (.yield b) s → wpAny M A (f c b) Q E s) → Q b s → wpAny M A (forIn cs b f) Q E s
  | [], _, q => by rw [List.forIn_nil]; exact wpAny_pure q
  | c :: cs, h, q => by
    rw [List.forIn_cons]
    exact wpAny_bind (h c List.mem_cons_self _ (fin_go (fun c' h' => h c' (List.mem_cons_of_mem _ h')) q))
theorem fin_hit {β : Type} {f : Value → β → Sem (ForInStep β)} {b b2 : β} {s : Shared} {Q : β → Shared → Prop} {c : Value} {post : List Value} : ∀ {pre : List Value}, (∀ c ∈ pre, ∀ Q : ForInStep β → Shared → Prop, Q (.yield b) s → wpAny M A (f c b) Q E s) → (∀ Q : ForInStep β → Shared → Prop, Q (.done b2) s → wpAny M A (f c b) Q E s) → Q b2 s → wpAny M A (forIn (pre ++ c :: post) b f) Q E s
  | [], _, h2, q => by
    rw [List.nil_append, List.forIn_cons]
    exact wpAny_bind (h2 _ (wpAny_pure q))
  | c' :: pre, h, h2, q => by
    rw [List.cons_append, List.forIn_cons]
    exact wpAny_bind (h c' List.mem_cons_self _ (fin_hit (fun c2 h' => h c2 (List.mem_cons_of_mem _ h')) h2 q))
end
theorem exm_tupN {M : Model} {K : PySem.W.Frag} {cs : List Value} {tp e : Addr} {b : Bool} {h : Heap} (X : K.In h) (LT : PySem.W.Looks M h (typeOf (.ref e)) cls) (hp : h.get? tp = some { cls := .type "tuple", data := .seq cs.toArray }) (hsub : ∀ c ∈ cs, ∃ u v, PySem.W.exmOne K u c = some v) (hx : hitB K cls cs b) :
    PySem.W.Looks M h (excMatches (.ref e) (.ref tp)) b := by
  intro A Q E s k0 q
  obtain ⟨hh, g, dr, tk, os⟩ := s
  have k : ∀ b o, h.get? b = some o → hh.get? b = some o := k0
  have LT0 : PySem.W.Looks M h (isInstance (.ref tp) (.type "tuple")) true := ((PySem.W.Looks.ld hp).andThen .now).andThen (PySem.W.Looks.of_pure isSubtype_tuple_tuple)
  have LT2 := LT.keeps k
  have LT1 := LT0.keeps k
  have hp' := k _ _ hp
  have one : ∀ c ∈ cs, PySem.W.Looks M hh (isExcClass c) true := fun c hc => by
    obtain ⟨u, v, hv⟩ := hsub c hc
    exact (PySem.W.exm_cls (M := M) X hv).1.keeps k
  have two : ∀ c v, PySem.W.exmOne K cls c = some v → PySem.W.Looks M hh (isSubtype cls c) v := fun c v hv => (PySem.W.exm_cls (M := M) X hv).2.keeps k
  unfold excMatches
  refine wpAny_bind (LT1.at ?_)
  dsimp only
  rw [if_pos rfl]
  refine wpAny_bind (wpAny_seqItems hp' rfl (wpAny_bind (wpAny_pure ?_)))
  simp only [Option.getD_some]
  refine wpAny_bind (fin_go (fun c hc Q q => ?_) ?_)
  · refine wpAny_bind ((one c hc).at ?_)
    simp only [Bool.not_true, Bool.false_eq_true, if_false]
    exact wpAny_pure q
  · refine wpAny_bind (LT2.at ?_)
    cases b with
    | true =>
      obtain ⟨pre, c, post, rfl, h1, h2⟩ := hx
      refine wpAny_bind (fin_hit (b2 := (some true, ())) (fun p hp Q q => ?_) (fun Q q => ?_) ?_)
      · refine wpAny_bind ((two p false (h1 p hp)).at ?_)
        simp only [Bool.false_eq_true, if_false]
        exact wpAny_pure q
      · refine wpAny_bind ((two c true h2).at ?_)
        simp only [if_true]
        exact wpAny_pure q
      · exact wpAny_pure q
    | false =>
      refine wpAny_bind (fin_go (fun p hp Q q => ?_) ?_)
      · refine wpAny_bind ((two p false (hx p hp)).at ?_)
        simp only [Bool.false_eq_true, if_false]
        exact wpAny_pure q
      · exact wpAny_pure q
theorem names_ok {cs : List Value} {es : List Expr} (hx : NamesL X cs es) : ∀ c ∈ cs, ∃ u v, PySem.W.exmOne X.K u c = some v := by
  induction hx with
  | nil => exact fun c hc => absurd hc (by simp)
  | cons hc hb r ih => exact fun c hc => (List.mem_cons.mp hc).elim (fun z => z ▸ hb) (ih c)
theorem names_go (c : Caught X pins σ H a B sI s1 cls d) {cs : List Value} {es : List Expr} (hx : NamesL X cs es) {E : Value → Shared → Prop} {pos : Pos} : ∀ {Q : List Value → Shared → Prop}, Q cs s1 → wpAny (model X.prog X.w) (X.A.mark (some (.ref a))) (spliced (backTo pos (starEach es X.env))) Q E s1 := by
  induction hx with
  | nil => exact fun q => wpAny_items_nil q
  | @cons x cv np cs es hc hb r ih =>
    intro Q q
    have fin := ih (Q := fun vs s2 => Q (cv :: vs) s2) q
    refine wpAny_items_cons ?_
    obtain ⟨hg, hdb, hm | ⟨hm, hv, hnn⟩⟩ := hc
    · exact ld_glob (X := X.suite a (X.pn ++ pins)) (suite0 c.inv a) hg hm fin hdb
    · exact ld_blt (X := X.suite a (X.pn ++ pins)) (suite0 c.inv a) hg hm hv fin hnn hdb
theorem caught_testT (c : Caught X pins σ H a B sI s1 cls d) {cs : List Value} {es : List Expr} {kk : Nat} {tp : Pos} {b : Bool} (hx : NamesL X cs es) (hz : cs.length ≤ 100) (hb : hitB X.K cls cs b) {R : Result → Shared → Prop} {pos : Pos}
    (q : ∀ h4, (∀ b o, s1.heap.get? b = some o → h4.get? b = some o) → R (.ok (if b then .brk else .next)) { s1 with heap := h4 }) :
    codeAny (model X.prog X.w) (X.A.mark (some (.ref a))) (.handlers (.ref a) [.ExceptHandler (some (.Tuple es kk tp)) none [] pos] X.env) R s1 := by
  obtain ⟨oe, vs, he, hz2, hd⟩ := c.fl.there
  have kp : ∀ b o, s1.heap.get? b = some o → (s1.heap.push { cls := .type "tuple", data := .seq cs.toArray }).get? b = some o := fun _ _ z => Heap.get?_push_of_some _ z
  have look : PySem.W.Looks (model X.prog X.w) (s1.heap.push { cls := .type "tuple", data := .seq cs.toArray }) (typeOf (.ref a)) cls := fun _ _ _ _ k q => wpAny_typeOf_ref (k _ _ (kp _ _ he)) (by rw [hz2.1]; exact q)
  refine codeAny_handlers_test (wpAny_Tuple (names_go c hx ⟨by rw [sizeLine_eq]; omega, ?_⟩))
  exact (exm_tupN (M := model X.prog X.w) (c.inv.kIn.keeps kp) look (Heap.get?_push_size s1.heap rfl) (names_ok hx) hb).here (q _ kp)
theorem ends_back (ok : X.Ok) {C : Addr} {f : Flow} {s6 : Shared} {D' : Ends} (h : SP (X.suite a (X.pn ++ pins)) [] D' f s6) : SP X pins D' f s6 := by
  cases f with
  | next => obtain ⟨σ6, H6, S6, q⟩ := h; exact ⟨_, _, unsuite0 ok S6, q⟩
  | brk => obtain ⟨σ6, H6, S6, q⟩ := h; exact ⟨_, _, unsuite0 ok S6, q⟩
  | cont => obtain ⟨σ6, H6, S6, q⟩ := h; exact ⟨_, _, unsuite0 ok S6, q⟩
  | ret u => obtain ⟨v, σ6, H6, S6, r, q⟩ := h; exact ⟨_, _, _, unsuite0 ok S6, r, q⟩
theorem caught_go (hs : X.stack = X.env :: X.outer) (hf : X.env.frame = some X.env.locals) (hN : X.N.Nodup) (ok : X.Ok) (tk : Takes X Wout) (c : Caught X pins σ H a B sI s1 cls d) {hds : List ExceptHandler} {l : List (Value × Option Nat × TS)} (hk : Hds X hds l) :
    wHs X.K Wout D l cls d σ H → wpAny (model X.prog X.w) X.A (handleBy (.ref a) X.env hds) (SP X pins D) X.xe s1 := by
  induction hk generalizing s1 with
  | nil =>
    intro w
    refine wpAny_handleBy_nil ?_
    obtain ⟨_, _, _, oe, vs, T, oT, ts', he, hz, hd, h1, hr⟩ := id c.fl
    have up : wpAny (model X.prog X.w) X.A (setFlight (.ref a) X.env.frame) (fun _ s4 => wpAny (model X.prog X.w) X.A (throw (.ref a) : Sem Flow) (SP X pins D) X.xe s4) X.xe s1 := by
      rw [hf]
      exact HandSPX.setFlight_upZ c.fl fun h4 held up4 => wpAny_throw (tk _ _ ⟨a, B, sI, pins, σ, H, cls, d, rfl, c.J, c.nb, c.up.trans up4, .inr (.inr (by rw [hs]; exact held)), c.na, c.os, c.ag, w⟩)
    unfold PySem.passOn
    refine wpAny_bind (wpAny_field he hd h1 ?_)
    rw [if_neg (show ¬ ((Value.ref T == Value.none) = true) by simp)]
    first
      | exact wpAny_bind (wpAny_pure (wpAny_bind up))
      | exact wpAny_bind up
  | @one x cv ts b0 suite np hp hs2 l2 hc hsu r ih =>
    intro ⟨b, hb1, hyes, hno⟩
    refine wpAny_handleBy_cons (caught_test c hc hb1 ?_) (by intro q; cases q)
    cases b with
    | false => exact ih c (hno rfl)
    | true =>
      refine codeAny_handlers_suite (HandSPX.lands_againZ c.fl fun h4 fl4 up4 => ?_)
      have c4 := c.on fl4 up4
      obtain ⟨C, rfl, q⟩ := hyes rfl
      obtain ⟨oe, vs, he, hz, hd⟩ := fl4.there
      have S := suite0 (track c.J (c.new hs) c4.inv he hz hd c.na) a
      exact wpAny_mono ((hsu a (X.pn ++ pins)).run [] _ _ _ _ S (q a c.na)) (fun f s6 h => ends_back (C := C) ok h) fun _ _ z => z.elim
  | @as_ x n i cv ts b0 suite np hp hs2 l2 hc hi hl hsu r ih =>
    intro ⟨b, hb1, hyes, hno⟩
    refine wpAny_handleBy_cons (caught_test c hc hb1 ?_) (by intro q; cases q)
    cases b with
    | false => exact ih c (hno rfl)
    | true =>
      refine codeAny_handlers_suite_as (HandSPX.lands_againZ c.fl fun h4 fl4 up4 => ?_)
      have c4 := c.on fl4 up4
      obtain ⟨C, rfl, q⟩ := hyes rfl
      obtain ⟨oe, vs, he, hz, hd⟩ := fl4.there
      have S := suite0 (track c.J (c.new hs) c4.inv he hz hd c.na) a
      refine store_ok (X := X.suite a (X.pn ++ pins)) (v := .ref a) S hN hi (.inl hl) rfl (fun s5 S5 => ?_) (.inr hl)
      refine wpAny_mono ((hsu a (X.pn ++ pins)).run [] s5 _ _ _ S5 (q a c.na)) (fun f s6 h => ?_) fun _ _ z => z.elim
      have h' := ends_back (C := C) ok h
      cases f with
      | next => obtain ⟨σ6, H6, S6, q⟩ := h'; exact gone_ok S6 hN hi hl fun s7 J7 => ⟨_, _, J7, q⟩
      | brk => obtain ⟨σ6, H6, S6, q⟩ := h'; exact gone_ok S6 hN hi hl fun s7 J7 => ⟨_, _, J7, q⟩
      | cont => obtain ⟨σ6, H6, S6, q⟩ := h'; exact gone_ok S6 hN hi hl fun s7 J7 => ⟨_, _, J7, q⟩
      | ret u => obtain ⟨v, σ6, H6, S6, r, q⟩ := h'; exact gone_ok S6 hN hi hl fun s7 J7 => ⟨_, _, _, J7, r, q⟩
  | @tas_ n i cs es ts b0 suite kk tp hp hs2 l2 hx hz hi hl hsu r ih =>
    intro w
    rcases wHs_tup w with ⟨hh, C, rfl, q⟩ | ⟨hh, w2⟩
    · refine wpAny_handleBy_cons (caught_testT c hx hz hh fun h4 k4 => ?_) (by intro q; cases q)
      have c4 := c.on (fl_keeps c.fl k4) (Heap.UpToSlots.of_keeps k4)
      refine codeAny_handlers_suite_as (HandSPX.lands_againZ c4.fl fun h5 fl5 up5 => ?_)
      have c5 := c4.on fl5 up5
      obtain ⟨oe, vs, he, hz, hd⟩ := fl5.there
      have S := suite0 (track c.J (c.new hs) c5.inv he hz hd c.na) a
      refine store_ok (X := X.suite a (X.pn ++ pins)) (v := .ref a) S hN hi (.inl hl) rfl (fun s6 S6 => ?_) (.inr hl)
      refine wpAny_mono ((hsu a (X.pn ++ pins)).run [] s6 _ _ _ S6 (q a c.na)) (fun f s7 h => ?_) fun _ _ z => z.elim
      have h' := ends_back (C := C) ok h
      cases f with
      | next => obtain ⟨σ6, H6, S6, q⟩ := h'; exact gone_ok S6 hN hi hl fun s7 J7 => ⟨_, _, J7, q⟩
      | brk => obtain ⟨σ6, H6, S6, q⟩ := h'; exact gone_ok S6 hN hi hl fun s7 J7 => ⟨_, _, J7, q⟩
      | cont => obtain ⟨σ6, H6, S6, q⟩ := h'; exact gone_ok S6 hN hi hl fun s7 J7 => ⟨_, _, J7, q⟩
      | ret u => obtain ⟨v, σ6, H6, S6, r, q⟩ := h'; exact gone_ok S6 hN hi hl fun s7 J7 => ⟨_, _, _, J7, r, q⟩
    · refine wpAny_handleBy_cons (caught_testT c hx hz hh fun h4 k4 => ?_) (by intro q; cases q)
      exact ih (c.on (fl_keeps c.fl k4) (Heap.UpToSlots.of_keeps k4)) w2
end
/-- try: body / except X as n: .. / except Y: .. -/
theorem ps_tryH {X : Cx} {body : List Stmt} {h0 : ExceptHandler} {hds : List ExceptHandler} {l : List (Value × Option Nat × TS)} {pos : Pos} {tb : WX → TS} {Wout : WX} (hs : X.stack = X.env :: X.outer) (hf : X.env.frame = some X.env.locals) (hN : X.N.Nodup) (tk : Takes X Wout)
    (hb : ∀ (W : WX) (pn : List (Addr × Obj)) (xe : Value → Shared → Prop), Takes (X.tr pn xe) W → PSs (X.tr pn xe) body (tb W)) (hh : Hds X (h0 :: hds) l) : PS X (.Try body (h0 :: hds) [] [] pos) (fun D σ H => tb (wHs X.K Wout D l) D σ H) := by
  refine ⟨fun pins s σ H D I h => wpAny_Try_except ?_⟩
  refine wpAny_mono ((hb (wHs X.K Wout D l) (X.pn ++ pins) (fun e s2 => wpAny (model X.prog X.w) X.A (noteFrame e X.env) (fun _ s3 => wpAny (model X.prog X.w) X.A (setFlight e none) (fun _ s4 =>
    wpAny (model X.prog X.w) X.A (handleBy e X.env (h0 :: hds)) (SP X pins D) X.xe s4) X.xe s3) X.xe s2) fun u s' xx => ?_).run [] s σ H D (I.toTry _) h) (fun f s1 hsp => ?_) fun e s1 he => he
  · obtain ⟨a, B, sI, pins', σ', H', cls, d, rfl, J, nb, up, sky, na, os, ag, w⟩ := xx
    refine Sky.land Zc.steady (by rw [I.ok.frames, hs]) hf (by rw [← hs]; exact sky) fun h3 fl3 up3 => ?_
    exact caught_go hs hf hN I.ok tk (s1 := { s' with heap := h3 }) ⟨J.ofTry I.ok, nb, up.trans up3, fl3, na, os, ag⟩ hh w
  · cases f with
    | next => obtain ⟨σ', H', J, q⟩ := hsp; exact wpAny_execs_nil ⟨σ', H', J.ofTry I.ok, q⟩
    | brk => obtain ⟨σ', H', J, q⟩ := hsp; exact ⟨σ', H', J.ofTry I.ok, q⟩
    | cont => obtain ⟨σ', H', J, q⟩ := hsp; exact ⟨σ', H', J.ofTry I.ok, q⟩
    | ret u => obtain ⟨v, σ', H', J, r, q⟩ := hsp; exact ⟨v, σ', H', J.ofTry I.ok, r, q⟩
end DL

namespace DL
open PySem PySem.Spec L2 DX
open PyProof.Rows hiding St
/-! ### exceptions with fields, over data -/
theorem RKV.split {K : PySem.W.Frag} {H : Hp} : ∀ {fs : List (Str × D)} {l : List (Str × V)}, RKV K H fs l → ∃ vs, l = (fs.map (·.1)).zip vs ∧ Rps K H (fs.map (·.2)) vs
  | [], _, h => by cases h; exact ⟨[], rfl, rfl⟩
  | p :: fs, _, h => by
    obtain ⟨v, r, rfl, h1, h2⟩ := h
    obtain ⟨vs, rfl, h3⟩ := RKV.split h2
    exact ⟨v :: vs, rfl, v, vs, rfl, h1, h3⟩
theorem RKV.zip {K : PySem.W.Frag} {H : Hp} : ∀ {ns : List Str} {ds : List D} {vs : List V}, Rps K H ds vs → RKV K H (ns.zip ds) (ns.zip vs)
  | [], ds, vs, _ => by simp; exact rfl
  | n :: ns, [], vs, h => by cases h; simp; exact rfl
  | n :: ns, d :: ds, vs, h => by obtain ⟨v, r, rfl, h1, h2⟩ := h; exact ⟨v, _, rfl, h1, RKV.zip h2⟩
theorem RKV.rev {κ : Type} {K : PySem.W.Frag} {H : Hp} {l : List (κ × D)} {m : List (κ × V)} (h : RKV K H l m) : RKV K H l.reverse m.reverse := by
  have app : ∀ {l1 l2 : List (κ × D)} {m1 m2 : List (κ × V)}, RKV K H l1 m1 → RKV K H l2 m2 → RKV K H (l1 ++ l2) (m1 ++ m2) := by
    intro l1
    induction l1 with
    | nil => intro l2 m1 m2 h1 h2; cases h1; exact h2
    | cons p r ih => intro l2 m1 m2 h1 h2; obtain ⟨v, t, rfl, a, b⟩ := h1; exact ⟨v, _, rfl, a, ih b h2⟩
  induction l generalizing m with
  | nil => cases h; exact rfl
  | cons p r ih =>
    obtain ⟨v, t, rfl, a, b⟩ := h
    rw [List.reverse_cons, List.reverse_cons]
    exact app (ih b) ⟨v, [], rfl, a, rfl⟩
/-- raise X(e, ..), X with an own __init__ -/
def sRaiseX (C : Addr) (fs : List Str) (ts : TDA) : TDS := fun W _ σ G => ts W σ G fun ds G1 => ds.length = fs.length ∧ W (.ref C) (fs.zip ds).reverse σ G1
theorem ds_raiseX {X : Cx} {k j : Nat} {x : Str} {C : Addr} {fs : List Str} {e : Expr} {es : List Expr} {ts : TDA} {p pos pos2 : Pos} (R : RaiseI X.prog X.w X.K X.mg X.base k x C fs) (hr : RoomG j X.A) (ha : DA X (e :: es) ts) (hc : X.calm = true) (hj : k + 1 ≤ j := by decide) (hz : fs.length ≤ 1000 := by decide) (hg : Gl X x := by rfl)
    (hdb : (x == ("__debug__" : Str)) = false := by decide) (he : starEach (e :: es) X.env = (false, eval e X.env) :: starEach es X.env := by rfl) (hpl : (backTo pos (starEach es X.env)).any (·.1) = false := by rfl) :
    DS X (.Raise (some (.Call (.Name x p) (e :: es) [] pos)) none pos2) (sRaiseX C fs ts) :=
  ⟨fun G H σ τ W D r q => semS.of (ps_raise hc r.takes (pmkB R hr hj hg paSem hz hdb he hpl)) (ha.then r q fun ds vs G1 H1 r1 x1 k1 q1 => by
    refine ⟨k1.length.trans q1.1, fun d hd => ?_⟩
    have xx : Ext G1 H1 G1 (upd H1 d (.xd (fs.zip vs).reverse)) := .new hd (r1.sim.no hd)
    exact ⟨σ, _, G1, r1.slots.ext r1.sim xx _ _, ⟨_, upd_same, ((RKV.zip k1).rev).ext r1.sim xx _ _⟩, r1.sim.newO hd, x1.trans xx, q1.2⟩)⟩
/-! try -/
def dEndsAs : Option Nat → DEnds → DEnds
  | none, D => D
  | some i, D => { nx := fun σ G => D.nx (σ.set i none) G, rt := D.rt, bk := fun σ G => D.bk (σ.set i none) G, ct := fun σ G => D.ct (σ.set i none) G }
def dSetAs : Option Nat → D → DSt → DSt
  | none, _, σ => σ
  | some i, d, σ => σ.set i (some d)
def dwH (xm : Value → Value → Bool → Prop) (W : DW) (D : DEnds) : List (Value × Option Nat × TDS) → DW
  | [] => W
  | (c, oi, ts) :: r => fun cls fs σ G => ∃ b, xm c cls b ∧ (b = true → ∃ C, cls = .ref C ∧ ts W0 (dEndsAs oi D) (dSetAs oi (.exc C (fs.map (·.1)) (fs.map (·.2))) σ) G) ∧ (b = false → dwH xm W D r cls fs σ G)
def sTryH (xm : Value → Value → Bool → Prop) (tb : TDS) (hs : List (Value × Option Nat × TDS)) : TDS := fun W D σ G => tb (dwH xm W D hs) D σ G
/-- the clauses -/
inductive DHds (X : Cx) : List ExceptHandler → List (Value × Option Nat × TDS) → Prop
  | nil : DHds X [] []
  | one {x : Str} {c : Value} {ts : TDS} {b0 : Stmt} {suite : List Stmt} {np hp : Pos} {hs : List ExceptHandler} {l : List (Value × Option Nat × TDS)} (hc : Names X x c) (hsu : ∀ (a : Addr) (pn : List (Addr × Obj)), DSs (X.suite a pn) (b0 :: suite) ts) (r : DHds X hs l) :
      DHds X (.ExceptHandler (some (.Name x np)) none (b0 :: suite) hp :: hs) ((c, none, ts) :: l)
  | as_ {x n : Str} (i : Nat) {c : Value} {ts : TDS} {b0 : Stmt} {suite : List Stmt} {np hp : Pos} {hs : List ExceptHandler} {l : List (Value × Option Nat × TDS)} (hc : Names X x c) (hi : X.N[i]? = some n) (hl : X.env.kindOf n = some .local) (hsu : ∀ (a : Addr) (pn : List (Addr × Obj)), DSs (X.suite a pn) (b0 :: suite) ts)
      (r : DHds X hs l) : DHds X (.ExceptHandler (some (.Name x np)) (some n) (b0 :: suite) hp :: hs) ((c, some i, ts) :: l)
  | tas_ {n : Str} (i : Nat) {cs : List Value} {es : List Expr} {ts : TDS} {b0 : Stmt} {suite : List Stmt} {kk : Nat} {tp hp : Pos} {hs : List ExceptHandler} {l : List (Value × Option Nat × TDS)} (hx : NamesL X cs es) (hz : cs.length ≤ 100) (hi : X.N[i]? = some n) (hl : X.env.kindOf n = some .local) (hsu : ∀ (a : Addr) (pn : List (Addr × Obj)), DSs (X.suite a pn) (b0 :: suite) ts)
      (r : DHds X hs l) : DHds X (.ExceptHandler (some (.Tuple es kk tp)) (some n) (b0 :: suite) hp :: hs) (cs.map (fun c => (c, some i, ts)) ++ l)
/-- the suites by values -/
def tsOf (X : Cx) (body : List Stmt) : TS := fun D τ H => ∀ a pn, semSs (X.suite a pn) body D τ H
theorem hds_of {X : Cx} {hs : List ExceptHandler} {l : List (Value × Option Nat × TDS)} (h : DHds X hs l) : ∃ l2, Hds X hs l2 ∧ ∀ (xm : Value → Value → Bool → Prop) (hxm : ∀ c u b, xm c u b → PySem.W.exmOne X.K u c = some b) (G : HD) (H : Hp) (W : DW) (D : DEnds) (Wo : WX),
    (∀ cls d τ H', liftW X.K G H W cls d τ H' → Wo cls d τ H') → ∀ cls d τ H', liftW X.K G H (dwH xm W D l) cls d τ H' → wHs X.K Wo (liftD X.K G H D) l2 cls d τ H' := by
  have common : ∀ {b0 : Stmt} {suite : List Stmt} {ts : TDS} (oi : Option Nat) (hsu : ∀ (a : Addr) (pn : List (Addr × Obj)), DSs (X.suite a pn) (b0 :: suite) ts) {G : HD} {H : Hp} {Z : DEnds} {C : Addr} {d : Option Addr} {τ : L2.St} {H' : Hp} {σ : DSt} {fs : List (Str × D)} {G' : HD},
      RpS X.K H' σ τ → XF X.K H' fs d → Sim X.K G' H' → Ext G H G' H' → ts W0 (dEndsAs oi Z) (dSetAs oi (.exc C (fs.map (·.1)) (fs.map (·.2))) σ) G' → ∀ a, H' a = none → tsOf X (b0 :: suite) (endsAs oi (liftD X.K G H Z)) (setAs oi a τ) (upd H' a (ExV C d a)) := by
    intro b0 suite ts oi hsu G H Z C d τ H' σ fs G' rp xf sm x q a ha b pn
    have xx : Ext G' H' G' (upd H' a (ExV C d a)) := .new ha (sm.no ha)
    have sm2 : Sim X.K G' (upd H' a (ExV C d a)) := sm.newO ha
    have re : Rp X.K (upd H' a (ExV C d a)) (.exc C (fs.map (·.1)) (fs.map (·.2))) (.ref a) := by
      cases d with
      | none =>
        cases (show fs = [] from xf)
        exact ⟨a, none, [], rfl, upd_same, rfl, .inl ⟨rfl, rfl⟩, rfl⟩
      | some dd =>
        obtain ⟨l, e, rk⟩ := xf
        obtain ⟨vs, rfl, r2⟩ := rk.split
        exact ⟨a, some dd, vs, rfl, upd_same, by simp, .inr ⟨dd, rfl, by rw [upd_ne (ne_of_none e ha)]; exact e⟩, r2.ext sm xx _ _⟩
    have slots : RpS X.K (upd H' a (ExV C d a)) (dSetAs oi (.exc C (fs.map (·.1)) (fs.map (·.2))) σ) (setAs oi a τ) := by
      cases oi with
      | none => exact rp.ext sm xx _ _
      | some i => exact (rp.ext sm xx _ _).set re
    refine ((hsu b pn).run G' _ _ _ W0 (dEndsAs oi Z) ⟨sm2, slots, takes_w0⟩ q).imp ?_
    have xy := x.trans xx
    cases oi with
    | none => exact liftD_up xy
    | some i => exact ⟨fun t H2 ⟨σ2, G2, a1, a2, a3, a4⟩ => ⟨_, G2, a1.drop1, a2, xy.trans a3, a4⟩, fun v H2 z => z.up xy, fun t H2 ⟨σ2, G2, a1, a2, a3, a4⟩ => ⟨_, G2, a1.drop1, a2, xy.trans a3, a4⟩, fun t H2 ⟨σ2, G2, a1, a2, a3, a4⟩ => ⟨_, G2, a1.drop1, a2, xy.trans a3, a4⟩⟩
  induction h with
  | nil => exact ⟨[], .nil, fun xm hxm G H W D Wo hw cls d τ H' z => hw _ _ _ _ z⟩
  | @one x c ts b0 suite np hp hs l hc hsu r ih =>
    obtain ⟨l2, h1, h2⟩ := ih
    refine ⟨(c, none, tsOf X (b0 :: suite)) :: l2, .one hc (fun a pn => ⟨fun pins s σ H D I h => h a pn pins s I⟩) h1, fun xm hxm G H W D Wo hw cls d τ H' ⟨σ, fs, G', rp, xf, sm, xx, b, hb, hy, hn⟩ => ⟨b, hxm _ _ _ hb, fun e => ?_, fun e => h2 xm hxm G H W D Wo hw cls d τ H' ⟨σ, fs, G', rp, xf, sm, xx, hn e⟩⟩⟩
    obtain ⟨C, rfl, q⟩ := hy e
    exact ⟨C, rfl, common none hsu rp xf sm xx q⟩
  | @as_ x n i c ts b0 suite np hp hs l hc hi hl hsu r ih =>
    obtain ⟨l2, h1, h2⟩ := ih
    refine ⟨(c, some i, tsOf X (b0 :: suite)) :: l2, .as_ hc hi hl (fun a pn => ⟨fun pins s σ H D I h => h a pn pins s I⟩) h1, fun xm hxm G H W D Wo hw cls d τ H' ⟨σ, fs, G', rp, xf, sm, xx, b, hb, hy, hn⟩ => ⟨b, hxm _ _ _ hb, fun e => ?_, fun e => h2 xm hxm G H W D Wo hw cls d τ H' ⟨σ, fs, G', rp, xf, sm, xx, hn e⟩⟩⟩
    obtain ⟨C, rfl, q⟩ := hy e
    exact ⟨C, rfl, common (some i) hsu rp xf sm xx q⟩
  | @tas_ n i cs es ts b0 suite kk tp hp hs l hx hz hi hl hsu r ih =>
    obtain ⟨l2, h1, h2⟩ := ih
    refine ⟨cs.map (fun c => (c, some i, tsOf X (b0 :: suite))) ++ l2, .tas_ hx hz hi hl (fun a pn => ⟨fun pins s σ H D I h => h a pn pins s I⟩) h1, fun xm hxm G H W D Wo hw => ?_⟩
    have go : ∀ cs : List Value, ∀ cls d τ H', liftW X.K G H (dwH xm W D (cs.map (fun c => (c, some i, ts)) ++ l)) cls d τ H' → wHs X.K Wo (liftD X.K G H D) (cs.map (fun c => (c, some i, tsOf X (b0 :: suite))) ++ l2) cls d τ H' := by
      intro cs
      induction cs with
      | nil => exact fun cls d τ H' z => h2 xm hxm G H W D Wo hw cls d τ H' z
      | cons c cs ih2 =>
        intro cls d τ H' ⟨σ, fs, G', rp, xf, sm, xx, b, hb, hy, hn⟩
        refine ⟨b, hxm _ _ _ hb, fun e => ?_, fun e => ih2 cls d τ H' ⟨σ, fs, G', rp, xf, sm, xx, hn e⟩⟩
        obtain ⟨C, rfl, q⟩ := hy e
        exact ⟨C, rfl, common (some i) hsu rp xf sm xx q⟩
    exact go cs
theorem ds_tryH {X : Cx} {xm : Value → Value → Bool → Prop} {body : List Stmt} {h0 : ExceptHandler} {hds : List ExceptHandler} {l : List (Value × Option Nat × TDS)} {pos : Pos} {tb : TDS} (hs : X.stack = X.env :: X.outer) (hf : X.env.frame = some X.env.locals) (hN : X.N.Nodup) (hxm : ∀ c u b, xm c u b → PySem.W.exmOne X.K u c = some b)
    (hb : ∀ (pn : List (Addr × Obj)) (xe : Value → Shared → Prop), DSs (X.tr pn xe) body tb) (hh : DHds X (h0 :: hds) l) : DS X (.Try body (h0 :: hds) [] [] pos) (sTryH xm tb l) := ⟨fun G H σ τ W D r q => by
  obtain ⟨l2, h1, h2⟩ := hds_of hh
  refine semS.of (ps_tryH (tb := fun W' D' τ' H' => ∀ (pn : List (Addr × Obj)) (xe : Value → Shared → Prop), Takes (X.tr pn xe) W' → semSs (X.tr pn xe) body D' τ' H') hs hf hN r.takes (fun W' pn xe tk => ⟨fun pins s σ' H' D' I h => h pn xe tk pins s I⟩) h1) ?_
  intro pn xe tk
  exact (hb pn xe).run G H σ τ _ D ⟨r.sim, r.slots, tk.imp fun cls dd τ' H' hw => h2 xm hxm G H W D _ (fun _ _ _ _ z => z) cls dd τ' H' hw⟩ q⟩
/-! e.f, isinstance(e, X) -/
/-- such an exception stands in the heap -/
theorem exc_at {X : Cx} {pins : List (Addr × Obj)} {τ : L2.St} {H : Hp} {s : Shared} {a C : Addr} {dd : Option Addr} {l : List (Str × V)} (I : Inv X pins τ H s) (ha : H a = some (ExV C dd a)) (hd : dd = none ∨ ∃ b, dd = some b ∧ H b = some (.xd l)) :
    ∃ (oe : Obj) (od : Option Obj), PySem.W.InstAt s.heap a oe C od ∧ ∀ b, dd = some b → ∃ o mA, od = some o ∧ s.heap.Ns1 b mA ∧ s.heap.get? b = some o ∧ ∀ f, RelO (l.lookup f) (mA f) := by
  obtain ⟨⟨oe, vs, he, hz, hf⟩, _, _⟩ := I.hok a _ ha
  have nc : PySem.W.notCls oe := by unfold PySem.W.notCls; rw [hf] <;> rfl
  rcases hd with rfl | ⟨b, rfl, hb⟩
  · exact ⟨oe, none, ⟨he, hz.1, nc, by rw [hz.2]; trivial⟩, fun b e => nomatch e⟩
  · obtain ⟨mA, hns, hr⟩ := I.hok b _ hb
    obtain ⟨o, es, ep, eo, rest⟩ := id hns
    exact ⟨oe, some o, ⟨he, hz.1, nc, by rw [hz.2]; exact eo⟩, fun b' e => by cases e; exact ⟨o, mA, rfl, hns, eo, hr⟩⟩
def XfOk (K : PySem.W.Frag) (C : Addr) (f : Str) : Prop := XfC K C ∧ PySem.W.findIn K (.ref C) f = some none
def xfldP (xf : Addr → Str → Prop) (f : Str) (d : D) (G : HD) (Q : Post) : Prop := match d with
  | .exc C ns ds => xf C f ∧ optP ((ns.zip ds).lookup f) G Q
  | _ => False
def dXFld (xf : Addr → Str → Prop) (f : Str) (ta : TD) : TD := fun W σ G Q => ta W σ G fun d G1 => xfldP xf f d G1 Q
theorem look_rp {K : PySem.W.Frag} {H : Hp} {f : Str} : ∀ {ns : List Str} {ds : List D} {vs : List V} {d : D}, Rps K H ds vs → (ns.zip ds).lookup f = some d → ∃ v, (ns.zip vs).lookup f = some v ∧ Rp K H d v
  | [], _, _, _, _, h => by simp at h
  | _ :: _, [], _, _, _, h => by simp at h
  | n :: ns, d0 :: ds, _, d, r, h => by
    obtain ⟨v, t, rfl, h1, h2⟩ := r
    rw [List.zip_cons_cons, List.lookup_cons] at h
    rw [List.zip_cons_cons, List.lookup_cons]
    cases q : f == n with
    | true => rw [q] at h; cases h; exact ⟨v, rfl, h1⟩
    | false => rw [q] at h; exact look_rp h2 h
theorem de_xfld {X : Cx} {xf : Addr → Str → Prop} {e : Expr} {f : Str} {ta : TD} {pos : Pos} (hxf : ∀ C f, xf C f → XfOk X.K C f) (ha : DE X e ta) (hb : attributeBase e f X.env (eval e X.env) = eval e X.env := by rfl) : DE X (.Attribute e f pos) (dXFld xf f ta) := ⟨fun G H σ τ W Q r q pins s I => by
  refine attr_of hb (thn ((ha.run G H σ τ W _ r q) pins s I) fun u s1 ⟨v, H1, I1, rv, d, G1, k1, sm1, x1, q1⟩ => ?_)
  change xfldP xf f d G1 Q at q1
  cases d with
  | exc C ns ds =>
    obtain ⟨hok, q1⟩ := q1
    obtain ⟨T, hno⟩ := hxf _ _ hok
    obtain ⟨a, dd, vs, rfl, hA, hl, hd, rps⟩ := k1
    obtain rfl : u = Value.ref a := rv
    cases hlk : (ns.zip ds).lookup f with
    | none => rw [hlk] at q1; exact q1.elim
    | some z =>
      rw [hlk] at q1
      obtain ⟨v2, e2, r2⟩ := look_rp rps hlk
      have hd' : dd = none ∨ ∃ b, dd = some b ∧ H1 b = some (.xd (ns.zip vs)) := hd.imp (·.1) id
      obtain ⟨oe, od, J, hJ⟩ := exc_at I1 hA hd'
      rcases hd with ⟨_, rfl⟩ | ⟨b, rfl, hb⟩
      · simp at hlk
      · obtain ⟨o, mA, rfl, hns, eo, hr⟩ := hJ b rfl
        obtain ⟨o2, eo2, hl2⟩ := lookIn_ns hns
        rw [eo] at eo2; cases eo2
        obtain ⟨u2, hu, ru⟩ := RelO.some_of (v := v2) (o := mA f) (by rw [← e2]; exact hr f)
        exact HandSPX.exc_get I1.kIn J T.ga T.gg T.exC (PySem.W.findObj_own T.hdC hno rfl (by rw [hl2, hu])) (handed_of ru) ⟨v2, H1, I1.tok _, ru, z, G1, r2, sm1, x1, q1⟩
  | _ => exact q1.elim⟩
/-- what isinstance asks of the class -/
def EcOk (K : PySem.W.Frag) (C : Addr) (c : Value) (b : Bool) : Prop := (XfC K C ∧ PySem.W.findIn K (.ref C) "__class__" = some (some (.builtin "object.__class__")) ∧ PySem.W.specialIn K (.builtin "object.__class__") "__get__" = some (some (.builtin "getset_descriptor.__get__")) ∧
  PySem.W.takesIn K (.builtin "object.__class__") = some true ∧ PySem.W.mroIn K C (.type "object") = some true) ∧ PySem.W.kitOne K (.ref C) c = some b
def rIsiX (ic : String ⊕ Addr → String ⊕ Addr → Bool → Prop) (ec : Addr → Value → Bool → Prop) : List D → HD → Post → Prop := fun ds G Q => match ds with
  | [.exc C _ _, .ty n] => ∃ b, ec C (.type n) b ∧ Q (.bl b) G
  | [.exc C _ _, .ref c] => ∃ b, ec C (.ref c) b ∧ Q (.bl b) G
  | ds => rIsiD ic ds G Q
def rIsV (K : PySem.W.Frag) : List V → Hp → VK → Prop := fun xs H Q => ∃ (a C : Addr) (dd : Option Addr) (l : List (Str × V)) (c : V) (cv : Value) (b : Bool), xs = [.ref a, c] ∧ H a = some (ExV C dd a) ∧ (dd = none ∨ ∃ b, dd = some b ∧ H b = some (.xd l)) ∧ (∀ u, RelV c u → u = cv) ∧ EcOk K C cv b ∧ Q (.bl b) H
theorem call_isV {X : Cx} : CallR X (.builtin "isinstance") (rIsV X.K) := by
  intro pins s σ H xs us Q I r ⟨a, C, dd, l, c, cv, b, ex, ha, hd, hcv, ⟨⟨T, h1, h2, h3, h4⟩, hk⟩, q⟩
  subst ex
  obtain ⟨u1, u2, rfl, ra, rc⟩ := vals2 r
  obtain rfl : u1 = Value.ref a := ra
  obtain rfl := hcv _ rc
  obtain ⟨oe, od, J, _⟩ := exc_at I ha hd
  have hcl : (PySem.W.clsIn X.K C).isSome = true := by
    obtain ⟨cd, hc, _⟩ := PySem.W.any_some T.hdC
    rw [hc]; rfl
  exact PySem.W.kia_one (PySem.W.kitx_exc hcl T.ga T.gg T.exC h1 h2 h3 h4) I.kIn J hk (fun z => nomatch z) fun tk => ⟨.bl b, H, I.kept (t' := tk) fun _ _ z => z, rfl, q⟩
theorem exc_rp {K : PySem.W.Frag} {H : Hp} {C : Addr} {ns : List Str} {ds : List D} {v : V} (r : Rp K H (.exc C ns ds) v) : ∃ a dd l, v = .ref a ∧ H a = some (ExV C dd a) ∧ (dd = none ∨ ∃ b, dd = some b ∧ H b = some (.xd l)) := by
  obtain ⟨a, dd, vs, e, h, _, q, _⟩ := r
  exact ⟨a, dd, _, e, h, q.imp (·.1) id⟩
theorem cd_isiX {K : PySem.W.Frag} {ic : String ⊕ Addr → String ⊕ Addr → Bool → Prop} {ec : Addr → Value → Bool → Prop} (hic : ∀ a c b, ic a c b → IsiOk K a c b) (hec : ∀ C c b, ec C c b → EcOk K C c b) : CallD K (fun xs H Q => rIsi K xs H Q ∨ rIsV K xs H Q) (rIsiX ic ec) := fun G H ds vs Q Q' s k f q => by
  unfold rIsiX at q
  split at q
  · obtain ⟨b, hb, q⟩ := q
    obtain ⟨v, w, rfl, k1, k2⟩ := two_of k
    cases k2
    obtain ⟨a, dd, l, rfl, h1, h2⟩ := exc_rp k1
    exact .inr ⟨a, _, dd, l, _, _, b, rfl, h1, h2, fun u e => e, hec _ _ _ hb, f _ _ (.of (d := .bl b) rfl s .refl q)⟩
  · obtain ⟨b, hb, q⟩ := q
    obtain ⟨v, w, rfl, k1, k2⟩ := two_of k
    cases k2
    obtain ⟨a, dd, l, rfl, h1, h2⟩ := exc_rp k1
    exact .inr ⟨a, _, dd, l, _, _, b, rfl, h1, h2, fun u e => e, hec _ _ _ hb, f _ _ (.of (d := .bl b) rfl s .refl q)⟩
  · exact .inl (cd_isi hic G H ds vs Q Q' s k f q)
theorem bc_isiX {X : Cx} {ic : String ⊕ Addr → String ⊕ Addr → Bool → Prop} {ec : Addr → Value → Bool → Prop} {p pos : Pos} {e e2 : Expr} {ts : TDA} (hic : ∀ a c b, ic a c b → IsiOk X.K a c b) (hec : ∀ C c b, ec C c b → EcOk X.K C c b) (hm : X.mg "isinstance" = none) (ha : DA X [e, e2] ts) (hg : Gl X "isinstance" := by rfl)
    (he : starEach [e, e2] X.env = (false, eval e X.env) :: starEach [e2] X.env := by rfl) (hpl : (backTo pos (starEach [e2] X.env)).any (·.1) = false := by rfl) : DE X (.Call (.Name "isinstance" p) [e, e2] [] pos) (dCB (rIsiX ic ec) ts) :=
  de_cb (CallR.or call_isi call_isV) (cd_isiX hic hec) hm (by decide +kernel) ha hg (by decide) (by decide) he hpl
end DL

namespace DL
open PySem PySem.Spec L2
open PyProof.Rows hiding St
/-! ### exceptions, for the plain laws -/
section
variable {xm : Value → Value → Bool → Prop} {tb ts : TDS} {hs r : List (Value × Option Nat × TDS)} {W : DW} {E : DEnds} {σ : DSt} {G : HD} {C : Addr} {fs ns : List Str} {ta : TDA} {te : TD} {xf : Addr → Str → Prop} {f : Str} {Q : Post} {ds : List D} {c cls : Value} {oi : Option Nat} {i : Nat} {d : D} {k : HD → Prop}
theorem q_tryH : sTryH xm tb hs W E σ G = tb (dwH xm W E hs) E σ G := propext ⟨fun h => h, fun h => h⟩
theorem q_raise0 {c : Value} : sRaise c W E σ G = W c [] σ G := propext ⟨fun h => h, fun h => h⟩
theorem q_raiseX : sRaiseX C fs ta W E σ G = ta W σ G fun ds G1 => ds.length = fs.length ∧ W (.ref C) (fs.zip ds).reverse σ G1 := propext ⟨fun h => h, fun h => h⟩
theorem q_xfld : dXFld xf f te W σ G Q = te W σ G fun d G1 => xfldP xf f d G1 Q := propext ⟨fun h => h, fun h => h⟩
theorem r_xfld : xfldP xf f (.exc C ns ds) G Q = (xf C f ∧ optP ((ns.zip ds).lookup f) G Q) := propext ⟨fun h => h, fun h => h⟩
theorem q_setAs : dSetAs (some i) d σ = σ.set i (some d) := rfl
theorem q_setAs0 : dSetAs none d σ = σ := rfl
theorem q_endsAs0 : dEndsAs none E = E := rfl
theorem q_endsNx {σ' : DSt} {G' : HD} : (dEndsAs (some i) E).nx σ' G' = E.nx (σ'.set i none) G' := rfl
theorem q_endsRt : (dEndsAs (some i) E).rt = E.rt := rfl
theorem q_endsBk {σ' : DSt} {G' : HD} : (dEndsAs (some i) E).bk σ' G' = E.bk (σ'.set i none) G' := rfl
theorem q_endsCt {σ' : DSt} {G' : HD} : (dEndsAs (some i) E).ct σ' G' = E.ct (σ'.set i none) G' := rfl
theorem catch1 {fs : List (Str × D)} (h : xm c (.ref C) true) (q : ts W0 (dEndsAs oi E) (dSetAs oi (.exc C (fs.map (·.1)) (fs.map (·.2))) σ) G) : dwH xm W E ((c, oi, ts) :: r) (.ref C) fs σ G := ⟨true, h, fun _ => ⟨C, rfl, q⟩, fun z => by cases z⟩
theorem catch0 {fs : List (Str × D)} (h : xm c cls false) (q : dwH xm W E r cls fs σ G) : dwH xm W E ((c, oi, ts) :: r) cls fs σ G := ⟨false, h, (fun z => by cases z), fun _ => q⟩
theorem r_isNx {ds : List D} : isNon (.exc C ns ds) = false := rfl
end
end DL

namespace DL
open PySem PySem.Spec L2
open PyProof.Rows hiding St
/-! ### an empty dict that never changes -/
def dEmp : TD := fun _ _ G Q => Q .emp G
theorem de_emp {X : Cx} {pos : Pos} : DE X (.Dict [] [] pos) dEmp := ⟨fun G H σ τ W Q r q pins s I => by
  have hn := I.hok.fresh (Nat.le_refl s.heap.objs.size)
  have hb := I.big
  have g0 : (s.heap.push { cls := .type "dict", data := .dict #[] }).get? s.heap.objs.size = some { cls := .type "dict", data := .dict #[] } := by heap_get
  refine wpAny_Dict_empty ⟨.ref s.heap.objs.size, _, I.laid (a := s.heap.objs.size) (o := EmV { cls := .type "dict", data := .dict #[] } s.heap.objs.size) (t' := s.toks) (fun _ _ q => Heap.get?_push_of_some _ q) (Nat.le_refl _) ⟨g0, ⟨_, g0⟩, fun h1 h2 e k => k _ e⟩, rfl, ?_⟩
  refine liftQ.of (d := .emp) ⟨_, _, rfl, ?_, upd_same, ⟨rfl, rfl, rfl⟩, _, rfl⟩ (r.sim.newO hn) (.new hn (r.sim.no hn)) q
  have : s.heap.objs.size ≠ sysModules := Nat.ne_of_gt hb
  simpa using this⟩
/-- isinstance of it -/
def rIsiE (ic : String ⊕ Addr → String ⊕ Addr → Bool → Prop) (ec : Addr → Value → Bool → Prop) : List D → HD → Post → Prop := fun ds G Q => match ds with
  | [.emp, .ty n] => match isiB "dict" n with
    | some b => Q (.bl b) G
    | none => False
  | [.emp, .ref c] => ∃ b, ic (.inl "dict") (.inr c) b ∧ Q (.bl b) G
  | ds => rIsiX ic ec ds G Q
def rIsE (K : PySem.W.Frag) : List V → Hp → VK → Prop := fun xs H Q => ∃ (a : Addr) (ob : Obj) (c : V) (cv : Value) (b : Bool), xs = [.ref a, c] ∧ H a = some (EmV ob a) ∧ EmOb ob ∧ (∀ u, RelV c u → u = cv) ∧ PySem.W.kitOne K (.type "dict") cv = some b ∧ Q (.bl b) H
theorem call_isE {X : Cx} : CallR X (.builtin "isinstance") (rIsE X.K) := by
  intro pins s σ H xs us Q I r ⟨a, ob, c, cv, b, ex, ha, ho, hcv, hk, q⟩
  subst ex
  obtain ⟨u1, u2, rfl, ra, rc⟩ := vals2 r
  obtain rfl : u1 = Value.ref a := ra
  obtain rfl := hcv _ rc
  obtain ⟨h1, _, _⟩ := I.hok a _ ha
  exact PySem.W.kia_one (PySem.W.kitx_dict) I.kIn ⟨ob, h1, ho.1.1⟩ hk (fun z => nomatch z) fun tk => ⟨.bl b, H, I.kept (t' := tk) fun _ _ z => z, rfl, q⟩
theorem cd_isiE {K : PySem.W.Frag} {ic : String ⊕ Addr → String ⊕ Addr → Bool → Prop} {ec : Addr → Value → Bool → Prop} (hic : ∀ a c b, ic a c b → IsiOk K a c b) (hec : ∀ C c b, ec C c b → EcOk K C c b) : CallD K (fun xs H Q => (rIsi K xs H Q ∨ rIsV K xs H Q) ∨ rIsE K xs H Q) (rIsiE ic ec) := fun G H ds vs Q Q' s k f q => by
  unfold rIsiE at q
  split at q
  · rename_i n
    split at q
    · rename_i b hb
      obtain ⟨v, w, rfl, k1, k2⟩ := two_of k
      cases k2
      obtain ⟨a, ob, rfl, _, h1, h2⟩ := k1
      exact .inr ⟨a, ob, _, _, b, rfl, h1, h2, fun u e => e, isiB_ok hb, f _ _ (.of (d := .bl b) rfl s .refl q)⟩
    · exact q.elim
  · obtain ⟨b, hb, q⟩ := q
    obtain ⟨v, w, rfl, k1, k2⟩ := two_of k
    cases k2
    obtain ⟨a, ob, rfl, _, h1, h2⟩ := k1
    exact .inr ⟨a, ob, _, _, b, rfl, h1, h2, fun u e => e, (hic _ _ _ hb).2, f _ _ (.of (d := .bl b) rfl s .refl q)⟩
  · exact .inl (cd_isiX hic hec G H ds vs Q Q' s k f q)
theorem bc_isiE {X : Cx} {ic : String ⊕ Addr → String ⊕ Addr → Bool → Prop} {ec : Addr → Value → Bool → Prop} {p pos : Pos} {e e2 : Expr} {ts : TDA} (hic : ∀ a c b, ic a c b → IsiOk X.K a c b) (hec : ∀ C c b, ec C c b → EcOk X.K C c b) (hm : X.mg "isinstance" = none) (ha : DA X [e, e2] ts) (hg : Gl X "isinstance" := by rfl)
    (he : starEach [e, e2] X.env = (false, eval e X.env) :: starEach [e2] X.env := by rfl) (hpl : (backTo pos (starEach [e2] X.env)).any (·.1) = false := by rfl) : DE X (.Call (.Name "isinstance" p) [e, e2] [] pos) (dCB (rIsiE ic ec) ts) :=
  de_cb (CallR.or (CallR.or call_isi call_isV) call_isE) (cd_isiE hic hec) hm (by decide +kernel) ha hg (by decide) (by decide) he hpl
theorem RoomG.units1 {k : Nat} {A : Around} (r : RoomG k A) : A.units + 65 < cLine := by have := r.un; omega
/-! ### xs.count(e), xs.index(e) -/
def rCountD (K : PySem.W.Frag) : V → List V → Hp → VK → Prop := fun x xs H Q => ∃ (a : Addr) (y : V) (d : PyData) (ds : List PyData), x = V.ref a ∧ xs = [y] ∧ Dp K H (V.ref a) (.list ds) ∧ Dp K H y d ∧ SeqAt.shaped (.list ds) = true ∧ SeqAt.shaped d = true ∧ Q (.int ((ds.countP fun z => PyData.eqv z d : Nat) : Int)) H
theorem mt_countD {X : Cx} (hu : X.A.units + 65 < cLine) : MtR X "list.count" (rCountD X.K) := by
  intro pins s σ H x xs v us Q I rx rxs ⟨a, y, d, ds, e1, e2, hl, hy, sl, sd, q⟩
  subst e1; subst e2
  obtain rfl : v = .ref a := rx
  obtain ⟨uy, rfl, ry⟩ := vals1 rxs
  obtain ⟨bs, r1⟩ := Dp.reads I d y uy hy ry
  cases hl with
  | lst hs ha =>
    obtain ⟨its, rv, hL, hlen⟩ := I.list hs
    obtain ⟨as, h4⟩ := Dp.readsAll I ds _ its ha rv
    refine PySem.SeqAt.count_list_data (vs := its.toArray) ?_ (by simpa using h4) r1 (PyData.plainAll_of_canLay0 ds (SeqAt.canLay_of_shaped sl)) (PyData.plain_of_canLay0 d (SeqAt.canLay_of_shaped sd)) (room_in_shaped sd hu) ⟨.int _, H, I.tok _, ⟨_, rfl⟩, q⟩
    obtain ⟨o, n, ho, hc, hdn, hdt⟩ := hL
    exact ⟨o, ho, hc, n, hdt⟩
def cntO (o p : Option PyData) (G : HD) (Q : Post) : Prop := match o, p with
  | some (.list ds), some d => SeqAt.shaped (.list ds) = true ∧ SeqAt.shaped d = true ∧ Q (.int ((ds.countP fun z => PyData.eqv z d : Nat) : Int)) G
  | _, _ => False
def idxO (o p : Option PyData) (G : HD) (Q : Post) : Prop := match o, p with
  | some (.list ds), some d => SeqAt.shaped (.list ds) = true ∧ SeqAt.shaped d = true ∧ ∃ (j : Nat) (z : PyData), ds[j]? = some z ∧ PyData.eqv z d = true ∧ (∀ (m : Nat) (z' : PyData), m < j → ds[m]? = some z' → PyData.eqv z' d = false) ∧ Q (.int (j : Nat)) G
  | _, _ => False
def dMt1 (p : Option PyData → Option PyData → HD → Post → Prop) (to : TD) (ts : TDA) : TD := fun W σ G Q => to W σ G fun o G1 => (∃ l, asL G1 o = some l) ∧ (ts W σ G1 fun ds G2 => match ds with
  | [d] => p (pyD 9 G2 o) (pyD 9 G2 d) G2 Q
  | _ => False)

section
variable {X : Cx} {o e : Expr} {to : TD} {ts : TDA} {apos cpos : Pos}
theorem de_count (hr : X.A.units + 65 < cLine) (ho : DE X o to) (ha : DA X [e] ts)
    (hbase : attributeBase o "count" X.env (eval o X.env) = eval o X.env := by rfl)
    (hfew : ((backTo cpos (starEach [e] X.env)).all (fun x => !x.1) && (backToKw cpos (keywordEach [] X.env)).all (fun x => x.1.isSome)
      && decide (([e] : List Expr).length + ([] : List Keyword).length + (if ([] : List Keyword).isEmpty then 0 else 1) < 30)) = true := by rfl)
    (hline : (apos.endLine == cpos.line) = true := by rfl) (hs : starEach [e] X.env = (false, eval e X.env) :: starEach [] X.env := by rfl) (hplain : (backTo cpos (starEach [] X.env)).any (·.1) = false := by rfl) :
    DE X (.Call (.Attribute o "count" apos) [e] [] cpos) (dMt1 cntO to ts) := ⟨fun G H σ τ W Q r q => by
  refine semE.of (pe_bm PySem.F.plainAttrs_list PySem.F.slot_list_count PySem.F.type_list_count (mt_countD hr) peSem paSem hbase hfew hline hs hplain) ?_
  refine ho.then r q fun d v G1 H1 r1 x1 k1 ⟨⟨l, hl⟩, q1⟩ => ?_
  obtain ⟨a, vs, rfl, hq, _⟩ := Rp.lst r1.sim k1 hl
  refine ⟨.inl ⟨rfl, vs, hq⟩, ha.then r1 q1 fun ds us G2 H2 r2 x2 k2 q3 => ?_⟩
  try dsimp only at q3
  split at q3
  · rename_i d2
    obtain ⟨w, rfl, kd⟩ := one_of k2
    have k1' := k1.ext r1.sim x2 _ _
    unfold cntO at q3
    split at q3
    · rename_i ps p h1 h2
      obtain ⟨s1, s2, q4⟩ := q3
      exact ⟨a, w, p, ps, rfl, rfl, (pyD_dp r2.sim 9 _ _ _ h1 k1').1, (pyD_dp r2.sim 9 _ _ _ h2 kd).1, s1, s2, .of (d := .int _) rfl r2.sim (x1.trans x2) q4⟩
    · exact q3.elim
  · exact q3.elim⟩
theorem de_index (hr : X.A.units + 65 < cLine) (ho : DE X o to) (ha : DA X [e] ts)
    (hbase : attributeBase o "index" X.env (eval o X.env) = eval o X.env := by rfl)
    (hfew : ((backTo cpos (starEach [e] X.env)).all (fun x => !x.1) && (backToKw cpos (keywordEach [] X.env)).all (fun x => x.1.isSome)
      && decide (([e] : List Expr).length + ([] : List Keyword).length + (if ([] : List Keyword).isEmpty then 0 else 1) < 30)) = true := by rfl)
    (hline : (apos.endLine == cpos.line) = true := by rfl) (hs : starEach [e] X.env = (false, eval e X.env) :: starEach [] X.env := by rfl) (hplain : (backTo cpos (starEach [] X.env)).any (·.1) = false := by rfl) :
    DE X (.Call (.Attribute o "index" apos) [e] [] cpos) (dMt1 idxO to ts) := ⟨fun G H σ τ W Q r q => by
  refine semE.of (pe_bm PySem.F.plainAttrs_list PySem.F.slot_list_index PySem.F.type_list_index (mt_indexD hr) peSem paSem hbase hfew hline hs hplain) ?_
  refine ho.then r q fun d v G1 H1 r1 x1 k1 ⟨⟨l, hl⟩, q1⟩ => ?_
  obtain ⟨a, vs, rfl, hq, _⟩ := Rp.lst r1.sim k1 hl
  refine ⟨.inl ⟨rfl, vs, hq⟩, ha.then r1 q1 fun ds us G2 H2 r2 x2 k2 q3 => ?_⟩
  try dsimp only at q3
  split at q3
  · rename_i d2
    obtain ⟨w, rfl, kd⟩ := one_of k2
    have k1' := k1.ext r1.sim x2 _ _
    unfold idxO at q3
    split at q3
    · rename_i ps p h1 h2
      obtain ⟨s1, s2, j, z, a1, a2, a3, q4⟩ := q3
      exact ⟨a, w, p, ps, j, z, rfl, rfl, (pyD_dp r2.sim 9 _ _ _ h1 k1').1, (pyD_dp r2.sim 9 _ _ _ h2 kd).1, s1, s2, a1, a2, a3, .of (d := .int _) rfl r2.sim (x1.trans x2) q4⟩
    · exact q3.elim
  · exact q3.elim⟩
end
end DL

namespace DL
open PySem PySem.Spec L2
open PyProof.Rows hiding St
/-! ### repr of tuples with an empty dict within -/
def pureE : Nat → D → Bool
  | 0, _ => false
  | n + 1, d => match d with
    | .non => true
    | .bl _ => true
    | .int _ => true
    | .str _ => true
    | .tup ds => ds.all (pureE n)
    | .emp => true
    | _ => false
theorem toPy_depthAll {n : Nat} (ih : ∀ d, (toPy n d).depth ≤ n) : ∀ ds : List D, PyData.depthAll (ds.map (toPy n)) ≤ n
  | [] => by simp only [List.map_nil, PyData.depthAll]; omega
  | d :: ds => by
    have h1 := ih d
    have h2 := toPy_depthAll ih ds
    simp only [List.map_cons, PyData.depthAll]; omega
theorem toPy_depth : ∀ (n : Nat) (d : D), (toPy n d).depth ≤ n
  | 0, d => by unfold toPy; simp only [PyData.depth]; omega
  | n + 1, d => by
    unfold toPy
    cases d with
    | tup ds => have := toPy_depthAll (toPy_depth n) ds; simp only [PyData.depth]; omega
    | kl ds => have := toPy_depthAll (toPy_depth n) ds; simp only [PyData.depth]; omega
    | kc ds => have := toPy_depthAll (toPy_depth n) ds; simp only [PyData.depth]; omega
    | emp => simp only [PyData.depth, PyData.depthKv]; omega
    | _ => simp only [PyData.depth]; omega
section
variable {X : Cx} {pins : List (Addr × Obj)} {σ : L2.St} {H : Hp} {s : Shared}
mutual
theorem Rp.readsE (I : Inv X pins σ H s) : ∀ (n : Nat) (d : D) (v : V) (u : Value), pureE n d = true → Rp X.K H d v → RelV v u → ∃ as, Reads s.heap u (toPy n d) as ∧ sysModules ∉ as
  | 0, _, _, _, h, _, _ => by cases h
  | n + 1, .non, _, _, _, r, e => by cases r; cases e; exact ⟨_, .none, by simp⟩
  | n + 1, .bl b, _, _, _, r, e => by cases r; cases e; exact ⟨_, .bool b, by simp⟩
  | n + 1, .int b, _, _, _, r, e => by cases r; obtain ⟨t, rfl⟩ := e; exact ⟨_, .int b t, by simp⟩
  | n + 1, .str b, _, _, _, r, e => by cases r; obtain ⟨t, rfl⟩ := e; exact ⟨_, .str b t, by simp⟩
  | n + 1, .tup ds, v, u, h, r, e => by
    obtain ⟨a, vs, rfl, t, rr⟩ := r
    obtain rfl : u = .ref a := e
    obtain ⟨its, rv, ⟨o, ho, hc, m, hd⟩, _⟩ := I.tuple t
    obtain ⟨as, h1, h2⟩ := Rps.readsE I n ds vs its (by unfold pureE at h; exact h) rr rv
    exact ⟨as, .tuple ho hc hd h1, h2⟩
  | n + 1, .emp, v, u, h, r, e => by
    obtain ⟨a, ob, rfl, m, t, ⟨c, _, _⟩, ep, hd⟩ := r
    obtain rfl : u = .ref a := e
    obtain ⟨h1, _, _⟩ := I.hok a _ t
    refine ⟨a :: [] ++ [], .dict h1 c hd .nil .nil, fun z => ?_⟩
    have z' : sysModules = a := by simpa using z
    subst z'
    exact absurd m (by decide)
  | n + 1, .ty _, _, _, h, _, _ => by cases h
  | n + 1, .ref _, _, _, h, _, _ => by cases h
  | n + 1, .kl _, _, _, h, _, _ => by cases h
  | n + 1, .kc _, _, _, h, _, _ => by cases h
  | n + 1, .exc _ _ _, _, _, h, _, _ => by cases h
theorem Rps.readsE (I : Inv X pins σ H s) : ∀ (n : Nat) (ds : List D) (vs : List V) (us : List Value), ds.all (pureE n) = true → Rps X.K H ds vs → Vals vs us → ∃ as, ReadsAll s.heap us (ds.map (toPy n)) as ∧ sysModules ∉ as
  | n, [], _, _, _, r, e => by cases r; cases e; exact ⟨_, .nil, by simp⟩
  | n, d :: ds, _, _, h, r, e => by
    obtain ⟨v, vs, rfl, r1, r2⟩ := r
    rw [List.all_cons, Bool.and_eq_true] at h
    cases e with
    | cons e1 e2 =>
      obtain ⟨as, h1, h2⟩ := Rp.readsE I n d _ _ h.1 r1 e1
      obtain ⟨bs, h3, h4⟩ := Rps.readsE I n ds _ _ h.2 r2 e2
      exact ⟨as ++ bs, .cons h1 h3, fun z => (List.mem_append.mp z).elim h2 h4⟩
end
end
def rRepE (K : PySem.W.Frag) : List V → Hp → VK → Prop := fun xs H Q => ∃ v d a, xs = [v] ∧ v = .ref a ∧ pureE 9 d = true ∧ Rp K H d v ∧ (toPy 9 d).showable = true ∧ (toPy 9 d).shown.length ≤ sizeLine ∧ Q (.str (toPy 9 d).shown) H
theorem call_repT {X : Cx} (hg : X.A.guards = some []) (hu : X.A.units + 64 < cLine) : CallR X (.builtin "repr") (rRepE X.K) := by
  intro pins s σ H xs us Q I rv ⟨v, d, a, e, ev, hp, rp, hs, hz, q⟩
  subst e
  obtain ⟨u, eu, ru⟩ := vals1 rv
  subst eu
  subst ev
  obtain ⟨as, hr, hm⟩ := Rp.readsE I 9 d _ u hp rp ru
  obtain rfl : u = .ref a := ru
  have hd := toPy_depth 9 d
  exact repr_of_reads' hr hs (fun _ => hm) hg (by omega) (fun _ _ e => e) (fun h' u tk k => ⟨.str _, H, I.kept (t' := tk) k, ⟨u, rfl⟩, q⟩) hz
def isBox : D → Bool
  | .tup _ => true
  | .emp => true
  | _ => false
def rReprX : List D → HD → Post → Prop := fun ds G Q => match ds with
  | [d] => (pureE 9 d = true ∧ isBox d = true ∧ (toPy 9 d).showable = true ∧ (toPy 9 d).shown.length ≤ sizeLine ∧ Q (.str (toPy 9 d).shown) G) ∨ rReprD [d] G Q
  | _ => False
theorem cd_reprX (K : PySem.W.Frag) : CallD K (fun xs H Q => (rRep0 K xs H Q ∨ ∃ a, xs = [.ref a] ∧ H a = some (.dK []) ∧ Q (.str (PyData.dict []).shown) H) ∨ rRepE K xs H Q) rReprX := fun G H ds vs Q Q' s k f q => by
  unfold rReprX at q
  split at q
  · rename_i d
    rcases q with ⟨h1, h2, h3, h4, q⟩ | q
    · obtain ⟨v, rfl, kd⟩ := one_of k
      have : ∃ a, v = .ref a := by
        cases d with
        | tup _ => obtain ⟨a, _, e, _⟩ := kd; exact ⟨a, e⟩
        | emp => obtain ⟨a, _, e, _⟩ := kd; exact ⟨a, e⟩
        | _ => cases h2
      obtain ⟨a, e⟩ := this
      exact .inr ⟨v, d, a, rfl, e, h1, kd, h3, h4, f _ _ (.of (d := .str _) rfl s .refl q)⟩
    · exact .inl (cd_repr K G H [d] vs Q Q' s k f q)
  · exact q.elim
theorem bc_reprX {X : Cx} {k : Nat} {p pos : Pos} {e : Expr} {ts : TDA} (hr : RoomG k X.A) (hm : X.mg "repr" = none) (ha : DA X [e] ts) (hg : Gl X "repr" := by rfl) (he : starEach [e] X.env = (false, eval e X.env) :: starEach [] X.env := by rfl) : DE X (.Call (.Name "repr" p) [e] [] pos) (dCB rReprX ts) :=
  de_cb (CallR.or (CallR.or (call_rep0 hr.gd hr.units) (call_repE hr.gd hr.units)) (call_repT hr.gd hr.units)) (cd_reprX X.K) hm (by decide +kernel) ha hg (by decide) (by decide) he (by rfl)
theorem i_reprX {d : D} {G : HD} {Q : Post} (h : pureD 9 d = true ∨ (pureE 9 d = true ∧ isBox d = true)) (h1 : (toPy 9 d).showable = true) (h2 : (toPy 9 d).shown.length ≤ sizeLine) (q : Q (.str (toPy 9 d).shown) G) : rReprX [d] G Q := by
  rcases h with h | h
  · exact .inr (i_repr h h1 h2 q)
  · exact .inl ⟨h.1, h.2, h1, h2, q⟩
/-! for the plain laws -/
section
variable {G : HD} {Q : Post} {n : String} {c : Addr} {ic : String ⊕ Addr → String ⊕ Addr → Bool → Prop} {ec : Addr → Value → Bool → Prop} {C : Addr} {ns : List Str} {ds : List D} {i : Int} {x : Str} {b : Bool} {xs : List D} {te : TD} {ts : TDA} {W : DW} {σ : DSt}
theorem q_emp : dEmp W σ G Q = Q .emp G := propext ⟨fun h => h, fun h => h⟩
theorem q_mt1 {p : Option PyData → Option PyData → HD → Post → Prop} : dMt1 p te ts W σ G Q = te W σ G fun o G1 => (∃ l, asL G1 o = some l) ∧ (ts W σ G1 fun ds G2 => match ds with
  | [d] => p (pyD 9 G2 o) (pyD 9 G2 d) G2 Q
  | _ => False) := propext ⟨fun h => h, fun h => h⟩
theorem r_isiEB : rIsiE ic ec [.emp, .ty "int"] G Q = Q (.bl false) G := propext ⟨fun h => h, fun h => h⟩
theorem r_isiEb : rIsiE ic ec [.emp, .ty "bool"] G Q = Q (.bl false) G := propext ⟨fun h => h, fun h => h⟩
theorem r_isiEt : rIsiE ic ec [.emp, .ty "tuple"] G Q = Q (.bl false) G := propext ⟨fun h => h, fun h => h⟩
theorem r_isiEs : rIsiE ic ec [.emp, .ty "str"] G Q = Q (.bl false) G := propext ⟨fun h => h, fun h => h⟩
theorem r_isiEl : rIsiE ic ec [.emp, .ty "list"] G Q = Q (.bl false) G := propext ⟨fun h => h, fun h => h⟩
theorem r_isiEd : rIsiE ic ec [.emp, .ty "dict"] G Q = Q (.bl true) G := propext ⟨fun h => h, fun h => h⟩
theorem r_isiER : rIsiE ic ec [.emp, .ref c] G Q = ∃ b, ic (.inl "dict") (.inr c) b ∧ Q (.bl b) G := propext ⟨fun h => h, fun h => h⟩
variable {t : D}
theorem r_isE_non : rIsiE ic ec [.non, t] G Q = rIsiD ic [.non, t] G Q := propext ⟨fun h => h, fun h => h⟩
theorem r_isX_non : rIsiX ic ec [.non, t] G Q = rIsiD ic [.non, t] G Q := propext ⟨fun h => h, fun h => h⟩
theorem r_isE_bl : rIsiE ic ec [.bl b, t] G Q = rIsiD ic [.bl b, t] G Q := propext ⟨fun h => h, fun h => h⟩
theorem r_isX_bl : rIsiX ic ec [.bl b, t] G Q = rIsiD ic [.bl b, t] G Q := propext ⟨fun h => h, fun h => h⟩
theorem r_isE_int : rIsiE ic ec [.int i, t] G Q = rIsiD ic [.int i, t] G Q := propext ⟨fun h => h, fun h => h⟩
theorem r_isX_int : rIsiX ic ec [.int i, t] G Q = rIsiD ic [.int i, t] G Q := propext ⟨fun h => h, fun h => h⟩
theorem r_isE_str : rIsiE ic ec [.str x, t] G Q = rIsiD ic [.str x, t] G Q := propext ⟨fun h => h, fun h => h⟩
theorem r_isX_str : rIsiX ic ec [.str x, t] G Q = rIsiD ic [.str x, t] G Q := propext ⟨fun h => h, fun h => h⟩
theorem r_isE_tup : rIsiE ic ec [.tup xs, t] G Q = rIsiD ic [.tup xs, t] G Q := propext ⟨fun h => h, fun h => h⟩
theorem r_isX_tup : rIsiX ic ec [.tup xs, t] G Q = rIsiD ic [.tup xs, t] G Q := propext ⟨fun h => h, fun h => h⟩
theorem r_isE_kl : rIsiE ic ec [.kl xs, t] G Q = rIsiD ic [.kl xs, t] G Q := propext ⟨fun h => h, fun h => h⟩
theorem r_isX_kl : rIsiX ic ec [.kl xs, t] G Q = rIsiD ic [.kl xs, t] G Q := propext ⟨fun h => h, fun h => h⟩
theorem r_isE_kc : rIsiE ic ec [.kc xs, t] G Q = rIsiD ic [.kc xs, t] G Q := propext ⟨fun h => h, fun h => h⟩
theorem r_isX_kc : rIsiX ic ec [.kc xs, t] G Q = rIsiD ic [.kc xs, t] G Q := propext ⟨fun h => h, fun h => h⟩
theorem r_isE_ref : rIsiE ic ec [.ref c, t] G Q = rIsiD ic [.ref c, t] G Q := propext ⟨fun h => h, fun h => h⟩
theorem r_isX_ref : rIsiX ic ec [.ref c, t] G Q = rIsiD ic [.ref c, t] G Q := propext ⟨fun h => h, fun h => h⟩
theorem r_rIsiET : rIsiE ic ec [.exc C ns ds, .ty n] G Q = ∃ b, ec C (.type n) b ∧ Q (.bl b) G := propext ⟨fun h => h, fun h => h⟩
theorem r_rIsiER : rIsiE ic ec [.exc C ns ds, .ref c] G Q = ∃ b, ec C (.ref c) b ∧ Q (.bl b) G := propext ⟨fun h => h, fun h => h⟩
theorem r_rIsiXT : rIsiX ic ec [.exc C ns ds, .ty n] G Q = ∃ b, ec C (.type n) b ∧ Q (.bl b) G := propext ⟨fun h => h, fun h => h⟩
theorem r_rIsiXR : rIsiX ic ec [.exc C ns ds, .ref c] G Q = ∃ b, ec C (.ref c) b ∧ Q (.bl b) G := propext ⟨fun h => h, fun h => h⟩
end
end DL

namespace DL
open PySem PySem.Spec L2
open PyProof.Rows hiding St
section
variable {G : HD} {Q : Post} {ic : String ⊕ Addr → String ⊕ Addr → Bool → Prop} {i : Int} {x : Str} {b : Bool} {xs : List D}
theorem r_isD_non_int : rIsiD ic [.non, .ty "int"] G Q = Q (.bl false) G := propext ⟨fun h => h, fun h => h⟩
theorem r_isD_non_bool : rIsiD ic [.non, .ty "bool"] G Q = Q (.bl false) G := propext ⟨fun h => h, fun h => h⟩
theorem r_isD_non_tuple : rIsiD ic [.non, .ty "tuple"] G Q = Q (.bl false) G := propext ⟨fun h => h, fun h => h⟩
theorem r_isD_non_str : rIsiD ic [.non, .ty "str"] G Q = Q (.bl false) G := propext ⟨fun h => h, fun h => h⟩
theorem r_isD_non_list : rIsiD ic [.non, .ty "list"] G Q = Q (.bl false) G := propext ⟨fun h => h, fun h => h⟩
theorem r_isD_non_dict : rIsiD ic [.non, .ty "dict"] G Q = Q (.bl false) G := propext ⟨fun h => h, fun h => h⟩
theorem r_isD_bl_int : rIsiD ic [.bl b, .ty "int"] G Q = Q (.bl true) G := propext ⟨fun h => h, fun h => h⟩
theorem r_isD_bl_bool : rIsiD ic [.bl b, .ty "bool"] G Q = Q (.bl true) G := propext ⟨fun h => h, fun h => h⟩
theorem r_isD_bl_tuple : rIsiD ic [.bl b, .ty "tuple"] G Q = Q (.bl false) G := propext ⟨fun h => h, fun h => h⟩
theorem r_isD_bl_str : rIsiD ic [.bl b, .ty "str"] G Q = Q (.bl false) G := propext ⟨fun h => h, fun h => h⟩
theorem r_isD_bl_list : rIsiD ic [.bl b, .ty "list"] G Q = Q (.bl false) G := propext ⟨fun h => h, fun h => h⟩
theorem r_isD_bl_dict : rIsiD ic [.bl b, .ty "dict"] G Q = Q (.bl false) G := propext ⟨fun h => h, fun h => h⟩
theorem r_isD_int_int : rIsiD ic [.int i, .ty "int"] G Q = Q (.bl true) G := propext ⟨fun h => h, fun h => h⟩
theorem r_isD_int_bool : rIsiD ic [.int i, .ty "bool"] G Q = Q (.bl false) G := propext ⟨fun h => h, fun h => h⟩
theorem r_isD_int_tuple : rIsiD ic [.int i, .ty "tuple"] G Q = Q (.bl false) G := propext ⟨fun h => h, fun h => h⟩
theorem r_isD_int_str : rIsiD ic [.int i, .ty "str"] G Q = Q (.bl false) G := propext ⟨fun h => h, fun h => h⟩
theorem r_isD_int_list : rIsiD ic [.int i, .ty "list"] G Q = Q (.bl false) G := propext ⟨fun h => h, fun h => h⟩
theorem r_isD_int_dict : rIsiD ic [.int i, .ty "dict"] G Q = Q (.bl false) G := propext ⟨fun h => h, fun h => h⟩
theorem r_isD_str_int : rIsiD ic [.str x, .ty "int"] G Q = Q (.bl false) G := propext ⟨fun h => h, fun h => h⟩
theorem r_isD_str_bool : rIsiD ic [.str x, .ty "bool"] G Q = Q (.bl false) G := propext ⟨fun h => h, fun h => h⟩
theorem r_isD_str_tuple : rIsiD ic [.str x, .ty "tuple"] G Q = Q (.bl false) G := propext ⟨fun h => h, fun h => h⟩
theorem r_isD_str_str : rIsiD ic [.str x, .ty "str"] G Q = Q (.bl true) G := propext ⟨fun h => h, fun h => h⟩
theorem r_isD_str_list : rIsiD ic [.str x, .ty "list"] G Q = Q (.bl false) G := propext ⟨fun h => h, fun h => h⟩
theorem r_isD_str_dict : rIsiD ic [.str x, .ty "dict"] G Q = Q (.bl false) G := propext ⟨fun h => h, fun h => h⟩
theorem r_isD_tup_int : rIsiD ic [.tup xs, .ty "int"] G Q = Q (.bl false) G := propext ⟨fun h => h, fun h => h⟩
theorem r_isD_tup_bool : rIsiD ic [.tup xs, .ty "bool"] G Q = Q (.bl false) G := propext ⟨fun h => h, fun h => h⟩
theorem r_isD_tup_tuple : rIsiD ic [.tup xs, .ty "tuple"] G Q = Q (.bl true) G := propext ⟨fun h => h, fun h => h⟩
theorem r_isD_tup_str : rIsiD ic [.tup xs, .ty "str"] G Q = Q (.bl false) G := propext ⟨fun h => h, fun h => h⟩
theorem r_isD_tup_list : rIsiD ic [.tup xs, .ty "list"] G Q = Q (.bl false) G := propext ⟨fun h => h, fun h => h⟩
theorem r_isD_tup_dict : rIsiD ic [.tup xs, .ty "dict"] G Q = Q (.bl false) G := propext ⟨fun h => h, fun h => h⟩
theorem r_isD_kl_int : rIsiD ic [.kl xs, .ty "int"] G Q = Q (.bl false) G := propext ⟨fun h => h, fun h => h⟩
theorem r_isD_kl_bool : rIsiD ic [.kl xs, .ty "bool"] G Q = Q (.bl false) G := propext ⟨fun h => h, fun h => h⟩
theorem r_isD_kl_tuple : rIsiD ic [.kl xs, .ty "tuple"] G Q = Q (.bl false) G := propext ⟨fun h => h, fun h => h⟩
theorem r_isD_kl_str : rIsiD ic [.kl xs, .ty "str"] G Q = Q (.bl false) G := propext ⟨fun h => h, fun h => h⟩
theorem r_isD_kl_list : rIsiD ic [.kl xs, .ty "list"] G Q = Q (.bl true) G := propext ⟨fun h => h, fun h => h⟩
theorem r_isD_kl_dict : rIsiD ic [.kl xs, .ty "dict"] G Q = Q (.bl false) G := propext ⟨fun h => h, fun h => h⟩
theorem r_isD_kc_int : rIsiD ic [.kc xs, .ty "int"] G Q = Q (.bl false) G := propext ⟨fun h => h, fun h => h⟩
theorem r_isD_kc_bool : rIsiD ic [.kc xs, .ty "bool"] G Q = Q (.bl false) G := propext ⟨fun h => h, fun h => h⟩
theorem r_isD_kc_tuple : rIsiD ic [.kc xs, .ty "tuple"] G Q = Q (.bl false) G := propext ⟨fun h => h, fun h => h⟩
theorem r_isD_kc_str : rIsiD ic [.kc xs, .ty "str"] G Q = Q (.bl false) G := propext ⟨fun h => h, fun h => h⟩
theorem r_isD_kc_list : rIsiD ic [.kc xs, .ty "list"] G Q = Q (.bl true) G := propext ⟨fun h => h, fun h => h⟩
theorem r_isD_kc_dict : rIsiD ic [.kc xs, .ty "dict"] G Q = Q (.bl false) G := propext ⟨fun h => h, fun h => h⟩
theorem r_isD_non_own {c : Addr} : rIsiD ic [.non, .ref c] G Q = ∃ b, ic (.inl "NoneType") (.inr c) b ∧ Q (.bl b) G := propext ⟨fun h => h, fun h => h⟩
theorem r_isD_bl_own {c : Addr} : rIsiD ic [.bl b, .ref c] G Q = ∃ b, ic (.inl "bool") (.inr c) b ∧ Q (.bl b) G := propext ⟨fun h => h, fun h => h⟩
theorem r_isD_int_own {c : Addr} : rIsiD ic [.int i, .ref c] G Q = ∃ b, ic (.inl "int") (.inr c) b ∧ Q (.bl b) G := propext ⟨fun h => h, fun h => h⟩
theorem r_isD_str_own {c : Addr} : rIsiD ic [.str x, .ref c] G Q = ∃ b, ic (.inl "str") (.inr c) b ∧ Q (.bl b) G := propext ⟨fun h => h, fun h => h⟩
theorem r_isD_tup_own {c : Addr} : rIsiD ic [.tup xs, .ref c] G Q = ∃ b, ic (.inl "tuple") (.inr c) b ∧ Q (.bl b) G := propext ⟨fun h => h, fun h => h⟩
theorem r_isD_kl_own {c : Addr} : rIsiD ic [.kl xs, .ref c] G Q = ∃ b, ic (.inl "list") (.inr c) b ∧ Q (.bl b) G := propext ⟨fun h => h, fun h => h⟩
theorem r_isD_kc_own {c : Addr} : rIsiD ic [.kc xs, .ref c] G Q = ∃ b, ic (.inl "list") (.inr c) b ∧ Q (.bl b) G := propext ⟨fun h => h, fun h => h⟩
end
end DL

namespace DL
open PySem PySem.Spec L2
open PyProof.Rows hiding St
/-! ### how long a repr is -/
/-- small data: ints to 60 figures, texts to 60 signs -/
def smallD : Nat → D → Bool
  | 0, _ => true
  | n + 1, d => match d with
    | .int i => decide (i.natAbs < 10 ^ 60)
    | .str x => PyData.strOk x && decide (x.length ≤ 60)
    | .tup ds => ds.all (smallD n)
    | .kl ds => ds.all (smallD n)
    | .kc ds => ds.all (smallD n)
    | _ => true
mutual
def capD : D → Nat
  | .tup ds => 5 + capDs ds
  | .kl ds => 5 + capDs ds
  | .kc ds => 5 + capDs ds
  | _ => 602
def capDs : List D → Nat
  | [] => 0
  | d :: ds => capD d + 2 + capDs ds
end
theorem joinL (ts : List Str) : (Str.join ", " ts).length ≤ piled ts := by
  by_cases h : ts = []
  · subst h; exact Nat.zero_le _
  · have := join_length_add ts h; omega
theorem listL (ts : List Str) : (listText ts).length ≤ piled ts + 5 := by
  rw [listText_eq_join, strLen_append, strLen_append]
  have := joinL ts
  have e1 : (("[" : String) : Str).length = 1 := rfl
  have e2 : (("]" : String) : Str).length = 1 := rfl
  omega
theorem tupL (ts : List Str) : (tupleText ts).length ≤ piled ts + 5 := by
  unfold tupleText
  rw [strLen_append, strLen_append]
  have := joinL ts
  have e1 : (("(" : String) : Str).length = 1 := rfl
  have e2 : ((if ts.length == 1 then ",)" else ")" : String) : Str).length ≤ 2 := by split <;> decide
  omega
theorem log2_60 {i : Int} (h : i.natAbs < 10 ^ 60) : i.natAbs.log2 < 1920 := by
  by_cases z : i.natAbs = 0
  · rw [z]; decide
  · have := (Nat.log2_lt z).mpr (Nat.lt_trans h (show (10 : Nat) ^ 60 < 2 ^ 1920 by decide +kernel))
    exact this
mutual
theorem small_shown : ∀ (n : Nat) (d : D), smallD n d = true → (toPy n d).showable = true ∧ (toPy n d).shown.length ≤ capD d
  | 0, d, _ => by
    unfold toPy
    refine ⟨rfl, ?_⟩
    have : (PyData.none.shown).length = 4 := rfl
    rw [this]
    cases d <;> simp only [capD] <;> omega
  | n + 1, .int i, h => by
    have h' : i.natAbs < 10 ^ 60 := of_decide_eq_true h
    refine ⟨decide_eq_true (log2_60 h'), ?_⟩
    show (Str.ofString (toString i)).length ≤ 602
    have := PySem.int_text_length_le10 (show 0 < 60 by decide) h'
    have e0 : (Str.ofString (toString i)).length = (toString i).length := PySem.ofString_length _
    omega
  | n + 1, .str x, h => by
    unfold smallD at h
    rw [Bool.and_eq_true] at h
    refine ⟨rfl, ?_⟩
    show (reprText x).length ≤ 602
    have h2 : x.length ≤ 60 := of_decide_eq_true h.2
    have h1 : ∀ c ∈ x.cps.toList, c < 16 ^ 8 := fun c hc => by
      have := h.1
      unfold PyData.strOk at this
      rw [Array.all_eq_true'] at this
      have := of_decide_eq_true (this c (by simpa using hc))
      omega
    have := PySem.StrLaws.reprText_len x h1
    omega
  | n + 1, .tup ds, h => by
    obtain ⟨h1, h2⟩ := smalls_shown n ds (by unfold smallD at h; exact h)
    refine ⟨h1, ?_⟩
    show (tupleText (PyData.shownAll (ds.map (toPy n)))).length ≤ 5 + capDs ds
    have := tupL (PyData.shownAll (ds.map (toPy n)))
    omega
  | n + 1, .kl ds, h => by
    obtain ⟨h1, h2⟩ := smalls_shown n ds (by unfold smallD at h; exact h)
    refine ⟨h1, ?_⟩
    show (listText (PyData.shownAll (ds.map (toPy n)))).length ≤ 5 + capDs ds
    have := listL (PyData.shownAll (ds.map (toPy n)))
    omega
  | n + 1, .kc ds, h => by
    obtain ⟨h1, h2⟩ := smalls_shown n ds (by unfold smallD at h; exact h)
    refine ⟨h1, ?_⟩
    show (listText (PyData.shownAll (ds.map (toPy n)))).length ≤ 5 + capDs ds
    have := listL (PyData.shownAll (ds.map (toPy n)))
    omega
  | n + 1, .bl b, _ => ⟨rfl, by cases b <;> (show _ ≤ 602; exact Nat.le_trans (show _ ≤ 5 from by decide +kernel : (PyData.bool _).shown.length ≤ 5) (by decide))⟩
  | n + 1, .non, _ => ⟨rfl, by show _ ≤ 602; exact Nat.le_trans (show _ ≤ 4 from Nat.le_refl _) (by decide)⟩
  | n + 1, .emp, _ => ⟨rfl, by show _ ≤ 602; exact Nat.le_trans (show _ ≤ 2 from Nat.le_refl _) (by decide)⟩
  | n + 1, .ty _, _ => ⟨rfl, by show _ ≤ 602; exact Nat.le_trans (show _ ≤ 4 from Nat.le_refl _) (by decide)⟩
  | n + 1, .ref _, _ => ⟨rfl, by show _ ≤ 602; exact Nat.le_trans (show _ ≤ 4 from Nat.le_refl _) (by decide)⟩
  | n + 1, .exc _ _ _, _ => ⟨rfl, by show _ ≤ 602; exact Nat.le_trans (show _ ≤ 4 from Nat.le_refl _) (by decide)⟩
theorem smalls_shown : ∀ (n : Nat) (ds : List D), ds.all (smallD n) = true → PyData.showableAll (ds.map (toPy n)) = true ∧ piled (PyData.shownAll (ds.map (toPy n))) ≤ capDs ds
  | n, [], _ => ⟨rfl, Nat.zero_le _⟩
  | n, d :: ds, h => by
    rw [List.all_cons, Bool.and_eq_true] at h
    obtain ⟨h1, h2⟩ := small_shown n d h.1
    obtain ⟨h3, h4⟩ := smalls_shown n ds h.2
    refine ⟨by simp only [List.map_cons, PyData.showableAll, h1, h3, Bool.and_self], ?_⟩
    simp only [List.map_cons, PyData.shownAll, piled_cons, capDs]
    omega
end
theorem i_reprS {d : D} {G : HD} {Q : Post} (h : pureD 9 d = true ∨ (pureE 9 d = true ∧ isBox d = true)) (hs : smallD 9 d = true) (hc : capD d ≤ 1000000) (q : Q (.str (toPy 9 d).shown) G) : rReprX [d] G Q :=
  i_reprX h (small_shown 9 d hs).1 (Nat.le_trans (small_shown 9 d hs).2 (million hc)) q
theorem i_reprS0 {d : D} {G : HD} {Q : Post} (h : pureD 9 d = true) (hs : smallD 9 d = true) (hc : capD d ≤ 1000000) (q : Q (.str (toPy 9 d).shown) G) : rReprD [d] G Q :=
  i_repr h (small_shown 9 d hs).1 (Nat.le_trans (small_shown 9 d hs).2 (million hc)) q
end DL

namespace DL
open PySem PySem.Spec L2
open PyProof.Rows hiding St
/-! ### a def called by the name of its one parameter -/
structure Kw1K (P : Program) (w : World) (K : PySem.W.Frag) (mg : Str → Option Value) (base : Heap) (k : Nat) (x : Str) (sp : SpD) (a : Str) : Prop where
  ex : ∃ (f : Addr) (fd : FuncData), FnK P w K mg base k f fd [a] sp ∧ mg x = some (.ref f) ∧ PySem.W.keepIn K (.ref f) = true ∧
    ∀ (s : Shared) (u : Value), BindsTo s fd ⟨[], [(a, u)]⟩ [(a, u)]
def dKw1 (sp : SpD) (ts : TDA) : TD := fun W σ G Q => ts W σ G fun ds G1 => ds.length = 1 ∧ sp ds G1 Q fun c fs G' => W c fs σ G'
theorem de_kw1 {X : Cx} {k j : Nat} {sp : SpD} {x a : Str} {p pos : Pos} {kws : List Keyword} {tk : TDA} (F : Kw1K X.prog X.w X.K X.mg X.base k x sp a) (hr : RoomG j X.A) (hk : DKw X kws tk) (hj : k ≤ j := by decide) (hg : Gl X x := by rfl)
    (hall : (backToKw pos (keywordEach kws X.env)).all (·.1.isSome) = true := by rfl) (hks : (backToKw pos (keywordEach kws X.env)).filterMap (·.1) = [a] := by rfl) (hdb : (x == ("__debug__" : Str)) = false := by decide)
    (hpl : ((backTo pos (starEach [] X.env)).any (·.1) || (backToKw pos (keywordEach kws X.env)).any (·.1.isNone)) = false := by rfl) : DE X (.Call (.Name x p) [] kws pos) (dKw1 sp tk) := ⟨fun G H σ τ W Q r q pins s I => by
  obtain ⟨f, fd, F1, hm, hkp, hb⟩ := F.ex
  refine wpAny_Call_Name_kw (ld_glob I hg hm ?_ hdb)
  refine PySem.W.callWith_KW0 (h₀ := X.base) I.ok.mod.kin hkp hall ?_ hpl
  refine thn ((hk.run G H σ τ W _ r q) pos pins s I) fun ws s2 ⟨zs, H2, I2, rz, ds, G1, k1, sm1, x1, hl, q1⟩ => ⟨I2.kIn, ?_⟩
  rw [hks]
  obtain ⟨d1, rfl⟩ : ∃ d1, ds = [d1] := by
    match ds, hl with
    | [d1], _ => exact ⟨d1, rfl⟩
  obtain ⟨v1, _, rfl, kd1, e2⟩ := k1
  obtain rfl := e2
  obtain ⟨u1, rfl, r1⟩ := vals1 rz
  have hq := runK (es := [d1]) (vs := [v1]) (us := [u1]) F1 (hr.mono hj) (hb s2 u1) (r.ext sm1 x1) I2 (.cons r1 .nil) ⟨v1, _, rfl, kd1, rfl⟩ rfl q1
  refine wpAny_call (codeAny_mono hq fun z s3 hz => ?_)
  cases z with
  | error e => exact hz
  | ok fl =>
    cases fl with
    | ret u =>
      obtain ⟨v, H3, I3, l2, q2⟩ := hz
      exact ⟨v, H3, I3, l2, q2.up x1⟩
    | next => exact False.elim hz
    | brk => exact False.elim hz
    | cont => exact False.elim hz⟩
/-! ### min of a tuple of ints -/
def rMinTV (K : PySem.W.Frag) : List V → Hp → VK → Prop := fun vs H Q => ∃ (a : Addr) (n : Int) (ns : List Int), vs = [V.ref a] ∧ SqT K H a ((n :: ns).map V.int) ∧ Q (.int (ns.foldl min n)) H
theorem reads_ints {h : Heap} : ∀ {ns : List Int} {us : List Value}, Vals (ns.map V.int) us → ∃ as, ReadsAll h us (ns.map PyData.int) as
  | [], _, r => by cases r; exact ⟨_, .nil⟩
  | n :: ns, _, r => by
    cases r with
    | cons a b =>
      obtain ⟨t, rfl⟩ := a
      obtain ⟨as, k⟩ := reads_ints (ns := ns) b
      exact ⟨_, .cons (.int n t) k⟩
theorem depth_ints : ∀ ns : List Int, PyData.depthAll (ns.map PyData.int) = 0
  | [] => rfl
  | n :: ns => by simp only [List.map_cons, PyData.depthAll, PyData.depth, depth_ints ns]; rfl
theorem alike_ints (ns : List Int) : PySem.W.AlikeAll (ns.map PyData.int) := by
  refine ⟨fun x hx y hy => ?_, fun x hx => ?_⟩
  · obtain ⟨i, _, rfl⟩ := List.mem_map.mp hx
    obtain ⟨j, _, rfl⟩ := List.mem_map.mp hy
    rfl
  · obtain ⟨i, _, rfl⟩ := List.mem_map.mp hx
    exact nofun
theorem call_minT {X : Cx} (hc : X.calm = true) (hu : X.A.units + 64 < cLine) : CallR X (.builtin "min") (rMinTV X.K) := by
  intro pins s σ H vs us Q I r ⟨a, n, ns, e, t, q⟩
  subst e
  obtain ⟨its, rv, hT, _⟩ := I.tuple t
  rw [Vals.ref1 r]
  obtain ⟨as, hr⟩ := reads_ints (h := s.heap) (ns := n :: ns) rv
  refine PySem.W.min_tuple_data (I.ok.hd hc) hT (by simpa using hr) (alike_ints (n :: ns)) (by rw [show PyData.int n :: ns.map PyData.int = (n :: ns).map PyData.int from rfl, depth_ints]; omega) fun i v h' tk bs hv rd hk => ?_
  rw [PySem.W.minD_ints] at rd
  cases rd with
  | int _ t => exact ⟨.int _, H, I.kept (t' := tk) hk, ⟨_, rfl⟩, q⟩
def minTO (o : Option (List Int)) (G : HD) (Q : Post) : Prop := match o with
  | some (n :: ns) => Q (.int (ns.foldl min n)) G
  | _ => False
def rMinT : List D → HD → Post → Prop := fun ds G Q => match ds with
  | [.tup es] => minTO (asInts es) G Q
  | ds => rMin2 ds G Q
theorem cd_minT (K : PySem.W.Frag) : CallD K (fun xs H Q => ((∃ i j, xs = [.int i, .int j] ∧ Q (.int (if j < i then j else i)) H) ∨ L2.rMin K xs H Q) ∨ rMinTV K xs H Q) rMinT := fun G H ds vs Q Q' s k f q => by
  unfold rMinT at q
  split at q
  · rename_i es
    obtain ⟨v, rfl, kd⟩ := one_of k
    unfold minTO at q
    split at q
    · rename_i n ns e
      obtain ⟨a, vs, rfl, t, r⟩ := kd
      obtain rfl := asInts_eq e
      obtain rfl := r.ints
      exact .inr ⟨a, n, ns, rfl, t, f _ _ (.of (d := .int _) rfl s .refl q)⟩
    · exact q.elim
  · exact .inl (cd_min K G H ds vs Q Q' s k f q)
theorem bc_minT {X : Cx} {p pos : Pos} {e : Expr} {ts : TDA} (hc : X.calm = true) (hu : X.A.units + 64 < cLine) (hm : X.mg "min" = none) (ha : DA X [e] ts) (hg : Gl X "min" := by rfl)
    (he : starEach [e] X.env = (false, eval e X.env) :: starEach [] X.env := by rfl) : DE X (.Call (.Name "min" p) [e] [] pos) (dCB rMinT ts) :=
  de_cb (CallR.or (CallR.or (call_min2 hc) (cr_min hc)) (call_minT hc hu)) (cd_minT X.K) hm (by decide +kernel) ha hg (by decide) (by decide) he (by rfl)
section
variable {G : HD} {Q : Post} {i j : Int} {W : DW} {σ : DSt} {sp : SpD} {ts : TDA}
theorem q_kw1 : dKw1 sp ts W σ G Q = ts W σ G fun ds G1 => ds.length = 1 ∧ sp ds G1 Q fun c fs G' => W c fs σ G' := propext ⟨fun h => h, fun h => h⟩
theorem r_minT2 : rMinT [.tup [.int i, .int j]] G Q = Q (.int (min i j)) G := propext ⟨fun h => h, fun h => h⟩
end
end DL

namespace DL
open PySem PySem.Spec L2
open PyProof.Rows hiding St
/-! ### texts: gone through, compared, joined -/
def signs (x : Str) : List D := x.cps.toList.map fun c => D.str ⟨#[c]⟩
theorem signs_len {x : Str} : (signs x).length = x.cps.size := by unfold signs; rw [List.length_map]; simp
theorem signs_at {x : Str} {i : Nat} {c : Nat} (h : x.cps[i]? = some c) : (signs x)[i]? = some (.str ⟨#[c]⟩) := by
  unfold signs
  rw [List.getElem?_map, Array.getElem?_toList, h]; rfl
theorem its_rel {K : PySem.W.Frag} {G1 : HD} {H1 : Hp} (x : Str) : ItRel K G1 H1 ⟨signs x, fun _ => True⟩ (Its x) :=
  ⟨fun i G H s _ _ hi => by rw [signs_len] at hi; exact hi, fun i G H v H' s _ _ hi hy => by
    obtain ⟨rfl, c, hc, rfl⟩ := hy
    exact ⟨_, signs_at hc, rfl, s, .refl⟩, fun i G H s _ _ hi => by rw [signs_len] at hi; exact hi⟩
def strP (d : D) (G : HD) (R : ItD → HD → Prop) : Prop := match d with
  | .str x => R ⟨signs x, fun _ => True⟩ G
  | _ => False
def jStr (tl : TD) : TDI := fun W σ G R => tl W σ G fun d G1 => strP d G1 R
theorem di_str {X : Cx} {tg l : Expr} {tl : TD} (hl : DE X l tl) : DI X tg l (iStr (semE X l)) (jStr tl) :=
  ⟨pi_str peSem, fun G H σ τ W R R' r q fin => hl.then r q fun d v G1 H1 r1 x1 k1 q1 => by
    unfold strP at q1
    split at q1
    · rename_i x
      cases k1
      exact ⟨x, rfl, fin _ _ G1 H1 r1.sim x1 (its_rel x) q1⟩
    · exact q1.elim⟩
/-- <= of ints, of texts -/
def dLeX : D → D → HD → Post → Prop := fun d e G Q => match d, e with
  | .int i, .int j => Q (.bl (decide (i ≤ j))) G
  | .str i, .str j => Q (.bl (!decide (j.cps.toList < i.cps.toList))) G
  | _, _ => False
theorem od_leX (K : PySem.W.Frag) : OpD K (fun x y H Q => rI0 (fun i j => .bl (decide (i ≤ j))) x y H Q ∨ ∃ i j, x = .str i ∧ y = .str j ∧ Q (.bl (!decide (j.cps.toList < i.cps.toList))) H) dLeX := fun G H d e x y Q Q' s k1 k2 f q => by
  unfold dLeX at q
  split at q
  · rename_i i j
    refine .inl (od_cmpI K (fun i j => decide (i ≤ j)) G H (.int i) (.int j) x y Q Q' s k1 k2 f q)
  · cases k1; cases k2
    exact .inr ⟨_, _, rfl, rfl, f _ _ (.of (d := .bl _) rfl s .refl q)⟩
  · exact q.elim
theorem c_leX {X : Cx} (hu : X.A.units + 64 < cLine) : CmpR X .LtE dLeX := ⟨_, op_le.or op_le_str, od_leX X.K⟩
/-- a sign in a text -/
def dInS (neg : Bool) : D → D → HD → Post → Prop := fun d e G Q => match d, e with
  | .str i, .str z => ∃ c : Nat, i = ⟨#[c]⟩ ∧ Q (.bl (if neg then !decide (c ∈ z.cps.toList) else decide (c ∈ z.cps.toList))) G
  | _, _ => False
theorem od_inS (K : PySem.W.Frag) : OpD K (fun x y H Q => ∃ (c : Nat) (z : Str), x = .str ⟨#[c]⟩ ∧ y = .str z ∧ Q (.bl (decide (c ∈ z.cps.toList))) H) (dInS false) := fun G H d e x y Q Q' s k1 k2 f q => by
  unfold dInS at q
  split at q
  · obtain ⟨c, rfl, q⟩ := q
    cases k1; cases k2
    exact ⟨c, _, rfl, rfl, f _ _ (.of (d := .bl _) rfl s .refl q)⟩
  · exact q.elim
theorem od_ninS (K : PySem.W.Frag) : OpD K (fun x y H Q => ∃ (c : Nat) (z : Str), x = .str ⟨#[c]⟩ ∧ y = .str z ∧ Q (.bl (!decide (c ∈ z.cps.toList))) H) (dInS true) := fun G H d e x y Q Q' s k1 k2 f q => by
  unfold dInS at q
  split at q
  · obtain ⟨c, rfl, q⟩ := q
    cases k1; cases k2
    exact ⟨c, _, rfl, rfl, f _ _ (.of (d := .bl _) rfl s .refl q)⟩
  · exact q.elim
theorem c_inS {X : Cx} : CmpR X .In (dInS false) := ⟨_, op_in_sign, od_inS X.K⟩
theorem c_ninS {X : Cx} : CmpR X .NotIn (dInS true) := ⟨_, op_notIn_sign, od_ninS X.K⟩
/-- "..".join(l), t.upper() -/
def asStrs : List D → Option (List Str)
  | [] => some []
  | .str x :: r => (asStrs r).map (x :: ·)
  | _ => none
theorem asStrs_rps {K : PySem.W.Frag} {H : Hp} : ∀ {ds : List D} {vs : List V} {ys : List Str}, asStrs ds = some ys → Rps K H ds vs → vs = ys.map V.str
  | [], vs, ys, e, r => by cases e; cases r; rfl
  | d :: ds, vs, ys, e, r => by
    obtain ⟨v, t, rfl, h1, h2⟩ := r
    cases d with
    | str x =>
      simp only [asStrs, Option.map_eq_some_iff] at e
      obtain ⟨zs, e1, rfl⟩ := e
      cases h1
      rw [asStrs_rps e1 h2]; rfl
    | _ => cases e
def joinO (a : Str) (o : Option (List D)) (G : HD) (Q : Post) : Prop := match o with
  | some ds => match asStrs ds with
    | some ys => (ys.map (·.length)).sum + ys.length * a.length ≤ 16777216 ∧ Q (.str (Txt.join a ys)) G
    | none => False
  | none => False
def joinP (o : D) (ds : List D) (G : HD) (Q : Post) : Prop := match o, ds with
  | .str a, [d] => joinO a (asL G d) G Q
  | _, _ => False
def upP (o : D) (G : HD) (Q : Post) : Prop := match o with
  | .str a => a.length ≤ 5592405 ∧ Q (.str (Txt.upper a)) G
  | _ => False
def dJoin (to te : TD) : TD := fun W σ G Q => to W σ G fun o G1 => (∃ a, o = .str a) ∧ te W σ G1 fun d G2 => joinP o [d] G2 Q
def dUpper (to : TD) : TD := fun W σ G Q => to W σ G fun o G1 => upP o G1 Q
section
variable {X : Cx} {o e : Expr} {to te : TD} {apos pos : Pos}
theorem de_join (ho : DE X o to) (he : DE X e te) (hs : starEach [e] X.env = [(false, eval e X.env)] := by rfl) (hbase : attributeBase o "join" X.env (eval o X.env) = eval o X.env := by rfl) (hline : (apos.endLine == pos.line) = true := by rfl) :
    DE X (.Call (.Attribute o "join" apos) [e] [] pos) (dJoin to te) := ⟨fun G H σ τ W Q r q => by
  refine semE.of (pe_join peSem peSem hs hbase hline) (ho.then r q fun d x G1 H1 r1 x1 k1 ⟨⟨a, ea⟩, q1⟩ => ?_)
  subst ea
  cases k1
  refine ⟨⟨a, rfl⟩, he.then r1 q1 fun d2 y G2 H2 r2 x2 k2 q2 => ?_⟩
  unfold joinP joinO at q2
  try dsimp only at q2
  split at q2
  · rename_i ds e1
    split at q2
    · rename_i ys e2
      obtain ⟨b, vs, rfl, t, rr⟩ := Rp.lst r2.sim k2 e1
      obtain rfl := asStrs_rps e2 rr
      exact ⟨a, b, ys, rfl, rfl, .inl t, q2.1, .of (d := .str _) rfl r2.sim (x1.trans x2) q2.2⟩
    · exact q2.elim
  · exact q2.elim⟩
theorem de_upper (ho : DE X o to) (hbase : attributeBase o "upper" X.env (eval o X.env) = eval o X.env := by rfl) (hline : (apos.endLine == pos.line) = true := by rfl) :
    DE X (.Call (.Attribute o "upper" apos) [] [] pos) (dUpper to) := ⟨fun G H σ τ W Q r q => by
  refine semE.of (pe_upper peSem hbase hline) (ho.then r q fun d x G1 H1 r1 x1 k1 q1 => ?_)
  unfold upP at q1
  split at q1
  · rename_i a
    cases k1
    exact ⟨⟨a, rfl⟩, a, rfl, rfl, q1.1, .of (d := .str _) rfl r1.sim x1 q1.2⟩
  · exact q1.elim⟩
end
section
variable {G : HD} {Q : Post} {i j : Int} {x y : Str} {W : DW} {σ : DSt} {to te : TD} {R : ItD → HD → Prop} {d : D} {ds : List D} {c : Nat} {n : Bool}
theorem q_jstr : jStr te W σ G R = te W σ G fun d G1 => strP d G1 R := propext ⟨fun h => h, fun h => h⟩
theorem r_strS : strP (.str x) G R = R ⟨signs x, fun _ => True⟩ G := propext ⟨fun h => h, fun h => h⟩
theorem r_leXI : dLeX (.int i) (.int j) G Q = Q (.bl (decide (i ≤ j))) G := propext ⟨fun h => h, fun h => h⟩
theorem r_leXS : dLeX (.str x) (.str y) G Q = Q (.bl (!decide (y.cps.toList < x.cps.toList))) G := propext ⟨fun h => h, fun h => h⟩
theorem i_inS (q : Q (.bl (if n then !decide (c ∈ y.cps.toList) else decide (c ∈ y.cps.toList))) G) : dInS n (.str ⟨#[c]⟩) (.str y) G Q := ⟨c, rfl, q⟩
theorem q_join : dJoin to te W σ G Q = to W σ G fun o G1 => (∃ a, o = .str a) ∧ te W σ G1 fun d G2 => joinP o [d] G2 Q := propext ⟨fun h => h, fun h => h⟩
theorem q_upper : dUpper to W σ G Q = to W σ G fun o G1 => upP o G1 Q := propext ⟨fun h => h, fun h => h⟩
theorem r_joinP : joinP (.str x) [d] G Q = joinO x (asL G d) G Q := propext ⟨fun h => h, fun h => h⟩
theorem r_upP : upP (.str x) G Q = (x.length ≤ 5592405 ∧ Q (.str (Txt.upper x)) G) := propext ⟨fun h => h, fun h => h⟩
end
end DL

namespace DL
open PySem PySem.Spec L2
open PyProof.Rows hiding St
/-! ### keys and values of a dict that stands still -/
def fzO (o : Option MO) (a : Addr) (f : List (Key × D) → List D) (G : HD) (R : ItD → HD → Prop) : Prop := match o with
  | some (.fz ob (.dK m) (.dK l)) => R ⟨f l, fun G => G a = some (.fz ob (.dK m) (.dK l))⟩ G
  | _ => False
def fzP (f : List (Key × D) → List D) (d : D) (G : HD) (R : ItD → HD → Prop) : Prop := match d with
  | .ref a => fzO (G a) a f G R
  | _ => False
def keysD (l : List (Key × D)) : List D := l.map fun p => kDi p.1
def valsD (l : List (Key × D)) : List D := l.map (·.2)
def jKeys (td : TD) : TDI := fun W σ G R => td W σ G fun o G1 => fzP keysD o G1 R
def jVals (td : TD) : TDI := fun W σ G R => td W σ G fun o G1 => fzP valsD o G1 R
theorem fz_at {K : PySem.W.Frag} {G2 : HD} {H2 : Hp} {a : Addr} {ob : Obj} {m : List (Key × V)} {l : List (Key × D)} (s2 : Sim K G2 H2) (h2 : G2 a = some (.fz ob (.dK m) (.dK l))) : H2 a = some (.frz ob (.dK m)) ∧ RKV K H2 l m := by
  obtain ⟨o2, f1, rfl, ⟨m2, f2, rk2⟩, _⟩ := s2 a _ h2
  cases f2
  exact ⟨f1, rk2⟩
theorem di_keys {X : Cx} {tg e : Expr} {td : TD} (he : DE X e td) : DI X tg e (iKeys (semE X e)) (jKeys td) :=
  ⟨pi_keys peSem, fun G H σ τ W R R' r q fin => he.then r q fun d v G1 H1 r1 x1 k1 q1 => by
    unfold fzP at q1
    split at q1
    · rename_i a
      cases k1
      unfold fzO at q1
      split at q1
      · rename_i ob m l hG
        obtain ⟨e1, rk⟩ := fz_at r1.sim hG
        refine ⟨a, ob, rfl, .inl ⟨m, e1, fin _ _ G1 H1 r1.sim x1 ⟨fun i G2 H2 s2 _ hok hi => ?_, fun i G2 H2 x H3 s2 _ hok hi hy => ?_, fun i G2 H2 s2 _ hok hi => ?_⟩ q1⟩⟩
        · obtain ⟨f1, f2⟩ := fz_at s2 hok
          simp only [keysD, List.length_map] at hi
          exact ⟨f1, by rw [f2.len]; exact hi⟩
        · obtain ⟨f1, f2⟩ := fz_at s2 hok
          obtain ⟨rfl, k, v, hk, rfl⟩ := hy
          obtain ⟨dv, z1, z2⟩ := f2.nth hk
          exact ⟨kDi k, by simp only [keysD]; rw [List.getElem?_map, z1]; rfl, kDi_rp k, s2, .refl⟩
        · obtain ⟨f1, f2⟩ := fz_at s2 hok
          simp only [keysD, List.length_map] at hi
          exact ⟨f1, by rw [f2.len]; exact hi⟩
      · exact q1.elim
    · exact q1.elim⟩
theorem di_vals {X : Cx} {tg e : Expr} {td : TD} {apos cpos : Pos} (he : DE X e td) (hbase : attributeBase e "values" X.env (eval e X.env) = eval e X.env := by rfl) (hline : (apos.endLine == cpos.line) = true := by rfl) :
    DI X tg (.Call (.Attribute e "values" apos) [] [] cpos) (iVals (semE X e)) (jVals td) :=
  ⟨pi_values peSem hbase hline, fun G H σ τ W R R' r q fin => he.then r q fun d v G1 H1 r1 x1 k1 q1 => by
    unfold fzP at q1
    split at q1
    · rename_i a
      cases k1
      unfold fzO at q1
      split at q1
      · rename_i ob m l hG
        obtain ⟨e1, rk⟩ := fz_at r1.sim hG
        refine ⟨a, ob, m, rfl, e1, fin _ _ G1 H1 r1.sim x1 ⟨fun i G2 H2 s2 _ hok hi => ?_, fun i G2 H2 x H3 s2 _ hok hi hy => ?_, fun i G2 H2 s2 _ hok hi => ?_⟩ q1⟩
        · obtain ⟨f1, f2⟩ := fz_at s2 hok
          simp only [valsD, List.length_map] at hi
          exact ⟨f1, by rw [f2.len]; exact hi⟩
        · obtain ⟨f1, f2⟩ := fz_at s2 hok
          obtain ⟨rfl, k, hk⟩ := hy
          obtain ⟨dv, z1, z2⟩ := f2.nth hk
          exact ⟨dv, by simp only [valsD]; rw [List.getElem?_map, z1]; rfl, z2, s2, .refl⟩
        · obtain ⟨f1, f2⟩ := fz_at s2 hok
          simp only [valsD, List.length_map] at hi
          exact ⟨f1, by rw [f2.len]; exact hi⟩
      · exact q1.elim
    · exact q1.elim⟩
/-! ### sorted(d), list(d), dict(d) -/
def strKeys : List (Key × D) → Option (List Str)
  | [] => some []
  | (.inr x, _) :: r => (strKeys r).map (x :: ·)
  | (.inl _, _) :: _ => none
def intKeys : List (Key × D) → Option (List Int)
  | [] => some []
  | (.inl x, _) :: r => (intKeys r).map (x :: ·)
  | (.inr _, _) :: _ => none
theorem strKeys_of {K : PySem.W.Frag} {H : Hp} : ∀ {l : List (Key × D)} {m : List (Key × V)} {ks : List Str}, strKeys l = some ks → RKV K H l m → m.map (·.1) = ks.map Sum.inr
  | [], _, _, e, h => by cases e; cases h; rfl
  | (.inl _, _) :: _, _, _, e, _ => by cases e
  | (.inr x, d) :: r, _, ks, e, h => by
    obtain ⟨v, t, rfl, h1, h2⟩ := h
    simp only [strKeys, Option.map_eq_some_iff] at e
    obtain ⟨zs, e1, rfl⟩ := e
    simp only [List.map_cons, strKeys_of e1 h2]
theorem intKeys_of {K : PySem.W.Frag} {H : Hp} : ∀ {l : List (Key × D)} {m : List (Key × V)} {ks : List Int}, intKeys l = some ks → RKV K H l m → m.map (·.1) = ks.map Sum.inl
  | [], _, _, e, h => by cases e; cases h; rfl
  | (.inr _, _) :: _, _, _, e, _ => by cases e
  | (.inl x, d) :: r, _, ks, e, h => by
    obtain ⟨v, t, rfl, h1, h2⟩ := h
    simp only [intKeys, Option.map_eq_some_iff] at e
    obtain ⟨zs, e1, rfl⟩ := e
    simp only [List.map_cons, intKeys_of e1 h2]
theorem Rps.ofStrs {K : PySem.W.Frag} {H : Hp} : ∀ ys : List Str, Rps K H (ys.map D.str) (ys.map V.str)
  | [] => rfl
  | y :: ys => ⟨_, _, rfl, rfl, Rps.ofStrs ys⟩
theorem Rps.ofKeys {K : PySem.W.Frag} {H : Hp} : ∀ {l : List (Key × D)} {m : List (Key × V)}, RKV K H l m → Rps K H (keysD l) (m.map fun kv => kV kv.1)
  | [], _, h => by cases h; rfl
  | p :: r, _, h => by
    obtain ⟨v, t, rfl, h1, h2⟩ := h
    exact ⟨_, _, rfl, kDi_rp p.1, Rps.ofKeys h2⟩
/-- sorted of a dict with keys that are texts, or ints -/
def srtO (l : List (Key × D)) (G : HD) (Q : Post) : Prop := match strKeys l, intKeys l with
  | some ks, _ => ks.length < 64 ∧ ∀ ys : List Str, ys.Perm ks → sortedS ys = true → newL G (ys.map D.str) Q
  | none, some ks => ks.length < 64 ∧ ∀ ys : List Int, ys.Perm ks → ys.Pairwise (· ≤ ·) → newL G (ys.map D.int) Q
  | none, none => False
def dicO (o : Option MO) (f : List (Key × D) → Prop) : Prop := match o with
  | some (.dK l) => f l
  | _ => False
def dicP (d : D) (G : HD) (f : List (Key × D) → Prop) : Prop := match d with
  | .ref a => dicO (G a) f
  | _ => False
def rSortDic : List D → HD → Post → Prop := fun ds G Q => match ds with
  | [d] => dicP d G fun l => srtO l G Q
  | _ => False
def rListDic : List D → HD → Post → Prop := fun ds G Q => match ds with
  | [d] => dicP d G fun l => newL G (keysD l) Q
  | _ => False
def newD (G : HD) (l : List (Key × D)) (Q : Post) : Prop := ∀ p, G p = none → Q (.ref p) (put G p (.dK l))
def rDictDic : List D → HD → Post → Prop := fun ds G Q => match ds with
  | [d] => dicP d G fun l => newD G l Q
  | _ => False
theorem dic_at {K : PySem.W.Frag} {G : HD} {H : Hp} {d : D} {v : V} {f : List (Key × D) → Prop} (s : Sim K G H) (r : Rp K H d v) (q : dicP d G f) : ∃ a l m, v = .ref a ∧ G a = some (.dK l) ∧ H a = some (.dK m) ∧ RKV K H l m ∧ f l := by
  unfold dicP at q
  split at q
  · rename_i a
    cases r
    unfold dicO at q
    split at q
    · rename_i l e
      obtain ⟨m, e1, rk⟩ := s.dK e
      exact ⟨a, l, m, rfl, e, e1, rk, q⟩
    · exact q.elim
  · exact q.elim
theorem cd_sortDic (K : PySem.W.Frag) : CallD K (fun xs H Q => (∃ (a : Addr) (kvs : List (Key × V)) (ks : List Str), xs = [.ref a] ∧ Rd H a (.dK kvs) ∧ kvs.map (·.1) = ks.map Sum.inr ∧ ks.length < 64 ∧
    ∀ ys p, ys.Perm ks → sortedS ys = true → H p = none → Q (.ref p) (upd H p (.lst (ys.map V.str)))) ∨ (∃ (a : Addr) (kvs : List (Key × V)) (ks : List Int), xs = [.ref a] ∧ Rd H a (.dK kvs) ∧ kvs.map (·.1) = ks.map Sum.inl ∧ ks.length < 64 ∧
    ∀ (ys : List Int) (p : Addr), ys.Perm ks → ys.Pairwise (· ≤ ·) → H p = none → Q (.ref p) (upd H p (.lst (ys.map V.int))))) rSortDic := fun G H ds vs Q Q' s k f q => by
  unfold rSortDic at q
  split at q
  · obtain ⟨v, rfl, kd⟩ := one_of k
    obtain ⟨a, l, m, rfl, _, e1, rk, q⟩ := dic_at s kd q
    unfold srtO at q
    split at q
    · rename_i ks e2
      exact .inl ⟨a, m, ks, rfl, .of e1, strKeys_of e2 rk, q.1, fun ys p h1 h2 h3 => newL.fin s (Rps.ofStrs ys) f (q.2 ys h1 h2) p h3⟩
    · rename_i ks _ e2
      exact .inr ⟨a, m, ks, rfl, .of e1, intKeys_of e2 rk, q.1, fun ys p h1 h2 h3 => newL.fin s (Rps.ofInts ys) f (q.2 ys h1 h2) p h3⟩
    · exact q.elim
  · exact q.elim
theorem cd_listDic (K : PySem.W.Frag) : CallD K (fun xs H Q => ∃ (a : Addr) (kvs : List (Key × V)), xs = [.ref a] ∧ Rd H a (.dK kvs) ∧ ∀ p, H p = none → Q (.ref p) (upd H p (.lst (kvs.map fun kv => kV kv.1)))) rListDic := fun G H ds vs Q Q' s k f q => by
  unfold rListDic at q
  split at q
  · obtain ⟨v, rfl, kd⟩ := one_of k
    obtain ⟨a, l, m, rfl, _, e1, rk, q⟩ := dic_at s kd q
    exact ⟨a, m, rfl, .of e1, newL.fin s (Rps.ofKeys rk) f q⟩
  · exact q.elim
theorem cd_dictDic (K : PySem.W.Frag) : CallD K (fun xs H Q => ∃ (a : Addr) (kvs : List (Key × V)), xs = [.ref a] ∧ Rd H a (.dK kvs) ∧ ∀ p, H p = none → Q (.ref p) (upd H p (.dK kvs))) rDictDic := fun G H ds vs Q Q' s k f q => by
  unfold rDictDic at q
  split at q
  · obtain ⟨v, rfl, kd⟩ := one_of k
    obtain ⟨a, l, m, rfl, _, e1, rk, q⟩ := dic_at s kd q
    exact ⟨a, m, rfl, .of e1, fun p hp => f _ _ (.of (d := .ref p) rfl (s.newM (m := .dK l) hp ⟨m, rfl, rk⟩) (.newM hp) (q p (s.no hp)))⟩
  · exact q.elim
theorem bc_sortDic {X : Cx} {p pos : Pos} {e : Expr} {ts : TDA} (hc : X.calm = true) (hm : X.mg "sorted" = none) (ha : DA X [e] ts) (hg : Gl X "sorted" := by rfl) (he : starEach [e] X.env = (false, eval e X.env) :: starEach [] X.env := by rfl) : DE X (.Call (.Name "sorted" p) [e] [] pos) (dCB rSortDic ts) :=
  de_cb (CallR.or (call_sortedD hc) (call_sortedDI hc)) (cd_sortDic X.K) hm (by decide +kernel) ha hg (by decide) (by decide) he (by rfl)
theorem bc_listDic {X : Cx} {p pos : Pos} {e : Expr} {ts : TDA} (hc : X.calm = true) (hm : X.mg "list" = none) (ha : DA X [e] ts) (hg : Gl X "list" := by rfl) (he : starEach [e] X.env = (false, eval e X.env) :: starEach [] X.env := by rfl) : DE X (.Call (.Name "list" p) [e] [] pos) (dCB rListDic ts) :=
  de_ct (call_listD hc) (cd_listDic X.K) hm (by decide +kernel) ha hg (by decide) (by decide) he (by rfl)
theorem bc_dictDic {X : Cx} {p pos : Pos} {e : Expr} {ts : TDA} (hm : X.mg "dict" = none) (ha : DA X [e] ts) (hg : Gl X "dict" := by rfl) (he : starEach [e] X.env = (false, eval e X.env) :: starEach [] X.env := by rfl) : DE X (.Call (.Name "dict" p) [e] [] pos) (dCB rDictDic ts) :=
  de_ct call_dictD (cd_dictDic X.K) hm (by decide +kernel) ha hg (by decide) (by decide) he (by rfl)
end DL

namespace DL
open PySem PySem.Spec L2
open PyProof.Rows hiding St
/-! ### [e for x in a for y in b] -/
def lcO (ok : HD → Prop) (ostep : D → List D → (List D → HD → Prop) → HD → Prop) (fin : List D → HD → Prop) : List D → List D → HD → Prop
  | [], acc => fun G => ∃ G0, Le G0 G ∧ ok G0 ∧ fin acc G0
  | x :: xs, acc => fun G => ∃ G0, Le G0 G ∧ ok G0 ∧ ostep x acc (fun acc' G' => lcO ok ostep fin xs acc' G') G0
def iStep (t1 : Tgt) (dt1 : TDT) (te : TD) (vs1 : List Nat) (σ2 : DSt) : D → (D → HD → Prop) → (HD → Prop) → HD → Prop := fun d ky kn G' =>
  t1.put d (dwipe σ2 vs1) fun σ3 => dt1 W0 σ3 G' fun b G2 => if b = true then te W0 σ3 G2 ky else kn G2
def oStep (t : Tgt) (dt : TDT) (ti1 : TDI) (t1 : Tgt) (dt1 : TDT) (te : TD) (vs vs1 : List Nat) (σ : DSt) : D → List D → (List D → HD → Prop) → HD → Prop := fun d acc k G' =>
  t.put d (dwipe σ vs) fun σ2 => dt W0 σ2 G' fun b G2 => if b = true then ti1 W0 σ2 G2 fun J G3 => J.xs.length ≤ 1000 ∧ lcD J.ok (iStep t1 dt1 te vs1 σ2) k J.xs acc G3 else k acc G2
def dLc2G (fin : List D → HD → Prop) (ti : TDI) (t : Tgt) (dt : TDT) (ti1 : TDI) (t1 : Tgt) (dt1 : TDT) (te : TD) (vs vs1 : List Nat) (W : DW) (σ : DSt) (G : HD) : Prop :=
  ti W σ G fun I G1 => I.xs.length ≤ 1000 ∧ lcO I.ok (oStep t dt ti1 t1 dt1 te vs vs1 σ) fin I.xs [] G1
/-- the list by value -/
def dLc2V (ti : TDI) (t : Tgt) (dt : TDT) (ti1 : TDI) (t1 : Tgt) (dt1 : TDT) (te : TD) (vs vs1 : List Nat) : TD := fun W σ G Q => dLc2G (fun acc G2 => Q (.kl acc) G2) ti t dt ti1 t1 dt1 te vs vs1 W σ G
section
variable {X : Cx} {tg iter : Expr} {own : List (Str × Nat)} {vs1 : List Nat} {wi wi1 : TI} {ti ti1 : TDI} {t t1 : Tgt} {g g1 : TG} {dt dt1 : TDT} {te : TD}
theorem lc2_run (hi : DI X tg iter wi ti) (hg : TgRun X.K t g) (hg1 : TgRun X.K t1 g1)
    (hsl : ∀ i ∈ t.slots, i ∈ own.map (·.2)) (hsl1 : ∀ i ∈ t1.slots, i ∈ vs1)
    {tt tt1 : TT} {teV : TE}
    (hin : ∀ (G : HD) (H : Hp) (σ : DSt) (τ : L2.St) (R : ItD → HD → Prop) (R' : It → Hp → Prop), Sim X.K G H → RpS X.K H σ τ → ti1 W0 σ G R → (∀ I J G1 H1, Sim X.K G1 H1 → Ext G H G1 H1 → ItRel X.K G1 H1 I J → R I G1 → R' J H1) → wi1 τ H R')
    (htt : ∀ (G : HD) (H : Hp) (σ : DSt) (τ : L2.St) (Q : Bool → HD → Prop) (Q' : Bool → Hp → Prop), Sim X.K G H → RpS X.K H σ τ → dt W0 σ G Q → (∀ b H', liftB X.K G H Q b H' → Q' b H') → tt τ H Q')
    (htt1 : ∀ (G : HD) (H : Hp) (σ : DSt) (τ : L2.St) (Q : Bool → HD → Prop) (Q' : Bool → Hp → Prop), Sim X.K G H → RpS X.K H σ τ → dt1 W0 σ G Q → (∀ b H', liftB X.K G H Q b H' → Q' b H') → tt1 τ H Q')
    (hte : ∀ (G : HD) (H : Hp) (σ : DSt) (τ : L2.St) (Q : Post) (Q' : VK), Sim X.K G H → RpS X.K H σ τ → te W0 σ G Q → (∀ v H', liftQ X.K G H Q v H' → Q' v H') → teV τ H Q')
    {G : HD} {H : Hp} {σ : DSt} {τ : L2.St} {W : DW} {F : List D → HD → Prop} {Q' : VK} (r : SR X G H σ τ W) (q : dLc2G F ti t dt ti1 t1 dt1 te (own.map (·.2)) vs1 W σ G)
    (fin : ∀ D0 acc accV G0 H', (∀ a o, G a = none → H a = some o → a ≠ D0) → Sim X.K G0 H' → Ext G H G0 H' → H' D0 = some (.lst accV) → G0 D0 = none → Rps X.K H' acc accV → F acc G0 → Q' (.ref D0) H') : tLc2 wi g tt wi1 g1 tt1 teV (own.map (·.2)) vs1 τ H Q' := by
  refine hi.run G H σ τ W _ _ r q fun I J G1 H1 s1 x1 rel q1 D0 hD => ?_
  obtain ⟨hz, q1⟩ := q1
  have r1 := r.ext s1 x1
  have n0 := s1.no hD
  refine ⟨fun i m H' => ∃ G' acc accV, H' D0 = some (.lst accV) ∧ G' D0 = none ∧ Rps X.K H' acc accV ∧ acc.length ≤ 1000 * i ∧ Sim X.K G' H' ∧ Ext G1 H1 G' H' ∧ m = I.xs.length - i ∧ i ≤ I.xs.length ∧
      lcO I.ok (oStep t dt ti1 t1 dt1 te (own.map (·.2)) vs1 σ) F (I.xs.drop i) acc G',
    ⟨_, G1, [], [], upd_same, n0, rfl, Nat.zero_le _, s1.newO hD, .new hD n0, rfl, Nat.zero_le _, by rw [List.drop_zero]; exact q1⟩, ?_⟩
  rintro i m H' ⟨G', acc, accV, hl, hn, ra, hle0, s', x', rfl, hle, q'⟩
  by_cases hlt : i < I.xs.length
  · have hx : I.xs[i]? = some I.xs[i] := by simp [hlt]
    rw [drop_get hx] at q'
    obtain ⟨G0, l0, ok0, q0⟩ := q'
    have s0 := s'.le l0
    have x0 : Ext G1 H1 G0 H' := x'.le l0
    have e0 : Ext G' H' G0 H' := .of_le l0
    refine .inr ⟨rel.go i G0 H' s0 x0.l ok0 hlt, fun H2 => ∃ G2 acc2 accV2, H2 D0 = some (.lst accV2) ∧ G2 D0 = none ∧ Rps X.K H2 acc2 accV2 ∧ acc2.length ≤ 1000 * (i + 1) ∧ Sim X.K G2 H2 ∧ Ext G1 H1 G2 H2 ∧
        lcO I.ok (oStep t dt ti1 t1 dt1 te (own.map (·.2)) vs1 σ) F (I.xs.drop (i + 1)) acc2 G2,
      fun H2 ⟨G2, a2, v2, b1, b2, b3, b4, b5, b6, b7⟩ => ⟨_, by omega, G2, a2, v2, b1, b2, b3, b4, b5, b6, rfl, hlt, b7⟩, fun v H2 hy => ?_⟩
    obtain ⟨d, e1, e2, e3, e4⟩ := rel.yld i G0 H' v H2 s0 x0.l ok0 hlt hy
    rw [hx] at e1; cases e1
    have x2 := x0.trans e4
    have slots2 : RpS X.K H2 (dwipe σ (own.map (·.2))) (L2.wipe τ (own.map (·.2))) := (r1.slots.ext s1 x2 _ _).wipe _
    refine hg.run H2 _ _ _ v _ _ slots2 e2 q0 fun σ2 τ2 k2 q2 hw => ⟨(hw _ hsl).trans wipe_wipe, ?_⟩
    have n1 : G0 D0 = none := l0.no hn
    obtain ⟨hl2, n2⟩ := e4 D0 _ n1 hl
    have ra2 : Rps X.K H2 acc accV := ra.ext s' (e0.trans e4) _ _
    refine htt G0 H2 σ2 τ2 _ _ e3 k2 q2 fun b H3 ⟨G3, s3, x3, q3⟩ => ?_
    obtain ⟨hl3, n3⟩ := x3 D0 _ n2 hl2
    have ra3 : Rps X.K H3 acc accV := ra2.ext e3 x3 _ _
    have k3 := k2.ext e3 x3 _ _
    cases b with
    | true =>
      refine hin G3 H3 σ2 τ2 _ _ s3 k3 q3 fun I1 J1 G4 H4 s4 x4 rel1 q4 => ?_
      obtain ⟨hz1, q4⟩ := q4
      obtain ⟨hl4, n4⟩ := x4 D0 _ n3 hl3
      have ra4 : Rps X.K H4 acc accV := ra3.ext s3 x4 _ _
      have k4 := k3.ext s3 x4 _ _
      have xo : Ext G1 H1 G4 H4 := (x2.trans x3).trans x4
      refine ⟨fun j k H' => ∃ G' ac av, H' D0 = some (.lst av) ∧ G' D0 = none ∧ Rps X.K H' ac av ∧ ac.length ≤ 1000 * i + j ∧ Sim X.K G' H' ∧ (∀ a o, a ≠ D0 → G4 a = none → H4 a = some o → H' a = some o ∧ G' a = none) ∧ RpS X.K H' σ2 τ2 ∧ k = I1.xs.length - j ∧ j ≤ I1.xs.length ∧
          lcD I1.ok (iStep t1 dt1 te vs1 σ2) (fun acc' G' => lcO I.ok (oStep t dt ti1 t1 dt1 te (own.map (·.2)) vs1 σ) F (I.xs.drop (i + 1)) acc' G') (I1.xs.drop j) ac G',
        ⟨_, G4, acc, accV, hl4, n4, ra4, by omega, s4, fun _ _ _ g h => ⟨h, g⟩, k4, rfl, Nat.zero_le _, by rw [List.drop_zero]; exact q4⟩, ?_⟩
      rintro j k H' ⟨G', ac, av, hl', hn', ra', hle', s', x', kk', rfl, hj, q'⟩
      have xl : ExtL G4 H4 G' H' := fun a o no g h => x' a o (by rintro rfl; rw [hl4] at h; cases h; exact no _ rfl) g h
      by_cases hlt1 : j < I1.xs.length
      · have hx1 : I1.xs[j]? = some I1.xs[j] := by simp [hlt1]
        rw [drop_get hx1] at q'
        obtain ⟨G0', l0', ok0', q0'⟩ := q'
        have s0' := s'.le l0'
        have xl0 : ExtL G4 H4 G0' H' := fun a o no g h => ⟨(xl a o no g h).1, l0'.no (xl a o no g h).2⟩
        have e0' : Ext G' H' G0' H' := .of_le l0'
        refine .inr ⟨rel1.go j G0' H' s0' xl0 ok0' hlt1, fun H2 => ∃ G2 ac2 av2, H2 D0 = some (.lst av2) ∧ G2 D0 = none ∧ Rps X.K H2 ac2 av2 ∧ ac2.length ≤ 1000 * i + (j + 1) ∧ Sim X.K G2 H2 ∧ (∀ a o, a ≠ D0 → G4 a = none → H4 a = some o → H2 a = some o ∧ G2 a = none) ∧ RpS X.K H2 σ2 τ2 ∧
            lcD I1.ok (iStep t1 dt1 te vs1 σ2) (fun acc' G' => lcO I.ok (oStep t dt ti1 t1 dt1 te (own.map (·.2)) vs1 σ) F (I.xs.drop (i + 1)) acc' G') (I1.xs.drop (j + 1)) ac2 G2,
          fun H2 ⟨G2, a2, v2, b1, b2, b3, b4, b5, b6, b7, b8⟩ => ⟨_, by omega, G2, a2, v2, b1, b2, b3, b4, b5, b6, b7, rfl, hlt1, b8⟩, fun v H2 hy => ?_⟩
        obtain ⟨d1, f1, f2, f3, f4⟩ := rel1.yld j G0' H' v H2 s0' xl0 ok0' hlt1 hy
        rw [hx1] at f1; cases f1
        have ef := e0'.trans f4
        have slots5 : RpS X.K H2 (dwipe σ2 vs1) (L2.wipe τ2 vs1) := (kk'.ext s' ef _ _).wipe _
        refine hg1.run H2 _ _ _ v _ _ slots5 f2 q0' fun σ3 τ3 k5 q5 hw1 => ⟨(hw1 _ hsl1).trans wipe_wipe, ?_⟩
        obtain ⟨hl5, n5⟩ := f4 D0 _ (l0'.no hn') hl'
        have ra5 : Rps X.K H2 ac av := ra'.ext s' ef _ _
        refine htt1 G0' H2 σ3 τ3 _ _ f3 k5 q5 fun b H5 ⟨G5, s5, x5, q6⟩ => ?_
        obtain ⟨hl6, n6⟩ := x5 D0 _ n5 hl5
        have ra6 : Rps X.K H5 ac av := ra5.ext f3 x5 _ _
        cases b with
        | true =>
          refine hte G5 H5 σ3 τ3 _ _ s5 (k5.ext f3 x5 _ _) q6 fun y H7 ⟨dy, G7, ry, s7, x7, q7⟩ => ?_
          obtain ⟨hl7, n7⟩ := x7 D0 _ n6 hl6
          have ra7 : Rps X.K H7 ac av := ra6.ext s5 x7 _ _
          have eg := (ef.trans x5).trans x7
          refine ⟨av, hl7, ?_, G7, ac ++ [dy], av ++ [y], upd_same, n7, (ra7.app (.cons ry .nil)).aside hl7 _ _, by simp; omega, s7.aside hl7 n7, fun a o na ga ha => ?_, (kk'.ext s' eg _ _).aside hl7 _ _, q7⟩
          · rw [ra7.length]
            have := million (Nat.le_refl 1000000)
            omega
          · obtain ⟨z1, z2⟩ := x' a o na ga ha
            obtain ⟨z3, z4⟩ := eg a o z2 z1
            exact ⟨by rw [upd_ne na]; exact z3, z4⟩
        | false => exact ⟨G5, ac, av, hl6, n6, ra6, by omega, s5, fun a o na ga ha => by
            obtain ⟨z1, z2⟩ := x' a o na ga ha
            exact (ef.trans x5) a o z2 z1, kk'.ext s' (ef.trans x5) _ _, q6⟩
      · have e : I1.xs.drop j = [] := List.drop_eq_nil_of_le (by omega)
        rw [e] at q'
        obtain ⟨G0', l0', ok0', q0'⟩ := q'
        refine .inl ⟨rel1.stop j G0' H' (s'.le l0') (fun a o no g h => ⟨(xl a o no g h).1, l0'.no (xl a o no g h).2⟩) ok0' (by omega), G0', ac, av, hl', l0'.no hn', ra'.ext s' (.of_le l0') _ _, by omega, s'.le l0', fun a o ga ha => ?_, q0'⟩
        obtain ⟨z1, z2⟩ := xo a o ga ha
        obtain ⟨z3, z4⟩ := x' a o (by rintro rfl; rw [hD] at ha; cases ha) z2 z1
        exact ⟨z3, l0'.no z4⟩
    | false => exact ⟨G3, acc, accV, hl3, n3, ra3, by omega, s3, x2.trans x3, q3⟩
  · have e : I.xs.drop i = [] := List.drop_eq_nil_of_le (by omega)
    rw [e] at q'
    obtain ⟨G0, l0, ok0, q0⟩ := q'
    have s0 := s'.le l0
    have n1 : G0 D0 = none := l0.no hn
    have h0 : ∀ a o, G a = none → H a = some o → a ≠ D0 := fun a o ga ha e => by
      obtain ⟨h6, _⟩ := x1 a o ga ha
      rw [e, hD] at h6; cases h6
    exact .inl ⟨rel.stop i G0 H' s0 (x'.le l0).l ok0 (by omega), fin D0 acc accV G0 H' h0 s0 (x1.trans (x'.le l0)) hl n1 (ra.ext s' (.of_le l0) _ _) q0⟩

variable {elt tg1 iter1 : Expr} {ifs ifs1 : List Expr} {scope : Scope} {pos : Pos} {wi2 : Shared → Hp → Addr → List (Str × Addr) → List Addr → TI}
def blkI (wi2 : Shared → Hp → Addr → List (Str × Addr) → List Addr → TI) : TI := fun τ H R => ∀ (s : Shared) (H0 : Hp) (C : Addr) (cl : List (Str × Addr)) (fp : List Addr), wi2 s H0 C cl fp τ H R
theorem de_lc2V (hc : X.calm = true) (hN : X.N.Nodup) (hi : DI X tg iter wi ti) (ok : BlkOk X.N X.env.scope scope own) (hv : ∀ i ∈ vs1, i ∈ own.map (·.2)) (hg : BlkPG X scope tg g) (hgr : TgRun X.K t g) (hsl : ∀ i ∈ t.slots, i ∈ own.map (·.2)) (ht : BlkDTs X scope ifs dt)
    (hi1 : ∀ (s : Shared) (H : Hp) (C : Addr) (cl : List (Str × Addr)) (fp : List Addr), DI (X.blk s H scope (compEnvC scope cl C X.env) fp) tg1 iter1 (wi2 s H C cl fp) ti1) (hg1 : BlkPG X scope tg1 g1) (hgr1 : TgRun X.K t1 g1) (hsl1 : ∀ i ∈ t1.slots, i ∈ vs1) (ht1 : BlkDTs X scope ifs1 dt1)
    (he : BlkDE X scope elt te) (hs : ∀ x, foldedSetIterable iter X.env x = pure x := by intro _; rfl) (hs1 : ∀ env x, foldedSetIterable iter1 env x = pure x := by intro _ _; rfl) :
    DE X (.ListComp elt [⟨tg, iter, ifs, 0⟩, ⟨tg1, iter1, ifs1, 0⟩] scope pos) (dLc2V ti t dt ti1 t1 dt1 te (own.map (·.2)) vs1) :=
  ⟨fun G H σ τ W Q r q => semE.frz (semE.of (pe_lc2 hc hN hi.pi ok hv hg blk_pts (wi1 := blkI wi2) (fun s H C cl fp => ⟨fun pins s1 σ H2 R I h => (hi1 s H C cl fp).pi.run pins s1 σ H2 R I (h s H C cl fp)⟩) hg1 blk_pts blk_pe hs hs1)
    (lc2_run hi hgr hgr1 hsl hsl1 (fun G H σ τ R R' s k q f s0 H0 C cl fp => (hi1 s0 H0 C cl fp).run G H σ τ W0 R R' ⟨s, k, takes_w0⟩ q f)
      (fun G H σ τ Q Q' s k q f s0 H0 C cl fp pins s1 I => thn ((ht s0 H0 C cl fp).run G H σ τ W0 Q ⟨s, k, takes_w0⟩ q pins s1 I) fun b s2 ⟨H2, I2, z⟩ => ⟨H2, I2, f b H2 z⟩)
      (fun G H σ τ Q Q' s k q f s0 H0 C cl fp pins s1 I => thn ((ht1 s0 H0 C cl fp).run G H σ τ W0 Q ⟨s, k, takes_w0⟩ q pins s1 I) fun b s2 ⟨H2, I2, z⟩ => ⟨H2, I2, f b H2 z⟩)
      (fun G H σ τ Q Q' s k q f s0 H0 C cl fp => ((he s0 H0 C cl fp).run G H σ τ W0 Q ⟨s, k, takes_w0⟩ q).imp f) r q (finV fun _ _ z => z)))⟩
end
section
variable {ti ti1 : TDI} {t t1 : Tgt} {dt dt1 : TDT} {te : TD} {vs vs1 : List Nat} {W : DW} {σ : DSt} {G : HD} {Q : Post}
theorem q_lc2V : dLc2V ti t dt ti1 t1 dt1 te vs vs1 W σ G Q = ti W σ G fun I G1 => I.xs.length ≤ 1000 ∧ lcO I.ok (oStep t dt ti1 t1 dt1 te vs vs1 σ) (fun acc G2 => Q (.kl acc) G2) I.xs [] G1 := propext ⟨fun h => h, fun h => h⟩
theorem q_jkeys {td : TD} {R : ItD → HD → Prop} : jKeys td W σ G R = td W σ G fun o G1 => fzP keysD o G1 R := propext ⟨fun h => h, fun h => h⟩
theorem q_jvals {td : TD} {R : ItD → HD → Prop} : jVals td W σ G R = td W σ G fun o G1 => fzP valsD o G1 R := propext ⟨fun h => h, fun h => h⟩
theorem r_fzP {f : List (Key × D) → List D} {a : Addr} {R : ItD → HD → Prop} : fzP f (.ref a) G R = fzO (G a) a f G R := propext ⟨fun h => h, fun h => h⟩
theorem r_fzO {f : List (Key × D) → List D} {a : Addr} {R : ItD → HD → Prop} {ob : Obj} {m : List (Key × V)} {l : List (Key × D)} : fzO (some (.fz ob (.dK m) (.dK l))) a f G R = R ⟨f l, fun G => G a = some (.fz ob (.dK m) (.dK l))⟩ G := propext ⟨fun h => h, fun h => h⟩
end
end DL

namespace DL
open PySem PySem.Spec L2
open PyProof.Rows hiding St
/-! ### > and >= of ints, of tuples of ints -/
def rTT (K : PySem.W.Frag) (f : List Int → List Int → Bool) : R2 := fun x y H Q => ∃ (a b : Addr) (ns ms : List Int), x = .ref a ∧ y = .ref b ∧ SqT K H a (ns.map V.int) ∧ SqT K H b (ms.map V.int) ∧ Q (.bl (f ns ms)) H
section
variable {X : Cx} {pins : List (Addr × Obj)} {σ : L2.St} {H : Hp} {s : Shared}
theorem holds_tup (I : Inv X pins σ H s) {a : Addr} {ns : List Int} (t : SqT X.K H a (ns.map V.int)) : PySem.W.Holds s.heap (.ref a) (⟨ns⟩ : PySem.W.Tup Int) := by
  obtain ⟨its, rv, ⟨o, ho, hc, m, hd⟩, _⟩ := I.tuple t
  obtain ⟨as, hr⟩ := reads_ints (h := s.heap) rv
  exact ⟨as, .tuple ho hc hd (show ReadsAll s.heap its.toArray.toList (ns.map PyData.int) as by simpa using hr)⟩
theorem op_gtT (hu : X.A.units + 64 < cLine) : OpR X (compareOp .Gt) (rTT X.K fun ns ms => PySem.W.listLt ms ns) := by
  intro pins s σ H x y v u Q I rx ry ⟨a, b, ns, ms, e1, e2, t1, t2, q⟩
  subst e1; subst e2
  cases rx; cases ry
  exact PySem.W.gt_datum (holds_tup I t1) (holds_tup I t2) (by show X.A.units + 1 < _; omega) ⟨.bl _, H, I, rfl, q⟩
theorem op_geT (hu : X.A.units + 64 < cLine) : OpR X (compareOp .GtE) (rTT X.K fun ns ms => !PySem.W.listLt ns ms) := by
  intro pins s σ H x y v u Q I rx ry ⟨a, b, ns, ms, e1, e2, t1, t2, q⟩
  subst e1; subst e2
  cases rx; cases ry
  exact PySem.W.ge_datum (holds_tup I t1) (holds_tup I t2) (by show X.A.units + 1 < _; omega) ⟨.bl _, H, I, rfl, q⟩
end
def tupO (f : List Int → List Int → Bool) (o p : Option (List Int)) (G : HD) (Q : Post) : Prop := match o, p with
  | some ns, some ms => Q (.bl (f ns ms)) G
  | _, _ => False
def dCmpT (p : Int → Int → Bool) (f : List Int → List Int → Bool) : D → D → HD → Post → Prop := fun d e G Q => match d, e with
  | .int i, .int j => Q (.bl (p i j)) G
  | .tup xs, .tup ys => tupO f (asInts xs) (asInts ys) G Q
  | _, _ => False
theorem od_cmpT (K : PySem.W.Frag) (p : Int → Int → Bool) (f : List Int → List Int → Bool) : OpD K (fun x y H Q => rI0 (fun i j => .bl (p i j)) x y H Q ∨ rTT K f x y H Q) (dCmpT p f) := fun G H d e x y Q Q' s k1 k2 g q => by
  unfold dCmpT at q
  split at q
  · rename_i i j
    exact .inl (od_cmpI K p G H (.int i) (.int j) x y Q Q' s k1 k2 g q)
  · unfold tupO at q
    split at q
    · rename_i ns ms e1 e2
      obtain ⟨a, vs, rfl, t1, r1⟩ := k1
      obtain ⟨b, ws, rfl, t2, r2⟩ := k2
      obtain rfl := asInts_eq e1
      obtain rfl := asInts_eq e2
      obtain rfl := r1.ints
      obtain rfl := r2.ints
      exact .inr ⟨a, b, ns, ms, rfl, rfl, t1, t2, g _ _ (.of (d := .bl _) rfl s .refl q)⟩
    · exact q.elim
  · exact q.elim
theorem c_gtT {X : Cx} (hu : X.A.units + 64 < cLine) : CmpR X .Gt (dCmpT (fun i j => decide (j < i)) fun ns ms => PySem.W.listLt ms ns) := ⟨_, op_gt.or (op_gtT hu), od_cmpT X.K _ _⟩
theorem c_geT {X : Cx} (hu : X.A.units + 64 < cLine) : CmpR X .GtE (dCmpT (fun i j => decide (j ≤ i)) fun ns ms => !PySem.W.listLt ns ms) := ⟨_, op_ge.or (op_geT hu), od_cmpT X.K _ _⟩
/-! ### len of an own thing -/
section
variable {X : Cx} {k j : Nat} {C : Addr} {sp : SpD}
/-- an own method of no further values, called from below the body -/
theorem runE1 {A : Around} {pins : List (Addr × Obj)} {s : Shared} {G : HD} {H : Hp} {τ : L2.St} {Q : Post} {a : Addr} {f : Addr} {fd : FuncData} {ps : List Str} (F : FnK X.prog X.w X.K X.mg X.base k f fd ps sp) (sb : SubG X k A) (hb : Binds X.K fd ps [])
    (sm : Sim X.K G H) (I : Inv X pins τ H s) (hl : ps.length = 1) (h : sp [.ref a] G Q fun _ _ _ => False) : wpAny (model X.prog X.w) A (call (.ref f) [.ref a]) (EP X pins τ (liftQ X.K G H Q)) X.xe s := by
  have e0 : Env0 X.prog X.w X.K X.mg X.base A X.stack s H := by
    have e := I.env0
    exact ⟨by rw [sb.fr]; exact e.frames, e.mod, e.bs, e.bsz, e.funs, e.frf, e.hok, e.bare⟩
  have r2 : Vals [V.ref a] [Value.ref a] := .cons rfl .nil
  have rd : Rps X.K H [.ref a] [V.ref a] := ⟨_, _, rfl, rfl, rfl⟩
  refine wpAny_call (codeAny_mono (F.run A X.stack s H ⟨[.ref a], []⟩ [.ref a] [.ref a] (liftQ X.K G H Q) (fun _ _ _ => False) sb.room e0 (by
    have := hb s [.ref a] I.kIn (by simp [hl])
    simpa using this) r2 ⟨hl.symm, _, G, Q, fun _ _ _ => False, rd, sm, h, fun _ _ z => z, fun _ _ _ ⟨_, _, _, _, _, z⟩ => z⟩) fun z s' hq => ?_)
  cases z with
  | error e => exact passF pins H s e s' I hq
  | ok fl =>
    cases fl with
    | ret u => exact I.after hq
    | next => exact False.elim hq
    | brk => exact False.elim hq
    | cont => exact False.elim hq
def ownLen (Q : Post) : Post := fun d G => match d with
  | .int n => 0 ≤ n ∧ n < 2 ^ 63 ∧ Q (.int n) G
  | _ => False
def rLenO (X : Cx) (C : Addr) (sp : SpD) : List V → Hp → VK → Prop := fun xs H Q => ∃ (a dx : Addr) (fs : List (Str × V)) (G : HD) (Qd : Post), xs = [.ref a] ∧ H a = some (.ins C dx fs) ∧ Sim X.K G H ∧ sp [.ref a] G (ownLen Qd) (fun _ _ _ => False) ∧ ∀ v H', liftQ X.K G H Qd v H' → Q v H'
theorem call_lenO (F : MetK X.prog X.w X.K X.mg X.base k "__len__" C sp []) (hr : RoomG (k + 1) X.A) : CallR X (.builtin "len") (rLenO X C sp) := by
  intro pins s σ H xs us Q I rx ⟨a, dx, fs, G, Qd, e, ha, sm, q, fin⟩
  subst e
  rw [Vals.ref1 rx]
  obtain ⟨f, fd, ps, dvs, ds, hc, hm, F1, hb, hv, hdd, hlen⟩ := F.ex
  have z1 := (hdd.rel (fun _ => none)).length
  cases dvs with
  | cons _ _ => cases z1
  | nil =>
  cases hv
  obtain ⟨mA, J, _⟩ := ins_get I.hok ha
  obtain ⟨od, J, _⟩ := J.look
  obtain ⟨m, hF⟩ := I.fr
  refine PySem.W.len_K hF I.ok.mod.kin J hm.at_ hm.fn ?_
  refine wpAny_mono (runE1 F1 ⟨hr.in1, rfl⟩ hb sm I (hlen _ _ _ _ q).symm q) (fun w s' z => ?_) fun _ _ e => e
  obtain ⟨y, H', I', ry, d, G', rd, sm', x1, q2⟩ := z
  unfold ownLen at q2
  split at q2
  · rename_i n
    cases rd
    obtain ⟨t, rfl⟩ := ry
    exact ⟨⟨q2.1, by have := q2.2.1; omega⟩, V.int n, H', I'.tok _, ⟨_, rfl⟩, fin _ _ ⟨.int n, G', rfl, sm', x1, q2.2.2⟩⟩
  · exact q2.elim
def rLenOD (C : Addr) (sp : SpD) : List D → HD → Post → Prop := fun ds G Q => match ds with
  | [.ref a] => (∃ fs, G a = some (.ins C fs)) ∧ sp [.ref a] G (ownLen Q) fun _ _ _ => False
  | _ => False
theorem cd_lenO : CallD X.K (rLenO X C sp) (rLenOD C sp) := fun G H ds vs Q Q' s k f q => by
  unfold rLenOD at q
  split at q
  · rename_i a
    obtain ⟨⟨fs, h⟩, q⟩ := q
    obtain ⟨v, rfl, kd⟩ := one_of k
    cases kd
    obtain ⟨o1, e1, dx, l1, rfl, _⟩ := s _ _ h
    exact ⟨a, dx, l1, G, Q, rfl, e1, s, q, f⟩
  · exact q.elim
theorem bc_lenO {p pos : Pos} {e : Expr} {ts : TDA} (F : MetK X.prog X.w X.K X.mg X.base k "__len__" C sp []) (hr : RoomG j X.A) (hm : X.mg "len" = none) (ha : DA X [e] ts) (hj : k + 1 ≤ j := by decide) (hg : Gl X "len" := by rfl) (he : starEach [e] X.env = (false, eval e X.env) :: starEach [] X.env := by rfl) : DE X (.Call (.Name "len" p) [e] [] pos) (dCB (rLenOD C sp) ts) :=
  de_cb (call_lenO F (hr.mono hj)) cd_lenO hm (by decide +kernel) ha hg (by decide) (by decide) he (by rfl)
end
section
variable {G : HD} {Q : Post} {i j : Int} {p : Int → Int → Bool} {f : List Int → List Int → Bool} {a b c x y z : Int} {r : Addr} {C : Addr} {sp : SpD}
theorem r_cmpTI : dCmpT p f (.int i) (.int j) G Q = Q (.bl (p i j)) G := propext ⟨fun h => h, fun h => h⟩
theorem r_cmpT3 : dCmpT p f (.tup [.int a, .int b, .int c]) (.tup [.int x, .int y, .int z]) G Q = Q (.bl (f [a, b, c] [x, y, z])) G := propext ⟨fun h => h, fun h => h⟩
theorem r_lenOD : rLenOD C sp [.ref r] G Q = ((∃ fs, G r = some (.ins C fs)) ∧ sp [.ref r] G (ownLen Q) fun _ _ _ => False) := propext ⟨fun h => h, fun h => h⟩
theorem r_ownLen : ownLen Q (.int i) G = (0 ≤ i ∧ i < 2 ^ 63 ∧ Q (.int i) G) := propext ⟨fun h => h, fun h => h⟩
end
end DL

namespace DL
open PySem PySem.Spec L2
open PyProof.Rows hiding St
/-! ### xs.clear() -/
def clrO (o : Option MO) (a : Addr) (G : HD) (Q : Post) : Prop := match o with
  | some (.lst _) => Q .non (put G a (.lst []))
  | _ => False
def clrP (o : D) (G : HD) (Q : Post) : Prop := match o with
  | .ref a => clrO (G a) a G Q
  | _ => False
def dClear (to : TD) : TD := fun W σ G Q => to W σ G fun o G1 => clrP o G1 Q
theorem de_clear {X : Cx} {o : Expr} {to : TD} {apos cpos : Pos} (ho : DE X o to)
    (hbase : attributeBase o "clear" X.env (eval o X.env) = eval o X.env := by rfl) (hline : (apos.endLine == cpos.line) = true := by rfl) :
    DE X (.Call (.Attribute o "clear" apos) [] [] cpos) (dClear to) := ⟨fun G H σ τ W Q r q => by
  refine semE.of (pe_bm0 PySem.F.plainAttrs_list PySem.F.slot_list_clear PySem.F.type_list_clear mt_clear peSem hbase hline) ?_
  refine ho.then r q fun d v G1 H1 r1 x1 k1 q1 => ?_
  unfold clrP at q1
  split at q1
  · rename_i a
    cases k1
    unfold clrO at q1
    split at q1
    · rename_i xs hx
      obtain ⟨o', e1, vs, rfl, rr⟩ := r1.sim _ _ hx
      exact ⟨.inl ⟨rfl, vs, SqL.of e1⟩, a, vs, rfl, rfl, e1, .of (d := .non) rfl (r1.sim.wr (m := .lst []) (o := .lst []) hx ⟨[], rfl, rfl⟩) (x1.trans (.wr hx)) q1⟩
    · exact q1.elim
  · exact q1.elim⟩
/-! ### truth of an own thing with a length -/
section
variable {prog : Program} {w : World} {A : Around} {E : Value → Shared → Prop} {s : Shared} {K : PySem.W.Frag} {x C f : Addr} {ox : Obj} {od : Option Obj}
theorem len_body_own {Q : Fin → Shared → Prop} (X : K.In s.heap) (I : PySem.W.InstAt s.heap x ox C od) (hs : PySem.W.findIn K (.ref C) "__len__" = some (some (.ref f))) (hf : PySem.W.typeIn K (.ref f) = some (.type "function"))
    (h : wpAny (model prog w) A (call (.ref f) [.ref x]) (fun v s1 => ∃ n t, v = .int n t ∧ 0 ≤ n ∧ n < 2 ^ 63 ∧ ∀ t', Q (.done (.ret (.int n t'))) { s1 with toks := s1.toks + 1 }) E s) : wpAny (model prog w) A (Builtin.«len» ⟨[.ref x], []⟩) Q E s := by
  unfold Builtin.«len»
  refine wpAny_bind (m := oneArg "len" _) (wpAny_pure ?_)
  refine wpAny_bind (m := callSpecial? (.ref x) (Str.ofString "__len__")) (PySem.W.special_fn X I hs hf (wpAny_mono h (fun r s' hr => ?_) fun _ _ y => y))
  obtain ⟨n, u, rfl, h0, h1, hq⟩ := hr
  refine wpAny_bind (wpAny_holding (wpAny_pure ?_))
  refine wpAny_bind (wpAny_letGo ?_)
  show wpAny _ _ (if n < 0 then _ else _) _ _ _
  rw [if_neg (by omega)]
  show wpAny _ _ (if n ≥ 2 ^ 63 then _ else _) _ _ _
  rw [if_neg (by omega)]
  exact wpAny_bind (wpAny_mkInt (wpAny_pure (hq _)))
theorem truthy_own {Q : Bool → Shared → Prop} (X : K.In s.heap) (I : PySem.W.InstAt s.heap x ox C od) (hb : PySem.W.findIn K (.ref C) "__bool__" = some none) (hs : PySem.W.findIn K (.ref C) "__len__" = some (some (.ref f))) (hf : PySem.W.typeIn K (.ref f) = some (.type "function"))
    (h : wpAny (model prog w) (A.under (.builtin "len" ⟨[.ref x], []⟩)) (call (.ref f) [.ref x]) (fun v s1 => ∃ n t, v = .int n t ∧ 0 ≤ n ∧ n < 2 ^ 63 ∧ Q (n != 0) { s1 with toks := s1.toks + 1 }) E s) : wpAny (model prog w) A (truthy (.ref x)) Q E s := by
  have key : wpAny (model prog w) A (runValue (.builtin "len" ⟨[.ref x], []⟩)) (fun r s' => ∃ n t, r = .int n t ∧ Q (n != 0) s') E s := by
    refine wpAny_runValue (codeAny_builtin entry_len ?_)
    refine len_body_own X I hs hf (wpAny_mono h (fun v s1 hv => ?_) fun _ _ e => e)
    obtain ⟨n, t, rfl, h0, h1, hq⟩ := hv
    exact ⟨n, t, rfl, h0, h1, fun t' => ⟨n, t', rfl, hq⟩⟩
  have hsp : ∀ {Q' : Option Value → Shared → Prop}, Q' (some (.ref f)) s → wpAny (model prog w) A (specialOf (.ref x) "__len__") Q' E s := fun q => by
    unfold specialOf
    exact wpAny_bind (I.type.here ((PySem.W.looks_findIn X hs).here q))
  have hno : ∀ {Q' : Option Value → Shared → Prop}, Q' none s → wpAny (model prog w) A (callSpecial? (.ref x) "__bool__") Q' E s := fun q => by
    refine wpAny_bind (wpAny_bind (I.type.here ((PySem.W.looks_findIn X hb).here (wpAny_pure q))))
  unfold truthy
  first
    | refine wpAny_bind (hno ?_)
    | refine wpAny_bind (wpAny_pure (wpAny_bind (hno ?_)))
  first
    | refine wpAny_bind (hsp ?_)
    | refine wpAny_bind (wpAny_pure (wpAny_bind (hsp ?_)))
  first
    | exact wpAny_bind (wpAny_mono key (fun r s' h' => by obtain ⟨n, t, rfl, hq⟩ := h'; exact wpAny_pure hq) fun _ _ e => e)
    | exact wpAny_bind (wpAny_pure (wpAny_bind (wpAny_mono key (fun r s' h' => by obtain ⟨n, t, rfl, hq⟩ := h'; exact wpAny_pure hq) fun _ _ e => e)))
end
section
variable {X : Cx} {k j : Nat} {C : Addr} {sp : SpD}
def ownTru (Q : Bool → HD → Prop) : Post := fun d G => match d with
  | .int n => 0 ≤ n ∧ n < 2 ^ 63 ∧ Q (n != 0) G
  | _ => False
def rTruO (X : Cx) (C : Addr) (sp : SpD) : V → Hp → (Bool → Hp → Prop) → Prop := fun x H Q => ∃ (a dx : Addr) (fs : List (Str × V)) (G : HD) (Qd : Bool → HD → Prop), x = .ref a ∧ H a = some (.ins C dx fs) ∧ Sim X.K G H ∧ sp [.ref a] G (ownTru Qd) (fun _ _ _ => False) ∧ ∀ b H', liftB X.K G H Qd b H' → Q b H'
theorem tru_own (F : MetK X.prog X.w X.K X.mg X.base k "__len__" C sp []) (hB : PySem.W.findIn X.K (.ref C) "__bool__" = some none) (hr : RoomG (k + 1) X.A) : TruR X (rTruO X C sp) := by
  intro pins s σ H x v Q I rx ⟨a, dx, fs, G, Qd, e, ha, sm, q, fin⟩
  subst e
  obtain rfl : v = Value.ref a := rx
  obtain ⟨f, fd, ps, dvs, ds, hc, hm, F1, hb, hv, hdd, hlen⟩ := F.ex
  have z1 := (hdd.rel (fun _ => none)).length
  cases dvs with
  | cons _ _ => cases z1
  | nil =>
  cases hv
  obtain ⟨mA, J, _⟩ := ins_get I.hok ha
  obtain ⟨od, J, _⟩ := J.look
  refine truthy_own I.kIn J hB hm.at_ (beq_iff_eq.mp hm.fn) ?_
  rw [Around.under_plainId plain_len _]
  refine wpAny_mono (runE1 F1 ⟨hr.in1, rfl⟩ hb sm I (hlen _ _ _ _ q).symm q) (fun w s' z => ?_) fun _ _ e => e
  obtain ⟨y, H', I', ry, d, G', rd, sm', x1, q2⟩ := z
  unfold ownTru at q2
  split at q2
  · rename_i n
    cases rd
    obtain ⟨t, rfl⟩ := ry
    exact ⟨n, t, rfl, q2.1, q2.2.1, H', I'.tok _, fin _ _ ⟨G', sm', x1, q2.2.2⟩⟩
  · exact q2.elim
def truOP (C : Addr) (sp : SpD) (d : D) (G : HD) (Q : Bool → HD → Prop) : Prop := match d with
  | .ref a => (∃ fs, G a = some (.ins C fs)) ∧ sp [.ref a] G (ownTru Q) fun _ _ _ => False
  | _ => False
def dTruO (C : Addr) (sp : SpD) (t : TD) : TDT := fun W σ G Q => t W σ G fun d G1 => truOP C sp d G1 Q
theorem dt_truO {a : Expr} {ta : TD} (F : MetK X.prog X.w X.K X.mg X.base k "__len__" C sp []) (hB : PySem.W.findIn X.K (.ref C) "__bool__" = some none) (hr : RoomG j X.A) (ha : DE X a ta) (hj : k + 1 ≤ j := by decide) (he : ∀ whole, isTrue a X.env whole = (do let v ← whole; standAt a.pos; holding [v] (truthy v)) := by intro _; rfl) : DT X a (dTruO C sp ta) :=
  ⟨fun G H σ τ W Q r0 h => semT.of (pt_truthR peSem (tru_own F hB (hr.mono hj)) he) (ha.then r0 h fun d v G1 H1 r1 x1 k1 q1 => by
    unfold truOP at q1
    split at q1
    · rename_i a
      obtain ⟨⟨fs, h⟩, q⟩ := q1
      cases k1
      obtain ⟨o1, e1, dx, l1, rfl, _⟩ := r1.sim _ _ h
      exact ⟨a, dx, l1, G1, Q, rfl, e1, r1.sim, q, fun b H' z => z.up x1⟩
    · exact q1.elim)⟩
end
section
variable {G : HD} {Q : Post} {a : Addr} {W : DW} {σ : DSt} {to : TD} {xs : List D} {C : Addr} {sp : SpD} {i : Int} {R : Bool → HD → Prop}
theorem q_clear : dClear to W σ G Q = to W σ G fun o G1 => clrP o G1 Q := propext ⟨fun h => h, fun h => h⟩
theorem r_clrP : clrP (.ref a) G Q = clrO (G a) a G Q := propext ⟨fun h => h, fun h => h⟩
theorem r_clrO : clrO (some (.lst xs)) a G Q = Q .non (put G a (.lst [])) := propext ⟨fun h => h, fun h => h⟩
theorem q_truO : dTruO C sp to W σ G R = to W σ G fun d G1 => truOP C sp d G1 R := propext ⟨fun h => h, fun h => h⟩
theorem r_truOP : truOP C sp (.ref a) G R = ((∃ fs, G a = some (.ins C fs)) ∧ sp [.ref a] G (ownTru R) fun _ _ _ => False) := propext ⟨fun h => h, fun h => h⟩
theorem r_ownTru : ownTru R (.int i) G = (0 ≤ i ∧ i < 2 ^ 63 ∧ R (i != 0) G) := propext ⟨fun h => h, fun h => h⟩
end
end DL

namespace DL
open PySem PySem.Spec L2
open PyProof.Rows hiding St
/-! ### bool(x) of an own thing with a length -/
section
variable {prog : Program} {w : World} {A : Around} {E : Value → Shared → Prop} {s : Shared}
/-- a built-in type called: what its __new__ does is told by hand -/
theorem callType_by {T newId : String} {Bn : Builtin} {args : List Value} {Q P : Value → Shared → Prop} (ft : TypeCalled T newId "object.__init__") (hne : (some newId != some "object.__new__") = true)
    (hct : checkTypeCall T ⟨args, []⟩ = pure ()) (hcn : checkBuiltinCall newId ⟨.type T :: args, []⟩ = pure ()) (entryN : entryFor table newId = some Bn) (hok : ∀ obj, argsOk "object.__init__" ⟨obj :: args, []⟩)
    (g : wpAny (model prog w) A.in1.in1 (Bn ⟨.type T :: args, []⟩) (fun fin s' => match fin with | .done f => wants P E (.ok f) s' | .again c' => c'.quiet = true ∧ codeAny (model prog w) A.in1 c' (wants P E) s') (fun e s' => wants P E (.error e) s') s)
    (hP : ∀ obj s1, P obj s1 → s1.TypeIs obj T ∧ Q obj s1) : wpAny (model prog w) A (call (.type T) args) Q E s := by
  obtain ⟨c, tl, hmro⟩ := ft.mro
  have hmade := ft.made
  have hsub := ft.sub
  refine wpAny_call (codeAny_of_tree ?_)
  show wpAny _ _ (callAny (.type T) _) _ _ _
  refine wpAny_pure ⟨Code.quiet_builtin _ (by decide +kernel), codeAny_builtin F.entry_type_call ?_⟩
  rw [Around.under_plain (weight_type_call_type T args []) (units_type_call_type T args [])]
  have h1 := ft.notType
  have h2 := ft.canCreate
  repeat (any_goals first | assumption | wp_step)
  refine codeAny_mono (codeAny_call_builtin ft.plain entryN (wpAny_of_eq hcn g)) fun r s₁ hr => ?_
  cases r with
  | error e => exact hr
  | ok fl =>
    cases fl with
    | ret obj =>
      obtain ⟨hT, hq0⟩ := hP _ _ hr
      have hli := ft.init.lookup
      have hbi := ft.init.bind obj
      repeat (any_goals first | assumption | wp_step)
      refine codeAny_mono (codeAny_call_builtin ft.init.plain F.entry_object_init (ft.init.check _ _ _ _ _ _ _ _ hT (hok obj) (object_init_meets (rest := args) ft.init.lookup ft.made hne prog w A.in1 (wants (fun r s2 => r = .none ∧ Q obj s2) E) s₁ ⟨hT, rfl, hq0⟩))) fun r2 s2 hr2 => ?_
      cases r2 with
      | error e => exact hr2
      | ok fl2 =>
        cases fl2 with
        | ret r =>
          obtain ⟨rfl, hq⟩ := hr2
          repeat (any_goals first | assumption | wp_step)
        | _ => exact hr2.elim
    | _ => exact hr.elim
theorem call_bool_by {x : Value} {Q : Value → Shared → Prop} (h : wpAny (model prog w) A.in1.in1 (truthy x) (fun b s' => Q (.bool b) s') E s) : wpAny (model prog w) A (call (.type "bool") [x]) Q E s := by
  refine callType_by (P := fun v s' => (∃ b, v = .bool b) ∧ Q v s') F.called_bool F.newNe_bool (F.typeCall_bool_1 x) (F.newCall_bool_1 x) F.entry_bool_new (fun obj => F.args_object_init_2 obj x) ?_ fun obj s1 ⟨⟨b, e⟩, hq⟩ => ⟨by subst e; rfl, hq⟩
  have f1 := F.conv_sub_bool
  unfold Builtin.«bool.__new__»
  repeat (any_goals first | assumption | (with_reducible refine wpAny_bind (wpAny_mono h (fun b s' hq => ?_) fun _ _ e => e)) | wp_step)
  exact ⟨⟨b, rfl⟩, hq⟩
end
section
variable {X : Cx} {k j : Nat} {C : Addr} {sp : SpD}
def ownBool (Q : Post) : Post := fun d G => match d with
  | .int n => 0 ≤ n ∧ n < 2 ^ 63 ∧ Q (.bl (n != 0)) G
  | _ => False
def rBoolO (X : Cx) (C : Addr) (sp : SpD) : List V → Hp → VK → Prop := fun xs H Q => ∃ (a dx : Addr) (fs : List (Str × V)) (G : HD) (Qd : Post), xs = [.ref a] ∧ H a = some (.ins C dx fs) ∧ Sim X.K G H ∧ sp [.ref a] G (ownBool Qd) (fun _ _ _ => False) ∧ ∀ v H', liftQ X.K G H Qd v H' → Q v H'
theorem call_boolO (F : MetK X.prog X.w X.K X.mg X.base k "__len__" C sp []) (hB : PySem.W.findIn X.K (.ref C) "__bool__" = some none) (hr : RoomG (k + 3) X.A) : CallR X (.type "bool") (rBoolO X C sp) := by
  intro pins s σ H xs us Q I rx ⟨a, dx, fs, G, Qd, e, ha, sm, q, fin⟩
  subst e
  rw [Vals.ref1 rx]
  obtain ⟨f, fd, ps, dvs, ds, hc, hm, F1, hb, hv, hdd, hlen⟩ := F.ex
  have z1 := (hdd.rel (fun _ => none)).length
  cases dvs with
  | cons _ _ => cases z1
  | nil =>
  cases hv
  obtain ⟨mA, J, _⟩ := ins_get I.hok ha
  obtain ⟨od, J, _⟩ := J.look
  refine call_bool_by (truthy_own I.kIn J hB hm.at_ (beq_iff_eq.mp hm.fn) ?_)
  rw [Around.under_plainId plain_len _]
  refine wpAny_mono (runE1 F1 ⟨hr.in1.in1.in1, rfl⟩ hb sm I (hlen _ _ _ _ q).symm q) (fun w s' z => ?_) fun _ _ e => e
  obtain ⟨y, H', I', ry, d, G', rd, sm', x1, q2⟩ := z
  unfold ownBool at q2
  split at q2
  · rename_i n
    cases rd
    obtain ⟨t, rfl⟩ := ry
    exact ⟨n, t, rfl, q2.1, q2.2.1, .bl _, H', I'.tok _, rfl, fin _ _ ⟨.bl _, G', rfl, sm', x1, q2.2.2⟩⟩
  · exact q2.elim
def rBoolOD (C : Addr) (sp : SpD) : List D → HD → Post → Prop := fun ds G Q => match ds with
  | [.ref a] => (∃ fs, G a = some (.ins C fs)) ∧ sp [.ref a] G (ownBool Q) fun _ _ _ => False
  | _ => False
theorem cd_boolO : CallD X.K (rBoolO X C sp) (rBoolOD C sp) := fun G H ds vs Q Q' s k f q => by
  unfold rBoolOD at q
  split at q
  · rename_i a
    obtain ⟨⟨fs, h⟩, q⟩ := q
    obtain ⟨v, rfl, kd⟩ := one_of k
    cases kd
    obtain ⟨o1, e1, dx, l1, rfl, _⟩ := s _ _ h
    exact ⟨a, dx, l1, G, Q, rfl, e1, s, q, f⟩
  · exact q.elim
theorem bc_boolO {p pos : Pos} {e : Expr} {ts : TDA} (F : MetK X.prog X.w X.K X.mg X.base k "__len__" C sp []) (hB : PySem.W.findIn X.K (.ref C) "__bool__" = some none) (hr : RoomG j X.A) (hm : X.mg "bool" = none) (ha : DA X [e] ts) (hj : k + 3 ≤ j := by decide) (hg : Gl X "bool" := by rfl) (he : starEach [e] X.env = (false, eval e X.env) :: starEach [] X.env := by rfl) : DE X (.Call (.Name "bool" p) [e] [] pos) (dCB (rBoolOD C sp) ts) :=
  de_ct (call_boolO F hB (hr.mono hj)) cd_boolO hm (by decide +kernel) ha hg (by decide) (by decide) he (by rfl)
end
section
variable {G : HD} {Q : Post} {i : Int} {r : Addr} {C : Addr} {sp : SpD}
theorem r_boolOD : rBoolOD C sp [.ref r] G Q = ((∃ fs, G r = some (.ins C fs)) ∧ sp [.ref r] G (ownBool Q) fun _ _ _ => False) := propext ⟨fun h => h, fun h => h⟩
theorem r_ownBool : ownBool Q (.int i) G = (0 ≤ i ∧ i < 2 ^ 63 ∧ Q (.bl (i != 0)) G) := propext ⟨fun h => h, fun h => h⟩
end
end DL

namespace DL
open PySem PySem.Spec L2
open PyProof.Rows hiding St
/-! ### not x, as a value, of an own thing with a length -/
section
variable {X : Cx} {k j : Nat} {C : Addr} {sp : SpD} {a : Expr} {pos : Pos}
theorem pe_notR {ta : TE} {r : V → Hp → (Bool → Hp → Prop) → Prop} (ha : PE X a ta) (hr : TruR X r) : PE X (.UnaryOp .Not a pos) (fun σ H Q => ta σ H fun x H1 => r x H1 fun c H2 => Q (.bl (!c)) H2) :=
  ⟨fun pins s σ H Q I h => UnaryOp_ (thn (ha.run pins s σ H _ I h) fun v s1 ⟨x, H1, I1, r1, q1⟩ =>
    not_of (thn (hr pins s1 σ H1 x v (fun c H2 => Q (.bl (!c)) H2) I1 r1 q1) fun c s2 ⟨H2, I2, q2⟩ => ⟨.bl (!c), H2, I2, rfl, q2⟩))⟩
def dNotO (C : Addr) (sp : SpD) (t : TD) : TD := fun W σ G Q => t W σ G fun d G1 => truOP C sp d G1 fun b G2 => Q (.bl (!b)) G2
theorem de_notO {ta : TD} (F : MetK X.prog X.w X.K X.mg X.base k "__len__" C sp []) (hB : PySem.W.findIn X.K (.ref C) "__bool__" = some none) (hr : RoomG j X.A) (ha : DE X a ta) (hj : k + 1 ≤ j := by decide) : DE X (.UnaryOp .Not a pos) (dNotO C sp ta) :=
  ⟨fun G H σ τ W Q r q => semE.of (pe_notR peSem (tru_own F hB (hr.mono hj))) (ha.then r q fun d v G1 H1 r1 x1 k1 q1 => by
    unfold truOP at q1
    split at q1
    · rename_i a
      obtain ⟨⟨fs, h⟩, q⟩ := q1
      cases k1
      obtain ⟨o1, e1, dx, l1, rfl, _⟩ := r1.sim _ _ h
      exact ⟨a, dx, l1, G1, _, rfl, e1, r1.sim, q, fun b H' ⟨G2, s2, x2, q2⟩ => .of (d := .bl (!b)) rfl s2 (x1.trans x2) q2⟩
    · exact q1.elim)⟩
theorem q_notO {W : DW} {σ : DSt} {G : HD} {Q : Post} {t : TD} : dNotO C sp t W σ G Q = t W σ G fun d G1 => truOP C sp d G1 fun b G2 => Q (.bl (!b)) G2 := propext ⟨fun h => h, fun h => h⟩
end
end DL

namespace DL
open PySem PySem.Spec L2
open PyProof.Rows hiding St
/-! ### dicts, for the plain laws -/
section
variable {W : DW} {E : DEnds} {σ : DSt} {G : HD} {Q : Post} {td tk tz te : TD} {a : Addr} {l : List (Key × D)} {k : Key} {z d v : D} {x : Str} {i : Int} {K : Prop} {R : HD → Prop} {n : Bool} {f : List (Key × D) → Prop} {ts : TDS}
theorem q_get1 : dGet1 td tk W σ G Q = td W σ G fun o G1 => dictP o G1 (tk W σ G1 fun k G2 => getP o k .non G2 Q) := propext ⟨fun h => h, fun h => h⟩
theorem q_get2 : dGet2 td tk tz W σ G Q = td W σ G fun o G1 => dictP o G1 (tk W σ G1 fun k G2 => tz W σ G2 fun z G3 => getP o k z G3 Q) := propext ⟨fun h => h, fun h => h⟩
theorem q_dget : dDGet td tk W σ G Q = td W σ G fun o G1 => tk W σ G1 fun k G2 => dkP o k G2 Q := propext ⟨fun h => h, fun h => h⟩
theorem q_sdict : sDict td tk te W E σ G = te W σ G fun v G1 => td W σ G1 fun o G2 => tk W σ G2 fun k G3 => dpP o k v G3 fun G4 => E.nx σ G4 := propext ⟨fun h => h, fun h => h⟩
theorem q_pop2 : dPop2 td tk tz W σ G Q = td W σ G fun o G1 => dictP o G1 (tk W σ G1 fun k G2 => tz W σ G2 fun z G3 => popP o k z G3 Q) := propext ⟨fun h => h, fun h => h⟩
theorem q_setd : dSetd td tk tz W σ G Q = td W σ G fun o G1 => dictP o G1 (tk W σ G1 fun k G2 => tz W σ G2 fun z G3 => sdfP o k z G3 Q) := propext ⟨fun h => h, fun h => h⟩
theorem q_dic : dDic W σ G Q = ∀ p, G p = none → Q (.ref p) (put G p (.dK [])) := propext ⟨fun h => h, fun h => h⟩
theorem r_dictP : dictP (.ref a) G K = ((∃ l, G a = some (.dK l)) ∧ K) := propext ⟨fun h => h, fun h => h⟩
theorem r_dictEx (h : G a = some (.dK l)) : (∃ m, G a = some (.dK m)) = True := propext ⟨fun _ => trivial, fun _ => ⟨l, h⟩⟩
theorem r_getS : getP (.ref a) (.str x) z G Q = getO (G a) (some (.inr x)) z G Q := propext ⟨fun h => h, fun h => h⟩
theorem r_getI : getP (.ref a) (.int i) z G Q = getO (G a) (some (.inl i)) z G Q := propext ⟨fun h => h, fun h => h⟩
theorem r_getO : getO (some (.dK l)) (some k) z G Q = Q ((valD l k).getD z) G := propext ⟨fun h => h, fun h => h⟩
theorem r_dkS : dkP (.ref a) (.str x) G Q = dkO (G a) (some (.inr x)) G Q := propext ⟨fun h => h, fun h => h⟩
theorem r_dkI : dkP (.ref a) (.int i) G Q = dkO (G a) (some (.inl i)) G Q := propext ⟨fun h => h, fun h => h⟩
theorem r_dkO : dkO (some (.dK l)) (some k) G Q = optP (valD l k) G Q := propext ⟨fun h => h, fun h => h⟩
theorem r_dkF {ob : Obj} {m : List (Key × V)} : dkO (some (.fz ob (.dK m) (.dK l))) (some k) G Q = optP (valD l k) G Q := propext ⟨fun h => h, fun h => h⟩
theorem r_inF {ob : Obj} {m : List (Key × V)} : inO n (some (.fz ob (.dK m) (.dK l))) (some k) G Q = Q (.bl (if n then !(valD l k).isSome else (valD l k).isSome)) G := propext ⟨fun h => h, fun h => h⟩
theorem r_inS : inP n (.str x) (.ref a) G Q = inO n (G a) (some (.inr x)) G Q := propext ⟨fun h => h, fun h => h⟩
theorem r_inI : inP n (.int i) (.ref a) G Q = inO n (G a) (some (.inl i)) G Q := propext ⟨fun h => h, fun h => h⟩
theorem r_inO : inO n (some (.dK l)) (some k) G Q = Q (.bl (if n then !(valD l k).isSome else (valD l k).isSome)) G := propext ⟨fun h => h, fun h => h⟩
theorem r_dpS : dpP (.ref a) (.str x) v G R = dpO (G a) a (some (.inr x)) v G R := propext ⟨fun h => h, fun h => h⟩
theorem r_dpI : dpP (.ref a) (.int i) v G R = dpO (G a) a (some (.inl i)) v G R := propext ⟨fun h => h, fun h => h⟩
theorem r_dpO : dpO (some (.dK l)) a (some k) v G R = (l.length < 1000000 ∧ R (put G a (.dK (putKD l k v)))) := propext ⟨fun h => h, fun h => h⟩
theorem r_dicP : dicP (.ref a) G f = dicO (G a) f := propext ⟨fun h => h, fun h => h⟩
theorem r_dicO : dicO (some (.dK l)) f = f l := propext ⟨fun h => h, fun h => h⟩
theorem r_sortDic : rSortDic [d] G Q = dicP d G fun l => srtO l G Q := propext ⟨fun h => h, fun h => h⟩
theorem r_listDic : rListDic [d] G Q = dicP d G fun l => newL G (keysD l) Q := propext ⟨fun h => h, fun h => h⟩
theorem r_dictDic : rDictDic [d] G Q = dicP d G fun l => newD G l Q := propext ⟨fun h => h, fun h => h⟩
theorem q_lockE : dLockE te W σ G Q = ∃ d l, G d = some (.dK l) ∧ ∀ (ob : Obj) (m : List (Key × V)), te W σ (put G d (.fz ob (.dK m) (.dK l))) fun v G1 => G1 d = some (.fz ob (.dK m) (.dK l)) ∧ Q v (put G1 d (.dK l)) := propext ⟨fun h => h, fun h => h⟩
theorem q_dapp {to : TD} {ta : TDA} : dApp to ta W σ G Q = to W σ G fun o G1 => lstP o G1 (ta W σ G1 fun ds G2 => match ds with
  | [d] => appP o d G2 Q
  | _ => False) := propext ⟨fun h => h, fun h => h⟩
theorem r_lstP {kk : Prop} : lstP (.ref a) G kk = ((∃ xs, G a = some (.lst xs)) ∧ kk) := propext ⟨fun h => h, fun h => h⟩
theorem r_appP : appP (.ref a) d G Q = appO (G a) a d G Q := propext ⟨fun h => h, fun h => h⟩
theorem r_appO {xs : List D} : appO (some (.lst xs)) a d G Q = (xs.length < 1000000 ∧ Q .non (put G a (.lst (xs ++ [d])))) := propext ⟨fun h => h, fun h => h⟩
/-! keys and values -/
theorem valD_put {k2 : Key} : valD (putKD l k d) k2 = if k2 = k then some d else valD l k2 := by
  unfold putKD
  have hv : ∀ l : List (Key × D), hasD l k = true → valD (l.map fun p => if p.1 = k then (p.1, d) else p) k2 = if k2 = k then some d else valD l k2 := by
    intro l
    induction l with
    | nil => intro h; cases h
    | cons p r ih =>
      intro h
      simp only [List.map_cons]
      by_cases hp : p.1 = k
      · rw [if_pos hp]
        unfold valD
        by_cases h2 : p.1 = k2
        · rw [if_pos h2, if_pos (by rw [← h2, hp])]
        · have h3 : ¬ k2 = k := fun z => h2 (hp.trans z.symm)
          rw [if_neg h2, if_neg h3, if_neg h2]
          by_cases hr : hasD r k = true
          · rw [ih hr, if_neg h3]
          · have : (r.map fun p => if p.1 = k then (p.1, d) else p) = r := by
              have hr' : ∀ q ∈ r, ¬ q.1 = k := fun q hq z => hr (List.any_eq_true.mpr ⟨q, hq, decide_eq_true z⟩)
              rw [List.map_congr_left (g := id) fun q hq => by rw [if_neg (hr' q hq)]; rfl]
              simp
            rw [this]
      · rw [if_neg hp]
        have hr : hasD r k = true := by
          unfold hasD at h ⊢
          rw [List.any_cons, decide_eq_false hp, Bool.false_or] at h
          exact h
        unfold valD
        by_cases h2 : p.1 = k2
        · rw [if_pos h2, if_neg (by rw [← h2]; exact hp), if_pos h2]
        · rw [if_neg h2, if_neg h2]; exact ih hr
  have ha : ∀ l : List (Key × D), ¬ hasD l k = true → valD (l ++ [(k, d)]) k2 = if k2 = k then some d else valD l k2 := by
    intro l
    induction l with
    | nil =>
      intro _
      show (if k = k2 then some d else none) = _
      by_cases h : k2 = k
      · rw [if_pos h, if_pos h.symm]
      · rw [if_neg h, if_neg (Ne.symm h)]; rfl
    | cons p r ih =>
      intro h
      have hp : ¬ p.1 = k := fun z => h (by unfold hasD; rw [List.any_cons, decide_eq_true z]; rfl)
      have hr : ¬ hasD r k = true := fun z => h (by unfold hasD at z ⊢; rw [List.any_cons, z, Bool.or_true])
      show (if p.1 = k2 then some p.2 else valD (r ++ [(k, d)]) k2) = if k2 = k then some d else if p.1 = k2 then some p.2 else valD r k2
      by_cases h2 : p.1 = k2
      · rw [if_pos h2, if_pos h2, if_neg (by rw [← h2]; exact hp)]
      · rw [if_neg h2, if_neg h2]; exact ih hr
  by_cases h : hasD l k = true
  · rw [if_pos h]; exact hv l h
  · rw [if_neg h]; exact ha l h
end
end DL

namespace DL
open PySem PySem.Spec L2
open PyProof.Rows hiding St
/-! ### what repr shows is a text of good signs -/
theorem ok_iff {x : Str} : PyData.strOk x = true ↔ ∀ c ∈ x.cps.toList, c < 0x110000 := by
  unfold PyData.strOk
  rw [Array.all_eq_true']
  constructor
  · intro h c hc; exact of_decide_eq_true (h c (by simpa using hc))
  · intro h c hc; exact decide_eq_true (h c (by simpa using hc))
theorem ok_app {x y : Str} (h : PyData.strOk x = true) (k : PyData.strOk y = true) : PyData.strOk (x ++ y) = true := by
  rw [ok_iff] at h k ⊢
  intro c hc
  have e : (x ++ y).cps = x.cps ++ y.cps := rfl
  rw [e, Array.toList_append] at hc
  rcases List.mem_append.mp hc with hc | hc
  · exact h c hc
  · exact k c hc
theorem chr_lt (c : Char) : c.toNat < 0x110000 := by
  have h := c.valid
  show c.val.toNat < 0x110000
  rcases h with h | h
  · have : c.val.toNat < 0xd800 := h
    omega
  · exact h.2
theorem reprChar_ok {q c : Nat} (hc : c < 0x110000) : ∀ x ∈ Builtin.Str.reprChar q c, x < 0x110000 := by
  intro x hx
  have hexk : ∀ w : Nat, ∀ y ∈ (List.replicate (w - ((Nat.toDigits 16 c).map Char.toNat).length) 48 ++ (Nat.toDigits 16 c).map Char.toNat), y < 0x110000 := fun w y hy => by
    rcases List.mem_append.mp hy with hy | hy
    · rw [List.eq_of_mem_replicate hy]; decide
    · obtain ⟨d, _, rfl⟩ := List.mem_map.mp hy
      exact chr_lt d
  unfold Builtin.Str.reprChar at hx
  dsimp only at hx
  split at hx
  · simp only [List.mem_cons, List.not_mem_nil, or_false] at hx; rcases hx with rfl | rfl <;> omega
  split at hx
  · simp only [List.mem_cons, List.not_mem_nil, or_false] at hx; rcases hx with rfl | rfl <;> omega
  split at hx
  · simp only [List.mem_cons, List.not_mem_nil, or_false] at hx; rcases hx with rfl | rfl <;> omega
  split at hx
  · simp only [List.mem_cons, List.not_mem_nil, or_false] at hx; rcases hx with rfl | rfl <;> omega
  split at hx
  · simp only [List.mem_cons, List.not_mem_nil, or_false] at hx; subst hx; exact hc
  split at hx
  · rcases List.mem_append.mp hx with hx | hx
    · simp only [List.mem_cons, List.not_mem_nil, or_false] at hx; rcases hx with rfl | rfl <;> omega
    · exact hexk _ x hx
  split at hx
  · rcases List.mem_append.mp hx with hx | hx
    · simp only [List.mem_cons, List.not_mem_nil, or_false] at hx; rcases hx with rfl | rfl <;> omega
    · exact hexk _ x hx
  · rcases List.mem_append.mp hx with hx | hx
    · simp only [List.mem_cons, List.not_mem_nil, or_false] at hx; rcases hx with rfl | rfl <;> omega
    · exact hexk _ x hx
theorem fold_ok {q : Nat} : ∀ (l : List Nat) (acc : Array Nat), (∀ c ∈ l, c < 0x110000) → (∀ c ∈ acc.toList, c < 0x110000) → ∀ c ∈ (l.foldl (fun out c => out ++ (Builtin.Str.reprChar q c).toArray) acc).toList, c < 0x110000
  | [], acc, _, ha => ha
  | c :: r, acc, hl, ha => by
    refine fold_ok r _ (fun d hd => hl d (List.mem_cons_of_mem _ hd)) fun d hd => ?_
    rw [Array.toList_append] at hd
    rcases List.mem_append.mp hd with hd | hd
    · exact ha d hd
    · exact reprChar_ok (hl c List.mem_cons_self) d (by simpa using hd)
theorem quote_ok (x : Str) : reprQuote x < 0x110000 := by
  unfold reprQuote
  split <;> decide
theorem reprText_ok {x : Str} (h : PyData.strOk x = true) : PyData.strOk (reprText x) = true := by
  rw [ok_iff] at h ⊢
  unfold reprText
  intro c hc
  rw [Array.toList_push] at hc
  rcases List.mem_append.mp hc with hc | hc
  · rw [← Array.foldl_toList] at hc
    exact fold_ok x.cps.toList _ h (fun d hd => by simp at hd; subst hd; exact quote_ok x) c hc
  · simp at hc; subst hc; exact quote_ok x
theorem int_ok (i : Int) : PyData.strOk (Str.ofString (toString i)) = true := by
  rw [ok_iff]
  intro c hc
  by_cases h : c < 0x110000
  · exact h
  · exact absurd hc (PyProof.Rows.int_text_free' c ⟨by omega, by omega⟩ i)
theorem join_ok : ∀ ts : List Str, (∀ t ∈ ts, PyData.strOk t = true) → PyData.strOk (Str.join ", " ts) = true
  | [], _ => by decide +kernel
  | [t], h => h t List.mem_cons_self
  | t :: u :: r, h => by
    show PyData.strOk (t ++ ", " ++ Str.join ", " (u :: r)) = true
    exact ok_app (ok_app (h t List.mem_cons_self) (by decide +kernel)) (join_ok (u :: r) fun v hv => h v (List.mem_cons_of_mem _ hv))
mutual
theorem shown_ok : ∀ (n : Nat) (d : D), pureD n d = true → PyData.strOk (toPy n d).shown = true
  | 0, _, h => by cases h
  | n + 1, .non, _ => (by decide +kernel : PyData.strOk PyData.none.shown = true)
  | n + 1, .bl true, _ => (by decide +kernel : PyData.strOk (PyData.bool true).shown = true)
  | n + 1, .bl false, _ => (by decide +kernel : PyData.strOk (PyData.bool false).shown = true)
  | n + 1, .int i, _ => int_ok i
  | n + 1, .str x, h => reprText_ok h
  | n + 1, .tup ds, h => by
    show PyData.strOk (tupleText (PyData.shownAll (ds.map (toPy n)))) = true
    unfold tupleText
    refine ok_app (ok_app (by decide +kernel) (join_ok _ (showns_ok n ds (by unfold pureD at h; exact h)))) ?_
    split <;> decide +kernel
  | n + 1, .kl ds, h => by
    show PyData.strOk (listText (PyData.shownAll (ds.map (toPy n)))) = true
    rw [listText_eq_join]
    exact ok_app (ok_app (by decide +kernel) (join_ok _ (showns_ok n ds (by unfold pureD at h; exact h)))) (by decide +kernel)
  | n + 1, .kc ds, h => by
    show PyData.strOk (listText (PyData.shownAll (ds.map (toPy n)))) = true
    rw [listText_eq_join]
    exact ok_app (ok_app (by decide +kernel) (join_ok _ (showns_ok n ds (by unfold pureD at h; exact h)))) (by decide +kernel)
  | n + 1, .ty _, h => by cases h
  | n + 1, .ref _, h => by cases h
  | n + 1, .exc _ _ _, h => by cases h
  | n + 1, .emp, h => by cases h
theorem showns_ok : ∀ (n : Nat) (ds : List D), ds.all (pureD n) = true → ∀ t ∈ PyData.shownAll (ds.map (toPy n)), PyData.strOk t = true
  | n, [], _, t, ht => by cases ht
  | n, d :: ds, h, t, ht => by
    rw [List.all_cons, Bool.and_eq_true] at h
    have ht' : t ∈ (toPy n d).shown :: PyData.shownAll (ds.map (toPy n)) := ht
    rcases List.mem_cons.mp ht' with rfl | ht'
    · exact shown_ok n d h.1
    · exact showns_ok n ds h.2 t ht'
end
/-- repr, its bound larger -/
theorem i_reprB {d : D} {G : HD} {Q : Post} (h : pureD 9 d = true) (hs : smallD 9 d = true) (hc : capD d ≤ 16000000) (q : Q (.str (toPy 9 d).shown) G) : rReprD [d] G Q :=
  i_repr h (small_shown 9 d hs).1 (Nat.le_trans (small_shown 9 d hs).2 (by rw [sizeLine_eq]; omega)) q
end DL

namespace DL
open PySem PySem.Spec L2
open PyProof.Rows hiding St
/-! ### [..] * n -/
def rRepL (K : PySem.W.Frag) : R2 := fun x y H Q => ∃ (l : Addr) (k : Int) (xs : List V), x = .ref l ∧ y = .int k ∧ SqL K H l xs ∧ 0 ≤ k ∧ k ≤ 1000 ∧ xs.length ≤ 1000 ∧ ∀ p, H p = none → Q (.ref p) (upd H p (.lst (List.replicate k.toNat xs).flatten))
theorem vals_flat {k : Nat} {xs : List V} {us : List Value} (r : Vals xs us) : Vals (List.replicate k xs).flatten (List.replicate k us).flatten := by
  induction k with
  | zero => exact .nil
  | succ k ih => rw [List.replicate_succ, List.replicate_succ, List.flatten_cons, List.flatten_cons]; exact r.append ih
theorem fold_flat (its : List Value) (m : Nat) : List.foldl (fun x1 x2 => x1 ++ x2) #[] (List.replicate m its.toArray) = (List.replicate m its).flatten.toArray := by
  have := foldl_rep its m []
  rw [List.nil_append] at this
  exact this
theorem op_repL {X : Cx} : OpR X (binaryOp .Mult) (rRepL X.K) := by
  intro pins s σ H x y v u Q I rx ry h
  obtain ⟨a, k, xs, rfl, rfl, hs, h0, hk, hx, q⟩ := h
  obtain rfl : v = Value.ref a := rx
  obtain ⟨t, rfl⟩ := ry
  obtain ⟨its, rv, ⟨⟨cls, dd, data, sl⟩, n, ho, hc, hdn, hd⟩, hlen⟩ := I.list hs
  have hc1 : cls = Value.type "list" := hc
  have hd1 : data = Data.seq its.toArray n := hd
  subst hc1 hd1
  have hl := rv.length
  have hsl := sizeLine_eq
  have hm : its.toArray.size * k.toNat ≤ 1000 * 1000 := by
    rw [List.size_toArray, ← hl]
    exact Nat.mul_le_mul hx (by omega)
  have hm2 : 1000 * 1000 ≤ sizeLine := by rw [hsl]; omega
  have c0 : ¬(!Builtin.List.listFitsIndex k) = true := by simp [Builtin.List.listFitsIndex]; omega
  have c1 : ¬its.toArray.size * k.toNat > (2 ^ 63 - 1) / 8 := Nat.not_lt.mpr (Nat.le_trans hm (by omega))
  have c2 : ¬Builtin.List.listTooLong (its.toArray.size * k.toNat) = true := by
    simp only [Builtin.List.listTooLong, decide_eq_true_eq]
    exact Nat.not_lt.mpr (Nat.le_trans hm hm2)
  refine wpAny_binaryOp_repeat_ref (T := "list") (U := "int") (by decide) ⟨_, ho, rfl⟩ (fun s' => typeIs_int s' k t) noFill_list_mul F.fills_int_mul F.slot_int_rmul repeat_list F.slot_int_index.lookup
    (call_meets F.slot_int_rmul (typeIs_int s k t) F.entry_int_rmul (F.args_int_rmul_2 _ _) (lm_int_rmul_list_any k t a its.toArray n dd sl) ⟨ho, rfl, ⟨_, ho, rfl⟩, call_meets F.slot_list_mul ⟨_, ho, rfl⟩ F.entry_list_mul (F.args_list_mul_2 _ _) (lm_list_mul_any a its.toArray n dd sl k t c0 c1 c2) ⟨ho, ?_⟩⟩)
  have e : List.foldl (fun x1 x2 => x1 ++ x2) #[] (List.replicate (if its.toArray.isEmpty = true then 0 else k.toNat) its.toArray) = (List.replicate k.toNat its).flatten.toArray := by
    rw [listMul_foldl_if]
  rw [e]
  refine ⟨.ref s.heap.objs.size, upd H s.heap.objs.size (.lst (List.replicate k.toNat xs).flatten), I.laid (t' := s.toks) (fun b o e => Heap.get?_push_of_some _ e) (Nat.le_refl _) ⟨?_, _, 0, vals_flat rv, Heap.get?_push_size _ rfl⟩, rfl, q _ (I.hok.fresh (Nat.le_refl _))⟩
  rw [PyProof.Rows.lm_len_rep_flat]
  exact Nat.le_trans (Nat.mul_le_mul (show k.toNat ≤ 1000 by omega) hx) hm2
/-- the written list is new, and so is what comes -/
def dRepL : D → D → HD → Post → Prop := fun d e G Q => match asL G d, e with
  | some xs, .int k => 0 ≤ k ∧ k ≤ 1000 ∧ xs.length ≤ 1000 ∧ newL G (List.replicate k.toNat xs).flatten Q
  | _, _ => False
theorem rps_flat {K : PySem.W.Frag} {H : Hp} {k : Nat} {ds : List D} {vs : List V} (r : Rps K H ds vs) : Rps K H (List.replicate k ds).flatten (List.replicate k vs).flatten := by
  induction k with
  | zero => rfl
  | succ k ih => rw [List.replicate_succ, List.replicate_succ, List.flatten_cons, List.flatten_cons]; exact r.app ih
theorem od_repL (K : PySem.W.Frag) : OpD K (rRepL K) dRepL := fun G H d e x y Q Q' s k1 k2 f q => by
  unfold dRepL at q
  split at q
  · rename_i xs k e1
    obtain ⟨a, vs, rfl, t1, r1⟩ := k1.lst s e1
    cases k2
    obtain ⟨h0, h1, h2, q⟩ := q
    exact ⟨a, k, vs, rfl, rfl, t1, h0, h1, by rw [r1.length]; exact h2, newL.fin s (rps_flat r1) f q⟩
  · exact q.elim
theorem de_repL {X : Cx} {a b : Expr} {ta tb : TD} {pos : Pos} (ha : DE X a ta) (hb : DE X b tb) : DE X (.BinOp a .Mult b pos) (dOp dRepL ta tb) := de_op op_repL (od_repL X.K) ha hb
/-! ### x in a list, a tuple, of ints -/
def inIo (neg : Bool) (o : Option (List Int)) (i : Int) (G : HD) (Q : Post) : Prop := match o with
  | some ns => Q (.bl (if neg then !decide (i ∈ ns) else decide (i ∈ ns))) G
  | none => False
def dInI (neg : Bool) : D → D → HD → Post → Prop := fun d e G Q => match d with
  | .int i => match asQ G e with
    | some es => inIo neg (asInts es) i G Q
    | none => False
  | _ => False
theorem inV_ints {i : Int} : ∀ {ns : List Int}, inV (.int i) (ns.map V.int) = decide (i ∈ ns)
  | [] => rfl
  | n :: ns => by
    have h := inV_ints (i := i) (ns := ns)
    unfold inV at h ⊢
    rw [List.map_cons, List.any_cons, h]
    have e : eqV (V.int n) (V.int i) = decide (n = i) := rfl
    rw [e]
    by_cases z : i = n
    · subst z; simp
    · have z' : ¬ n = i := fun q => z q.symm
      simp [z, z']
theorem od_inI (K : PySem.W.Frag) (neg : Bool) : OpD K (rIn K neg) (dInI neg) := fun G H d e x y Q Q' s k1 k2 f q => by
  unfold dInI at q
  split at q
  · cases k1
    split at q
    · rename_i es e1
      unfold inIo at q
      split at q
      · rename_i ns e2
        obtain ⟨a, vs, rfl, t, r⟩ := k2.seq s e1
        obtain rfl := asInts_eq e2
        obtain rfl := r.ints
        refine ⟨a, _, rfl, t, rfl, List.all_eq_true.mpr fun v hv => by obtain ⟨n, _, rfl⟩ := List.mem_map.mp hv; rfl, ?_⟩
        rw [inV_ints]
        exact f _ _ (.of (d := .bl _) rfl s .refl q)
      · exact q.elim
    · exact q.elim
  · exact q.elim
theorem c_inI {X : Cx} : CmpR X .In (dInI false) := ⟨_, op_in_seq, od_inI X.K false⟩
theorem c_ninI {X : Cx} : CmpR X .NotIn (dInI true) := ⟨_, op_notIn_seq, od_inI X.K true⟩
/-! ### for i, x in enumerate(xs) -/
def enumD : Nat → List D → List D
  | _, [] => []
  | n, d :: ds => .tup [.int n, d] :: enumD (n + 1) ds
theorem enum_get : ∀ {ds : List D} {n i : Nat} {d : D}, ds[i]? = some d → (enumD n ds)[i]? = some (.tup [.int (n + i : Nat), d])
  | [], _, i, _, h => by simp at h
  | e :: ds, n, 0, d, h => by
    have : e = d := by simpa using h
    subst this; rfl
  | e :: ds, n, i + 1, d, h => by
    have := enum_get (ds := ds) (n := n + 1) (i := i) (d := d) (by simpa using h)
    show (enumD (n + 1) ds)[i]? = _
    rw [this]
    congr 4
    omega
theorem enum_len : ∀ {ds : List D} {n : Nat}, (enumD n ds).length = ds.length
  | [], _ => rfl
  | _ :: ds, n => congrArg Nat.succ (enum_len (ds := ds) (n := n + 1))
def enumO (o : Option MO) (a : Addr) (G : HD) (R : ItD → HD → Prop) : Prop := match o with
  | some (.lst ds) => R ⟨enumD 0 ds, fun G => G a = some (.lst ds)⟩ G
  | _ => False
def enumP (d : D) (G : HD) (R : ItD → HD → Prop) : Prop := match d with
  | .ref a => enumO (G a) a G R
  | _ => False
def jEnum (ts : TDA) : TDI := fun W σ G R => ts W σ G fun ds G1 => match ds with
  | [d] => enumP d G1 R
  | _ => False
theorem di_enum {X : Cx} {e : Expr} {ts : TDA} {p pos tpos : Pos} {elts : List Expr} {kk : Nat} (hm : X.mg "enumerate" = none) (ha : DA X [e] ts) (hg : Gl X "enumerate" := by rfl) (hs : starEach [e] X.env = [(false, eval e X.env)] := by rfl) :
    DI X (.Tuple elts kk tpos) (.Call (.Name "enumerate" p) [e] [] pos) (iEnum X.K (semA X [e])) (jEnum ts) :=
  ⟨pi_enum hg hm paSem hs, fun G H σ τ W R R' r q fin => ha.then r q fun ds vs G1 H1 r1 x1 k1 q1 => by
    try dsimp only at q1
    split at q1
    · rename_i d
      obtain ⟨w, rfl, kd⟩ := one_of k1
      unfold enumP at q1
      split at q1
      · rename_i a
        cases kd
        unfold enumO at q1
        split at q1
        · rename_i ds hG
          obtain ⟨xs, e1, rk⟩ := r1.sim.lst hG
          refine ⟨a, xs, rfl, .of e1, fin _ _ G1 H1 r1.sim x1 ⟨fun i G2 H2 s2 _ hok hi => ?_, fun i G2 H2 x H3 s2 _ hok hi hy => ?_, fun i G2 H2 s2 _ hok hi => ?_⟩ q1⟩
          · obtain ⟨ys, f1, f2⟩ := s2.lst hok
            rw [enum_len] at hi
            have hi2 : i < ys.length := by rw [f2.length]; exact hi
            exact ⟨ys, ys[i], .of f1, List.getElem?_eq_getElem hi2⟩
          · obtain ⟨ys, f1, f2⟩ := s2.lst hok
            obtain ⟨T, v, rfl, hT, rfl, hx⟩ := hy
            have hx := hx ys (.of f1)
            rw [enum_len] at hi
            have xt : Ext G2 H2 G2 (upd H2 T (.tup [.int (i : Nat), v])) := Ext.new hT (s2.no hT)
            have hd : ds[i]? = some ds[i] := List.getElem?_eq_getElem hi
            obtain ⟨v', z1, z2⟩ := f2.get hd
            rw [hx] at z1
            cases z1
            refine ⟨.tup [.int (i : Nat), ds[i]], ?_, ⟨T, [.int (i : Nat), v], rfl, SqT.of upd_same, .int (i : Nat), [v], rfl, rfl, v, [], rfl, z2.ext s2 xt _ _, rfl⟩, s2.newO hT, xt⟩
            have := enum_get (n := 0) hd
            rw [Nat.zero_add] at this
            exact this
          · obtain ⟨ys, f1, f2⟩ := s2.lst hok
            rw [enum_len] at hi
            exact ⟨ys, .of f1, by rw [f2.length]; exact hi⟩
        · exact q1.elim
      · exact q1.elim
    · exact q1.elim⟩
end DL

namespace DL
open PySem PySem.Spec L2
open PyProof.Rows hiding St
/-! ### C(e, .., k = v, ..) -/
def pickL {α : Type} (is : List Nat) (l : List α) : List α := is.filterMap (l[·]?)
theorem vals_get {i : Nat} : ∀ {vs : List V} {us : List Value}, Vals vs us → (∃ v u, vs[i]? = some v ∧ us[i]? = some u ∧ RelV v u) ∨ (vs[i]? = none ∧ us[i]? = none)
  | _, _, .nil => .inr ⟨by simp, by simp⟩
  | v :: vs, u :: us, .cons a b => by
    cases i with
    | zero => exact .inl ⟨v, u, rfl, rfl, a⟩
    | succ i =>
      rcases vals_get (i := i) b with ⟨v', u', h1, h2, h3⟩ | ⟨h1, h2⟩
      · exact .inl ⟨v', u', by simpa using h1, by simpa using h2, h3⟩
      · exact .inr ⟨by simpa using h1, by simpa using h2⟩
theorem rps_get {K : PySem.W.Frag} {H : Hp} {i : Nat} : ∀ {ds : List D} {vs : List V}, Rps K H ds vs → (∃ d v, ds[i]? = some d ∧ vs[i]? = some v ∧ Rp K H d v) ∨ (ds[i]? = none ∧ vs[i]? = none)
  | [], _, h => by cases h; exact .inr ⟨by simp, by simp⟩
  | d :: ds, _, ⟨v, r, e, a, b⟩ => by
    subst e
    cases i with
    | zero => exact .inl ⟨d, v, rfl, rfl, a⟩
    | succ i =>
      rcases rps_get (i := i) b with ⟨v', u', h1, h2, h3⟩ | ⟨h1, h2⟩
      · exact .inl ⟨v', u', by simpa using h1, by simpa using h2, h3⟩
      · exact .inr ⟨by simpa using h1, by simpa using h2⟩
theorem vals_pick {vs : List V} {us : List Value} (r : Vals vs us) : ∀ is : List Nat, Vals (pickL is vs) (pickL is us)
  | [] => .nil
  | i :: is => by
    have ih := vals_pick r is
    unfold pickL at ih ⊢
    rcases vals_get (i := i) r with ⟨v, u, h1, h2, h3⟩ | ⟨h1, h2⟩
    · rw [List.filterMap_cons_some h1, List.filterMap_cons_some h2]; exact .cons h3 ih
    · rw [List.filterMap_cons_none h1, List.filterMap_cons_none h2]; exact ih
theorem rps_pick {K : PySem.W.Frag} {H : Hp} {ds : List D} {vs : List V} (r : Rps K H ds vs) : ∀ is : List Nat, Rps K H (pickL is ds) (pickL is vs)
  | [] => rfl
  | i :: is => by
    have ih := rps_pick r is
    unfold pickL at ih ⊢
    rcases rps_get (i := i) r with ⟨v, u, h1, h2, h3⟩ | ⟨h1, h2⟩
    · rw [List.filterMap_cons_some h1, List.filterMap_cons_some h2]; exact .cons h3 ih
    · rw [List.filterMap_cons_none h1, List.filterMap_cons_none h2]; exact ih
/-- what such a call binds: n values by their places, m by their names; is: where each parameter's value stands among these, the defaults dds between them -/
structure KwB (K : PySem.W.Frag) (fd : FuncData) (ps : List Str) (n : Nat) (ks : List Str) (is : List Nat) (dds : List D) : Prop where
  ex : ∃ (its : List Value) (dvs : List V), Vals dvs its ∧ Dfl K dds dvs ∧ ∀ (s : Shared) (us ws : List Value), K.In s.heap → us.length = n → ws.length = ks.length → BindsTo s fd ⟨us, ks.zip ws⟩ (ps.zip (pickL is (us ++ (its ++ ws))))
structure MakKw (P : Program) (w : World) (K : PySem.W.Frag) (mg : Str → Option Value) (base : Heap) (k : Nat) (x : Str) (C : Addr) (sp : SpD) (n : Nat) (ks : List Str) (is : List Nat) (dds : List D) : Prop where
  ex : ∃ (f : Addr) (fd : FuncData) (ps : List Str), Mk K C f ∧ FnK P w K mg base k f fd ps sp ∧ mg x = some (.ref C) ∧ KwB K fd ps (n + 1) ks is dds ∧ ∀ ds G E Q, sp ds G E Q → ds.length = ps.length
def dMakeK (C : Addr) (sp : SpD) (n m : Nat) (is : List Nat) (dds : List D) (ts tk : TDA) : TD := fun W σ G Q => ts W σ G fun ds G1 => tk W σ G1 fun zs G2 => ds.length = n ∧ zs.length = m ∧ ∀ p, G2 p = none →
  sp (pickL is ((.ref p :: ds) ++ (dds ++ zs))) (put G2 p (.ins C [])) (nonP fun G3 => Q (.ref p) G3) fun c fs G' => W c fs σ G'
def makP2 (C : Addr) (sp : SpD) (is : List Nat) (dds ds zs : List D) (G : HD) (Q : Post) (E : DX) : Prop := ∀ p, G p = none → sp (pickL is ((.ref p :: ds) ++ (dds ++ zs))) (put G p (.ins C [])) (nonP fun G3 => Q (.ref p) G3) E
section
variable {X : Cx} {k j n : Nat} {C : Addr} {sp : SpD} {x : Str} {p pos : Pos} {e : Expr} {es : List Expr} {ts tk : TDA} {dds : List D} {ks : List Str} {is : List Nat} {kws : List Keyword}
theorem runMK {pins : List (Addr × Obj)} {s : Shared} {G : HD} {H : Hp} {σ : DSt} {τ : St} {W : DW} {Q : Post} {us ws : List Value} {vs zs : List V} {es ez : List D} {f : Addr} {fd : FuncData} {ps : List Str} (M : Mk X.K C f) (F : FnK X.prog X.w X.K X.mg X.base k f fd ps sp) (hr : RoomG (k + 1) X.A) (hb : KwB X.K fd ps (n + 1) ks is dds)
    (r : SR X G H σ τ W) (I : Inv X pins τ H s) (rv : Vals vs us) (rz : Vals zs ws) (rd : Rps X.K H es vs) (re : Rps X.K H ez zs) (hl : ∀ ds G E Q, sp ds G E Q → ds.length = ps.length) (h1 : es.length = n) (h2 : ez.length = ks.length)
    (h : ∀ p, G p = none → sp (pickL is ((.ref p :: es) ++ (dds ++ ez))) (put G p (.ins C [])) (nonP fun G3 => Q (.ref p) G3) fun c fs G' => W c fs σ G') : wpAny (model X.prog X.w) X.A (call (.ref C) us (ks.zip ws)) (EP X pins τ (liftQ X.K G H Q)) X.xe s := by
  obtain ⟨its, dvs, hd, hdd, hto⟩ := hb.ex
  have f1 : H s.heap.objs.size = none := I.hok.fresh (Nat.le_refl _)
  have f2 : H (s.heap.objs.size + 1) = none := I.hok.fresh (Nat.le_succ _)
  have ne : s.heap.objs.size + 1 ≠ s.heap.objs.size := Nat.succ_ne_self _
  have hq := h (s.heap.objs.size + 1) (r.sim.no f2)
  have hl' := hl _ _ _ _ hq
  have I2 := Inv.made (C := C) I
  have sm1 : Sim X.K G (upd H s.heap.objs.size (.own (s.heap.objs.size + 1))) := r.sim.newO f1
  have x1 : Ext G H G (upd H s.heap.objs.size (.own (s.heap.objs.size + 1))) := .new f1 (r.sim.no f1)
  have f3 : upd H s.heap.objs.size (.own (s.heap.objs.size + 1)) (s.heap.objs.size + 1) = none := by rw [upd_ne ne]; exact f2
  have sm2 := sm1.newM (m := .ins C []) (o := .ins C s.heap.objs.size []) f3 ⟨_, _, rfl, rfl⟩
  have x2 : Ext G _ (put G (s.heap.objs.size + 1) (.ins C [])) (upd (upd H s.heap.objs.size (.own (s.heap.objs.size + 1))) (s.heap.objs.size + 1) (.ins C s.heap.objs.size [])) := .newM (m := .ins C []) f3
  have xx := x1.trans x2
  have r2 : Vals (pickL is ((V.ref (s.heap.objs.size + 1) :: vs) ++ (dvs ++ zs))) (pickL is ((Value.ref (s.heap.objs.size + 1) :: us) ++ (its ++ ws))) := vals_pick ((show Vals (V.ref (s.heap.objs.size + 1) :: vs) (Value.ref (s.heap.objs.size + 1) :: us) from .cons rfl rv).append (hd.append rz)) is
  have r3 : Rps X.K _ (pickL is ((.ref (s.heap.objs.size + 1) :: es) ++ (dds ++ ez))) (pickL is ((V.ref (s.heap.objs.size + 1) :: vs) ++ (dvs ++ zs))) := rps_pick (Rps.app (show Rps X.K _ (.ref (s.heap.objs.size + 1) :: es) (V.ref (s.heap.objs.size + 1) :: vs) from ⟨_, _, rfl, rfl, rd.ext r.sim xx _ _⟩) ((hdd.rel _).app (re.ext r.sim xx _ _))) is
  have l3 : (pickL is ((V.ref (s.heap.objs.size + 1) :: vs) ++ (dvs ++ zs))).length = ps.length := by rw [r3.length]; exact hl'
  have l4 : (Value.ref (s.heap.objs.size + 1) :: us).length = n + 1 := by rw [List.length_cons, ← rv.length, rd.length, h1]
  have l5 : ws.length = ks.length := by rw [← rz.length, re.length, h2]
  refine wpAny_call (make_map (f := f) I.kIn M.makes M.init (beq_iff_eq.mp M.fn) (codeAny_mono (F.run _ X.stack _ _ ⟨Value.ref (s.heap.objs.size + 1) :: us, ks.zip ws⟩ _ _
    (fun v H' => v = .non ∧ liftQ X.K G H Q (.ref (s.heap.objs.size + 1)) H') (liftX X.K G H fun c fs G' => W c fs σ G') (hr.make C us (ks.zip ws)) (I2.env0.make C us (ks.zip ws)) (hto _ _ ws I2.kIn l4 l5) r2
    ⟨l3, _, _, _, _, r3, sm2, hq, fun v H' ⟨d, G', k1, s1, y1, q1⟩ => ?_, fun c dd H' z => z.up xx⟩) fun z s' hz => ?_))
  · unfold nonP at q1
    split at q1
    · exact ⟨k1, .of (d := .ref _) rfl s1 (xx.trans y1) q1⟩
    · exact q1.elim
  · cases z with
    | error e => exact passK r pins _ _ e s' I2 hz
    | ok fl =>
      cases fl with
      | ret u =>
        obtain ⟨v, H', I3, rv3, ev, q3⟩ := I2.after hz
        subst ev
        exact ⟨rv3, ⟨V.ref (s.heap.objs.size + 1), H', I3, rfl, q3⟩⟩
      | next => exact False.elim hz
      | brk => exact False.elim hz
      | cont => exact False.elim hz
theorem dk_makeK (F : MakKw X.prog X.w X.K X.mg X.base k x C sp n ks is dds) (hr : RoomG j X.A) (ha : DA X (e :: es) ts) (hkw : DKw X kws tk) (hj : k + 1 ≤ j := by decide) (hg : Gl X x := by rfl)
    (hall : (backToKw pos (keywordEach kws X.env)).all (·.1.isSome) = true := by rfl) (hks : (backToKw pos (keywordEach kws X.env)).filterMap (·.1) = ks := by rfl) (hdb : (x == ("__debug__" : Str)) = false := by decide)
    (he : starEach (e :: es) X.env = (false, eval e X.env) :: starEach es X.env := by rfl) (hpl : ((backTo pos (starEach (e :: es) X.env)).any (·.1) || (backToKw pos (keywordEach kws X.env)).any (·.1.isNone)) = false := by rfl) :
    DE X (.Call (.Name x p) (e :: es) kws pos) (dMakeK C sp n ks.length is dds ts tk) := ⟨fun G H σ τ W Q r q pins s I => by
  obtain ⟨f, fd, ps, M, F1, hm, hb, hl⟩ := F.ex
  refine wpAny_Call_Name_kw (ld_glob I hg hm ?_ hdb)
  refine PySem.W.callWith_KW (h₀ := X.base) I.ok.mod.kin M.kp hall (thn ((ha.run G H σ τ W _ r q) pos pins s I) fun us s1 ⟨vs, H1, I1, rv, es', G1, k1, sm1, x1, q1⟩ => ?_) hpl he
  have r1 := r.ext sm1 x1
  refine thn ((hkw.run G1 H1 σ τ W _ r1 q1) pos pins s1 I1) fun ws s2 ⟨zs, H2, I2, rz, ez, G2, k2, sm2, x2, h1, h2, q2⟩ => ⟨I2.kIn, ?_⟩
  rw [hks]
  exact thn (runMK M F1 (hr.mono hj) hb (r1.ext sm2 x2) I2 rv rz (k1.ext sm1 x2 _ _) k2 hl h1 h2 q2) fun _ _ ⟨v, H3, I3, l3, q3⟩ => ⟨v, H3, I3, l3, q3.up (x1.trans x2)⟩⟩
end
/-- every parameter is told, by place or by name; defaults there are -/
theorem kwb_all {K : PySem.W.Frag} {x qual : Str} {params : Arguments} {body : List Stmt} {scope : Scope} {dvs : List V} {f : Addr} {fd : FuncData} {ps : List Str} (F : L2.FunD K x qual params body scope dvs [] f fd) (n : Nat) (ks : List Str) (is : List Nat) (hd : dvs ≠ [])
    (h : ∀ (T : Addr) (kV doc pm : Value) (an : Option Addr) (cdv ct : Value) (us its ws : List Value), us.length = n → its.length = dvs.length → ws.length = ks.length →
      ∃ k, bindArgs (PySem.W.fnOf x qual params body scope (.ref T) kV doc pm an cdv ct) ⟨us, ks.zip ws⟩ = seqItems? (.ref T) >>= k ∧ k (some its.toArray) = pure (ps.zip (pickL is (us ++ ws)))) : KwB K fd ps n ks is [] := by
  obtain ⟨oc, od, dV, kV, doc, pm, an, cdv, ct, osl, rfl, lk, hcd, hD, hK⟩ := F.ex
  rcases hD with ⟨e, _⟩ | ⟨_, T, o, its, m, rfl, lT, oT, rT⟩
  · exact absurd e hd
  · refine ⟨[], [], .nil, ⟨fun H => rfl⟩, fun s us ws X l1 l2 => ?_⟩
    obtain ⟨k, e1, e2⟩ := h T kV doc pm an cdv ct us its ws l1 rT.length.symm l2
    refine BindsTo.of_looks fun M => ?_
    rw [e1, List.nil_append]
    exact looks_items X lT oT (.of_pure e2)
/-! ### o[i] += e, a list, i not below 0 -/
def rGetP (K : PySem.W.Frag) : V → V → Hp → VK → Prop := fun o i H Q => ∃ (p : Addr) (xs : List V) (k : Int) (v : V), o = .ref p ∧ i = .int k ∧ 0 ≤ k ∧ SqL K H p xs ∧ xs[k.toNat]? = some v ∧ Q v H
theorem get_list {X : Cx} : PGet X (rGetP X.K) := by
  intro pins s σ H o i ov iv Q I r1 r2 h
  obtain ⟨p, xs, k, v, rfl, rfl, h0, hq, he, q⟩ := h
  cases r1
  obtain ⟨t, rfl⟩ := r2
  obtain ⟨its, r, pl, hz⟩ := I.list hq
  obtain ⟨w, ew, rw'⟩ := r.get he
  have hl := r.length
  have hn := line63
  have hi : k.toNat < xs.length := (List.getElem?_eq_some_iff.mp he).1
  exact PyProof.Rows.getItem_listL pl.isList h0 (by omega) ew ⟨v, H, I, rw', q⟩
def getO2 (o : Option MO) (k : Int) (G : HD) (Q : Post) : Prop := match o with
  | some (.lst xs) => 0 ≤ k ∧ optP xs[k.toNat]? G Q
  | _ => False
def getP2 (o i : D) (G : HD) (Q : Post) : Prop := match o, i with
  | .ref a, .int k => getO2 (G a) k G Q
  | _, _ => False
def sAugI (g : Int → Int → Int) (to ti te : TD) : TDS := fun W D σ G => to W σ G fun o G1 => ti W σ G1 fun i G2 => getP2 o i G2 fun x G3 => te W σ G3 fun y G4 => dCmpA g x y G4 fun z G5 => rSetD o i z G5 fun G6 => D.nx σ G6
section
variable {X : Cx} {o i e : Expr} {to ti te : TD} {pos tpos : Pos} {op : Operator} {g : Int → Int → Int}
theorem ds_augI (hp : PIp X op (ipI g)) (ho : DE X o to) (hi : DE X i ti) (he : DE X e te)
    (ha : ∀ ov iv new, augStore i ov iv new = (do holding [new, ov, iv] (setItem ov iv new); release [new, ov, iv] []; pure .next) := by intros; rfl) : DS X (.AugAssign (.Subscript o i tpos) op e pos) (sAugI g to ti te) :=
  ⟨fun G H σ τ W D r0 q => semS.of (ps_augS peSem peSem get_list peSem hp set_list ha) (ho.then r0 q fun d x G1 H1 r1 x1 k1 q1 => hi.then r1 q1 fun c y G2 H2 r2 x2 k2 q2 => by
    unfold getP2 at q2
    split at q2
    · rename_i a k
      have k1' := k1.ext r1.sim x2 _ _
      cases k1'; cases k2
      unfold getO2 at q2
      split at q2
      · rename_i xs hG
        obtain ⟨h0, q3⟩ := q2
        obtain ⟨vs, e1, rk⟩ := r2.sim.lst hG
        cases hx : xs[k.toNat]? with
        | none => rw [hx] at q3; exact q3.elim
        | some dx =>
          rw [hx] at q3
          obtain ⟨vx, z1, z2⟩ := rk.get hx
          refine ⟨a, vs, k, vx, rfl, rfl, h0, .of e1, z1, he.then r2 q3 fun ey vy G4 H4 r4 x4 k4 q4 => ?_⟩
          refine od_ipI X.K g G4 H4 dx ey vx vy _ _ r4.sim (z2.ext r2.sim x4 _ _) k4 (fun v H' ⟨d5, G5, k5, s5, x5, q5⟩ => ?_) q4
          refine sd_list X.K G5 H' (.ref a) (.int k) d5 (.ref a) (.int k) v _ _ s5 rfl rfl k5 (fun G6 H6 s6 x6 q6 => ⟨σ, G6, (r4.slots.ext r4.sim x5 _ _).ext s5 x6 _ _, s6, (((x1.trans x2).trans x4).trans x5).trans x6, q6⟩) q5
      · exact q2.elim
    · exact q2.elim)⟩
theorem ds_augIAdd (ho : DE X o to) (hi : DE X i ti) (he : DE X e te) (ha : ∀ ov iv new, augStore i ov iv new = (do holding [new, ov, iv] (setItem ov iv new); release [new, ov, iv] []; pure .next) := by intros; rfl) : DS X (.AugAssign (.Subscript o i tpos) .Add e pos) (sAugI (fun i j => i + j) to ti te) := ds_augI ip_add ho hi he ha
end
/-! ### xs + ys, a new list that may be changed -/
def dAddN : D → D → HD → Post → Prop := fun d e G Q => match asW G d, asW G e with
  | some xs, some ys => xs.length + ys.length ≤ sizeLine ∧ newL G (xs ++ ys) Q
  | _, _ => False
theorem od_addN (K : PySem.W.Frag) : OpD K rCatL dAddN := fun G H d e x y Q Q' s k1 k2 f q => by
  unfold dAddN at q
  split at q
  · rename_i xs ys e1 e2
    obtain ⟨a, vs, rfl, t1, r1⟩ := k1.wr s e1
    obtain ⟨b, ws, rfl, t2, r2⟩ := k2.wr s e2
    exact ⟨a, b, vs, ws, rfl, rfl, t1, t2, by rw [r1.length, r2.length]; exact q.1, newL.fin s (r1.app r2) f q.2⟩
  · exact q.elim
theorem de_addN {X : Cx} {a b : Expr} {ta tb : TD} {pos : Pos} (ha : DE X a ta) (hb : DE X b tb) : DE X (.BinOp a .Add b pos) (dOp dAddN ta tb) := de_op (op := .Add) op_catL (od_addN X.K) ha hb
/-! ### named equations -/
section
variable {G : HD} {Q : Post} {R : HD → Prop} {W : DW} {σ : DSt} {a : Addr} {k : Int} {xs ds : List D} {g : Int → Int → Int} {to ti te : TD} {ts tk : TDA} {D' : DEnds} {C : Addr} {sp : SpD} {n m : Nat} {is : List Nat} {dds : List D}
theorem q_augI : sAugI g to ti te W D' σ G = to W σ G fun o G1 => ti W σ G1 fun i G2 => getP2 o i G2 fun x G3 => te W σ G3 fun y G4 => dCmpA g x y G4 fun z G5 => rSetD o i z G5 fun G6 => D'.nx σ G6 := propext ⟨fun h => h, fun h => h⟩
theorem r_getP2 : getP2 (.ref a) (.int k) G Q = getO2 (G a) k G Q := propext ⟨fun h => h, fun h => h⟩
theorem r_getO2 : getO2 (some (.lst xs)) k G Q = (0 ≤ k ∧ optP xs[k.toNat]? G Q) := propext ⟨fun h => h, fun h => h⟩
theorem r_cmpA {i j : Int} : dCmpA g (.int i) (.int j) G Q = Q (.int (g i j)) G := propext ⟨fun h => h, fun h => h⟩
theorem q_makeK : dMakeK C sp n m is dds ts tk W σ G Q = ts W σ G fun ds G1 => tk W σ G1 fun zs G2 => ds.length = n ∧ zs.length = m ∧ makP2 C sp is dds ds zs G2 Q fun c fs G' => W c fs σ G' := propext ⟨fun h => h, fun h => h⟩
theorem q_enum {R : ItD → HD → Prop} : jEnum ts W σ G R = ts W σ G fun ds G1 => match ds with
  | [d] => enumP d G1 R
  | _ => False := propext ⟨fun h => h, fun h => h⟩
theorem r_enumP {R : ItD → HD → Prop} : enumP (.ref a) G R = enumO (G a) a G R := propext ⟨fun h => h, fun h => h⟩
theorem r_enumO {R : ItD → HD → Prop} : enumO (some (.lst ds)) a G R = R ⟨enumD 0 ds, fun G => G a = some (.lst ds)⟩ G := propext ⟨fun h => h, fun h => h⟩
theorem r_repK : dRepL (.kl xs) (.int k) G Q = (0 ≤ k ∧ k ≤ 1000 ∧ xs.length ≤ 1000 ∧ newL G (List.replicate k.toNat xs).flatten Q) := propext ⟨fun h => h, fun h => h⟩
theorem r_addNK {ys : List D} : dAddN (.kl xs) (.kl ys) G Q = (xs.length + ys.length ≤ sizeLine ∧ newL G (xs ++ ys) Q) := propext ⟨fun h => h, fun h => h⟩
theorem r_inIK {i : Int} {b : Bool} : dInI b (.int i) (.kl xs) G Q = inIo b (asInts xs) i G Q := propext ⟨fun h => h, fun h => h⟩
theorem r_inIT {i : Int} {b : Bool} : dInI b (.int i) (.tup xs) G Q = inIo b (asInts xs) i G Q := propext ⟨fun h => h, fun h => h⟩
theorem i_inI {i : Int} {b : Bool} {ns : List Int} (h : asInts xs = some ns) (q : Q (.bl (if b then !decide (i ∈ ns) else decide (i ∈ ns))) G) : inIo b (asInts xs) i G Q := by
  rw [h]; exact q
end
end DL

namespace DL
open PySem PySem.Spec L2
open PyProof.Rows hiding St
/-! ### {'k': v, ..} -/
def dDisp (ks : List Str) (ts : TDA) : TD := fun W σ G Q => ∀ p, G p = none → ts W σ (put G p (.dK [])) fun ds G2 => G2 p = some (.dK []) ∧ Q (.ref p) (put G2 p (.dK ((ks.zip ds).map fun q => (Sum.inr q.1, q.2))))
structure DPs (X : Cx) (pos : Pos) (keys : List (Option Expr)) (values : List Expr) (ks : List Str) (ts : TDA) : Prop where
  ex : ∃ trs, PPs X pos keys values trs ∧ ∀ (G : HD) (H : Hp) (σ : DSt) (τ : L2.St) (W : DW) (Q : List D → HD → Prop) (R : List (V × V) → Hp → Prop), SR X G H σ τ W → ts W σ G Q →
    (∀ vs H' ds G', vs.length = ks.length → Rps X.K H' ds vs → Sim X.K G' H' → Ext G H G' H' → Q ds G' → R ((ks.zip vs).map fun q => (V.str q.1, q.2)) H') → tPairs trs τ H R
section
variable {X : Cx} {pos : Pos} {keys : List (Option Expr)} {values : List Expr} {ks : List Str} {ts : TDA} {ke v : Expr} {k : Str} {te : TD}
theorem dps_nil : DPs X pos [] [] [] dNil := ⟨[], pps_nil, fun G H σ τ W Q R r q f => f [] H [] G rfl rfl r.sim .refl q⟩
theorem dps_cons (hk : DE X ke (dC (.str k))) (hv : DE X v te) (hr : DPs X pos keys values ks ts) : DPs X pos (some ke :: keys) (v :: values) (k :: ks) (dCons te ts) := by
  obtain ⟨trs, hp, hrun⟩ := hr.ex
  refine ⟨(semE X ke, semE X v) :: trs, pps_cons peSem peSem hp, fun G H σ τ W Q R r q f => ?_⟩
  refine hk.then r (R := fun d G1 => d = .str k ∧ te W σ G1 fun d G1 => ts W σ G1 fun ds G2 => Q (d :: ds) G2) ⟨rfl, q⟩ fun d x G1 H1 r1 x1 k1 q1 => ?_
  obtain ⟨rfl, q1⟩ := q1
  cases k1
  refine hv.then r1 q1 fun d y G2 H2 r2 x2 k2 q2 => ?_
  exact hrun G2 H2 σ τ W _ _ r2 q2 fun vs H' ds G' e2 k3 s3 x3 q3 => f (y :: vs) H' (d :: ds) G' (congrArg Nat.succ e2) ⟨y, vs, rfl, k2.ext r2.sim x3 _ _, k3⟩ s3 ((x1.trans x2).trans x3) q3
theorem mergeK_app {κ : Type} [DecidableEq κ] : ∀ {l kvs : List (κ × V)}, (kvs.map (·.1) ++ l.map (·.1)).Nodup → l.foldl (fun acc kv => putK acc kv.1 kv.2) kvs = kvs ++ l
  | [], kvs, _ => by simp
  | p :: l, kvs, h => by
    have hp : ¬ (kvs.any fun kv => decide (kv.1 = p.1)) = true := fun z => by
      obtain ⟨q, hq, e⟩ := List.any_eq_true.mp z
      have e := of_decide_eq_true e
      exact (List.nodup_append.mp h).2.2 q.1 (List.mem_map.mpr ⟨q, hq, rfl⟩) p.1 List.mem_cons_self e
    show l.foldl _ (putK kvs p.1 p.2) = _
    have e1 : putK kvs p.1 p.2 = kvs ++ [p] := by unfold putK; rw [if_neg hp]
    rw [e1, mergeK_app (by simpa using h)]
    simp
theorem rkv_zip {K : PySem.W.Frag} {H : Hp} : ∀ {ks : List Str} {ds : List D} {vs : List V}, Rps K H ds vs → RKV K H ((ks.zip ds).map fun q => ((Sum.inr q.1 : Key), q.2)) ((ks.zip vs).map fun q => ((Sum.inr q.1 : Key), q.2))
  | [], _, _, _ => rfl
  | k :: ks, [], _, h => by cases h; exact rfl
  | k :: ks, d :: ds, _, ⟨v, r, e, h1, h2⟩ => by
    subst e
    exact ⟨v, _, rfl, h1, rkv_zip h2⟩
theorem de_disp (h : DPs X pos keys values ks ts) (hn : ks.Nodup) (hall : keys.all (·.isSome) = true := by rfl) (hl : keys.length = values.length := by rfl) (h0 : keys ≠ [] := by simp) (h15 : ks.length ≤ 15 := by decide) (hk15 : keys.length ≤ 15 := by decide) : DE X (.Dict keys values pos) (dDisp ks ts) := by
  obtain ⟨trs, hp, hrun⟩ := h.ex
  refine ⟨fun G H σ τ W Q r q => semE.of (pe_disp hp hall hl h0 hk15) fun p hpn => ?_⟩
  have s1 := r.sim.newM (m := .dK []) (o := .dK []) hpn ⟨[], rfl, rfl⟩
  have x1 : Ext G H (put G p (.dK [])) (upd H p (.dK [])) := .newM (m := .dK []) hpn
  refine hrun _ _ σ τ W _ _ (r.ext s1 x1) (q p (r.sim.no hpn)) fun vs H' ds G' e2 k3 s3 x3 q3 => ?_
  obtain ⟨hG, q3⟩ := q3
  obtain ⟨m, e1, rk⟩ := s3.dK hG
  cases rk
  have hm : mergeK [] ((ks.zip vs).map fun q => ((Sum.inr q.1 : Key), q.2)) = (ks.zip vs).map fun q => ((Sum.inr q.1 : Key), q.2) := by
    unfold mergeK
    rw [mergeK_app, List.nil_append]
    rw [List.map_nil, List.nil_append, List.map_map]
    have : (ks.zip vs).map ((fun x : Key × V => x.1) ∘ fun q : Str × V => ((Sum.inr q.1 : Key), q.2)) = ks.map Sum.inr := by
      have : ks = (ks.zip vs).map Prod.fst := (List.map_fst_zip (by omega)).symm
      rw [show (ks.map Sum.inr : List Key) = ((ks.zip vs).map Prod.fst).map Sum.inr from by rw [← this], List.map_map]
      rfl
    rw [this]
    exact List.Pairwise.map _ (fun a b hab z => hab (Sum.inr.inj z)) hn
  refine ⟨e1, (ks.zip vs).map fun q => ((Sum.inr q.1 : Key), q.2), by rw [List.map_map]; rfl, by rw [List.length_map, List.length_zip]; omega, ?_⟩
  rw [hm]
  exact .of (d := .ref p) rfl (s3.wr (m := .dK ((ks.zip ds).map fun q => (Sum.inr q.1, q.2))) (o := .dK ((ks.zip vs).map fun q => ((Sum.inr q.1 : Key), q.2))) hG ⟨_, rfl, rkv_zip k3⟩) ((x1.trans x3).trans (.wr hG)) q3
end
theorem q_disp {ks : List Str} {ts : TDA} {W : DW} {σ : DSt} {G : HD} {Q : Post} : dDisp ks ts W σ G Q = ∀ p, G p = none → ts W σ (put G p (.dK [])) fun ds G2 => G2 p = some (.dK []) ∧ Q (.ref p) (put G2 p (.dK ((ks.zip ds).map fun q => (Sum.inr q.1, q.2)))) := propext ⟨fun h => h, fun h => h⟩
end DL

namespace DL
open PySem PySem.Spec L2
open PyProof.Rows hiding St
/-! ### keyword-only parameters and their defaults -/
inductive KwF (K : PySem.W.Frag) (KD : Addr) : List Str → List D → Prop where
  | nil : KwF K KD [] []
  | cons {x : Str} {u : Value} {d : D} {kn : List Str} {kds : List D} (h : PySem.W.nsIn K KD x = some (some u)) (v : ValF K u d) (t : KwF K KD kn kds) : KwF K KD (x :: kn) (d :: kds)
theorem KwF.to {K : PySem.W.Frag} {KD : Addr} {kn : List Str} {kds : List D} (h : KwF K KD kn kds) : ∃ kvs : List V, kvs.length = kn.length ∧ (∀ H, Rps K H kds kvs) ∧ ∀ q ∈ kn.zip kvs, ∃ u, PySem.W.nsIn K KD q.1 = some (some u) ∧ RelV q.2 u := by
  induction h with
  | nil => exact ⟨[], rfl, fun _ => rfl, fun q hq => by cases hq⟩
  | cons h v _ ih =>
    obtain ⟨w, r, p⟩ := v.to
    obtain ⟨kvs, l, ps, q⟩ := ih
    refine ⟨w :: kvs, congrArg Nat.succ l, fun H => ⟨w, kvs, rfl, p H, ps H⟩, fun q' hq => ?_⟩
    rcases List.mem_cons.mp hq with e | hq
    · rw [e]; exact ⟨_, h, r⟩
    · exact q q' hq
def DefF2 (K : PySem.W.Frag) (mg : Str → Option Value) (x : Str) (st : Stmt) (dds : List D) (kn : List Str) (kds : List D) : Prop := ∃ (f : Addr) (fd : FuncData) (dvs kvs : List V), Dfl K dds dvs ∧ kvs.length = kn.length ∧ Dfl K kds kvs ∧ L2.FunD K x x (defArgs st) (defBody st) (defScope st) dvs (kn.zip kvs) f fd ∧ mg x = some (.ref f)
def MetF2 (K : PySem.W.Frag) (C : Addr) (m qual : Str) (st : Stmt) (dds : List D) (kn : List Str) (kds : List D) : Prop := ∃ (f : Addr) (fd : FuncData) (dvs kvs : List V), Dfl K dds dvs ∧ kvs.length = kn.length ∧ Dfl K kds kvs ∧ L2.FunD K m qual (defArgs st) (defBody st) (defScope st) dvs (kn.zip kvs) f fd ∧ Meth K C m f
section
variable {K : PySem.W.Frag} {x qual : Str} {pa : Arguments} {bd : List Stmt} {sc : Scope} {f T KD : Addr} {oc kV dc pm cd ct : Value} {od an : Option Addr} {sl : Array (Option Value)} {o : Obj} {ds : List D} {dvs : List V} {kws : List (Str × V)} {fd : FuncData} {ps : List Str} {kn : List Str} {kds : List D}
theorem FunD.nokw (F : L2.FunD K x qual pa bd sc dvs kws f fd) : L2.FunD K x qual pa bd sc dvs [] f fd := by
  obtain ⟨oc, od, dV, kV, doc, pm, an, cdv, ct, osl, e, lk, hcd, hD, _⟩ := F.ex
  exact ⟨⟨oc, od, dV, kV, doc, pm, an, cdv, ct, osl, e, lk, hcd, hD, .inl rfl⟩, F.kp⟩
theorem Dfl.app {a b : List D} {x y : List V} (h : Dfl K a x) (k : Dfl K b y) : Dfl K (a ++ b) (x ++ y) := ⟨fun H => (h.rel H).app (k.rel H)⟩
theorem fun_ndK (l : K.lookup f = some ⟨oc, od, .func (PySem.W.fnOf x qual pa bd sc .none (.ref KD) dc pm an cd ct), sl⟩) (c : PySem.W.codeIn K cd qual = true) (k : PySem.W.keepIn K (.ref f) = true) (h : KwF K KD kn kds) :
    ∃ dvs kvs : List V, Dfl K [] dvs ∧ kvs.length = kn.length ∧ Dfl K kds kvs ∧ L2.FunD K x qual pa bd sc dvs (kn.zip kvs) f (PySem.W.fnOf x qual pa bd sc .none (.ref KD) dc pm an cd ct) := by
  obtain ⟨kvs, e1, e2, e3⟩ := h.to
  exact ⟨[], kvs, .nil, e1, ⟨e2⟩, ⟨⟨oc, od, .none, .ref KD, dc, pm, an, cd, ct, sl, rfl, l, c, .inl ⟨rfl, rfl⟩, .inr ⟨KD, rfl, e3⟩⟩, k⟩⟩
theorem DflF.mkK (h : DflF K o ds) (m : K.lookup T = some o) (l : K.lookup f = some ⟨oc, od, .func (PySem.W.fnOf x qual pa bd sc (.ref T) (.ref KD) dc pm an cd ct), sl⟩) (c : PySem.W.codeIn K cd qual = true) (k : PySem.W.keepIn K (.ref f) = true) (hk : KwF K KD kn kds) :
    ∃ dvs kvs : List V, Dfl K ds dvs ∧ kvs.length = kn.length ∧ Dfl K kds kvs ∧ L2.FunD K x qual pa bd sc dvs (kn.zip kvs) f (PySem.W.fnOf x qual pa bd sc (.ref T) (.ref KD) dc pm an cd ct) := by
  obtain ⟨its, n, h1, h2, h3⟩ := h.ex
  obtain ⟨vs, r, p⟩ := h2.to
  obtain ⟨kvs, e1, e2, e3⟩ := hk.to
  refine ⟨vs, kvs, ⟨p⟩, e1, ⟨e2⟩, ⟨⟨oc, od, .ref T, .ref KD, dc, pm, an, cd, ct, sl, rfl, l, c, .inr ⟨?_, T, o, its, n, rfl, m, h1, r⟩, .inr ⟨KD, rfl, e3⟩⟩, k⟩⟩
  rintro rfl
  have := (p (fun _ => none)).length
  cases ds with
  | nil => exact h3 rfl
  | cons _ _ => cases this
/-- some parameters are told, some keyword-only ones (ms) lack; the defaults dds of the others, then those of ms, stand between -/
theorem kwb_kw {params : Arguments} {body : List Stmt} {scope : Scope} (F : L2.FunD K x qual params body scope dvs kws f fd) (n : Nat) (ks : List Str) (is : List Nat) (ms : List (Str × V)) {dds mds : List D} (hd : dvs ≠ []) (hk : kws ≠ []) (hms : ∀ q ∈ ms, q ∈ kws) (hdd : Dfl K dds dvs) (hmd : Dfl K mds (ms.map (·.2)))
    (h : ∀ (T D : Addr) (doc pm : Value) (an : Option Addr) (cdv ct : Value) (us its mv ws : List Value), us.length = n → its.length = dvs.length → mv.length = ms.length → ws.length = ks.length →
      ∃ k, bindArgs (PySem.W.fnOf x qual params body scope (.ref T) (.ref D) doc pm an cdv ct) ⟨us, ks.zip ws⟩ = seqItems? (.ref T) >>= k ∧ KwChain D ((ms.map (·.1)).zip mv) (k (some its.toArray)) (ps.zip (pickL is (us ++ ((its ++ mv) ++ ws))))) : KwB K fd ps n ks is (dds ++ mds) := by
  obtain ⟨oc, od, dV, kV, doc, pm, an, cdv, ct, osl, rfl, lk, hcd, hD, hK⟩ := F.ex
  rcases hD with ⟨e, _⟩ | ⟨_, T, o, its, m, rfl, lT, oT, rT⟩
  · exact absurd e hd
  · rcases hK with e | ⟨D, rfl, hq⟩
    · exact absurd e hk
    · obtain ⟨mv, hl, rk, hks⟩ := kwd_vals (ms := ms) fun q hm => hq q (hms q hm)
      refine ⟨its ++ mv, dvs ++ ms.map (·.2), rT.append rk, hdd.app hmd, fun s us ws X l1 l2 => ?_⟩
      obtain ⟨k, e1, e2⟩ := h T D doc pm an cdv ct us its mv ws l1 rT.length.symm hl l2
      refine BindsTo.of_looks fun M => ?_
      rw [e1]
      exact looks_items X lT oT (KwChain.looks X hks e2)
end
end DL

namespace DL
open PySem PySem.Spec L2
open PyProof.Rows hiding St
/-! ### repr, inside a handler too -/
theorem bc_reprU {X : Cx} {p pos : Pos} {e : Expr} {ts : TDA} (hgd : X.A.guards = some []) (hun : X.A.units + 64 < cLine) (hm : X.mg "repr" = none) (ha : DA X [e] ts) (hg : Gl X "repr" := by rfl) (he : starEach [e] X.env = (false, eval e X.env) :: starEach [] X.env := by rfl) : DE X (.Call (.Name "repr" p) [e] [] pos) (dCB rReprD ts) :=
  de_cb (CallR.or (call_rep0 hgd hun) (call_repE hgd hun)) (cd_repr X.K) hm (by decide +kernel) ha hg (by decide) (by decide) he (by rfl)
theorem bc_reprXU {X : Cx} {p pos : Pos} {e : Expr} {ts : TDA} (hgd : X.A.guards = some []) (hun : X.A.units + 64 < cLine) (hm : X.mg "repr" = none) (ha : DA X [e] ts) (hg : Gl X "repr" := by rfl) (he : starEach [e] X.env = (false, eval e X.env) :: starEach [] X.env := by rfl) : DE X (.Call (.Name "repr" p) [e] [] pos) (dCB rReprX ts) :=
  de_cb (CallR.or (CallR.or (call_rep0 hgd hun) (call_repE hgd hun)) (call_repT hgd hun)) (cd_reprX X.K) hm (by decide +kernel) ha hg (by decide) (by decide) he (by rfl)
end DL

namespace SIt
open PySem PySem.Spec PyProof.Rows
/-! ### sorted(d.items()): pairs of a text and a thing, the texts unlike -/
def ltT (x y : PySem.Str) : Bool := decide (x.cps.toList < y.cps.toList)
theorem swo_txt {α : Type} (k : α → PySem.Str) : SrtO.Swo (fun v u : α => ltT (k v) (k u)) := by
  refine ⟨fun x y h => ?_, fun x y z h1 h2 => ?_⟩
  · have h' := of_decide_eq_true h
    exact decide_eq_false (List.lt_asymm h')
  · have a := of_decide_eq_false h1
    have b := of_decide_eq_false h2
    exact decide_eq_false (List.not_lt.mpr (List.le_trans (List.not_lt.mp a) (List.not_lt.mp b)))
/-- a new tuple of a text and a thing -/
def IsIt (h : Heap) (v : Value) (x : PySem.Str) : Prop := ∃ (a : Addr) (o : Obj) (t : Tok) (u : Value) (n : Nat), v = .ref a ∧ h.get? a = some o ∧ o.cls = .type "tuple" ∧ o.data = .seq #[.str x t, u] n
theorem IsIt.keeps {h h' : Heap} {v : Value} {x : PySem.Str} (i : IsIt h v x) (k : ∀ b o, h.get? b = some o → o.cls = .type "tuple" → h'.get? b = some o) : IsIt h' v x := by
  obtain ⟨a, o, t, u, n, e, ho, hc, hd⟩ := i
  exact ⟨a, o, t, u, n, e, k a o ho hc, hc, hd⟩
section
variable {prog : Program} {w : World} {A : Around} {E : Value → Shared → Prop} {s : Shared}
theorem eqBool_self {M : Model} {u : Value} {Q : Bool → Shared → Prop} (h : Q true s) : wpAny M A (eqBool u u) Q E s := by
  unfold eqBool
  refine wpAny_holding ?_
  rw [if_pos (by simp)]
  exact wpAny_bind (wpAny_rule (wpAny_pure h))
theorem it_cmp {vs : List Value} {k : Value → PySem.Str} (hp : ∀ v ∈ vs, IsIt s.heap v (k v)) (inj : ∀ v ∈ vs, ∀ u ∈ vs, k v = k u → v = u) : SrtO.Cmp prog w A s (tuples' true) (fun p => p.1 ∈ vs) (SrtO.lt2 fun v u => ltT (k v) (k u)) := by
  intro p q hm hm'
  have h1 := hp _ hm
  have h2 := hp _ hm'
  have hi := inj _ hm _ hm'
  show wpAny (model prog w) A (keyLt' (tuples' true) p.1 q.1) (fun r s' => s' = s ∧ r = ltT (k p.1) (k q.1)) (fun _ _ => False) s
  generalize k p.1 = x at h1 hi ⊢
  generalize k q.1 = y at h2 hi ⊢
  obtain ⟨a, o, t, u, n, e, ho, hc, hd⟩ := h1
  obtain ⟨a', o', t', u', n', e', ho', hc', hd'⟩ := h2
  rw [e, e']
  refine PySem.W.kat_lt ho hd ho' hd' ?_
  show PySem.W.KatLex prog w A true (decide (2 < 2)) _ [(.str x t, .str y t'), (u, u')] 0 s
  refine PySem.W.kat_cons (eqBool_str ?_)
  refine PySem.W.kat_go (fun e1 => ?_) (fun e1 => ?_)
  · have exy : x = y := by simpa using e1
    have eaa := hi exy
    rw [e, e'] at eaa
    cases eaa
    rw [ho] at ho'
    cases ho'
    rw [hd] at hd'
    have euu : u = u' := by
      have z := congrArg (fun d : Data => match d with | .seq xs _ => xs[1]? | _ => none) hd'
      simpa using z
    subst euu
    refine PySem.W.kat_yes (PySem.W.kat_cons (eqBool_self ?_))
    refine PySem.W.kat_yes (PySem.W.kat_nil ⟨rfl, ?_⟩)
    subst exy
    exact (decide_eq_false (List.lt_irrefl _)).symm
  · exact PySem.W.kat_no (oneLt_str ⟨rfl, rfl⟩)
theorem its_firsts {h : Heap} {k : Value → PySem.Str} : ∀ {vs : List Value}, (∀ v ∈ vs, IsIt h v (k v)) → ∃ fs : List Value, PySem.W.KatTups h vs fs ∧ fs.length = vs.length ∧ ∀ f ∈ fs, ∃ x t, f = Value.str x t
  | [], _ => ⟨[], PySem.W.KatTups.nil, rfl, fun _ hm => by simp at hm⟩
  | v :: vs, hp => by
    obtain ⟨fs, h1, h2, h3⟩ := its_firsts (vs := vs) fun v' hm => hp v' (List.mem_cons_of_mem _ hm)
    obtain ⟨a, o, t, u, n, e, ho, hc, hd⟩ := hp v List.mem_cons_self
    subst e
    refine ⟨.str _ t :: fs, PySem.W.KatTups.cons ho hc hd rfl h1, by rw [List.length_cons, List.length_cons, h2], fun f hf => ?_⟩
    rcases List.mem_cons.mp hf with rfl | hf
    · exact ⟨_, _, rfl⟩
    · exact h3 f hf
theorem its_sortable {a : Addr} {vs : List Value} {k : Value → PySem.Str} (h0 : 0 < vs.length) (hp : ∀ v ∈ vs, IsIt s.heap v (k v)) (inj : ∀ v ∈ vs, ∀ u ∈ vs, k v = k u → v = u) (ha : ∀ o, s.heap.get? a = some o → o.cls ≠ .type "tuple") : SrtO.SortableO prog w A s a vs fun v u => ltT (k v) (k u) := by
  intro h' keep
  have hp' : ∀ v ∈ vs, IsIt h' v (k v) := fun v hm => (hp v hm).keeps fun b o e c => keep b o (fun z => by subst z; exact ha o e c) e
  obtain ⟨fs, h1, h2, h3⟩ := its_firsts hp'
  refine ⟨tuples' true, fun Q E hq => ?_, it_cmp hp' inj⟩
  refine PySem.W.kat_kind (T := .type "str") h1 (by omega) (fun f hm => ?_) (by rfl) ?_
  · obtain ⟨x, t, rfl⟩ := h3 f hm
    exact PySem.W.Looks.now
  · rw [show (Value.type "str" != Value.type "tuple") = true by first | decide +kernel | rfl | decide]
    exact hq
theorem sorted_view {K : Type} [DecidableEq K] {knd : PySem.KeyKind prog w K} {r d : Addr} {kvs : List (K × Value)} {ep : Nat} {Q : Value → Shared → Prop} (hh : A.in1.in1.handled = none) (hh2 : A.in1.handled = none) (hv : s.heap.IsItemsView r d) (hm : s.heap.DictAt knd d kvs ep) (hn : kvs.length ≤ sizeLine)
    (hk : ∀ (h' : Heap) (as : List Addr), PySem.W.KdxG knd kvs s.heap.objs.size h' as → as.length = kvs.length → ∃ k : Value → PySem.Str, (∀ v ∈ as.map Value.ref, IsIt h' v (k v)) ∧ (∀ v ∈ as.map Value.ref, ∀ u ∈ as.map Value.ref, k v = k u → v = u) ∧
      ∀ (h'' : Heap) (tk : Nat) (p : Addr) (out : List Value) (n : Nat), (∀ b o, s.heap.get? b = some o → h''.get? b = some o) → (∀ b o, h'.get? b = some o → h''.get? b = some o) → s.heap.get? p = none → p ∉ as → h''.get? p = some (seqObj "list" out.toArray n) →
        SrtO.Srtd (fun v u => ltT (k v) (k u)) out → out.Perm (as.map Value.ref) → Q (.ref p) { s with heap := h'', toks := tk }) :
    wpAny (model prog w) A (call (.builtin "sorted") [.ref r]) Q E s := by
  refine Calls.call_function_entry kind_sorted plain_sorted entry_sorted (args_sorted1 _) ?_
  unfold Builtin.«sorted»
  refine wpAny_bind (m := checkCount "sorted" 1 1 _) (wpAny_pure ?_)
  refine wpAny_bind (PySem.W.kdx_collect hh2 hv hm hn fun h' tk as keep hl hG => ?_)
  obtain ⟨k, k1, k2, hq⟩ := hk h' as hG hl
  have hz : (as.map Value.ref).length ≤ sizeLine := by rw [List.length_map, hl]; exact hn
  refine wpAny_bind (wpAny_newList ?_ hz)
  have hoL : (h'.push (seqObj "list" (as.map Value.ref).toArray 0)).get? h'.objs.size = some (seqObj "list" (as.map Value.ref).toArray 0) := Heap.get?_push_size _ rfl
  have old : ∀ b o, h'.get? b = some o → (h'.push (seqObj "list" (as.map Value.ref).toArray 0)).get? b = some o := fun b o e => Heap.get?_push_of_some _ e
  show wpAny _ _ _ _ _ { s with heap := h'.push (seqObj "list" (as.map Value.ref).toArray 0), toks := tk }
  refine wpAny_bind (wpAny_holding (wpAny_call_entry slot_list_sort ⟨_, hoL, rfl⟩ entry_list_sort (SrtO.list_sort_ord (swo_txt k) hoL hz (fun h2 => ?_) fun out hs hb => ⟨_, rfl, ?_⟩) (args_list_sort _)))
  · refine its_sortable (s := { s with heap := h'.push (seqObj "list" (as.map Value.ref).toArray 0), toks := tk }) (by omega) (fun v hm => (k1 v hm).keeps fun b o e _ => old b o e) k2 fun o e => ?_
    have e' : some o = some (seqObj "list" (as.map Value.ref).toArray 0) := e.symm.trans hoL
    cases e'
    intro c
    exact absurd (Value.type.inj c) (by decide)
  · obtain ⟨n, hn⟩ := sortedHeap_at (out := out.toArray) hoL
    have later : ∀ b o, h'.get? b = some o → (sortedHeap (h'.push (seqObj "list" (as.map Value.ref).toArray 0)) h'.objs.size (as.map Value.ref) out.toArray).get? b = some o := fun b o e => by
      rw [sortedHeap_old (Nat.ne_of_lt (Heap.lt_size e)) (Heap.lt_size (old b o e))]; exact old b o e
    refine wpAny_pure ⟨_, rfl, hq _ tk h'.objs.size out n (fun b o e => later b o (keep b o e)) later ?_ ?_ hn hs hb.perm⟩
    · cases e : s.heap.get? h'.objs.size with
      | none => rfl
      | some o => exact absurd (Heap.lt_size (keep _ _ e)) (Nat.lt_irrefl _)
    · intro hm
      exact absurd (hG.there hm) (Nat.lt_irrefl _)
end

open L2 hiding St
/-! ### .. by values -/
theorem obj_there {P : Program} {w : World} {H : Hp} {h : Heap} {a : Addr} {o : HO} (x : ObjOk P w H h a o) : ∃ u, h.get? a = some u := by
  cases o with
  | lst xs => obtain ⟨z, its, n, r, e⟩ := x; exact ⟨_, e⟩
  | tup xs => obtain ⟨z, its, r, ob, e, c⟩ := x; exact ⟨_, e⟩
  | dK kvs => obtain ⟨z, y, vs, r, ob, es, ep, e, c⟩ := x; exact ⟨_, e⟩
  | dT kvs => obtain ⟨z, y, xs, r, ob, es, ep, e, c⟩ := x; exact ⟨_, e⟩
  | set S n => obtain ⟨ob, es, ep, t, e, c⟩ := x; exact ⟨_, e⟩
  | ins C dx fs => obtain ⟨d, z, ne, e, _⟩ := x; exact ⟨_, e⟩
  | own y => obtain ⟨ob, e⟩ := x; exact ⟨_, e⟩
  | xd fs => obtain ⟨mA, ⟨od, es, ep, e, c⟩, r⟩ := x; exact ⟨_, e⟩
  | rng lo hi => obtain ⟨t, u, v, e⟩ := x; exact ⟨_, e⟩
  | frz ob u => obtain ⟨e, q⟩ := x; exact ⟨_, e⟩
  | tbl ps => exact ⟨_, x⟩
  | met f y => exact ⟨_, x⟩
  | ext φ => obtain ⟨p, ⟨o, e⟩, st⟩ := x; exact ⟨_, e⟩
theorem inj_nd {α β : Type} {f : α → β} : ∀ {l : List α}, (l.map f).Nodup → ∀ a ∈ l, ∀ b ∈ l, f a = f b → a = b
  | [], _, a, ha, _, _, _ => absurd ha (by simp)
  | x :: l, h, a, ha, b, hb, e => by
    obtain ⟨h1, h2⟩ := List.nodup_cons.mp (show (f x :: l.map f).Nodup from h)
    rcases List.mem_cons.mp ha with e1 | ha2
    · rcases List.mem_cons.mp hb with e2 | hb2
      · rw [e1, e2]
      · exact absurd (List.mem_map.mpr ⟨b, hb2, by rw [← e, e1]⟩) h1
    · rcases List.mem_cons.mp hb with e2 | hb2
      · exact absurd (List.mem_map.mpr ⟨a, ha2, by rw [e, e2]⟩) h1
      · exact inj_nd h2 a ha2 b hb2 e
def adr : Value → Addr
  | .ref t => t
  | _ => 0
/-- a function that tells the entry of each address -/
theorem tells {α : Type} [Inhabited α] : ∀ {as : List Addr} {xs : List α}, as.length = xs.length → as.Nodup → ∃ f : Addr → α, as.map f = xs
  | [], [], _, _ => ⟨fun _ => default, rfl⟩
  | [], _ :: _, h, _ => by cases h
  | _ :: _, [], h, _ => by cases h
  | a :: as, x :: xs, h, hn => by
    obtain ⟨h1, h2⟩ := List.nodup_cons.mp hn
    obtain ⟨f, hf⟩ := tells (xs := xs) (Nat.succ.inj h) h2
    refine ⟨fun t => if t = a then x else f t, ?_⟩
    rw [List.map_cons, if_pos rfl]
    congr 1
    rw [← hf]
    apply List.map_congr_left
    intro t ht
    rw [if_neg (fun z : t = a => h1 (z ▸ ht))]
def keyT (p : Str × V) : Key × V := (.inr p.1, p.2)
/-- sorted(d.items()), the keys texts: new tuples, in a new list -/
def rItemsS : V → Hp → VK → Prop := fun x H Q => ∃ (d : Addr) (kvs : List (Str × V)), x = .ref d ∧ H d = some (.dK (kvs.map keyT)) ∧ (kvs.map (·.1)).Nodup ∧
  ∀ (H' : Hp) (p : Addr) (ts : List Addr) (qs : List (Str × V)), (∀ b o, H b = some o → H' b = some o) → H p = none → (∀ t ∈ ts, H t = none) → p ∉ ts → H' p = some (.lst (ts.map V.ref)) → Paired (fun (t : Addr) (q : Str × V) => H' t = some (.tup [.str q.1, q.2])) ts qs →
    qs.Perm kvs → (qs.map (·.1)).Pairwise (fun a b => ¬ b.cps.toList < a.cps.toList) → (∀ b, b ≠ p → b ∉ ts → H' b = H b) → Q (.ref p) H'
def tSrtItems (te : TE) : TE := fun σ H Q => te σ H fun x H1 => rItemsS x H1 Q
theorem paired_map {α β γ : Type} {F : β → γ → Prop} (f : α → β) (g : α → γ) : ∀ {l : List α}, (∀ x ∈ l, F (f x) (g x)) → Paired F (l.map f) (l.map g)
  | [], _ => .nil
  | x :: l, h => .cons (h x List.mem_cons_self) (paired_map f g fun y hy => h y (List.mem_cons_of_mem _ hy))
section
variable {X : Cx} {e : Expr} {te : TE} {p apos cpos pos : Pos}
theorem pe_srtItems (hc : X.calm = true) (he : PE X e te) (hg : Gl X "sorted") (hm : X.mg "sorted" = none) (hbase : attributeBase e "items" X.env (eval e X.env) = eval e X.env := by rfl) (hline : (apos.endLine == cpos.line) = true := by rfl)
    (hs : starEach [.Call (.Attribute e "items" apos) [] [] cpos] X.env = (false, eval (.Call (.Attribute e "items" apos) [] [] cpos) X.env) :: starEach [] X.env := by rfl) :
    PE X (.Call (.Name "sorted" p) [.Call (.Attribute e "items" apos) [] [] cpos] [] pos) (tSrtItems te) := by
  refine ⟨fun pins s σ H Q I hq => ?_⟩
  refine wpAny_Call_Name_kw (ld_blt I hg hm (u := .builtin "sorted") (by decide +kernel) ?_)
  refine PyProof.Rows.callWith_builtin1 ?_ hs rfl
  rw [hs]
  show wpAny _ _ (spliced ((false, eval (.Call (.Attribute e "items" apos) [] [] cpos) X.env) :: backTo pos (starEach [] X.env))) _ _ s
  refine Calls.spliced_cons ?_
  refine wpAny_Call_method (T := "dict") (id := "dict.items") hbase rfl hline F.plainAttrs_dict F.slot_dict_items F.type_dict_items (thn (he.run pins s σ H _ I hq) fun u s1 ⟨x, H1, I1, rx, d, kvs, ex, hd, hnd, q⟩ => ?_)
  subst ex
  obtain rfl : u = Value.ref d := rx
  obtain ⟨hz, hs0, vs, kv, hdo⟩ := I1.hok d _ hd
  obtain ⟨ep, hat⟩ := hdo.dictAt
  have lk : (kvs.map keyT).length = vs.length := Paired.length kv
  have lk2 : kvs.length = vs.length := by rw [← lk, List.length_map]
  have I2 : Inv X pins σ H1 { s1 with heap := s1.heap.push { cls := .type "dict_items", data := .fields #[.ref d] } } := I1.kept (t' := s1.toks) fun b ob q => Heap.get?_push_of_some _ q
  refine ⟨hdo.typeIs, hdo.mapOf.noDict, ?_⟩
  show wpAny _ _ (callWith cpos (.builtin "dict.items") [.ref d] [] []) _ X.xe s1
  refine method_meetsIn F.slot_dict_items F.entry_dict_items rfl (PySem.evalArgs_none ⟨rfl, hdo.typeIs, F.args_dict_items_1 _, _, meets_dict_items (mixKind X.prog X.w) d hs0, ⟨vs, hdo⟩, ?_⟩)
  refine Calls.spliced_nil ?_
  have hnone : X.A.handled = none := I1.ok.hd hc
  refine sorted_view (knd := mixKind X.prog X.w) (kvs := vs) (ep := ep) hnone hnone ⟨_, Heap.get?_push_size _ rfl, rfl, rfl⟩ (hat.push _) (by rw [← lk]; exact hz) fun h' as hG hl => ?_
  have nd : as.Nodup := List.Pairwise.imp (fun {a b} (h : a < b) => Nat.ne_of_lt h) hG.rise
  haveI : Inhabited (Str × V) := ⟨(Str.empty, .non)⟩
  obtain ⟨f, hf⟩ := tells (xs := kvs) (by omega) nd
  have item : ∀ t ∈ as, ∃ key x, RelV (.str (f t).1) key ∧ RelV (f t).2 x ∧ h'.get? t = some { cls := .type "tuple", data := .seq #[key, x] } := fun t ht => by
    obtain ⟨j, hj⟩ := List.mem_iff_getElem?.mp ht
    obtain ⟨key, k, x, f1, f2, f3⟩ := hG.pairs j t hj
    have e2 : (kvs.map keyT)[j]? = some (keyT (f t)) := by rw [← hf, List.getElem?_map, List.getElem?_map, hj]; rfl
    obtain ⟨qv, g1, g2, g3⟩ := LiI.paired_get kv e2
    rw [f1] at g1
    cases g1
    have rk : RelV (kV k) key := relV_key (show keyIs k key = true from f2)
    rw [← show (Sum.inr (f t).1 : Key) = k from g2] at rk
    exact ⟨key, x, rk, g3, f3⟩
  have hknd : (as.map fun t => (f t).1).Nodup := by
    have e1 : (as.map fun t => (f t).1) = kvs.map (·.1) := by rw [← hf, List.map_map]; rfl
    rw [e1]; exact hnd
  refine ⟨fun v => (f (adr v)).1, fun v hv => ?_, fun v hv u hu e => ?_, fun h'' tk p out n keep keep' hnew hpm hat2 hsr hperm => ?_⟩
  · obtain ⟨t, ht, rfl⟩ := List.mem_map.mp hv
    obtain ⟨key, x, ⟨tk, rk⟩, rx, e3⟩ := item t ht
    exact ⟨t, _, tk, x, 0, rfl, e3, rfl, by rw [rk]; rfl⟩
  · obtain ⟨t, ht, rfl⟩ := List.mem_map.mp hv
    obtain ⟨t2, ht2, rfl⟩ := List.mem_map.mp hu
    exact congrArg _ (inj_nd hknd t ht t2 ht2 e)
  · have eout : out = (out.map adr).map Value.ref := by
      rw [List.map_map]
      have e1 : out.map (Value.ref ∘ adr) = out.map id := List.map_congr_left fun v hv => by
        obtain ⟨t, _, rfl⟩ := List.mem_map.mp (hperm.mem_iff.mp hv)
        rfl
      rw [e1, List.map_id]
    have pos : (out.map adr).Perm as := by
      have := hperm.map adr
      rw [List.map_map] at this
      have e1 : as.map (adr ∘ Value.ref) = as.map id := List.map_congr_left fun _ _ => rfl
      rw [e1, List.map_id] at this
      exact this
    generalize out.map adr = os at eout pos
    subst eout
    have new : ∀ t ∈ as, H1 t = none := fun t ht => I2.hok.fresh (Nat.le_of_lt (hG.above t ht))
    have newS : H1 p = none := by
      cases e : H1 p with
      | none => rfl
      | some u =>
        obtain ⟨o, eo⟩ := obj_there (I2.hok p u e)
        have eo' : (s1.heap.push { cls := .type "dict_items", data := .fields #[.ref d] }).get? p = some o := eo
        rw [hnew] at eo'
        cases eo'
    have atP := LiI.putT_at as (kvs.map keyT) (upd H1 p (.lst (os.map V.ref))) (by rw [List.length_map]; omega) nd
    have off : ∀ b, b ≠ p → b ∉ as → LiI.putT (upd H1 p (.lst (os.map V.ref))) as (kvs.map keyT) b = H1 b := fun b h2 h1 => by rw [LiI.putT_off as _ _ h1, upd_ne h2]
    have low : ∀ b o, (s1.heap.push { cls := .type "dict_items", data := .fields #[.ref d] }).get? b = some o → b ∉ as ∧ b ≠ p := fun b o e => ⟨fun z => absurd (Heap.lt_size e) (Nat.not_lt.mpr (Nat.le_of_lt (hG.above b z))), fun z => by rw [z, hnew] at e; cases e⟩
    have kp : ∀ b u, H1 b = some u → (LiI.putT (upd H1 p (.lst (os.map V.ref))) as (kvs.map keyT)) b = some u := fun b u e => by
      rw [off b (fun z => by rw [z, newS] at e; cases e) (fun z => by rw [new b z] at e; cases e)]
      exact e
    have eS : LiI.putT (upd H1 p (.lst (os.map V.ref))) as (kvs.map keyT) p = some (.lst (os.map V.ref)) := by rw [LiI.putT_off as _ _ hpm, upd_same]
    have atF : ∀ t ∈ as, LiI.putT (upd H1 p (.lst (os.map V.ref))) as (kvs.map keyT) t = some (.tup [.str (f t).1, (f t).2]) := fun t ht => by
      obtain ⟨j, hj⟩ := List.mem_iff_getElem?.mp ht
      obtain ⟨y, e1, e2⟩ := LiI.paired_get atP hj
      rw [← hf, List.getElem?_map, List.getElem?_map, hj] at e1
      cases e1
      exact e2
    have hzs : os.length ≤ sizeLine := by rw [pos.length_eq, hl, ← lk]; exact hz
    refine ⟨.ref p, LiI.putT (upd H1 p (.lst (os.map V.ref))) as (kvs.map keyT), ?_, rfl, q _ p os (os.map f) kp newS (fun t ht => new t (pos.mem_iff.mp ht)) (fun z => hpm (pos.mem_iff.mp z)) eS ?_ ?_ ?_ fun b h1 h2 => off b h1 fun z => h2 (pos.mem_iff.mpr z)⟩
    · refine I2.call' (ch := []) rfl ⟨fun b o q _ _ _ => keep b o q, fun b o q _ _ _ => ⟨o.slots, keep b o q⟩, fun b o q n _ => ?_, fun b o q _ => ⟨o, keep b o q⟩, fun b xs q => kp b _ q, fun b o u q => kp b _ q, fun b ps q => ⟨#[], by rw [kp b _ q]; simp⟩⟩ (fun b u q => ?_) I2.bare fun b z => by simp at z
      · obtain ⟨z1, z2⟩ := low b o q
        rw [off b z2 z1]
        exact n
      · by_cases hb : b ∈ as
        · rw [atF b hb] at q
          cases q
          obtain ⟨key, x, rk, rx, e3⟩ := item b hb
          exact ⟨by show 2 ≤ sizeLine; decide, [key, x], .cons rk (.cons rx .nil), ⟨_, keep' _ _ e3, rfl, _, rfl⟩⟩
        · by_cases hb2 : b = p
          · subst hb2
            rw [eS] at q
            cases q
            exact ⟨by rw [List.length_map]; exact hzs, os.map Value.ref, n, LiI.vals_refs os, hat2⟩
          · rw [off b hb2 hb] at q
            exact (I2.hok b u q).stay (fun d v _ y => keep d v y) (fun d y => kp d _ y) fun d xs y => kp d _ y
    · have := paired_map (F := fun (t : Addr) (q : Str × V) => LiI.putT (upd H1 p (.lst (os.map V.ref))) as (kvs.map keyT) t = some (.tup [.str q.1, q.2])) id f (l := os) fun t ht => atF t (pos.mem_iff.mp ht)
      rw [List.map_id] at this
      exact this
    · rw [← hf]; exact pos.map f
    · rw [List.map_map]
      refine List.pairwise_map.mpr ?_
      have h1 : os.Pairwise fun a b => ltT (f b).1 (f a).1 = false := List.pairwise_map.mp hsr
      exact h1.imp fun {a b} h => of_decide_eq_false h
end
end SIt

namespace DL
open PySem PySem.Spec L2
open PyProof.Rows hiding St
section
variable {K : PySem.W.Frag} {G : HD} {H : Hp}
/-- a dict that is not of ours grows -/
theorem SqT.asideD {p : Addr} {l : List (Key × V)} {o' : HO} (hp : H p = some (.dK l)) {a : Addr} {vs : List V} (h : SqT K H a vs) : SqT K (upd H p o') a vs := by
  rcases h with (h | ⟨o, h⟩) | h
  · exact .inl (.inl (by rw [upd_ne (by rintro rfl; rw [hp] at h; cases h)]; exact h))
  · exact .inl (.inr ⟨o, by rw [upd_ne (by rintro rfl; rw [hp] at h; cases h)]; exact h⟩)
  · exact .inr h
mutual
theorem Rp.asideD {p : Addr} {l : List (Key × V)} {o' : HO} (hp : H p = some (.dK l)) : ∀ (d : D) (v : V), Rp K H d v → Rp K (upd H p o') d v
  | .non, _, h => h
  | .bl _, _, h => h
  | .int _, _, h => h
  | .str _, _, h => h
  | .ty _, _, h => h
  | .ref _, _, h => h
  | .tup ds, v, h => by
    obtain ⟨a, vs, e, t, r⟩ := h
    exact ⟨a, vs, e, SqT.asideD hp t, Rps.asideD hp ds vs r⟩
  | .kl ds, v, h => by
    obtain ⟨a, vs, e, ⟨o, t⟩, r⟩ := h
    exact ⟨a, vs, e, ⟨o, by rw [upd_ne (by rintro rfl; rw [hp] at t; cases t)]; exact t⟩, Rps.asideD hp ds vs r⟩
  | .kc ds, v, h => by
    obtain ⟨a, vs, e, t, r⟩ := h
    refine ⟨a, vs, e, ?_, Rps.asideD hp ds vs r⟩
    rcases t with ⟨o, t⟩ | t
    · exact .inl ⟨o, by rw [upd_ne (by rintro rfl; rw [hp] at t; cases t)]; exact t⟩
    · exact .inr t
  | .exc C ns ds, v, h => by
    obtain ⟨a, dd, vs, e, t, hl, q, r⟩ := h
    refine ⟨a, dd, vs, e, by rw [upd_ne (by rintro rfl; rw [hp] at t; cases t)]; exact t, hl, ?_, Rps.asideD hp ds vs r⟩
    rcases q with q | ⟨b, q1, q2⟩
    · exact .inl q
    · exact .inr ⟨b, q1, by rw [upd_ne (by rintro rfl; rw [hp] at q2; cases q2)]; exact q2⟩
  | .emp, v, h => by
    obtain ⟨a, ob, e, m, t, q⟩ := h
    exact ⟨a, ob, e, m, by rw [upd_ne (by rintro rfl; rw [hp] at t; cases t)]; exact t, q⟩
theorem Rps.asideD {p : Addr} {l : List (Key × V)} {o' : HO} (hp : H p = some (.dK l)) : ∀ (ds : List D) (vs : List V), Rps K H ds vs → Rps K (upd H p o') ds vs
  | [], _, h => h
  | d :: ds, vs, h => by
    obtain ⟨v, r, e, h1, h2⟩ := h
    exact ⟨v, r, e, Rp.asideD hp d v h1, Rps.asideD hp ds r h2⟩
end
theorem RKV.asideD {κ : Type} {p : Addr} {l : List (Key × V)} {o1 : HO} (hp : H p = some (.dK l)) : ∀ (a : List (κ × D)) (m : List (κ × V)), RKV K H a m → RKV K (upd H p o1) a m
  | [], _, h => h
  | q :: a, m, h => by
    obtain ⟨v, r, e, h1, h2⟩ := h
    exact ⟨v, r, e, h1.asideD hp _ _, RKV.asideD hp a r h2⟩
theorem RO.asideD {p : Addr} {l : List (Key × V)} {o1 : HO} (hp : H p = some (.dK l)) : ∀ (o : MO) (o' : HO), RO K H o o' → RO K (upd H p o1) o o'
  | .lst ds, _, h => let ⟨vs, e, r⟩ := h; ⟨vs, e, r.asideD hp _ _⟩
  | .dK _, _, h => let ⟨vs, e, r⟩ := h; ⟨vs, e, r.asideD hp _ _⟩
  | .dT _, _, h => let ⟨vs, e, r⟩ := h; ⟨vs, e, r.asideD hp _ _⟩
  | .ins _ _, _, h => let ⟨dx, vs, e, r⟩ := h; ⟨dx, vs, e, r.asideD hp _ _⟩
  | .fz ob w u, _, h => let ⟨e, r, z⟩ := h; ⟨e, RO.asideD hp u w r, z⟩
theorem Sim.asideD (s : Sim K G H) {p : Addr} {l : List (Key × V)} {o1 : HO} (hp : H p = some (.dK l)) (hg : G p = none) : Sim K G (upd H p o1) := fun a o e => by
  obtain ⟨o', e1, r⟩ := s a o e
  have hn : a ≠ p := by rintro rfl; rw [hg] at e; cases e
  exact ⟨o', by rw [upd_ne hn]; exact e1, r.asideD hp _ _⟩
theorem RpS.asideD {p : Addr} {l : List (Key × V)} {o1 : HO} (hp : H p = some (.dK l)) : ∀ (σ : DSt) (t : L2.St), RpS K H σ t → RpS K (upd H p o1) σ t
  | [], _, h => h
  | o :: r, _, h => by
    obtain ⟨w, t, rfl, h1, h2⟩ := h
    refine ⟨w, t, rfl, fun d e => ?_, RpS.asideD hp r t h2⟩
    obtain ⟨v, e1, e2⟩ := h1 d e
    exact ⟨v, e1, e2.asideD hp _ _⟩
end
/-! ### {k: e for .. in .. if ..} -/
def dcD (ok : HD → Prop) (step : D → (Key → D → HD → Prop) → (HD → Prop) → HD → Prop) (fin : List (Key × D) → HD → Prop) : List D → List (Key × D) → HD → Prop
  | [], acc => fun G => ∃ G0, Le G0 G ∧ ok G0 ∧ fin acc G0
  | x :: xs, acc => fun G => ∃ G0, Le G0 G ∧ ok G0 ∧ step x (fun k y G' => dcD ok step fin xs (putKD acc k y) G') (fun G' => dcD ok step fin xs acc G') G0
def keyP (d : D) (f : Key → Prop) : Prop := match kD d with
  | some k => f k
  | none => False
def dDc (ti : TDI) (t : Tgt) (dt : TDT) (tk te : TD) (vs : List Nat) : TD := fun W σ G Q => ti W σ G fun I G1 => I.xs.length ≤ 1000000 ∧
  dcD I.ok (fun d ky kn G' => t.put d (dwipe σ vs) fun σ2 => dt W0 σ2 G' fun b G2 => if b = true then tk W0 σ2 G2 fun kd G3 => te W0 σ2 G3 fun y G4 => keyP kd fun k => ky k y G4 else kn G2) (fun acc G2 => newD G2 acc Q) I.xs [] G1
theorem putKD_len {l : List (Key × D)} {k : Key} {d : D} : (putKD l k d).length ≤ l.length + 1 := by
  unfold putKD
  split
  · rw [List.length_map]; omega
  · rw [List.length_append]; exact Nat.le_refl _
section
variable {X : Cx} {kx vx tg iter : Expr} {ifs : List Expr} {scope : Scope} {own : List (Str × Nat)} {pos : Pos} {wi : TI} {ti : TDI} {t : Tgt} {g : TG} {dt : TDT} {tk te : TD}
theorem dc_run (hi : DI X tg iter wi ti) (hg : TgRun X.K t g) (hsl : ∀ i ∈ t.slots, i ∈ own.map (·.2)) {tt : TT} {tkV teV : TE}
    (htt : ∀ (G : HD) (H : Hp) (σ : DSt) (τ : L2.St) (Q : Bool → HD → Prop) (Q' : Bool → Hp → Prop), Sim X.K G H → RpS X.K H σ τ → dt W0 σ G Q → (∀ b H', liftB X.K G H Q b H' → Q' b H') → tt τ H Q')
    (htk : ∀ (G : HD) (H : Hp) (σ : DSt) (τ : L2.St) (Q : Post) (Q' : VK), Sim X.K G H → RpS X.K H σ τ → tk W0 σ G Q → (∀ v H', liftQ X.K G H Q v H' → Q' v H') → tkV τ H Q')
    (hte : ∀ (G : HD) (H : Hp) (σ : DSt) (τ : L2.St) (Q : Post) (Q' : VK), Sim X.K G H → RpS X.K H σ τ → te W0 σ G Q → (∀ v H', liftQ X.K G H Q v H' → Q' v H') → teV τ H Q')
    {G : HD} {H : Hp} {σ : DSt} {τ : L2.St} {W : DW} {Q : Post} {Q' : VK} (r : SR X G H σ τ W) (q : dDc ti t dt tk te (own.map (·.2)) W σ G Q)
    (fin : ∀ v H', liftQ X.K G H Q v H' → Q' v H') : tDc wi g tt tkV teV (own.map (·.2)) τ H Q' := by
  refine hi.run G H σ τ W _ _ r q fun I J G1 H1 s1 x1 rel q1 D0 hD => ?_
  obtain ⟨hz, q1⟩ := q1
  have r1 := r.ext s1 x1
  have n0 := s1.no hD
  refine ⟨fun i m H' => ∃ G' acc accV, H' D0 = some (.dK accV) ∧ G' D0 = none ∧ RKV X.K H' acc accV ∧ acc.length ≤ i ∧ Sim X.K G' H' ∧ Ext G1 H1 G' H' ∧ m = I.xs.length - i ∧ i ≤ I.xs.length ∧
      dcD I.ok (fun d ky kn G' => t.put d (dwipe σ (own.map (·.2))) fun σ2 => dt W0 σ2 G' fun b G2 => if b = true then tk W0 σ2 G2 fun kd G3 => te W0 σ2 G3 fun y G4 => keyP kd fun k => ky k y G4 else kn G2) (fun acc G2 => newD G2 acc Q) (I.xs.drop i) acc G',
    ⟨_, G1, [], [], upd_same, n0, rfl, Nat.zero_le _, s1.newO hD, .new hD n0, rfl, Nat.zero_le _, by rw [List.drop_zero]; exact q1⟩, ?_⟩
  rintro i m H' ⟨G', acc, accV, hl, hn, ra, hle0, s', x', rfl, hle, q'⟩
  by_cases hlt : i < I.xs.length
  · have hx : I.xs[i]? = some I.xs[i] := by simp [hlt]
    rw [drop_get hx] at q'
    obtain ⟨G0, l0, ok0, q0⟩ := q'
    have s0 := s'.le l0
    have x0 : Ext G1 H1 G0 H' := x'.le l0
    have e0 : Ext G' H' G0 H' := .of_le l0
    refine .inr ⟨rel.go i G0 H' s0 x0.l ok0 hlt, fun H2 => ∃ G2 acc2 accV2, H2 D0 = some (.dK accV2) ∧ G2 D0 = none ∧ RKV X.K H2 acc2 accV2 ∧ acc2.length ≤ i + 1 ∧ Sim X.K G2 H2 ∧ Ext G1 H1 G2 H2 ∧
        dcD I.ok (fun d ky kn G' => t.put d (dwipe σ (own.map (·.2))) fun σ2 => dt W0 σ2 G' fun b G2 => if b = true then tk W0 σ2 G2 fun kd G3 => te W0 σ2 G3 fun y G4 => keyP kd fun k => ky k y G4 else kn G2) (fun acc G2 => newD G2 acc Q) (I.xs.drop (i + 1)) acc2 G2,
      fun H2 ⟨G2, a2, v2, b1, b2, b3, b4, b5, b6, b7⟩ => ⟨_, by omega, G2, a2, v2, b1, b2, b3, b4, b5, b6, rfl, hlt, b7⟩, fun v H2 hy => ?_⟩
    obtain ⟨d, e1, e2, e3, e4⟩ := rel.yld i G0 H' v H2 s0 x0.l ok0 hlt hy
    rw [hx] at e1; cases e1
    have x2 := x0.trans e4
    have slots2 : RpS X.K H2 (dwipe σ (own.map (·.2))) (L2.wipe τ (own.map (·.2))) := (r1.slots.ext s1 x2 _ _).wipe _
    refine hg.run H2 _ _ _ v _ _ slots2 e2 q0 fun σ2 τ2 k2 q2 hw => ⟨(hw _ hsl).trans wipe_wipe, ?_⟩
    have n1 : G0 D0 = none := l0.no hn
    obtain ⟨hl2, n2⟩ := e4 D0 _ n1 hl
    have ra2 : RKV X.K H2 acc accV := ra.ext s' (e0.trans e4) _ _
    refine htt G0 H2 σ2 τ2 _ _ e3 k2 q2 fun b H3 ⟨G3, s3, x3, q3⟩ => ?_
    obtain ⟨hl3, n3⟩ := x3 D0 _ n2 hl2
    have ra3 : RKV X.K H3 acc accV := ra2.ext e3 x3 _ _
    cases b with
    | true =>
      have k3 := k2.ext e3 x3 _ _
      refine htk G3 H3 σ2 τ2 _ _ s3 k3 q3 fun kv H4 ⟨kd, G4, rk, s4, x4, q4⟩ => ?_
      obtain ⟨hl4, n4⟩ := x4 D0 _ n3 hl3
      have ra4 : RKV X.K H4 acc accV := ra3.ext s3 x4 _ _
      refine hte G4 H4 σ2 τ2 _ _ s4 (k3.ext s3 x4 _ _) q4 fun y H5 ⟨dy, G5, ry, s5, x5, q5⟩ => ?_
      obtain ⟨hl5, n5⟩ := x5 D0 _ n4 hl4
      have ra5 : RKV X.K H5 acc accV := ra4.ext s4 x5 _ _
      unfold keyP at q5
      split at q5
      · rename_i k ek
        refine ⟨accV, k, kD_rp ek (rk.ext s4 x5 _ _), hl5, ?_, G5, putKD acc k dy, putK accV k y, upd_same, n5, (ra5.putK2 ry).asideD hl5 _ _, Nat.le_trans putKD_len (by omega), s5.asideD hl5 n5, fun a o ga ha => ?_, q5⟩
        · rw [ra5.length]
          have := million hz
          omega
        · obtain ⟨h6, g6⟩ := (((x2.trans x3).trans x4).trans x5) a o ga ha
          have hne : a ≠ D0 := by rintro rfl; rw [hD] at ha; cases ha
          exact ⟨by rw [upd_ne hne]; exact h6, g6⟩
      · exact q5.elim
    | false => exact ⟨G3, acc, accV, hl3, n3, ra3, by omega, s3, x2.trans x3, q3⟩
  · have e : I.xs.drop i = [] := List.drop_eq_nil_of_le (by omega)
    rw [e] at q'
    obtain ⟨G0, l0, ok0, q0⟩ := q'
    have s0 := s'.le l0
    have n1 : G0 D0 = none := l0.no hn
    have h0 : ∀ a o, G a = none → H a = some o → a ≠ D0 := fun a o ga ha e => by
      obtain ⟨h6, _⟩ := x1 a o ga ha
      rw [e, hD] at h6; cases h6
    have x0 : Ext G H G0 H' := x1.trans (x'.le l0)
    have ra0 : RKV X.K H' acc accV := ra.ext s' (.of_le l0) _ _
    refine .inl ⟨rel.stop i G0 H' s0 (x'.le l0).l ok0 (by omega), fin _ _ ⟨.ref D0, put G0 D0 (.dK acc), rfl, fun a o ea => ?_, fun a o ga ha => ?_, q0 D0 n1⟩⟩
    · by_cases ha : a = D0
      · subst ha
        rw [put_same] at ea; cases ea
        exact ⟨_, hl, _, rfl, ra0⟩
      · rw [put_ne ha] at ea
        exact s0 a o ea
    · obtain ⟨h5, g5⟩ := x0 a o ga ha
      exact ⟨h5, by rw [put_ne (h0 a o ga ha)]; exact g5⟩
theorem de_dc (hc : X.calm = true) (hN : X.N.Nodup) (hi : DI X tg iter wi ti) (ok : BlkOk X.N X.env.scope scope own) (hg : BlkPG X scope tg g) (hgr : TgRun X.K t g) (hsl : ∀ i ∈ t.slots, i ∈ own.map (·.2)) (ht : BlkDTs X scope ifs dt) (hk : BlkDE X scope kx tk) (he : BlkDE X scope vx te)
    (hs : ∀ x, foldedSetIterable iter X.env x = pure x := by intro _; rfl) : DE X (.DictComp kx vx [⟨tg, iter, ifs, 0⟩] scope pos) (dDc ti t dt tk te (own.map (·.2))) :=
  ⟨fun G H σ τ W Q r q => semE.of (pe_dc hc hN hi.pi ok hg blk_pts blk_pe blk_pe hs)
    (dc_run hi hgr hsl (fun G H σ τ Q Q' s k q f s0 H0 C cl fp pins s1 I => thn ((ht s0 H0 C cl fp).run G H σ τ W0 Q ⟨s, k, takes_w0⟩ q pins s1 I) fun b s2 ⟨H2, I2, z⟩ => ⟨H2, I2, f b H2 z⟩)
      (fun G H σ τ Q Q' s k q f s0 H0 C cl fp => ((hk s0 H0 C cl fp).run G H σ τ W0 Q ⟨s, k, takes_w0⟩ q).imp f) (fun G H σ τ Q Q' s k q f s0 H0 C cl fp => ((he s0 H0 C cl fp).run G H σ τ W0 Q ⟨s, k, takes_w0⟩ q).imp f) r q (fun _ _ z => z))⟩
end
end DL

namespace DL
open PySem PySem.Spec L2
open PyProof.Rows hiding St
/-! ### sorted(d.items()), by value -/
def itD (p : Str × D) : D := .tup [.str p.1, p.2]
def strItems : List (Key × D) → Option (List (Str × D))
  | [] => some []
  | (.inr x, d) :: r => (strItems r).map ((x, d) :: ·)
  | (.inl _, _) :: _ => none
def sitO (o : Option (List (Str × D))) (G : HD) (Q : Post) : Prop := match o with
  | some xs => (xs.map (·.1)).Nodup ∧ ∀ qs : List (Str × D), qs.Perm xs → (qs.map (·.1)).Pairwise (fun a b => ¬ b.cps.toList < a.cps.toList) → Q (.kl (qs.map itD)) G
  | none => False
def dSrtItems (te : TD) : TD := fun W σ G Q => te W σ G fun d G1 => dicP d G1 fun l => sitO (strItems l) G1 Q
section
variable {K : PySem.W.Frag} {G : HD} {H : Hp}
theorem str_items : ∀ {l : List (Key × D)} {m : List (Key × V)} {xs : List (Str × D)}, strItems l = some xs → RKV K H l m → ∃ kvs : List (Str × V), m = kvs.map SIt.keyT ∧ RKV K H xs kvs
  | [], _, _, e, h => by cases e; cases h; exact ⟨[], rfl, rfl⟩
  | (.inl _, _) :: _, _, _, e, _ => by cases e
  | (.inr x, d) :: r, _, xs, e, h => by
    obtain ⟨v, t, rfl, h1, h2⟩ := h
    simp only [strItems, Option.map_eq_some_iff] at e
    obtain ⟨ys, e1, rfl⟩ := e
    obtain ⟨kvs, rfl, h3⟩ := str_items e1 h2
    exact ⟨(x, v) :: kvs, rfl, v, kvs, rfl, h1, h3⟩
theorem rkv_perm {κ : Type} {qs kvs : List (κ × V)} (p : qs.Perm kvs) : ∀ {xs : List (κ × D)}, RKV K H xs kvs → ∃ ys : List (κ × D), ys.Perm xs ∧ RKV K H ys qs := by
  induction p with
  | nil => intro xs h; cases xs with
    | nil => exact ⟨[], .nil, rfl⟩
    | cons x xs => obtain ⟨_, _, e, _⟩ := h; cases e
  | cons q p ih =>
    intro xs h
    cases xs with
    | nil => cases h
    | cons x xs =>
      obtain ⟨v, t, e, h1, h2⟩ := h
      cases e
      obtain ⟨ys, h3, h4⟩ := ih h2
      exact ⟨x :: ys, h3.cons x, v, _, rfl, h1, h4⟩
  | swap a b l =>
    intro xs h
    cases xs with
    | nil => cases h
    | cons x xs =>
      obtain ⟨v, t, e, h1, h2⟩ := h
      cases xs with
      | nil => cases h2; cases e
      | cons y xs =>
        obtain ⟨v2, t2, e2, h3, h4⟩ := h2
        cases e2; cases e
        exact ⟨y :: x :: xs, .swap x y xs, v2, _, rfl, h3, v, _, rfl, h1, h4⟩
  | trans p q ih1 ih2 =>
    intro xs h
    obtain ⟨ys, h1, h2⟩ := ih2 h
    obtain ⟨zs, h3, h4⟩ := ih1 h2
    exact ⟨zs, h3.trans h1, h4⟩
theorem rps_items : ∀ {ts : List Addr} {qs : List (Str × V)} {ys : List (Str × D)}, Paired (fun (t : Addr) (q : Str × V) => H t = some (.tup [.str q.1, q.2])) ts qs → RKV K H ys qs → Rps K H (ys.map itD) (ts.map V.ref)
  | _, _, [], .nil, h => rfl
  | _, _, y :: ys, .nil, h => by obtain ⟨_, _, e, _⟩ := h; cases e
  | _, _, [], .cons p r, h => by cases h
  | _, _, y :: ys, .cons p r, h => by
    obtain ⟨v, t, e, h1, h2⟩ := h
    cases e
    exact ⟨_, _, rfl, ⟨_, _, rfl, .of p, _, _, rfl, rfl, _, _, rfl, h1, rfl⟩, rps_items r h2⟩
end
section
variable {X : Cx} {e : Expr} {te : TD} {p apos cpos pos : Pos}
theorem de_srtItems (hc : X.calm = true) (hm : X.mg "sorted" = none) (he : DE X e te) (hg : Gl X "sorted" := by rfl) (hbase : attributeBase e "items" X.env (eval e X.env) = eval e X.env := by rfl) (hline : (apos.endLine == cpos.line) = true := by rfl)
    (hs : starEach [.Call (.Attribute e "items" apos) [] [] cpos] X.env = (false, eval (.Call (.Attribute e "items" apos) [] [] cpos) X.env) :: starEach [] X.env := by rfl) :
    DE X (.Call (.Name "sorted" p) [.Call (.Attribute e "items" apos) [] [] cpos] [] pos) (dSrtItems te) :=
  ⟨fun G H σ τ W Q r0 q => semE.frz (semE.of (SIt.pe_srtItems hc peSem hg hm hbase hline hs) (he.then r0 q fun d v G1 H1 r1 x1 k1 q1 => by
    obtain ⟨a, l, m, rfl, hG, hH, rk, q2⟩ := dic_at r1.sim k1 q1
    unfold sitO at q2
    split at q2
    · rename_i xs ex
      obtain ⟨hnd, q3⟩ := q2
      obtain ⟨kvs, rfl, rs⟩ := str_items ex rk
      refine ⟨a, kvs, rfl, hH, by rw [rs.keys]; exact hnd, fun H' p ts qs kp hp ht hpt hat hpair hperm hsr hoff => ?_⟩
      obtain ⟨ys, h1, h2⟩ := rkv_perm hperm rs
      have hH'' : upd (fun b => if b = p then none else H' b) p (.lst (ts.map V.ref)) = H' := by
        funext b
        by_cases hb : b = p
        · subst hb; rw [upd_same, hat]
        · rw [upd_ne hb]; exact if_neg hb
      have xx : Ext G1 H1 G1 (fun b => if b = p then none else H' b) := fun b o ga ha => by
        have hb : b ≠ p := by rintro rfl; rw [hp] at ha; cases ha
        exact ⟨by show (if b = p then none else H' b) = some o; rw [if_neg hb]; exact kp b o ha, ga⟩
      have ss : Sim X.K G1 (fun b => if b = p then none else H' b) := fun b o ea => by
        obtain ⟨o', e1, r⟩ := r1.sim b o ea
        have hb : b ≠ p := by rintro rfl; rw [hp] at e1; cases e1
        exact ⟨o', by show (if b = p then none else H' b) = some o'; rw [if_neg hb]; exact kp b o' e1, r.ext r1.sim xx _ _⟩
      have pr : ∀ {ts : List Addr} {qs : List (Str × V)}, p ∉ ts → Paired (fun (t : Addr) (q : Str × V) => H' t = some (.tup [.str q.1, q.2])) ts qs → Paired (fun (t : Addr) (q : Str × V) => (fun b => if b = p then none else H' b) t = some (.tup [.str q.1, q.2])) ts qs := by
        intro ts qs hn h
        induction h with
        | nil => exact .nil
        | @cons t q ts qs h r ih =>
          refine .cons ?_ (ih fun z => hn (List.mem_cons_of_mem _ z))
          show (if t = p then none else H' t) = _
          rw [if_neg (fun z => hn (by rw [z]; exact List.mem_cons_self))]
          exact h
      have fin := newV.fin (K := X.K) (G := G1) (Q := Q) (Q' := liftF X.K G H Q) ss (rps_items (pr hpt hpair) (h2.ext r1.sim xx _ _)) (fun _ _ z => z.up (x1.trans xx)) (q3 ys h1 (by rw [← h2.keys]; exact hsr)) p (if_pos rfl)
      rw [hH''] at fin
      exact fin
    · exact q2.elim))⟩
end
end DL

namespace DL
open PySem PySem.Spec L2
open PyProof.Rows hiding St
/-! ### d.pop(k), k is in it -/
def popO1 (o : Option MO) (a : Addr) (k : Option Key) (G : HD) (Q : Post) : Prop := match o, k with
  | some (.dK l), some k => optP (valD l k) G fun v G1 => Q v (put G1 a (.dK (dropKD l k)))
  | _, _ => False
def popP1 (o k : D) (G : HD) (Q : Post) : Prop := match o with
  | .ref a => popO1 (G a) a (kD k) G Q
  | _ => False
def dPop1 (td tk : TD) : TD := fun W σ G Q => td W σ G fun o G1 => dictP o G1 (tk W σ G1 fun k G2 => popP1 o k G2 Q)
section
variable {X : Cx} {o e : Expr} {td tk : TD} {apos cpos : Pos}
theorem de_pop1 (ho : DE X o td) (he : DE X e tk) (m : M1 X o "pop" apos e cpos) : DE X (.Call (.Attribute o "pop" apos) [e] [] cpos) (dPop1 td tk) := ⟨fun G H σ τ W Q r q =>
  semE.of (pe_dpop1 peSem peSem m) (ho.then r q fun d x G1 H1 r1 x1 k1 q1 => by
    unfold dictP at q1
    split at q1
    · rename_i a
      obtain ⟨⟨l, hl⟩, q2⟩ := q1
      cases k1
      obtain ⟨m1, e1, _⟩ := r1.sim.dK hl
      refine ⟨a, rfl, .inl ⟨_, .inl e1⟩, he.then r1 q2 fun kd y G2 H2 r2 x2 k2 q3 => ?_⟩
      unfold popP1 popO1 at q3
      try dsimp only at q3
      split at q3
      · rename_i l2 k e2 e3
        obtain ⟨m2, h1, h2⟩ := r2.sim.dK e2
        have ey := kD_rp e3 k2
        subst ey
        rcases h2.val (k := k) with ⟨z0, y0⟩ | ⟨d2, v2, z1, z2, z3⟩
        · rw [z0] at q3; exact q3.elim
        · rw [z1] at q3
          exact ⟨m2, k, v2, h1, rfl, z2, .of (z3.ext r2.sim (.wr (m := .dK (dropKD l2 k)) e2) _ _) (r2.sim.wr (m := .dK (dropKD l2 k)) (o := .dK (dropK m2 k)) e2 ⟨_, rfl, h2.drop⟩) ((x1.trans x2).trans (.wr e2)) q3⟩
      · exact q3.elim
    · exact q1.elim)⟩
end
/-! ### d == {}, d != {} -/
def rEqE (neg : Bool) : R2 := fun x y H Q => ∃ a b ks, x = .ref a ∧ y = .ref b ∧ H a = some (.dK ks) ∧ H b = some (.dK []) ∧ Q (.bl (if neg then !ks.isEmpty else ks.isEmpty)) H
section
variable {X : Cx}
theorem op_eqE (hu : X.A.units < cLine) : OpR X (compareOp .Eq) (rEqE false) := by
  intro pins s σ H x y v u Q I rx ry h
  obtain ⟨a, b, ks, rfl, rfl, ea, eb, q⟩ := h
  obtain rfl : v = Value.ref a := rx
  obtain rfl : u = Value.ref b := ry
  obtain ⟨_, ya, va, ra, da⟩ := (show ObjOk X.prog X.w H s.heap a (.dK ks) from I.hok a _ ea)
  obtain ⟨_, yb, vb, rb, db⟩ := (show ObjOk X.prog X.w H s.heap b (.dK []) from I.hok b _ eb)
  cases rb
  have hl : va.length = ks.length := ra.length.symm
  refine PySem.W.keq_eq (knd := mixKind X.prog X.w) (r := true) ya yb da db hu (fun e => ?_) (fin_bl I q ?_)
  · have : va = [] := List.eq_nil_of_length_eq_zero e
    subst this
    exact .nil
  · cases ks <;> cases va <;> simp at hl ⊢
theorem op_neE (hu : X.A.units < cLine) : OpR X (compareOp .NotEq) (rEqE true) := by
  intro pins s σ H x y v u Q I rx ry h
  obtain ⟨a, b, ks, rfl, rfl, ea, eb, q⟩ := h
  obtain rfl : v = Value.ref a := rx
  obtain rfl : u = Value.ref b := ry
  obtain ⟨_, ya, va, ra, da⟩ := (show ObjOk X.prog X.w H s.heap a (.dK ks) from I.hok a _ ea)
  obtain ⟨_, yb, vb, rb, db⟩ := (show ObjOk X.prog X.w H s.heap b (.dK []) from I.hok b _ eb)
  cases rb
  have hl : va.length = ks.length := ra.length.symm
  refine PySem.W.keq_ne (knd := mixKind X.prog X.w) (r := true) ya yb da db hu (fun e => ?_) (fin_bl I q ?_)
  · have : va = [] := List.eq_nil_of_length_eq_zero e
    subst this
    exact .nil
  · cases ks <;> cases va <;> simp at hl ⊢
end
def dEqE (neg : Bool) (td : TD) : TD := fun W σ G Q => td W σ G fun d G1 => dicP d G1 fun l => Q (.bl (if neg then !l.isEmpty else l.isEmpty)) G1
section
variable {X : Cx} {a : Expr} {td : TD} {pos p2 : Pos}
theorem eqE_core {neg : Bool} (ha : DE X a td) {G : HD} {H : Hp} {σ : DSt} {τ : L2.St} {W : DW} {Q : Post} {Q' : VK} (r : SR X G H σ τ W) (q : dEqE neg td W σ G Q) (f : ∀ v H', liftQ X.K G H Q v H' → Q' v H') : tOp (rEqE neg) (semE X a) (semE X (.Dict [] [] p2)) τ H Q' :=
  ha.then r q fun d v G1 H1 r1 x1 k1 q1 => by
    obtain ⟨b, l, m, rfl, hG, hH, rk, q2⟩ := dic_at r1.sim k1 q1
    refine semE.of pe_dnewK fun p hp => ?_
    have hb : b ≠ p := by rintro rfl; rw [hp] at hH; cases hH
    refine ⟨b, p, m, rfl, rfl, by rw [upd_ne hb]; exact hH, upd_same, f _ _ ?_⟩
    have e : m.isEmpty = l.isEmpty := by
      have := rk.length
      cases l <;> cases m <;> simp at this ⊢
    rw [e]
    exact .of (d := .bl _) rfl (r1.sim.newO hp) (x1.trans (.new hp (r1.sim.no hp))) q2
theorem eqE_run {op : CmpOp} {neg : Bool} (ho : OpR X (compareOp op) (rEqE neg)) (ha : DE X a td) (hm : behindInMarks op (.Dict [] [] p2) = false) : DE X (.Compare a [op] [.Dict [] [] p2] pos) (dEqE neg td) :=
  ⟨fun G H σ τ W Q r q => semE.of (pe_cmpR ho peSem peSem hm) (eqE_core ha r q fun _ _ z => z)⟩
theorem eqE_runT {op : CmpOp} {neg : Bool} (ho : OpR X (compareOp op) (rEqE neg)) (ha : DE X a td) (hm : behindInMarks op (.Dict [] [] p2) = false) : DT X (.Compare a [op] [.Dict [] [] p2] pos) (dTest (dEqE neg td)) :=
  ⟨fun G H σ τ W Q r q => semT.of (pt_cmpR ho peSem peSem hm) (eqE_core ha r q fun v H' ⟨d, G', k, s, x, q'⟩ => by
    dsimp only at q'
    split at q'
    · cases k; exact ⟨_, rfl, _, s, x, q'⟩
    · exact q'.elim)⟩
theorem dt_eqE (hu : X.A.units + 64 < cLine) (ha : DE X a td) : DT X (.Compare a [.Eq] [.Dict [] [] p2] pos) (dTest (dEqE false td)) := eqE_runT (op_eqE (by omega)) ha (nomark _)
theorem dt_neE (hu : X.A.units + 64 < cLine) (ha : DE X a td) : DT X (.Compare a [.NotEq] [.Dict [] [] p2] pos) (dTest (dEqE true td)) := eqE_runT (op_neE (by omega)) ha (nomark _)
theorem de_eqE (hu : X.A.units + 64 < cLine) (ha : DE X a td) : DE X (.Compare a [.Eq] [.Dict [] [] p2] pos) (dEqE false td) := eqE_run (op_eqE (by omega)) ha (nomark _)
theorem de_neE (hu : X.A.units + 64 < cLine) (ha : DE X a td) : DE X (.Compare a [.NotEq] [.Dict [] [] p2] pos) (dEqE true td) := eqE_run (op_neE (by omega)) ha (nomark _)
end
/-! ### x in (a, b), texts -/
def inSo (neg : Bool) (o : Option (List Str)) (d : D) (G : HD) (Q : Post) : Prop := match o, d with
  | some ns, .str x => Q (.bl (if neg then !decide (x ∈ ns) else decide (x ∈ ns))) G
  | some _, .non => Q (.bl neg) G
  | _, _ => False
def dInT (neg : Bool) : D → D → HD → Post → Prop := fun d e G Q => match asQ G e with
  | some es => inSo neg (asStrs es) d G Q
  | none => False
theorem inV_strs {x : Str} : ∀ {ns : List Str}, inV (.str x) (ns.map V.str) = decide (x ∈ ns)
  | [] => rfl
  | n :: ns => by
    have h := inV_strs (x := x) (ns := ns)
    unfold inV at h ⊢
    rw [List.map_cons, List.any_cons, h]
    have e : eqV (V.str n) (V.str x) = decide (n = x) := by
      by_cases z : n = x
      · subst z; simp [eqV]
      · simp [eqV, z]
    rw [e]
    by_cases z : x = n
    · subst z; simp
    · have z' : ¬ n = x := fun q => z q.symm
      simp [z, z']
theorem inV_non : ∀ {ns : List Str}, inV .non (ns.map V.str) = false
  | [] => rfl
  | n :: ns => by
    have h := inV_non (ns := ns)
    unfold inV at h ⊢
    rw [List.map_cons, List.any_cons, h]
    rfl
theorem od_inT (K : PySem.W.Frag) (neg : Bool) : OpD K (rIn K neg) (dInT neg) := fun G H d e x y Q Q' s k1 k2 f q => by
  unfold dInT at q
  split at q
  · rename_i es e1
    unfold inSo at q
    split at q
    · rename_i ns x0 e2
      cases k1
      obtain ⟨a, vs, rfl, t, r⟩ := k2.seq s e1
      obtain rfl := asStrs_rps e2 r
      refine ⟨a, _, rfl, t, rfl, List.all_eq_true.mpr fun v hv => by obtain ⟨n, _, rfl⟩ := List.mem_map.mp hv; rfl, ?_⟩
      rw [inV_strs]
      exact f _ _ (.of (d := .bl _) rfl s .refl q)
    · rename_i ns e2
      cases k1
      obtain ⟨a, vs, rfl, t, r⟩ := k2.seq s e1
      obtain rfl := asStrs_rps e2 r
      refine ⟨a, _, rfl, t, rfl, List.all_eq_true.mpr fun v hv => by obtain ⟨n, _, rfl⟩ := List.mem_map.mp hv; rfl, ?_⟩
      rw [inV_non]
      have : (if neg = true then !false else false) = neg := by cases neg <;> rfl
      rw [this]
      exact f _ _ (.of (d := .bl _) rfl s .refl q)
    · exact q.elim
  · exact q.elim
theorem c_inT {X : Cx} : CmpR X .In (dInT false) := ⟨_, op_in_seq, od_inT X.K false⟩
theorem c_ninT {X : Cx} : CmpR X .NotIn (dInT true) := ⟨_, op_notIn_seq, od_inT X.K true⟩
/-! ### o.m(e, .., k = v, ..) -/
structure MetKw (P : Program) (w : World) (K : PySem.W.Frag) (mg : Str → Option Value) (base : Heap) (k : Nat) (m : Str) (C : Addr) (sp : SpD) (n : Nat) (ks : List Str) (is : List Nat) (dds : List D) : Prop where
  ex : ∃ (f : Addr) (fd : FuncData) (ps : List Str), Cls K C ∧ Meth K C m f ∧ FnK P w K mg base k f fd ps sp ∧ KwB K fd ps (n + 1) ks is dds ∧ ∀ ds G E Q, sp ds G E Q → ds.length = ps.length
def dMethK (C : Addr) (sp : SpD) (m : Str) (n mm : Nat) (is : List Nat) (dds : List D) (ta : TD) (ts tk : TDA) : TD := fun W σ G Q => ta W σ G fun d G1 => match d with
  | .ref a => match G1 a with
    | some (.ins C' fs) => fs.lookup m = none ∧ C' = C ∧ ts W σ G1 fun ds G2 => tk W σ G2 fun zs G3 => ds.length = n ∧ zs.length = mm ∧ sp (pickL is ((.ref a :: ds) ++ (dds ++ zs))) G3 Q fun c fs G' => W c fs σ G'
    | _ => False
  | _ => False
section
variable {X : Cx} {k j n : Nat} {C : Addr} {sp : SpD} {m : Str} {apos pos : Pos} {o e : Expr} {es : List Expr} {ta : TD} {ts tk : TDA} {dds : List D} {ks : List Str} {is : List Nat} {kws : List Keyword}
theorem runMKm {pins : List (Addr × Obj)} {s : Shared} {G : HD} {H : Hp} {σ : DSt} {τ : St} {W : DW} {Q : Post} {us ws : List Value} {vs zs : List V} {es ez : List D} {f : Addr} {fd : FuncData} {ps : List Str} (F : FnK X.prog X.w X.K X.mg X.base k f fd ps sp) (hr : RoomG k X.A) (hb : KwB X.K fd ps n ks is dds)
    (r : SR X G H σ τ W) (I : Inv X pins τ H s) (rv : Vals vs us) (rz : Vals zs ws) (rd : Rps X.K H es vs) (re : Rps X.K H ez zs) (hl : ∀ ds G E Q, sp ds G E Q → ds.length = ps.length) (h1 : es.length = n) (h2 : ez.length = ks.length)
    (h : sp (pickL is (es ++ (dds ++ ez))) G Q fun c fs G' => W c fs σ G') : wpAny (model X.prog X.w) X.A (call (.ref f) us (ks.zip ws)) (EP X pins τ (liftQ X.K G H Q)) X.xe s := by
  obtain ⟨its, dvs, hd, hdd, hto⟩ := hb.ex
  have r2 : Vals (pickL is (vs ++ (dvs ++ zs))) (pickL is (us ++ (its ++ ws))) := vals_pick (rv.append (hd.append rz)) is
  have r3 : Rps X.K H (pickL is (es ++ (dds ++ ez))) (pickL is (vs ++ (dvs ++ zs))) := rps_pick (rd.app ((hdd.rel _).app re)) is
  have l3 : (pickL is (vs ++ (dvs ++ zs))).length = ps.length := by rw [r3.length]; exact hl _ _ _ _ h
  have l4 : us.length = n := by rw [← rv.length, rd.length, h1]
  have l5 : ws.length = ks.length := by rw [← rz.length, re.length, h2]
  exact wpAny_call (codeAny_mono (runK F hr (hto s us ws I.kIn l4 l5) r I r2 r3 l3 h) fun z s' hq => by
    cases z with
    | error e => exact hq
    | ok fl => cases fl <;> first | exact hq | exact False.elim hq)
theorem de_methK {pl : Sem Bool} (F : MetKw X.prog X.w X.K X.mg X.base k m C sp n ks is dds) (hr : RoomG j X.A) (ho : DE X o ta) (ha : DA X (e :: es) ts) (hkw : DKw X kws tk) (hj : k ≤ j := by decide)
    (hall : (backToKw pos (keywordEach kws X.env)).all (·.1.isSome) = true := by rfl) (hks : (backToKw pos (keywordEach kws X.env)).filterMap (·.1) = ks := by rfl)
    (he : starEach (e :: es) X.env = (false, eval e X.env) :: starEach es X.env := by rfl) (hpl : ((backTo pos (starEach (e :: es) X.env)).any (·.1) || (backToKw pos (keywordEach kws X.env)).any (·.1.isNone)) = false := by rfl)
    (hc : eval (.Call (.Attribute o m apos) (e :: es) kws pos) X.env = (do
      let ov ← eval o X.env
      standAt apos.atName
      let (f, first) ← holding [ov] (getMethod ov m pl)
      callWith pos f first (backTo pos (starEach (e :: es) X.env)) (backToKw pos (keywordEach kws X.env))) := by rfl) :
    DE X (.Call (.Attribute o m apos) (e :: es) kws pos) (dMethK C sp m n ks.length is dds ta ts tk) := ⟨fun G H σ τ W Q r q pins s I => by
  refine PySem.W.methodCall_KW (pl := pl) (thn ((ho.run G H σ τ W _ r q) pins s I) fun u s1 ⟨x, H1, I1, rx, d, G1, k1, sm1, x1, q1⟩ => ?_) hc
  try dsimp only at q1
  split at q1
  · rename_i a
    cases k1; cases rx
    split at q1
    · rename_i C' fs eg
      obtain ⟨hno, rfl, q1⟩ := q1
      obtain ⟨f, fd, ps, hcl, hme, F1, hb, hl⟩ := F.ex
      obtain ⟨dx, l, el, rl⟩ := sm1.ins eg
      have r1 := r.ext sm1 x1
      refine getmeth_ok I1 el hcl hme (rl.lookup_none hno) ?_
      refine PySem.W.callWith_KW (first := [.ref a]) (h₀ := X.base) I.ok.mod.kin hme.kp hall (thn ((ha.run G1 H1 σ τ W _ r1 q1) pos pins s1 I1) fun us s2 ⟨vs, H2, I2, rv, es', G2, k2, sm2, x2, q2⟩ => ?_) hpl he
      have r2 := r1.ext sm2 x2
      refine thn ((hkw.run G2 H2 σ τ W _ r2 q2) pos pins s2 I2) fun ws s3 ⟨zs, H3, I3, rz, ez, G3, k3, sm3, x3, h1, h2, q3⟩ => ⟨I3.kIn, ?_⟩
      rw [hks]
      exact thn (runMKm (us := .ref a :: us) (vs := .ref a :: vs) (es := .ref a :: es') F1 (hr.mono hj) hb (r2.ext sm3 x3) I3 (.cons rfl rv) rz ⟨_, _, rfl, rfl, k2.ext sm2 x3 _ _⟩ k3 hl (by rw [List.length_cons, h1]) h2 q3) fun _ _ ⟨v, H4, I4, l4, q4⟩ => ⟨v, H4, I4, l4, q4.up (x1.trans (x2.trans x3))⟩
    · exact q1.elim
  · exact q1.elim⟩
end
/-- all parameters are told, some by their names; there are no defaults of the others -/
theorem kwb_told {K : PySem.W.Frag} {x qual : Str} {params : Arguments} {body : List Stmt} {scope : Scope} {kws : List (Str × V)} {f : Addr} {fd : FuncData} {ps : List Str} (F : L2.FunD K x qual params body scope [] kws f fd) (n : Nat) (ks : List Str) (is : List Nat)
    (h : ∀ (kV doc pm : Value) (an : Option Addr) (cdv ct : Value) (us ws : List Value), us.length = n → ws.length = ks.length → bindArgs (PySem.W.fnOf x qual params body scope .none kV doc pm an cdv ct) ⟨us, ks.zip ws⟩ = pure (ps.zip (pickL is (us ++ ws)))) : KwB K fd ps n ks is [] := by
  obtain ⟨oc, od, dV, kV, doc, pm, an, cdv, ct, osl, rfl, lk, hcd, hD, hK⟩ := F.ex
  rcases hD with ⟨_, rfl⟩ | ⟨e, _⟩
  · exact ⟨[], [], .nil, ⟨fun H => rfl⟩, fun s us ws X l1 l2 => .of_eq (by rw [List.nil_append]; exact h kV doc pm an cdv ct us ws l1 l2)⟩
  · exact absurd rfl e
/-! ### named equations -/
section
variable {G : HD} {Q : Post} {W : DW} {σ : DSt} {a : Addr} {td tk te : TD} {ts tka : TDA} {C : Addr} {sp : SpD} {m : Str} {n mm : Nat} {is : List Nat} {dds ds : List D} {l : List (Key × D)} {x y : Str} {neg : Bool} {d : D} {ti : TDI} {t : Tgt} {dt : TDT} {vs : List Nat} {f : Key → Prop} {i : Int}
theorem q_pop1 : dPop1 td tk W σ G Q = td W σ G fun o G1 => dictP o G1 (tk W σ G1 fun k G2 => popP1 o k G2 Q) := propext ⟨fun h => h, fun h => h⟩
theorem r_pop1S : popP1 (.ref a) (.str x) G Q = popO1 (G a) a (some (.inr x)) G Q := propext ⟨fun h => h, fun h => h⟩
theorem r_pop1I : popP1 (.ref a) (.int i) G Q = popO1 (G a) a (some (.inl i)) G Q := propext ⟨fun h => h, fun h => h⟩
theorem r_popO1 {k : Key} : popO1 (some (.dK l)) a (some k) G Q = optP (valD l k) G fun v G1 => Q v (put G1 a (.dK (dropKD l k))) := propext ⟨fun h => h, fun h => h⟩
theorem q_eqE : dEqE neg td W σ G Q = td W σ G fun d G1 => dicP d G1 fun l => Q (.bl (if neg then !l.isEmpty else l.isEmpty)) G1 := propext ⟨fun h => h, fun h => h⟩
theorem r_inTT : dInT neg (.str x) (.tup ds) G Q = inSo neg (asStrs ds) (.str x) G Q := propext ⟨fun h => h, fun h => h⟩
theorem r_inTN : dInT neg .non (.tup ds) G Q = inSo neg (asStrs ds) .non G Q := propext ⟨fun h => h, fun h => h⟩
theorem r_inTK : dInT neg (.str x) (.kl ds) G Q = inSo neg (asStrs ds) (.str x) G Q := propext ⟨fun h => h, fun h => h⟩
theorem r_inSo {ns : List Str} : inSo neg (some ns) (.str x) G Q = Q (.bl (if neg then !decide (x ∈ ns) else decide (x ∈ ns))) G := propext ⟨fun h => h, fun h => h⟩
theorem r_inSn {ns : List Str} : inSo neg (some ns) .non G Q = Q (.bl neg) G := propext ⟨fun h => h, fun h => h⟩
theorem q_srtI : dSrtItems te W σ G Q = te W σ G fun d G1 => dicP d G1 fun l => sitO (strItems l) G1 Q := propext ⟨fun h => h, fun h => h⟩
theorem q_dc {tv : TD} : dDc ti t dt tk tv vs W σ G Q = ti W σ G fun I G1 => I.xs.length ≤ 1000000 ∧
  dcD I.ok (fun d ky kn G' => t.put d (dwipe σ vs) fun σ2 => dt W0 σ2 G' fun b G2 => if b = true then tk W0 σ2 G2 fun kd G3 => tv W0 σ2 G3 fun y G4 => keyP kd fun k => ky k y G4 else kn G2) (fun acc G2 => newD G2 acc Q) I.xs [] G1 := propext ⟨fun h => h, fun h => h⟩
theorem r_keyS : keyP (.str x) f = f (.inr x) := propext ⟨fun h => h, fun h => h⟩
theorem r_keyI : keyP (.int i) f = f (.inl i) := propext ⟨fun h => h, fun h => h⟩
def metK (o : Option MO) (C : Addr) (m : Str) (k : Prop) : Prop := match o with
  | some (.ins C' fs) => fs.lookup m = none ∧ C' = C ∧ k
  | _ => False
def metKd (d : D) (G : HD) (C : Addr) (m : Str) (k : Addr → Prop) : Prop := match d with
  | .ref a => metK (G a) C m (k a)
  | _ => False
theorem q_methK : dMethK C sp m n mm is dds td ts tka W σ G Q = td W σ G fun d G1 => metKd d G1 C m fun a => ts W σ G1 fun ds G2 => tka W σ G2 fun zs G3 => ds.length = n ∧ zs.length = mm ∧ sp (pickL is ((.ref a :: ds) ++ (dds ++ zs))) G3 Q fun c fs G' => W c fs σ G' := by
  unfold dMethK
  congr 1
theorem r_metKd {k : Addr → Prop} : metKd (.ref a) G C m k = metK (G a) C m (k a) := propext ⟨fun h => h, fun h => h⟩
theorem r_metK {fs : List (Str × D)} {k : Prop} {C' : Addr} : metK (some (.ins C' fs)) C m k = (fs.lookup m = none ∧ C' = C ∧ k) := propext ⟨fun h => h, fun h => h⟩
end
end DL

namespace DL
open PySem PySem.Spec L2
open PyProof.Rows hiding St
/-! ### named equations of dicts -/
def itO (o : Option MO) (a : Addr) (G : HD) (R : ItD → HD → Prop) : Prop := match o with
  | some (.fz ob (.dK m) (.dK l)) => R ⟨l.map pairD, fun G => G a = some (.fz ob (.dK m) (.dK l))⟩ G
  | _ => False
def itP (d : D) (G : HD) (R : ItD → HD → Prop) : Prop := match d with
  | .ref a => itO (G a) a G R
  | _ => False
def inIq (neg : Bool) (o : Option (List D)) (i : Int) (G : HD) (Q : Post) : Prop := match o with
  | some es => inIo neg (asInts es) i G Q
  | none => False
section
variable {G : HD} {Q : Post} {W : DW} {σ : DSt} {a : Addr} {td : TD} {l : List (Key × D)} {x : Str} {neg : Bool} {z d : D} {i : Int} {R : ItD → HD → Prop} {es : List D} {ns : List Int} {k : Key}
theorem r_popS : popP (.ref a) (.str x) z G Q = popO (G a) a (some (.inr x)) z G Q := propext ⟨fun h => h, fun h => h⟩
theorem r_popI : popP (.ref a) (.int i) z G Q = popO (G a) a (some (.inl i)) z G Q := propext ⟨fun h => h, fun h => h⟩
theorem r_popO : popO (some (.dK l)) a (some k) z G Q = ((∀ v, valD l k = some v → Q v (put G a (.dK (dropKD l k)))) ∧ (valD l k = none → Q z G)) := propext ⟨fun h => h, fun h => h⟩
theorem r_sdfS : sdfP (.ref a) (.str x) z G Q = sdfO (G a) a (some (.inr x)) z G Q := propext ⟨fun h => h, fun h => h⟩
theorem r_sdfI : sdfP (.ref a) (.int i) z G Q = sdfO (G a) a (some (.inl i)) z G Q := propext ⟨fun h => h, fun h => h⟩
theorem q_items : jItems td W σ G R = td W σ G fun o G1 => itP o G1 R := propext ⟨fun h => h, fun h => h⟩
theorem r_itP : itP (.ref a) G R = itO (G a) a G R := propext ⟨fun h => h, fun h => h⟩
theorem r_itO {ob : Obj} {m : List (Key × V)} : itO (some (.fz ob (.dK m) (.dK l))) a G R = R ⟨l.map pairD, fun G => G a = some (.fz ob (.dK m) (.dK l))⟩ G := propext ⟨fun h => h, fun h => h⟩
theorem r_inIR : dInI neg (.int i) (.ref a) G Q = inIq neg (lstOf (G a)) i G Q := by
  show (match (match G a with | some (.lst ds) => some ds | _ => none) with | some es => inIo neg (asInts es) i G Q | none => False) = _
  cases G a with
  | none => rfl
  | some o => cases o <;> rfl
theorem r_lenD : lenP (lenO (some (.dK l))) G Q = Q (.int l.length) G := propext ⟨fun h => h, fun h => h⟩
theorem r_frzD : frzO (some (.dK l)) a G Q = Q (.ref a) G := propext ⟨fun h => h, fun h => h⟩
theorem r_inIq : inIq neg (some es) i G Q = inIo neg (asInts es) i G Q := propext ⟨fun h => h, fun h => h⟩
theorem r_inIo : inIo neg (some ns) i G Q = Q (.bl (if neg then !decide (i ∈ ns) else decide (i ∈ ns))) G := propext ⟨fun h => h, fun h => h⟩
end
end DL

namespace DL
open PySem PySem.Spec L2 DX
open PyProof.Rows hiding St
/-! ### == of nested things that are equal -/
/-- equal, of nesting below n -/
def EqW (K : PySem.W.Frag) (H : Hp) : Nat → V → V → Prop
  | 0 => fun _ _ => False
  | n + 1 => fun x y => (x = y ∧ flatB x = true) ∨ (∃ a, x = .ref a ∧ y = .ref a) ∨
    (∃ a b xs ys, x = .ref a ∧ y = .ref b ∧ SqL K H a xs ∧ SqL K H b ys ∧ xs.length = ys.length ∧ ∀ (i : Nat) (u v : V), xs[i]? = some u → ys[i]? = some v → EqW K H n u v) ∨
    (∃ a b xs ys, x = .ref a ∧ y = .ref b ∧ SqT K H a xs ∧ SqT K H b ys ∧ xs.length = ys.length ∧ ∀ (i : Nat) (u v : V), xs[i]? = some u → ys[i]? = some v → EqW K H n u v) ∨
    (∃ a b ks ls, x = .ref a ∧ y = .ref b ∧ Rd H a (.dK ks) ∧ Rd H b (.dK ls) ∧ ks.length = ls.length ∧ ∀ p ∈ ks, ∃ u, valV ls p.1 = some u ∧ EqW K H n p.2 u)
theorem vals_at {xs : List V} {us : List Value} (r : Vals xs us) {j : Nat} (h : j < us.length) : ∃ x, xs[j]? = some x ∧ RelV x us[j] := by
  induction r generalizing j with
  | nil => exact absurd h (Nat.not_lt_zero j)
  | @cons x u xs us h1 t ih =>
    cases j with
    | zero => exact ⟨x, rfl, h1⟩
    | succ j => exact ih (Nat.lt_of_succ_lt_succ h)
theorem kv_at {ks : List (Key × V)} {va : List (Key × Value)} (r : KV ks va) {k : Key} {v : Value} (h : (k, v) ∈ va) : ∃ x, (k, x) ∈ ks ∧ RelV x v := by
  unfold KV at r
  induction r with
  | nil => cases h
  | @cons p q ps qs h1 t ih =>
    rcases List.mem_cons.mp h with e | h
    · obtain ⟨p1, p2⟩ := p
      subst e
      have e1 : p1 = k := h1.1
      exact ⟨p2, by rw [← e1]; exact List.mem_cons_self, h1.2⟩
    · obtain ⟨x, h2, h3⟩ := ih h
      exact ⟨x, List.mem_cons_of_mem _ h2, h3⟩
theorem all_t {n : Nat} : ((List.range n).all fun _ => true) = true := List.all_eq_true.mpr fun _ _ => rfl
section
variable {X : Cx} {pins : List (Addr × Obj)} {σ : L2.St} {H : Hp} {s : Shared}
theorem hitsW {A : Around} {ks ls : List (Key × V)} {va vb : List (Key × Value)} (ra : KV ks va) (rb : KV ls vb) {F : V → V → Prop} (ih : ∀ x y v u, F x y → RelV x v → RelV y u → SeqAt.EqIn X.prog X.w A s v u true) (hp : ∀ p ∈ ks, ∃ u, valV ls p.1 = some u ∧ F p.2 u) :
    PySem.W.KeqHitsIn X.prog X.w A s vb va true ∧ (va.all fun p => (valueAt vb p.1).isSome) = true := by
  unfold KV at ra
  induction ra with
  | nil => exact ⟨.nil, rfl⟩
  | @cons p q ps qs h t k =>
    obtain ⟨h1, h2⟩ := h
    obtain ⟨u, e, f⟩ := hp p List.mem_cons_self
    have rr : RelO (some u) (valueAt vb p.1) := by rw [← e]; exact rb.val p.1
    obtain ⟨y, hy, ry⟩ := rr.some_of
    obtain ⟨key, v⟩ := q
    have h1' : p.1 = key := h1
    rw [h1'] at hy
    obtain ⟨k1, k2⟩ := k fun p' hm => hp p' (List.mem_cons_of_mem _ hm)
    refine ⟨?_, ?_⟩
    · show PySem.W.KeqHitsIn X.prog X.w A s vb ((key, v) :: qs) (true && true)
      exact .hit hy (ih _ _ _ _ f h2 ry) k1
    · rw [List.all_cons, hy, k2]; rfl
theorem eqW_run (I : Inv X pins σ H s) : ∀ (n : Nat) (A : Around), A.units + n < cLine → ∀ (x y : V) (v u : Value), EqW X.K H n x y → RelV x v → RelV y u → SeqAt.EqIn X.prog X.w A s v u true
  | 0, _, _, _, _, _, _, h, _, _ => (show False from h).elim
  | n + 1, A, hu, x, y, v, u, h, rx, ry => by
    have ihn := eqW_run I n A.in1 (by show A.units + 1 + n < cLine; omega)
    rcases h with ⟨rfl, f⟩ | ⟨a, rfl, rfl⟩ | ⟨a, b, xs, ys, rfl, rfl, ha, hb, hl, hp⟩ | ⟨a, b, xs, ys, rfl, rfl, ha, hb, hl, hp⟩ | ⟨a, b, ks, ls, rfl, rfl, ha, hb, hl, hp⟩
    · exact (eqAt_same rx ry f).inModel _ _
    · cases (show v = Value.ref a from rx)
      cases (show u = Value.ref a from ry)
      exact (SeqAt.EqAt.same _).inModel _ _
    · cases (show v = Value.ref a from rx)
      cases (show u = Value.ref b from ry)
      by_cases e : a = b
      · subst e; exact (SeqAt.EqAt.same _).inModel _ _
      · obtain ⟨us, r1, p1, _⟩ := I.list ha
        obtain ⟨ws, r2, p2, _⟩ := I.list hb
        refine SeqAt.EqIn.of_refs e fun E Q hq => SeqAt.rcIn_lists (e := fun _ => true) p1.isList p2.isList (by rw [List.size_toArray, List.size_toArray, ← r1.length, ← r2.length]; exact hl) (by omega) (fun j h1 h2 => ?_) (by rw [all_t]; exact hq)
        obtain ⟨x', e1, e2⟩ := vals_at r1 (j := j) (by simpa using h1)
        obtain ⟨y', e3, e4⟩ := vals_at r2 (j := j) (by simpa using h2)
        have := ihn x' y' _ _ (hp j x' y' e1 e3) e2 e4
        simpa using this
    · cases (show v = Value.ref a from rx)
      cases (show u = Value.ref b from ry)
      by_cases e : a = b
      · subst e; exact (SeqAt.EqAt.same _).inModel _ _
      · obtain ⟨us, r1, p1, _⟩ := I.tuple ha
        obtain ⟨ws, r2, p2, _⟩ := I.tuple hb
        have hsz : us.toArray.size = ws.toArray.size := by rw [List.size_toArray, List.size_toArray, ← r1.length, ← r2.length]; exact hl
        refine SeqAt.EqIn.of_refs e fun E Q hq => SeqAt.rcIn_tuples (e := fun _ => true) p1 p2 (by omega) (fun j h1 h2 => ?_) (by rw [all_t, hsz]; simpa using hq)
        obtain ⟨x', e1, e2⟩ := vals_at r1 (j := j) (by simpa using h1)
        obtain ⟨y', e3, e4⟩ := vals_at r2 (j := j) (by simpa using h2)
        have := ihn x' y' _ _ (hp j x' y' e1 e3) e2 e4
        simpa using this
    · cases (show v = Value.ref a from rx)
      cases (show u = Value.ref b from ry)
      by_cases e : a = b
      · subst e; exact (SeqAt.EqAt.same _).inModel _ _
      · obtain ⟨_, ya, va, ra, da⟩ := dk_rd I.hok ha
        obtain ⟨_, yb, vb, rb, db⟩ := dk_rd I.hok hb
        have e2 : va.length = vb.length := by rw [← ra.length, ← rb.length]; exact hl
        refine SeqAt.EqIn.of_refs e fun E Q hq => PySem.W.keq_eqIn (knd := mixKind X.prog X.w) (r := true) ya yb da db (by omega) (fun _ => (hitsW ra rb ihn hp).1) (by rw [e2]; simpa using hq)
/-- a != b, two dicts -/
theorem neIn {A : Around} {E Q : Value → Shared → Prop} {a b : Addr} {ka kb : List (Key × Value)} {r : Bool} (ha : (a == sysModules) = false) (hb : (b == sysModules) = false)
    (da : s.heap.DictOf (mixKind X.prog X.w) a ka) (db : s.heap.DictOf (mixKind X.prog X.w) b kb) (hu : A.units < cLine) (hits : ka.length = kb.length → PySem.W.KeqHitsIn X.prog X.w A.in1 s kb ka r) (h : Q (.bool (!(ka.length == kb.length && r))) s) :
    wpAny (model X.prog X.w) A (compareOp .NotEq (.ref a) (.ref b)) Q E s := by
  refine wpAny_richCompare_same_room (op := .NotEq) da.typeIs db.typeIs PySem.F.slot_dict_ne (wpAny_call_entry PySem.F.slot_dict_ne da.typeIs PySem.F.entry_dict_ne ?_ (PySem.F.args_dict_ne_2 _ _)) hu
  show wpAny _ _ (Builtin.Dict.dictSlotArgs "__ne__" ⟨[.ref a, .ref b], []⟩ >>= _) _ _ s
  refine wpAny_bind ?_
  unfold Builtin.Dict.dictSlotArgs
  refine wpAny_bind (wpAny_notOrdered_dict da.typeIs ?_)
  show wpAny _ _ (pure (Value.ref a, Value.ref b)) _ _ s
  refine wpAny_pure ?_
  refine wpAny_bind (wpAny_isInstance (T := "dict") db.typeIs PySem.F.sub_dict_dict ?_)
  simp only [Bool.not_true, Bool.false_eq_true, if_false]
  refine wpAny_bind (wpAny_pure (wpAny_bind (wpAny_pure ?_)))
  refine wpAny_bind (PySem.W.keq_samePairsIn ha hb da db hits ?_)
  refine wpAny_pure ⟨_, rfl, ?_, ?_⟩
  · exact fun x => nomatch x
  · simpa using h
/-- a == b of two that are equal; a != b of two dicts that are -/
def rEqT (K : PySem.W.Frag) : R2 := fun x y H Q => ∃ n, n ≤ 50 ∧ (∃ a b, x = .ref a ∧ y = .ref b) ∧ EqW K H n x y ∧ Q (.bl true) H
def rNeT (K : PySem.W.Frag) : R2 := fun x y H Q => ∃ n a b ks ls, n ≤ 50 ∧ x = .ref a ∧ y = .ref b ∧ Rd H a (.dK ks) ∧ Rd H b (.dK ls) ∧ ks.length = ls.length ∧ (∀ p ∈ ks, ∃ u, valV ls p.1 = some u ∧ EqW K H n p.2 u) ∧ Q (.bl false) H
theorem op_neT (hu : X.A.units + 64 < cLine) : OpR X (compareOp .NotEq) (rNeT X.K) := by
  intro pins s σ H x y v u Q I rx ry h
  obtain ⟨n, a, b, ks, ls, hn, rfl, rfl, ha, hb, hl, hp, q⟩ := h
  obtain rfl : v = Value.ref a := rx
  obtain rfl : u = Value.ref b := ry
  obtain ⟨_, ya, va, ra, da⟩ := dk_rd I.hok ha
  obtain ⟨_, yb, vb, rb, db⟩ := dk_rd I.hok hb
  have e2 : va.length = vb.length := by rw [← ra.length, ← rb.length]; exact hl
  refine neIn (r := true) ya yb da db (by omega) (fun _ => (hitsW ra rb (eqW_run I n X.A.in1 (by show X.A.units + 1 + n < cLine; omega)) hp).1) ?_
  rw [e2, beq_self_eq_true]
  exact ⟨.bl false, H, I, rfl, q⟩
def rEqTD (K : PySem.W.Frag) : R2 := fun x y H Q => ∃ n a b ks ls, n ≤ 50 ∧ x = .ref a ∧ y = .ref b ∧ Rd H a (.dK ks) ∧ Rd H b (.dK ls) ∧ ks.length = ls.length ∧ (∀ p ∈ ks, ∃ u, valV ls p.1 = some u ∧ EqW K H n p.2 u) ∧ Q (.bl true) H
theorem op_eqTD (hu : X.A.units + 64 < cLine) : OpR X (compareOp .Eq) (rEqTD X.K) := by
  intro pins s σ H x y v u Q I rx ry h
  obtain ⟨n, a, b, ks, ls, hn, rfl, rfl, ha, hb, hl, hp, q⟩ := h
  obtain rfl : v = Value.ref a := rx
  obtain rfl : u = Value.ref b := ry
  obtain ⟨_, ya, va, ra, da⟩ := dk_rd I.hok ha
  obtain ⟨_, yb, vb, rb, db⟩ := dk_rd I.hok hb
  have e2 : va.length = vb.length := by rw [← ra.length, ← rb.length]; exact hl
  refine PySem.W.keq_eqIn (knd := mixKind X.prog X.w) (r := true) ya yb da db (by omega) (fun _ => (hitsW ra rb (eqW_run I n X.A.in1 (by show X.A.units + 1 + n < cLine; omega)) hp).1) ?_
  rw [e2, beq_self_eq_true]
  exact ⟨.bl true, H, I, rfl, q⟩
end
/-! .. of data -/
def flatD : D → Bool
  | .non => true | .bl _ => true | .int _ => true | .str _ => true
  | _ => false
def dkAt (G : HD) (a : Addr) (l : List (Key × D)) : Prop := G a = some (.dK l) ∨ ∃ ob m, G a = some (.fz ob (.dK m) (.dK l))
def eqN (G : HD) : Nat → D → D → Prop
  | 0 => fun _ _ => False
  | n + 1 => fun d e => (d = e ∧ flatD d = true) ∨ (∃ a, d = .ref a ∧ e = .ref a) ∨
    (∃ xs ys, asL G d = some xs ∧ asL G e = some ys ∧ xs.length = ys.length ∧ ∀ (i : Nat) (u v : D), xs[i]? = some u → ys[i]? = some v → eqN G n u v) ∨
    (∃ xs ys, d = .tup xs ∧ e = .tup ys ∧ xs.length = ys.length ∧ ∀ (i : Nat) (u v : D), xs[i]? = some u → ys[i]? = some v → eqN G n u v) ∨
    (∃ a b ks ls, d = .ref a ∧ e = .ref b ∧ dkAt G a ks ∧ dkAt G b ls ∧ ks.length = ls.length ∧ ∀ p ∈ ks, ∃ u, valD ls p.1 = some u ∧ eqN G n p.2 u)
section
variable {K : PySem.W.Frag} {G : HD} {H : Hp}
theorem dkAt.rd (s : Sim K G H) {a : Addr} {l : List (Key × D)} (h : dkAt G a l) : ∃ m, Rd H a (.dK m) ∧ RKV K H l m := by
  rcases h with h | ⟨ob, m, h⟩
  · obtain ⟨m, e, r⟩ := s.dK h
    exact ⟨m, .of e, r⟩
  · obtain ⟨h1, h2⟩ := fz_at0 s h
    exact ⟨m, h1, h2⟩
theorem RKV.mem {κ : Type} : ∀ {l : List (κ × D)} {m : List (κ × V)} {p : κ × V}, RKV K H l m → p ∈ m → ∃ d, (p.1, d) ∈ l ∧ Rp K H d p.2
  | [], _, _, h, hm => by cases h; cases hm
  | q :: l, _, p, h, hm => by
    obtain ⟨v, r, rfl, h1, h2⟩ := h
    rcases List.mem_cons.mp hm with rfl | hm
    · exact ⟨q.2, List.mem_cons_self, h1⟩
    · obtain ⟨d, h3, h4⟩ := RKV.mem h2 hm
      exact ⟨d, List.mem_cons_of_mem _ h3, h4⟩
theorem rps_at {ds : List D} {vs : List V} (r : Rps K H ds vs) {i : Nat} {u : V} (h : vs[i]? = some u) : ∃ d, ds[i]? = some d ∧ Rp K H d u := by
  induction ds generalizing vs i with
  | nil => cases r; simp at h
  | cons d ds ih =>
    obtain ⟨v, w, rfl, h1, h2⟩ := r
    cases i with
    | zero => cases h; exact ⟨d, rfl, h1⟩
    | succ i => exact ih h2 h
theorem eqN_pairs {n : Nat} (s : Sim K G H) (ih : ∀ d e x y, eqN G n d e → Rp K H d x → Rp K H e y → EqW K H n x y) {ks ls : List (Key × D)} {ma mb : List (Key × V)} (ra : RKV K H ks ma) (rb : RKV K H ls mb) (hp : ∀ p ∈ ks, ∃ u, valD ls p.1 = some u ∧ eqN G n p.2 u) :
    ∀ p ∈ ma, ∃ u, valV mb p.1 = some u ∧ EqW K H n p.2 u := fun p hm => by
  obtain ⟨d, h1, h2⟩ := RKV.mem ra hm
  obtain ⟨u, h3, h4⟩ := hp _ h1
  rcases rb.val (k := p.1) with ⟨z, _⟩ | ⟨d2, v2, z1, z2, z3⟩
  · rw [z] at h3; cases h3
  · rw [z1] at h3; cases h3
    exact ⟨v2, z2, ih _ _ _ _ h4 h2 z3⟩
theorem eqN_run (s : Sim K G H) : ∀ (n : Nat) (d e : D) (x y : V), eqN G n d e → Rp K H d x → Rp K H e y → EqW K H n x y
  | 0, _, _, _, _, h, _, _ => (show False from h).elim
  | n + 1, d, e, x, y, h, rx, ry => by
    have ihn := eqN_run s n
    rcases h with ⟨rfl, f⟩ | ⟨a, rfl, rfl⟩ | ⟨xs, ys, e1, e2, hl, hp⟩ | ⟨xs, ys, rfl, rfl, hl, hp⟩ | ⟨a, b, ks, ls, rfl, rfl, ha, hb, hl, hp⟩
    · refine .inl ?_
      cases d with
      | non => cases rx; cases ry; exact ⟨rfl, rfl⟩
      | bl b => cases rx; cases ry; exact ⟨rfl, rfl⟩
      | int b => cases rx; cases ry; exact ⟨rfl, rfl⟩
      | str b => cases rx; cases ry; exact ⟨rfl, rfl⟩
      | _ => cases f
    · cases rx; cases ry; exact .inr (.inl ⟨a, rfl, rfl⟩)
    · obtain ⟨a, vs, rfl, t1, r1⟩ := rx.lst s e1
      obtain ⟨b, us, rfl, t2, r2⟩ := ry.lst s e2
      refine .inr (.inr (.inl ⟨a, b, vs, us, rfl, rfl, t1, t2, by rw [r1.length, r2.length]; exact hl, fun i u v hu hv => ?_⟩))
      obtain ⟨d1, q1, q2⟩ := rps_at r1 hu
      obtain ⟨d2, q3, q4⟩ := rps_at r2 hv
      exact ihn _ _ _ _ (hp i d1 d2 q1 q3) q2 q4
    · obtain ⟨a, vs, rfl, t1, r1⟩ := rx
      obtain ⟨b, us, rfl, t2, r2⟩ := ry
      refine .inr (.inr (.inr (.inl ⟨a, b, vs, us, rfl, rfl, t1, t2, by rw [r1.length, r2.length]; exact hl, fun i u v hu hv => ?_⟩)))
      obtain ⟨d1, q1, q2⟩ := rps_at r1 hu
      obtain ⟨d2, q3, q4⟩ := rps_at r2 hv
      exact ihn _ _ _ _ (hp i d1 d2 q1 q3) q2 q4
    · cases rx; cases ry
      obtain ⟨ma, q1, q2⟩ := ha.rd s
      obtain ⟨mb, q3, q4⟩ := hb.rd s
      exact .inr (.inr (.inr (.inr ⟨a, b, ma, mb, rfl, rfl, q1, q3, by rw [q2.len, q4.len]; exact hl, eqN_pairs s ihn q2 q4 hp⟩)))
end
/-- d == e, d != e of two dicts that are equal -/
def eqDic (G : HD) (d e : D) : Prop := ∃ n a b ks ls, n ≤ 50 ∧ d = .ref a ∧ e = .ref b ∧ dkAt G a ks ∧ dkAt G b ls ∧ ks.length = ls.length ∧ ∀ p ∈ ks, ∃ u, valD ls p.1 = some u ∧ eqN G n p.2 u
def dEqT (neg : Bool) : D → D → HD → Post → Prop := fun d e G Q => eqDic G d e ∧ Q (.bl (!neg)) G
theorem od_eqT (K : PySem.W.Frag) : OpD K (rEqTD K) (dEqT false) := fun G H d e x y Q Q' s k1 k2 f q => by
  obtain ⟨⟨n, a, b, ks, ls, hn, rfl, rfl, ha, hb, hl, hp⟩, q⟩ := q
  cases k1; cases k2
  obtain ⟨ma, q1, q2⟩ := ha.rd s
  obtain ⟨mb, q3, q4⟩ := hb.rd s
  exact ⟨n, a, b, ma, mb, hn, rfl, rfl, q1, q3, by rw [q2.len, q4.len]; exact hl, eqN_pairs s (eqN_run s n) q2 q4 hp, f _ _ (.of (d := .bl true) rfl s .refl q)⟩
theorem od_neT (K : PySem.W.Frag) : OpD K (rNeT K) (dEqT true) := fun G H d e x y Q Q' s k1 k2 f q => by
  obtain ⟨⟨n, a, b, ks, ls, hn, rfl, rfl, ha, hb, hl, hp⟩, q⟩ := q
  cases k1; cases k2
  obtain ⟨ma, q1, q2⟩ := ha.rd s
  obtain ⟨mb, q3, q4⟩ := hb.rd s
  exact ⟨n, a, b, ma, mb, hn, rfl, rfl, q1, q3, by rw [q2.len, q4.len]; exact hl, eqN_pairs s (eqN_run s n) q2 q4 hp, f _ _ (.of (d := .bl false) rfl s .refl q)⟩
theorem c_eqT {X : Cx} (hu : X.A.units + 64 < cLine) : CmpR X .Eq (dEqT false) := ⟨_, op_eqTD hu, od_eqT X.K⟩
theorem c_neT {X : Cx} (hu : X.A.units + 64 < cLine) : CmpR X .NotEq (dEqT true) := ⟨_, op_neT hu, od_neT X.K⟩
/-! ### list(d.items()), by value -/
def dLstItems (te : TD) : TD := fun W σ G Q => te W σ G fun d G1 => dicP d G1 fun l => Q (.kl (l.map pairD)) G1
section
variable {X : Cx} {e : Expr} {te : TD} {p apos cpos pos : Pos}
theorem rps_pairs {K : PySem.W.Frag} {H : Hp} : ∀ {ts : List Addr} {m : List (Key × V)} {l : List (Key × D)}, Paired (fun (t : Addr) (q : Key × V) => H t = some (.tup [kV q.1, q.2])) ts m → RKV K H l m → Rps K H (l.map pairD) (ts.map V.ref)
  | _, _, [], .nil, h => rfl
  | _, _, y :: ys, .nil, h => by obtain ⟨_, _, e, _⟩ := h; cases e
  | _, _, [], .cons p r, h => by cases h
  | _, _, y :: ys, .cons p r, h => by
    obtain ⟨v, t, e, h1, h2⟩ := h
    cases e
    exact ⟨_, _, rfl, ⟨_, _, rfl, .of p, _, _, rfl, kDi_rp y.1, _, _, rfl, h1, rfl⟩, rps_pairs r h2⟩
theorem de_lstItems (hc : X.calm = true) (hm : X.mg "list" = none) (he : DE X e te) (hg : Gl X "list" := by rfl) (hbase : attributeBase e "items" X.env (eval e X.env) = eval e X.env := by rfl) (hline : (apos.endLine == cpos.line) = true := by rfl)
    (hs : starEach [.Call (.Attribute e "items" apos) [] [] cpos] X.env = (false, eval (.Call (.Attribute e "items" apos) [] [] cpos) X.env) :: starEach [] X.env := by rfl) :
    DE X (.Call (.Name "list" p) [.Call (.Attribute e "items" apos) [] [] cpos] [] pos) (dLstItems te) :=
  ⟨fun G H σ τ W Q r0 q => semE.frz (semE.of (LiI.pe_listItems hc peSem hg hm (by decide +kernel) hbase hline hs) (he.then r0 q fun d v G1 H1 r1 x1 k1 q1 => by
    obtain ⟨a, l, m, rfl, hG, hH, rk, q2⟩ := dic_at r1.sim k1 q1
    refine ⟨a, m, rfl, hH, fun H' p ts kp hp ht hpt hat hpair => ?_⟩
    have hH'' : upd (fun b => if b = p then none else H' b) p (.lst (ts.map V.ref)) = H' := by
      funext b
      by_cases hb : b = p
      · subst hb; rw [upd_same, hat]
      · rw [upd_ne hb]; exact if_neg hb
    have xx : Ext G1 H1 G1 (fun b => if b = p then none else H' b) := fun b o ga ha => by
      have hb : b ≠ p := by rintro rfl; rw [hp] at ha; cases ha
      exact ⟨by show (if b = p then none else H' b) = some o; rw [if_neg hb]; exact kp b o ha, ga⟩
    have ss : Sim X.K G1 (fun b => if b = p then none else H' b) := fun b o ea => by
      obtain ⟨o', e1, r⟩ := r1.sim b o ea
      have hb : b ≠ p := by rintro rfl; rw [hp] at e1; cases e1
      exact ⟨o', by show (if b = p then none else H' b) = some o'; rw [if_neg hb]; exact kp b o' e1, r.ext r1.sim xx _ _⟩
    have pr : ∀ {ts : List Addr} {qs : List (Key × V)}, p ∉ ts → Paired (fun (t : Addr) (q : Key × V) => H' t = some (.tup [kV q.1, q.2])) ts qs → Paired (fun (t : Addr) (q : Key × V) => (fun b => if b = p then none else H' b) t = some (.tup [kV q.1, q.2])) ts qs := by
      intro ts qs hn h
      induction h with
      | nil => exact .nil
      | @cons t q ts qs h r ih =>
        refine .cons ?_ (ih fun z => hn (List.mem_cons_of_mem _ z))
        show (if t = p then none else H' t) = _
        rw [if_neg (fun z => hn (by rw [z]; exact List.mem_cons_self))]
        exact h
    have fin := newV.fin (K := X.K) (G := G1) (Q := Q) (Q' := liftF X.K G H Q) ss (rps_pairs (pr hpt hpair) (rk.ext r1.sim xx _ _)) (fun _ _ z => z.up (x1.trans xx)) q2 p (if_pos rfl)
    rw [hH''] at fin
    exact fin))⟩
end
/-! ### X(e, ..), an exception as a value -/
section
variable {X : Cx}
theorem pe_mk {e : Expr} {t : L2.St → Hp → XK → Prop} (h : PMk X e t) : PE X e (fun σ H Q => t σ H fun cls d H' => ∃ C, cls = .ref C ∧ ∀ a, H' a = none → Q (.ref a) (upd H' a (ExV C d a))) :=
  ⟨fun pins s σ H Q I q => thn (h pins s σ H _ I q) fun u s' ⟨a, oe, vs, sI, H', cls, d, hu, J, kp, new, ha, hz, hd, _, na, ho, hb, _, C, hC, q'⟩ => by
    subst hC
    have J1 := J.kept (h' := s'.heap) (t' := s'.toks) kp
    have J2 : Inv X pins σ H' s' := ⟨J1.ok, (ho ▸ J1.os), hb, J1.base, J1.loc, J1.cell, J1.free, J1.freeC, J1.pin, J1.hok, J1.len⟩
    exact ⟨.ref a, _, track J new J2 ha hz hd na, hu, q' a na⟩⟩
def dMkX (C : Addr) (fs : List Str) (ts : TDA) : TD := fun W σ G Q => ts W σ G fun ds G1 => ds.length = fs.length ∧ Q (.exc C ((fs.zip ds).reverse.map (·.1)) ((fs.zip ds).reverse.map (·.2))) G1
theorem rkv_split {K : PySem.W.Frag} {H : Hp} : ∀ {l : List (Str × D)} {m : List (Str × V)}, RKV K H l m → Rps K H (l.map (·.2)) (m.map (·.2)) ∧ (l.map (·.1)).zip (m.map (·.2)) = m
  | [], _, h => by cases h; exact ⟨rfl, rfl⟩
  | p :: l, _, h => by
    obtain ⟨v, r, rfl, h1, h2⟩ := h
    obtain ⟨h3, h4⟩ := rkv_split h2
    exact ⟨⟨v, _, rfl, h1, h3⟩, by simp only [List.map_cons, List.zip_cons_cons, h4]⟩
theorem de_mkX {k j : Nat} {x : Str} {C : Addr} {fs : List Str} {e : Expr} {es : List Expr} {ts : TDA} {p pos : Pos} (R : RaiseI X.prog X.w X.K X.mg X.base k x C fs) (hr : RoomG j X.A) (ha : DA X (e :: es) ts) (hj : k + 1 ≤ j := by decide) (hz : fs.length ≤ 1000 := by decide) (hg : Gl X x := by rfl)
    (hdb : (x == ("__debug__" : Str)) = false := by decide) (he : starEach (e :: es) X.env = (false, eval e X.env) :: starEach es X.env := by rfl) (hpl : (backTo pos (starEach es X.env)).any (·.1) = false := by rfl) :
    DE X (.Call (.Name x p) (e :: es) [] pos) (dMkX C fs ts) :=
  ⟨fun G H σ τ W Q r q => semE.of (pe_mk (pmkB R hr hj hg paSem hz hdb he hpl)) (ha.then r q fun ds vs G1 H1 r1 x1 k1 q1 => by
    refine ⟨k1.length.trans q1.1, fun d hd => ⟨C, rfl, fun a hna => ?_⟩⟩
    have xx : Ext G1 H1 G1 (upd H1 d (.xd (fs.zip vs).reverse)) := .new hd (r1.sim.no hd)
    have s2 := r1.sim.newO (o := .xd (fs.zip vs).reverse) hd
    have xy : Ext G1 (upd H1 d (.xd (fs.zip vs).reverse)) G1 (upd (upd H1 d (.xd (fs.zip vs).reverse)) a (ExV C (some d) a)) := .new hna (s2.no hna)
    have hda : d ≠ a := by rintro rfl; rw [upd_same] at hna; cases hna
    have rz := (((RKV.zip (ns := fs) k1).rev).ext r1.sim xx _ _).ext s2 xy _ _
    obtain ⟨z1, z2⟩ := rkv_split rz
    exact .of (d := .exc C _ _) ⟨a, some d, _, rfl, upd_same, by rw [List.length_map, List.length_map], .inr ⟨d, rfl, by rw [upd_ne hda, upd_same, z2]⟩, z1⟩ (s2.newO hna) (x1.trans (xx.trans xy)) q1.2)⟩
theorem q_mkX {W : DW} {σ : DSt} {G : HD} {Q : Post} {C : Addr} {fs : List Str} {ts : TDA} : dMkX C fs ts W σ G Q = ts W σ G fun ds G1 => ds.length = fs.length ∧ Q (.exc C ((fs.zip ds).reverse.map (·.1)) ((fs.zip ds).reverse.map (·.2))) G1 := propext ⟨fun h => h, fun h => h⟩
theorem q_lstI {W : DW} {σ : DSt} {G : HD} {Q : Post} {te : TD} : dLstItems te W σ G Q = te W σ G fun d G1 => dicP d G1 fun l => Q (.kl (l.map pairD)) G1 := propext ⟨fun h => h, fun h => h⟩
end
/-! ### list(range(n)), by value -/
def lrgP (d : D) (G : HD) (Q : Post) : Prop := match d with
  | .int n => -1000000 ≤ n ∧ n ≤ 1000000 ∧ Q (.kl (intsD 0 n.toNat)) G
  | _ => False
def dLstRg (te : TD) : TD := fun W σ G Q => te W σ G fun d G1 => lrgP d G1 Q
theorem rps_rg {K : PySem.W.Frag} {H : Hp} {n : Int} : Rps K H (intsD 0 n.toNat) (rgV 0 n) := by
  have e1 : intsD 0 n.toNat = ((List.range n.toNat).map fun i : Nat => (0 : Int) + (i : Nat)).map D.int := by rw [List.map_map]; rfl
  have e2 : rgV 0 n = ((List.range n.toNat).map fun i : Nat => (0 : Int) + (i : Nat)).map V.int := by
    unfold rgV
    rw [List.map_map, Int.sub_zero]; rfl
  rw [e1, e2]
  exact Rps.ofInts _
theorem de_lstRg {X : Cx} {e : Expr} {te : TD} {p p2 pos pos2 : Pos} (hc : X.calm = true) (hm : X.mg "list" = none) (hm2 : X.mg "range" = none) (he : DE X e te) (hg : Gl X "list" := by rfl) (hg2 : Gl X "range" := by rfl) (na2 : starEach [e] X.env = (false, eval e X.env) :: starEach [] X.env := by rfl)
    (na : starEach [.Call (.Name "range" p2) [e] [] pos2] X.env = (false, eval (.Call (.Name "range" p2) [e] [] pos2) X.env) :: starEach [] X.env := by rfl) :
    DE X (.Call (.Name "list" p) [.Call (.Name "range" p2) [e] [] pos2] [] pos) (dLstRg te) :=
  ⟨fun G H σ τ W Q r0 q => semE.frz (semE.of (pe_listRg hc hg hm (prg_1 hg2 hm2 peSem na2) na) (he.then r0 q fun d v G1 H1 r1 x1 k1 q1 => by
    unfold lrgP at q1
    split at q1
    · rename_i n
      cases k1
      refine ⟨n, rfl, ?_, fun p hp => ?_⟩
      · exact ⟨by omega, by omega, by omega, by omega, by omega⟩
      · exact newV.fin (K := X.K) (G := G1) (Q := Q) (Q' := liftF X.K G H Q) r1.sim rps_rg (fun _ _ z => z.up x1) q1.2.2 p hp
    · exact q1.elim))⟩
section
variable {G : HD} {Q : Post} {W : DW} {σ : DSt} {te : TD} {n : Int}
theorem q_lstRg : dLstRg te W σ G Q = te W σ G fun d G1 => lrgP d G1 Q := propext ⟨fun h => h, fun h => h⟩
theorem r_lrg : lrgP (.int n) G Q = (-1000000 ≤ n ∧ n ≤ 1000000 ∧ Q (.kl (intsD 0 n.toNat)) G) := propext ⟨fun h => h, fun h => h⟩
end
/-! ### two that read alike are equal -/
theorem mapM_lay {G : HD} {n : Nat} (ih : ∀ d p, pyD n G d = some p → p.canLay0 = true) : ∀ {ds : List D} {ps : List PyData}, ds.mapM (pyD n G) = some ps → PyData.canLayAll0 ps = true
  | [], ps, h => by
    simp only [List.mapM_nil, Option.pure_def, Option.some.injEq] at h
    subst h; simp only [PyData.canLayAll0]
  | d :: ds, ps, h => by
    obtain ⟨y, zs, e1, e2, rfl⟩ := mapM_cons_some h
    simp only [PyData.canLayAll0, ih d y e1, mapM_lay ih e2, Bool.and_self]
theorem pyD_lay {G : HD} : ∀ (n : Nat) (d : D) (p : PyData), pyD n G d = some p → p.canLay0 = true
  | 0, _, _, h => by cases h
  | n + 1, d, p, h => by
    unfold pyD at h
    cases d with
    | non => cases h; simp only [PyData.canLay0]
    | bl b => cases h; simp only [PyData.canLay0]
    | int i => cases h; simp only [PyData.canLay0]
    | str x =>
      simp only at h
      split at h
      · rename_i hx; cases h; simp only [PyData.canLay0, hx]
      · cases h
    | ty _ => cases h
    | tup ds => simp only [Option.map_eq_some_iff] at h; obtain ⟨ps, e, rfl⟩ := h; simp only [PyData.canLay0, mapM_lay (pyD_lay n) e]
    | kl ds => simp only [Option.map_eq_some_iff] at h; obtain ⟨ps, e, rfl⟩ := h; simp only [PyData.canLay0, mapM_lay (pyD_lay n) e]
    | kc ds => simp only [Option.map_eq_some_iff] at h; obtain ⟨ps, e, rfl⟩ := h; simp only [PyData.canLay0, mapM_lay (pyD_lay n) e]
    | exc _ _ _ => cases h
    | emp => cases h
    | ref a =>
      simp only at h
      split at h
      · simp only [Option.map_eq_some_iff] at h; obtain ⟨ps, e, rfl⟩ := h; simp only [PyData.canLay0, mapM_lay (pyD_lay n) e]
      · cases h
section
variable {G : HD} {Q : Post} {d e : D} {neg : Bool}
theorem eqO_same {p : PyData} (h1 : pyD 9 G d = some p) (h2 : pyD 9 G e = some p) : eqO G d e = some true := by
  unfold eqO
  rw [h1, h2]
  show some (PyData.eqv p p) = some true
  rw [PySem.SeqAt.eqv_refl _ (pyD_lay 9 d p h1)]
theorem i_eqP {p : PyData} (h1 : pyD 9 G d = some p) (h2 : pyD 9 G e = some p) (hs : ∀ x, d ≠ .str x) (q : Q (.bl (!neg)) G) : dEqX neg d e G Q :=
  i_eqXO (eqO_same h1 h2) hs (by cases neg <;> exact q)
/-- data equal to itself -/
theorem i_eqS (h : pureD 9 d = true) (hs : ∀ x, d ≠ .str x) (q : Q (.bl (!neg)) G) : dEqX neg d d G Q := i_eqP (pyD_pure 9 d h) (pyD_pure 9 d h) hs q
theorem pyD_lst' {n : Nat} {p : Addr} {ds : List D} (h : G p = some (.lst ds)) : pyD (n + 1) G (.ref p) = pyD (n + 1) G (.kl ds) := by
  show (match G p with | some (.lst ds) => (ds.mapM (pyD n G)).map PyData.list | _ => none) = _
  rw [h]; rfl
theorem pyD_tup2 {n : Nat} {a b c f : D} (h1 : pyD n G a = pyD n G c) (h2 : pyD n G b = pyD n G f) : pyD (n + 1) G (.tup [a, b]) = pyD (n + 1) G (.tup [c, f]) := by
  show (List.mapM (pyD n G) [a, b]).map PyData.tuple = (List.mapM (pyD n G) [c, f]).map PyData.tuple
  simp only [List.mapM_cons, List.mapM_nil, h1, h2]
end
end DL

namespace DL
open PySem PySem.Spec L2
open PyProof.Rows hiding St
/-! ### d.update(e), both dicts -/
def tDUpd (td te : TE) : TE := fun σ H Q => td σ H fun x H1 => ∃ a, x = .ref a ∧ IsD H1 a ∧ te σ H1 fun y H2 => ∃ b ks ls, y = .ref b ∧ H2 a = some (.dK ks) ∧ H2 b = some (.dK ls) ∧ a ≠ b ∧ ks.length + ls.length ≤ sizeLine ∧ Q .non (upd H2 a (.dK (mergeK ks ls)))
def mergeKD (l m : List (Key × D)) : List (Key × D) := m.foldl (fun acc p => putKD acc p.1 p.2) l
def updO (o1 o2 : Option MO) (a : Addr) (G : HD) (Q : Post) : Prop := match o1, o2 with
  | some (.dK l), some (.dK m) => l.length + m.length ≤ 1000000 ∧ Q .non (put G a (.dK (mergeKD l m)))
  | _, _ => False
def updP (o z : D) (G : HD) (Q : Post) : Prop := match o, z with
  | .ref a, .ref b => a ≠ b ∧ updO (G a) (G b) a G Q
  | _, _ => False
def dUpd (td te : TD) : TD := fun W σ G Q => td W σ G fun o G1 => dictP o G1 (te W σ G1 fun z G2 => updP o z G2 Q)
section
variable {X : Cx} {o e : Expr} {apos cpos : Pos}
theorem pe_dupd {td te : TE} (ho : PE X o td) (he : PE X e te) (m : M1 X o "update" apos e cpos) : PE X (.Call (.Attribute o "update" apos) [e] [] cpos) (tDUpd td te) := by
  refine ⟨fun pins s σ H Q I h => ?_⟩
  refine wpAny_Call_method m.base m.few m.line PySem.F.plainAttrs_dict PySem.F.slot_dict_update PySem.F.type_dict_update (thn (ho.run pins s σ H _ I h) fun u s1 ⟨x, H1, I1, rx, a, ex, d, q1⟩ => ?_)
  subst ex
  obtain rfl : u = Value.ref a := rx
  obtain ⟨t1, t2, _⟩ := isD_at I1 d
  refine ⟨t1, t2, ?_⟩
  rw [m.trees]
  refine Calls.callWith_builtin rfl (Calls.evalArgs_plain (Calls.spliced_cons (thn (he.run pins s1 σ H1 _ I1 q1) fun iv s2 ⟨y, H2, I2, ry, b, ks, ls, ey, ea, eb, hne, hz, q2⟩ => Calls.spliced_nil ?_)))
  subst ey
  obtain rfl : iv = Value.ref b := ry
  obtain ⟨za, ha, va, ra, da⟩ := dk_of I2.hok ea
  obtain ⟨zb, hb, vb, rb, db⟩ := dk_of I2.hok eb
  refine call_meetsIn PySem.F.slot_dict_update da.typeIs PySem.F.entry_dict_update (PySem.F.args_dict_update_2 _ _) (meets_dict_update (mixKind X.prog X.w) a b hne hb) ⟨va, vb, da, db, by rw [← ra.length, ← rb.length]; exact hz, fun h' da' db' hs => ⟨.non, _, ?_, rfl, q2⟩⟩
  have he : ∃ q, h'.get? a = some q := let ⟨q, _, _, hq, _⟩ := da'; ⟨q, hq⟩
  exact d_write (t' := s2.toks) I2 (by rw [ea]; exact True.intro) hs he (dk_new (Nat.le_trans (length_mergeK ls ks) hz) ha (rb.merge ra) da')
theorem RKV.merge {K : PySem.W.Frag} {H : Hp} {m : List (Key × D)} : ∀ {mv : List (Key × V)} {l : List (Key × D)} {lv : List (Key × V)}, RKV K H m mv → RKV K H l lv → RKV K H (mergeKD l m) (mergeK lv mv) := by
  induction m with
  | nil => intro mv l lv h h0; cases h; exact h0
  | cons p m ih =>
    intro mv l lv h h0
    obtain ⟨v, r, rfl, h1, h2⟩ := h
    show RKV K H (mergeKD (putKD l p.1 p.2) m) (mergeK (putK lv p.1 v) r)
    exact ih (mv := r) h2 (h0.putK2 h1)
theorem de_upd {td te : TD} (ho : DE X o td) (he : DE X e te) (m : M1 X o "update" apos e cpos) : DE X (.Call (.Attribute o "update" apos) [e] [] cpos) (dUpd td te) := ⟨fun G H σ τ W Q r q =>
  semE.of (pe_dupd peSem peSem m) (ho.then r q fun d x G1 H1 r1 x1 k1 q1 => by
    unfold dictP at q1
    split at q1
    · rename_i a
      obtain ⟨⟨l, hl⟩, q2⟩ := q1
      cases k1
      obtain ⟨m1, e1, _⟩ := r1.sim.dK hl
      refine ⟨a, rfl, .inl ⟨_, .inl e1⟩, he.then r1 q2 fun z y G2 H2 r2 x2 k2 q3 => ?_⟩
      unfold updP at q3
      split at q3
      · rename_i a' b ea
        cases ea
        cases k2
        obtain ⟨hne, q4⟩ := q3
        unfold updO at q4
        split at q4
        · rename_i l2 m2 e2 e3
          obtain ⟨lv, h1, h2⟩ := r2.sim.dK e2
          obtain ⟨mv, h3, h4⟩ := r2.sim.dK e3
          refine ⟨b, lv, mv, rfl, h1, h3, hne, by rw [h2.len, h4.len, sizeLine_eq]; omega, ?_⟩
          exact .of (d := .non) rfl (r2.sim.wr (m := .dK (mergeKD l2 m2)) (o := .dK (mergeK lv mv)) e2 ⟨_, rfl, h4.merge h2⟩) ((x1.trans x2).trans (.wr e2)) q4.2
        · exact q4.elim
      · exact q3.elim
    · exact q1.elim)⟩
end
section
variable {G : HD} {Q : Post} {W : DW} {σ : DSt} {td te : TD} {a b : Addr} {l m : List (Key × D)}
theorem q_upd : dUpd td te W σ G Q = td W σ G fun o G1 => dictP o G1 (te W σ G1 fun z G2 => updP o z G2 Q) := propext ⟨fun h => h, fun h => h⟩
theorem r_updP : updP (.ref a) (.ref b) G Q = (a ≠ b ∧ updO (G a) (G b) a G Q) := propext ⟨fun h => h, fun h => h⟩
theorem r_updO : updO (some (.dK l)) (some (.dK m)) a G Q = (l.length + m.length ≤ 1000000 ∧ Q .non (put G a (.dK (mergeKD l m)))) := propext ⟨fun h => h, fun h => h⟩
end
/-! ### xs[::-1], by value -/
def revO (o : Option (List D)) (G : HD) (Q : Post) : Prop := match o with
  | some xs => Q (.kl xs.reverse) G
  | none => False
def dRevV (te : TD) : TD := fun W σ G Q => te W σ G fun d G1 => revO (asL G1 d) G1 Q
theorem rps_rev {K : PySem.W.Frag} {H : Hp} {ds : List D} : ∀ {vs : List V}, Rps K H ds vs → Rps K H ds.reverse vs.reverse := by
  induction ds with
  | nil => intro vs h; cases h; exact rfl
  | cons d ds ih =>
    intro vs h
    obtain ⟨v, r, rfl, h1, h2⟩ := h
    rw [List.reverse_cons, List.reverse_cons]
    exact (ih h2).app ⟨v, [], rfl, h1, rfl⟩
theorem de_revV {X : Cx} {e : Expr} {te : TD} {k : Nat} {p1 p2 p3 pos : Pos} (he : DE X e te) : DE X (.Subscript e (.Slice none none (some (.UnaryOp .USub (.Constant (.int 1) k p1) p2)) p3) pos) (dRevV te) :=
  ⟨fun G H σ τ W Q r0 q => semE.frz (semE.of (pe_revL peSem) (he.then r0 q fun d v G1 H1 r1 x1 k1 q1 => by
    unfold revO at q1
    split at q1
    · rename_i xs ex
      obtain ⟨a, vs, rfl, t1, rr⟩ := k1.lst r1.sim ex
      exact ⟨a, vs, rfl, t1, fun p hp => newV.fin (K := X.K) (G := G1) (Q := Q) (Q' := liftF X.K G H Q) r1.sim (rps_rev rr) (fun _ _ z => z.up x1) q1 p hp⟩
    · exact q1.elim))⟩
section
variable {G : HD} {Q : Post} {W : DW} {σ : DSt} {te : TD} {a : Addr} {xs : List D}
theorem q_revV : dRevV te W σ G Q = te W σ G fun d G1 => revO (asL G1 d) G1 Q := propext ⟨fun h => h, fun h => h⟩
theorem r_asLK : asL G (.kl xs) = some xs := rfl
theorem r_revO : revO (some xs) G Q = Q (.kl xs.reverse) G := propext ⟨fun h => h, fun h => h⟩
end
end DL


namespace P
open PySem PySem.Spec L2 DL
/-! ### the addresses that the top gives -/
structure Env where
  C_Holds : Addr
  C_Off : Addr
  xm : Value → Value → Bool → Prop
  xf : Addr → Str → Prop
  ec : Addr → Value → Bool → Prop
  ok : Addr → Str → Prop
  ic : String ⊕ Addr → String ⊕ Addr → Bool → Prop
/-- what holds of them -/
structure Env.Good (e : Env) : Prop where
  triv : True
  ok_Holds_ages : e.ok e.C_Holds "ages"
  ok_Holds_asked : e.ok e.C_Holds "asked"
  ok_Holds_by_key : e.ok e.C_Holds "by_key"
  ok_Holds_fast : e.ok e.C_Holds "fast"
  ok_Holds_lost : e.ok e.C_Holds "lost"
  xm_Off_Off : e.xm (.ref e.C_Off) (.ref e.C_Off) true
  xf_Off_dealing : e.xf e.C_Off "dealing"
/-! ### what each def does -/
-- _law_bag: slots 0 _law_script, 1 _law_k, 2 _law_cell, 3 _law_great,
def w_law_bag (e : Env) : SpD := wpf 2 2
    (sSeq (sSet 2 (dC (.int 0)))
    (sSeqJ (sIf (dTest (dOp dLtD (dVar 1) (dCB rLen (dCons (dVar 0) (dNil)))))
    (sSet 2 (dOp dIx (dVar 0) (dVar 1)))
    (sNext))
    (sSeq (sSet 3 (dC (.int 0)))
    (sSeqJ (sIf (dTest (dOp (dCmpI fun i j => decide (j ≤ i)) (dVar 2) (dOp dPow (dC (.int 10)) (dC (.int 18)))))
    (sSet 3 (dVar 2))
    (sNext))
    (sRet (dLst (dCons (dVar 3) (dCons (dOp dMod (dOp dPow (dOp dAddV (dOp dAddV (dOp dMod (dVar 2) (dC (.int 998244353))) (dOp dMul (dC (.int 7368787)) (dVar 1))) (dC (.int 41))) (dC (.int 3))) (dC (.int 2147483629))) (dNil)))))))))
-- _law_out: slots 0 _law_bag_here, 1 _law_many, 2 _law_found,
def w_law_out (e : Env) : SpD := wpf 2 1
    (sSeq (sIf (dTest (dOp (dCmpI fun i j => decide (j < i)) (dOp dIx (dVar 0) (dC (.int 0))) (dC (.int 0))))
    (sSeq (sSet 2 (dOp dMod (dOp dIx (dVar 0) (dC (.int 0))) (dVar 1)))
    (sSeq (sSub (dVar 0) (dC (.int 0)) (dOp dDiv (dOp dIx (dVar 0) (dC (.int 0))) (dVar 1)) rSetD)
    (sRet (dVar 2))))
    (sNext))
    (sSeq (sSub (dVar 0) (dC (.int 1)) (dOp dMod (dOp dAddV (dOp dMul (dOp dIx (dVar 0) (dC (.int 1))) (dC (.int 40692))) (dC (.int 12345))) (dC (.int 2147483399))) rSetD)
    (sRet (dOp dMod (dOp dDiv (dOp dMod (dOp dMul (dOp dIx (dVar 0) (dC (.int 1))) (dOp dAddV (dOp dDiv (dOp dIx (dVar 0) (dC (.int 1))) (dC (.int 1024))) (dC (.int 7)))) (dC (.int 2147483647))) (dC (.int 32))) (dVar 1)))))
-- _law_wishes: slots 0 _law_bag_here, 1 _law_many, 2 _law_found, 3 _law_dealing, 4 _law_row, 5 _law_key,
def l_law_wishes_1 (e : Env) : TDS :=
    (sIf (dTest (dOp (dEqX false) (dCall (w_law_out e) [] (dCons (dVar 0) (dCons (dC (.int 2)) (dNil)))) (dC (.int 0))))
    (sDrop (dApp (dVar 4) (dCons (dTup (dCons (dVar 5) (dCons (dOp dIx (dLstV (dCons (dC (.str "read")) (dCons (dC (.str "write")) (dNil)))) (dCall (w_law_out e) [] (dCons (dVar 0) (dCons (dC (.int 2)) (dNil))))) (dNil)))) (dNil))))
    (sNext))
def l_law_wishes_2 (e : Env) : TDS :=
    (sSeq (sSet 4 (dLst (dNil)))
    (sSeq (sFor (jSeq (dLstV (dCons (dC (.str "a")) (dCons (dC (.str "b")) (dCons (dC (.str "c")) (dCons (dC (.str "d")) (dNil))))))) (.one 5)
    (l_law_wishes_1 e))
    (sDrop (dApp (dVar 2) (dCons (dOp dIx (dLstV (dCons (dVar 4) (dCons (dRevV (dVar 4)) (dNil)))) (dCall (w_law_out e) [] (dCons (dVar 0) (dCons (dC (.int 2)) (dNil))))) (dNil))))))
def w_law_wishes (e : Env) : SpD := wpf 2 4
    (sSeq (sSet 2 (dLst (dNil)))
    (sSeq (sFor (jRng1 (dCons (dVar 1) (dNil))) (.one 3)
    (l_law_wishes_2 e))
    (sRet (dFrz (dVar 2)))))
-- Holds.__init__: slots 0 self,
def w_Holds_init (e : Env) : SpD := wpf 1 0
    (sSeq (sFldD e.ok "by_key" (dVar 0) (dDic))
    (sSeq (sFldD e.ok "ages" (dVar 0) (dDic))
    (sSeq (sFldD e.ok "fast" (dVar 0) (dDic))
    (sSeq (sFldD e.ok "lost" (dVar 0) (dDic))
    (sFldD e.ok "asked" (dVar 0) (dDic))))))
-- Holds.free: slots 0 self, 1 dealing, 2 forget, 3 key,
def l_Holds_free_1 (e : Env) : TDS :=
    (sSeq (sDrop (dPop2 (dDGet (dFld e.ok "by_key" (dVar 0)) (dVar 3)) (dVar 1) (dC .non)))
    (sIf (dTest (dEqE false (dDGet (dFld e.ok "by_key" (dVar 0)) (dVar 3))))
    (sDrop (dPop1 (dFld e.ok "by_key" (dVar 0)) (dVar 3)))
    (sNext)))
def w_Holds_free (e : Env) : SpD := wpf 3 1
    (sSeq (sFor (jSeq (dCB rListDic (dCons (dFld e.ok "by_key" (dVar 0)) (dNil)))) (.one 3)
    (l_Holds_free_1 e))
    (sSeq (sDrop (dPop2 (dFld e.ok "asked" (dVar 0)) (dVar 1) (dC .non)))
    (sSeq (sDrop (dPop2 (dFld e.ok "fast" (dVar 0)) (dVar 1) (dC .non)))
    (sSeq (sDrop (dPop2 (dFld e.ok "ages" (dVar 0)) (dVar 1) (dC .non)))
    (sIf (dTru (dVar 2))
    (sDrop (dPop2 (dFld e.ok "lost" (dVar 0)) (dVar 1) (dC .non)))
    (sNext))))))
-- Holds.called_off: slots 0 self,
def w_Holds_called_off (e : Env) : SpD := wpf 1 0
    (sRet (dCB rSortDic (dCons (dFld e.ok "lost" (dVar 0)) (dNil))))
-- Holds.pledge: slots 0 self, 1 dealing,
def w_Holds_pledge (e : Env) : SpD := wpf 2 0
    (sSeq (sDrop (dPop2 (dFld e.ok "asked" (dVar 0)) (dVar 1) (dC .non)))
    (sDict (dFld e.ok "fast" (dVar 0)) (dVar 1) (dC (.bl true))))
-- Holds.call_off: slots 0 self, 1 dealing,
def w_Holds_call_off (e : Env) : SpD := wpf 2 0
    (sSeq (sDrop (dMeth [(e.C_Holds, w_Holds_free e)] "free" [.bl false] (dVar 0) (dCons (dVar 1) (dNil))))
    (sDict (dFld e.ok "lost" (dVar 0)) (dVar 1) (dC (.bl true))))
-- Holds.bars: slots 0 self, 1 dealing, 2 key, 3 mode, 4 some, 5 other, 6 how,
def w_Holds_bars (e : Env) : SpD := wpf 4 3
    (sSeq (sSet 4 (dGet2 (dFld e.ok "by_key" (dVar 0)) (dVar 2) (dDic)))
    (sRet (dCB rSortD (dCons (dLockE (dLcV (jItems (dVar 4)) (.many [5, 6]) (dAnd (dTest (dOp (dEqX true) (dVar 5) (dVar 1))) (dTest (dOp (dInT false) (dC (.str "write")) (dTup (dCons (dVar 6) (dCons (dVar 3) (dNil))))))) (dVar 5) [5, 6])) (dNil)))))
-- Holds.rank: slots 0 self, 1 dealing,
def w_Holds_rank (e : Env) : SpD := wpf 2 0
    (sRet (dTup (dCons (dGet2 (dFld e.ok "ages" (dVar 0)) (dVar 1) (dVar 1)) (dCons (dVar 1) (dNil)))))
-- Holds.can_call_off: slots 0 self, 1 dealing, 2 other,
def w_Holds_can_call_off (e : Env) : SpD := wpf 3 0
    (sRet (dAndV (dOp (fun k o G Q => inP true k o G Q) (dVar 2) (dFld e.ok "fast" (dVar 0))) (dOp (dCmpT (fun i j => decide (j < i)) fun ns ms => PySem.W.listLt ms ns) (dMeth [(e.C_Holds, w_Holds_rank e)] "rank" [] (dVar 0) (dCons (dVar 2) (dNil))) (dMeth [(e.C_Holds, w_Holds_rank e)] "rank" [] (dVar 0) (dCons (dVar 1) (dNil))))))
-- Holds.ask: slots 0 self, 1 dealing, 2 key, 3 mode, 4 age, 5 off, 6 other,
def l_Holds_ask_1 (e : Env) : TDS :=
    (sDrop (dMeth [(e.C_Holds, w_Holds_call_off e)] "call_off" [] (dVar 0) (dCons (dVar 6) (dNil))))
def w_Holds_ask (e : Env) : SpD := wpf 5 2
    (sSeq (sIf (dOr (dTest (dOp (fun k o G Q => inP false k o G Q) (dVar 1) (dFld e.ok "lost" (dVar 0)))) (dTest (dOp (fun k o G Q => inP false k o G Q) (dVar 1) (dFld e.ok "fast" (dVar 0)))))
    (sRaiseX e.C_Off ["dealing"] (dCons (dVar 1) (dNil)))
    (sNext))
    (sSeqJ (sIf (dTest (dOp (fun k o G Q => inP true k o G Q) (dVar 1) (dFld e.ok "ages" (dVar 0))))
    (sDict (dFld e.ok "ages" (dVar 0)) (dVar 1) (dIf (dTest (dOp (dIsX false) (dVar 4) (dC .non))) (dVar 1) (dVar 4)))
    (sNext))
    (sSeq (sIf (dTest (dOp (dInT false) (dGet1 (dGet2 (dFld e.ok "by_key" (dVar 0)) (dVar 2) (dDic)) (dVar 1)) (dTup (dCons (dVar 3) (dCons (dC (.str "write")) (dNil))))))
    (sSeq (sDrop (dPop2 (dFld e.ok "asked" (dVar 0)) (dVar 1) (dC .non)))
    (sRet (dTup (dCons (dC (.str "held")) (dCons (dLstV (dNil)) (dNil))))))
    (sNext))
    (sSeq (sSet 5 (dLcV (jSeq (dMeth [(e.C_Holds, w_Holds_bars e)] "bars" [] (dVar 0) (dCons (dVar 1) (dCons (dVar 2) (dCons (dVar 3) (dNil)))))) (.one 6) (dTru (dMeth [(e.C_Holds, w_Holds_can_call_off e)] "can_call_off" [] (dVar 0) (dCons (dVar 1) (dCons (dVar 6) (dNil))))) (dVar 6) [6]))
    (sSeq (sFor (jSeq (dVar 5)) (.one 6)
    (l_Holds_ask_1 e))
    (sSeq (sIf (dTest (dOp (dEqX true) (dMeth [(e.C_Holds, w_Holds_bars e)] "bars" [] (dVar 0) (dCons (dVar 1) (dCons (dVar 2) (dCons (dVar 3) (dNil))))) (dLstV (dNil))))
    (sSeq (sDict (dFld e.ok "asked" (dVar 0)) (dVar 1) (dTup (dCons (dVar 2) (dCons (dVar 3) (dNil)))))
    (sRet (dTup (dCons (dC (.str "waits")) (dCons (dVar 5) (dNil))))))
    (sNext))
    (sSeq (sDrop (dPop2 (dFld e.ok "asked" (dVar 0)) (dVar 1) (dC .non)))
    (sSeq (sDict (dSetd (dFld e.ok "by_key" (dVar 0)) (dVar 2) (dDic)) (dVar 1) (dVar 3))
    (sRet (dTup (dCons (dC (.str "held")) (dCons (dVar 5) (dNil)))))))))))))
-- _law_round: slots 0 _law_holds, 1 _law_wishes_here, 2 _law_stands, 3 _law_dealing, 4 _law_key, 5 _law_mode,
def l_law_round_1 (e : Env) : TDS :=
    (sIf (dTest (dOp (dEqX false) (dOp dIx (dVar 2) (dVar 3)) (dUn dNeg (dC (.int 2)))))
    (sSeq (sDrop (dMeth [(e.C_Holds, w_Holds_free e)] "free" [.bl false] (dVar 0) (dCons (dVar 3) (dNil))))
    (sSub (dVar 2) (dVar 3) (dUn dNeg (dC (.int 1))) rSetD))
    (sIf (dTest (dOp (dCmpI fun i j => decide (j ≤ i)) (dOp dIx (dVar 2) (dVar 3)) (dC (.int 0))))
    (sSeqJ (sIf (dTest (dOp (dInI false) (dVar 3) (dMeth [(e.C_Holds, w_Holds_called_off e)] "called_off" [] (dVar 0) dNil)))
    (sSeq (sDrop (dMethK e.C_Holds (w_Holds_free e) "free" 1 1 [0, 1, 2] [] (dVar 0) (dCons (dVar 3) (dNil)) (dCons (dC (.bl true)) (dNil))))
    (sSub (dVar 2) (dVar 3) (dC (.int 0)) rSetD))
    (sNext))
    (sSeqJ (sIf (dTest (dOp dLtD (dOp dIx (dVar 2) (dVar 3)) (dCB rLen (dCons (dOp dIx (dVar 1) (dVar 3)) (dNil)))))
    (sSeq (sUnp [4, 5] (dOp dIx (dOp dIx (dVar 1) (dVar 3)) (dOp dIx (dVar 2) (dVar 3))))
    (sIf (dTest (dOp (dEqX false) (dOp dIx (dMeth [(e.C_Holds, w_Holds_ask e)] "ask" [.non] (dVar 0) (dCons (dVar 3) (dCons (dVar 4) (dCons (dVar 5) (dNil))))) (dC (.int 0))) (dC (.str "held"))))
    (sSub (dVar 2) (dVar 3) (dOp dAddV (dOp dIx (dVar 2) (dVar 3)) (dC (.int 1))) rSetD)
    (sNext)))
    (sNext))
    (sIf (dTest (dOp (dEqX false) (dOp dIx (dVar 2) (dVar 3)) (dCB rLen (dCons (dOp dIx (dVar 1) (dVar 3)) (dNil)))))
    (sSeq (sDrop (dMeth [(e.C_Holds, w_Holds_pledge e)] "pledge" [] (dVar 0) (dCons (dVar 3) (dNil))))
    (sSub (dVar 2) (dVar 3) (dUn dNeg (dC (.int 2))) rSetD))
    (sNext))))
    (sNext)))
def w_law_round (e : Env) : SpD := wpf 3 3
    (sFor (jRng1 (dCons (dCB rLen (dCons (dVar 1) (dNil))) (dNil))) (.one 3)
    (l_law_round_1 e))
-- Holds.waiting: slots 0 self, 1 found, 2 dealing, 3 key, 4 mode, 5 some, 6 other,
def l_Holds_waiting_1 (e : Env) : TDS :=
    (sSeq (sUnp [3, 4] (dDGet (dFld e.ok "asked" (dVar 0)) (dVar 2)))
    (sSeq (sSet 5 (dLcV (jSeq (dMeth [(e.C_Holds, w_Holds_bars e)] "bars" [] (dVar 0) (dCons (dVar 2) (dCons (dVar 3) (dCons (dVar 4) (dNil)))))) (.one 6) (dNot (dTru (dMeth [(e.C_Holds, w_Holds_can_call_off e)] "can_call_off" [] (dVar 0) (dCons (dVar 2) (dCons (dVar 6) (dNil)))))) (dVar 6) [6]))
    (sIf (dTest (dOp (dEqX true) (dVar 5) (dLstV (dNil))))
    (sDict (dVar 1) (dVar 2) (dVar 5))
    (sNext))))
def w_Holds_waiting (e : Env) : SpD := wpf 1 6
    (sSeq (sSet 1 (dDic))
    (sSeq (sFor (jSeq (dCB rSortDic (dCons (dFld e.ok "asked" (dVar 0)) (dNil)))) (.one 2)
    (l_Holds_waiting_1 e))
    (sRet (dFrz (dVar 1)))))
-- Holds.pledged: slots 0 self,
def w_Holds_pledged (e : Env) : SpD := wpf 1 0
    (sRet (dCB rSortDic (dCons (dFld e.ok "fast" (dVar 0)) (dNil))))
-- Holds.of: slots 0 self, 1 dealing, 2 key, 3 some,
def w_Holds_of (e : Env) : SpD := wpf 2 2
    (sRet (dDc (jSeq (dSrtItems (dFld e.ok "by_key" (dVar 0)))) (.many [2, 3]) (dTest (dOp (fun k o G Q => inP false k o G Q) (dVar 1) (dVar 3))) (dVar 2) (dDGet (dVar 3) (dVar 1)) [2, 3]))
-- law: slots 0 _law_script, 1 _law_k, 2 _law_bag_here, 3 _law_wishes_here, 4 _law_holds, 5 _law_stands, 6 _law_most, 7 _law_turns, 8 _law_row, 9 _law_stand, 10 _law_dealing,
def l_law_1 (e : Env) : TDS :=
    (sSeq (sDrop (dCall (w_law_round e) [] (dCons (dVar 4) (dCons (dVar 3) (dCons (dVar 5) (dNil))))))
    (sSet 7 (dOp dAddV (dVar 7) (dC (.int 1)))))
def l_law_2 (e : Env) : TDS :=
    (sSeq (sSet 2 (dCall (w_law_bag e) [] (dCons (dVar 0) (dCons (dVar 1) (dNil)))))
    (sSeq (sSet 3 (dCall (w_law_wishes e) [] (dCons (dVar 2) (dCons (dOp dAddV (dC (.int 1)) (dCall (w_law_out e) [] (dCons (dVar 2) (dCons (dC (.int 6)) (dNil))))) (dNil)))))
    (sSeq (sSet 4 (dMake e.C_Holds (w_Holds_init e) [] dNil))
    (sSeq (sSet 5 (dLc (jSeq (dVar 3)) (.one 8) (dYes) (dC (.int 0)) [8]))
    (sSeq (sSet 6 (dOp dAddV (dOp dMul (dC (.int 6)) (dCB rLen (dCons (dVar 3) (dNil)))) (dC (.int 6))))
    (sSeq (sSet 7 (dC (.int 0)))
    (sSeq (sWhile (dAnd (dTest (dOp dLtD (dVar 7) (dVar 6))) (dTest (dOp (dEqX true) (dLcV (jSeq (dVar 5)) (.one 9) (dTest (dOp (dEqX true) (dVar 9) (dUn dNeg (dC (.int 1))))) (dVar 9) [9]) (dLstV (dNil)))))
    (l_law_1 e))
    (sSeq (sIf (dOr (dTest (dOp (dEqX true) (dLcV (jSeq (dVar 5)) (.one 9) (dTest (dOp (dEqX true) (dVar 9) (dUn dNeg (dC (.int 1))))) (dVar 9) [9]) (dLstV (dNil)))) (dOr (dTest (dEqE true (dMeth [(e.C_Holds, w_Holds_waiting e)] "waiting" [] (dVar 4) dNil))) (dTest (dOp (dEqX true) (dMeth [(e.C_Holds, w_Holds_pledged e)] "pledged" [] (dVar 4) dNil) (dLstV (dNil))))))
    (sRet (dC (.bl false)))
    (sNext))
    (sIf (dTest (dOp (dEqX true) (dLcV (jRng1 (dCons (dCB rLen (dCons (dVar 3) (dNil))) (dNil))) (.one 10) (dTest (dEqE true (dMeth [(e.C_Holds, w_Holds_of e)] "of" [] (dVar 4) (dCons (dVar 10) (dNil))))) (dVar 10) [10]) (dLstV (dNil))))
    (sRet (dC (.bl false)))
    (sNext))))))))))
def w_law (e : Env) : SpD := wpf 1 10
    (sSeq (sFor (jRng1 (dCons (dCB rMax2 (dCons (dC (.int 1)) (dCons (dCB rMin2 (dCons (dCB rLen (dCons (dVar 0) (dNil))) (dCons (dC (.int 8)) (dNil)))) (dNil)))) (dNil))) (.one 1)
    (l_law_2 e))
    (sRet (dC (.bl true))))
end P

namespace P
open PySem PySem.Spec L2 DL
local macro_rules | `(tactic| exists $es:term,*) => `(tactic| try simp only [q_upd, r_updP, r_updO, q_revV, r_asLK, r_revO, q_mkX, q_lstI, q_lstRg, r_lrg, r_lenD, r_frzD, q_pop1, r_pop1S, r_pop1I, r_popO1, q_eqE, r_inTT, r_inTN, r_inTK, r_inSo, r_inSn, q_srtI, q_dc, r_keyS, r_keyI, q_methK, r_metKd, r_metK, r_popS, r_popI, r_popO, r_sdfS, r_sdfI, q_items, r_itP, r_itO, r_inIR, r_inIq, r_inIo, q_disp, r_dkF, r_inF, q_augI, r_getP2, r_getO2, r_cmpA, q_makeK, q_enum, r_enumP, r_enumO, r_repK, r_addNK, r_inIK, r_inIT, q_get1, q_get2, q_dget, q_sdict, q_pop2, q_setd, q_dic, r_dictP, r_getS, r_getI, r_getO, r_dkS, r_dkI, r_dkO, r_inS, r_inI, r_inO, r_dpS, r_dpI, r_dpO, r_dicP, r_dicO, r_sortDic, r_listDic, r_dictDic, q_dapp, r_lstP, r_appP, r_appO, q_clear, r_clrP, r_clrO, q_truO, r_truOP, r_ownTru, r_boolOD, r_ownBool, q_notO, r_cmpTI, r_cmpT3, r_lenOD, r_ownLen, q_jkeys, q_jvals, r_fzP, r_fzO, q_jstr, r_strS, r_leXI, r_leXS, q_join, q_upper, r_joinP, r_upP, q_kw1, r_minT2, q_emp, q_mt1, r_isiEB, r_isiEb, r_isiEt, r_isiEs, r_isiEl, r_isiEd, r_isiER, r_isE_non, r_isX_non, r_isE_bl, r_isX_bl, r_isE_int, r_isX_int, r_isE_str, r_isX_str, r_isE_tup, r_isX_tup, r_isE_kl, r_isX_kl, r_isE_kc, r_isX_kc, r_isE_ref, r_isX_ref, r_rIsiET, r_rIsiER, r_rIsiXT, r_rIsiXR, r_isD_non_int, r_isD_non_bool, r_isD_non_tuple, r_isD_non_str, r_isD_non_list, r_isD_non_dict, r_isD_bl_int, r_isD_bl_bool, r_isD_bl_tuple, r_isD_bl_str, r_isD_bl_list, r_isD_bl_dict, r_isD_int_int, r_isD_int_bool, r_isD_int_tuple, r_isD_int_str, r_isD_int_list, r_isD_int_dict, r_isD_str_int, r_isD_str_bool, r_isD_str_tuple, r_isD_str_str, r_isD_str_list, r_isD_str_dict, r_isD_tup_int, r_isD_tup_bool, r_isD_tup_tuple, r_isD_tup_str, r_isD_tup_list, r_isD_tup_dict, r_isD_kl_int, r_isD_kl_bool, r_isD_kl_tuple, r_isD_kl_str, r_isD_kl_list, r_isD_kl_dict, r_isD_kc_int, r_isD_kc_bool, r_isD_kc_tuple, r_isD_kc_str, r_isD_kc_list, r_isD_kc_dict, r_isD_non_own, r_isD_bl_own, r_isD_int_own, r_isD_str_own, r_isD_tup_own, r_isD_kl_own, r_isD_kc_own, q_wpf, q_seq, q_set, q_ret, q_retN, q_if, q_drop, r_unp', r_par, q_next, q_brk, q_cont, q_for, sWhile, q_sub, sAug, q_rng1, r_rng1P, jRng2, q_jseq, r_seqT, r_seqK, r_seqR, r_seqL, r_ownP, q_op, r_var, r_varS, q_c, q_cons, q_nil, q_cb, q_tup, q_lst, r_test, r_tru, q_not, q_and, q_or, r_andV, r_orV, r_notV, q_if', q_un, q_call, q_slice, q_some, q_none, r_intP, r_chn, r_chnT, r_link, r_last, cp2, pw2, cp3, pw3, cp4, pw4, cp5, pw5, cp6, pw6, cp7, pw7, cp8, pw8, cp9, pw9, cp10, pw10, cp12, pw12, cp15, pw15, cp18, pw18, cp20, pw20, cp24, pw24, cp28, pw28, cp29, pw29, cp30, pw30, q_tryH, q_raise0, q_raiseX, q_xfld, r_xfld, q_setAs, q_setAs0, q_endsAs0, q_endsNx, q_endsRt, q_endsBk, q_endsCt, r_isNx, r_lcV, q_lstV, q_sliceV, q_frz, r_frzR, r_frzL, r_frzT, r_frzK, r_frzN, r_addVI, r_addVT, r_addVK, r_addVO, r_sliVK, r_sliVC, r_sliVT, r_sliVR, r_sliVL, r_listVK, r_listVC, r_listVT, r_truK, r_eqXS, r_eqXI, r_eqXT2, r_strI, r_seqC, r_ixC, r_lenC, r_sliC, q_lc, q_yes, q_make, r_nonP, q_fldg, r_eqT2, r_set0, r_set1, q_put1, q_putN, r_blP, r_boolP, r_unpP, r_parP, r_opt, r_pick, r_add, r_addT, r_addR, r_addL, r_sub, r_mul, r_div, r_mod, r_pow, r_cmp, r_lt, r_neg, r_isXB, r_isXN, r_isN, r_isNr, r_isNi, r_isNn, r_isNt, r_eqI, r_ixT, r_ixK, r_ixR, r_lstOf, r_sliT, r_sliK, r_sliR, r_sliL, r_truB, r_truI, r_truT, r_truN, r_truR, r_truL, r_max, r_min, r_intB, r_intI, r_abs, r_lenT, r_lenK, r_lenR, r_lenL, r_nat, r_set, r_setL, r_isI, r_isB, r_isT, r_fld, r_fldR, r_fldI, r_sfd, r_sfdR, r_sfdI, r_met, r_metR, r_met1, atI0, atI1, atI2, atI3, atI4, ixN1a, ixN2a, ixN2b, ixN3a, ixN3b, ixN3c, put_same, List.map_cons, List.map_nil, List.length_cons, List.length_nil, List.length_set, List.replicate, List.cons_append, List.nil_append, List.append_nil, List.getElem?_cons_zero, List.getElem?_cons_succ, List.set_cons_zero, List.set_cons_succ, true_and, and_true, Option.some.injEq, if_true, if_false, ite_true, ite_false, reduceIte, Bool.not_true, Bool.not_false, Bool.false_eq_true, Nat.reduceAdd, Nat.reduceLeDiff, $[$es:term],*])
/-! ### dicts with int keys below n, as functions -/
def dl (n : Nat) : List Int := (List.range n).map Int.ofNat
theorem mem_dl {n : Nat} {i : Int} : i ∈ dl n ↔ 0 ≤ i ∧ i < n := by
  unfold dl
  simp only [List.mem_map, List.mem_range]
  constructor
  · rintro ⟨a, h, rfl⟩; simp; omega
  · intro h; exact ⟨i.toNat, by omega, by simp; omega⟩
theorem dl_pw (n : Nat) : (dl n).Pairwise (· < ·) := by
  unfold dl
  rw [List.pairwise_map]
  exact List.pairwise_lt_range.imp fun h => by simp; omega
theorem dl_len (n : Nat) : (dl n).length = n := by simp [dl]
theorem fil_pw {n : Nat} {f : Int → Bool} : ((dl n).filter f).Pairwise (· < ·) := (dl_pw n).sublist List.filter_sublist
theorem lt_nodup {l : List Int} (h : l.Pairwise (· < ·)) : l.Nodup := h.imp fun z => by omega
theorem perm_mem {α : Type} [DecidableEq α] {l m : List α} (h1 : l.Nodup) (h2 : m.Nodup) (h : ∀ x, x ∈ l ↔ x ∈ m) : l.Perm m := by
  rw [List.perm_iff_count]
  intro a
  rw [h1.count, h2.count]
  simp only [h]
theorem map_inj {α β : Type} {f : α → β} : ∀ {l : List α} {x y : α}, (l.map f).Nodup → x ∈ l → y ∈ l → f x = f y → x = y
  | [], _, _, _, h, _, _ => (nomatch h)
  | z :: l, x, y, hn, hx, hy, he => by
    rw [List.map_cons, List.nodup_cons] at hn
    rcases List.mem_cons.mp hx with e1 | hx'
    · rcases List.mem_cons.mp hy with e2 | hy'
      · rw [e1, e2]
      · exact (hn.1 (List.mem_map.mpr ⟨y, hy', by rw [← he, e1]⟩)).elim
    · rcases List.mem_cons.mp hy with e2 | hy'
      · exact (hn.1 (List.mem_map.mpr ⟨x, hx', by rw [he, e2]⟩)).elim
      · exact map_inj hn.2 hx' hy' he
/-- a sorted row of unlike ints is told by what it holds -/
theorem srt_uniq {l m : List Int} (h1 : l.Pairwise (· ≤ ·)) (h2 : m.Pairwise (· < ·)) (hp : l.Perm m) : l = m :=
  hp.eq_of_pairwise (fun a b _ _ h3 h4 => by omega) h1 (h2.imp fun h => by omega)
theorem srt_fil {n : Nat} {f : Int → Bool} {ns ms : List Int} (hn : ns.Nodup) (hm : ∀ i, i ∈ ns ↔ i ∈ (dl n).filter f) (hp : ms.Perm ns) (hs : ms.Pairwise (· ≤ ·)) : ms = (dl n).filter f :=
  srt_uniq hs fil_pw (hp.trans (perm_mem hn (lt_nodup fil_pw) hm))
theorem len_dl {n : Nat} {ns : List Int} (hn : ns.Nodup) (hm : ∀ i ∈ ns, 0 ≤ i ∧ i < n) : ns.length ≤ n := by
  have h : (dl n).filter (fun i => decide (i ∈ ns)) = (dl n).filter fun i => decide (i ∈ ns) := rfl
  have hp : ns.Perm ((dl n).filter fun i => decide (i ∈ ns)) := perm_mem hn (lt_nodup fil_pw) fun i => by
    rw [List.mem_filter]
    constructor
    · intro h; exact ⟨mem_dl.mpr (hm i h), by simpa using h⟩
    · intro h; simpa using h.2
  rw [hp.length_eq]
  exact Nat.le_trans (List.length_filter_le _ _) (by rw [dl_len]; exact Nat.le_refl _)
abbrev KD := List (Key × D)
structure DI (n : Nat) (l : KD) (v : Int → Option D) : Prop where
  nd : (l.map (·.1)).Nodup
  ks : ∀ p ∈ l, ∃ i : Int, p.1 = .inl i ∧ 0 ≤ i ∧ i < n
  val : ∀ i, valD l (.inl i) = v i
def setF {α β : Type} [DecidableEq α] (f : α → β) (k : α) (v : β) : α → β := fun x => if x = k then v else f x
theorem setF_same {α β : Type} [DecidableEq α] {f : α → β} {k : α} {v : β} : setF f k v k = v := if_pos rfl
theorem setF_ne {α β : Type} [DecidableEq α] {f : α → β} {k x : α} {v : β} (h : x ≠ k) : setF f k v x = f x := if_neg h
theorem valD_none {l : KD} {k : Key} : valD l k = none ↔ k ∉ l.map (·.1) := by
  induction l with
  | nil => exact ⟨fun _ h => (nomatch h), fun _ => rfl⟩
  | cons p r ih =>
    show (if p.1 = k then some p.2 else valD r k) = none ↔ _
    rw [List.map_cons, List.mem_cons, not_or]
    by_cases h : p.1 = k
    · rw [if_pos h]
      exact ⟨fun z => (nomatch z), fun z => absurd h.symm z.1⟩
    · rw [if_neg h]
      exact ⟨fun z => ⟨Ne.symm h, ih.mp z⟩, fun z => ih.mpr z.2⟩
theorem valD_mem {l : KD} {k : Key} {d : D} (h : valD l k = some d) : (k, d) ∈ l := by
  induction l with
  | nil => cases h
  | cons p r ih =>
    have h' : (if p.1 = k then some p.2 else valD r k) = some d := h
    by_cases hp : p.1 = k
    · rw [if_pos hp] at h'
      cases h'; subst hp; exact List.mem_cons_self
    · rw [if_neg hp] at h'
      exact List.mem_cons_of_mem _ (ih h')
theorem valD_nd {l : KD} (hn : (l.map (·.1)).Nodup) {p : Key × D} (h : p ∈ l) : valD l p.1 = some p.2 := by
  induction l with
  | nil => cases h
  | cons q r ih =>
    rw [List.map_cons, List.nodup_cons] at hn
    show (if q.1 = p.1 then some q.2 else valD r p.1) = _
    rcases List.mem_cons.mp h with rfl | h
    · rw [if_pos rfl]
    · rw [if_neg fun z => hn.1 (List.mem_map.mpr ⟨p, h, z.symm⟩)]
      exact ih hn.2 h
theorem valD_drop {l : KD} {k k2 : Key} : valD (dropKD l k) k2 = if k2 = k then none else valD l k2 := by
  unfold dropKD
  induction l with
  | nil => split <;> rfl
  | cons p r ih =>
    by_cases hp : p.1 = k
    · rw [List.filter_cons_of_neg (by simpa using hp), ih]
      by_cases h2 : k2 = k
      · rw [if_pos h2, if_pos h2]
      · rw [if_neg h2, if_neg h2]
        show _ = if p.1 = k2 then some p.2 else valD r k2
        rw [if_neg (fun z => h2 (z.symm.trans hp))]
    · rw [List.filter_cons_of_pos (by simpa using hp)]
      show (if p.1 = k2 then some p.2 else valD (r.filter fun p => decide (p.1 ≠ k)) k2) = _
      rw [ih]
      show _ = if k2 = k then none else if p.1 = k2 then some p.2 else valD r k2
      by_cases h2 : p.1 = k2
      · rw [if_pos h2, if_pos h2, if_neg (fun z => hp (h2.trans z))]
      · rw [if_neg h2, if_neg h2]
theorem has_mem {l : KD} {k : Key} : hasD l k = true ↔ k ∈ l.map (·.1) := by
  unfold hasD
  rw [List.any_eq_true]
  constructor
  · rintro ⟨p, h, z⟩; exact List.mem_map.mpr ⟨p, h, of_decide_eq_true z⟩
  · intro h
    obtain ⟨p, h1, h2⟩ := List.mem_map.mp h
    exact ⟨p, h1, decide_eq_true h2⟩
theorem keys_put {l : KD} {k : Key} {d : D} : (putKD l k d).map (·.1) = if hasD l k = true then l.map (·.1) else l.map (·.1) ++ [k] := by
  unfold putKD
  by_cases h : hasD l k = true
  · rw [if_pos h, if_pos h, List.map_map]
    apply List.map_congr_left
    intro p _
    show (if p.1 = k then (p.1, d) else p).1 = p.1
    split <;> rfl
  · rw [if_neg h, if_neg h, List.map_append]; rfl
theorem nd_put {l : KD} {k : Key} {d : D} (h : (l.map (·.1)).Nodup) : ((putKD l k d).map (·.1)).Nodup := by
  rw [keys_put]
  split
  · exact h
  · rename_i hn
    exact List.nodup_append.mpr ⟨h, by simp, fun a ha b hb => by rw [List.mem_singleton.mp hb]; rintro rfl; exact hn (has_mem.mpr ha)⟩
theorem nd_drop {l : KD} {k : Key} (h : (l.map (·.1)).Nodup) : ((dropKD l k).map (·.1)).Nodup := h.sublist (List.Sublist.map _ List.filter_sublist)
section
variable {n : Nat} {l : KD} {v : Int → Option D} {i : Int} {d : D} {G : HD} {Q : Post}
theorem DI.nil : DI n [] (fun _ => none) := ⟨List.nodup_nil, fun _ h => (nomatch h), fun _ => rfl⟩
theorem DI.congr {u : Int → Option D} (h : DI n l v) (e : ∀ i, v i = u i) : DI n l u := ⟨h.nd, h.ks, fun i => (h.val i).trans (e i)⟩
theorem DI.put (h : DI n l v) (h0 : 0 ≤ i) (h1 : i < n) : DI n (putKD l (.inl i) d) (setF v i (some d)) := by
  refine ⟨nd_put h.nd, fun p hp => ?_, fun j => ?_⟩
  · have hk : p.1 ∈ (putKD l (.inl i) d).map (·.1) := List.mem_map.mpr ⟨p, hp, rfl⟩
    rw [keys_put] at hk
    have : p.1 ∈ l.map (·.1) ∨ p.1 = .inl i := by
      split at hk
      · exact .inl hk
      · rcases List.mem_append.mp hk with z | z
        · exact .inl z
        · exact .inr (List.mem_singleton.mp z)
    rcases this with z | z
    · obtain ⟨q, h2, h3⟩ := List.mem_map.mp z
      rw [← h3]; exact h.ks q h2
    · exact ⟨i, z, h0, h1⟩
  · rw [valD_put, h.val]
    unfold setF
    by_cases e : j = i
    · rw [if_pos e, if_pos (by rw [e])]
    · rw [if_neg e, if_neg (fun z => e (Sum.inl.inj z))]
theorem DI.drop (h : DI n l v) : DI n (dropKD l (.inl i)) (setF v i none) := by
  refine ⟨nd_drop h.nd, fun p hp => h.ks p (List.mem_filter.mp hp).1, fun j => ?_⟩
  rw [valD_drop, h.val]
  unfold setF
  by_cases e : j = i
  · rw [if_pos e, if_pos (by rw [e])]
  · rw [if_neg e, if_neg (fun z => e (Sum.inl.inj z))]
theorem DI.rng (h : DI n l v) (hi : v i ≠ none) : 0 ≤ i ∧ i < n := by
  rw [← h.val] at hi
  have : (Sum.inl i : Key) ∈ l.map (·.1) := Classical.byContradiction fun z => hi (valD_none.mpr z)
  obtain ⟨p, h1, h2⟩ := List.mem_map.mp this
  obtain ⟨j, h3, h4⟩ := h.ks p h1
  rw [h2] at h3
  cases h3
  exact h4
/-- the keys as ints -/
def keyI : Key → Int
  | .inl i => i
  | .inr _ => 0
theorem intKeys_eq : ∀ {l : KD}, (∀ p ∈ l, ∃ i : Int, p.1 = .inl i) → intKeys l = some (l.map fun p => keyI p.1)
  | [], _ => rfl
  | (k, d) :: r, h => by
    obtain ⟨i, e⟩ := h (k, d) List.mem_cons_self
    have e' : k = .inl i := e
    subst e'
    show (intKeys r).map (i :: ·) = _
    rw [intKeys_eq fun p hp => h p (List.mem_cons_of_mem _ hp)]; rfl
theorem DI.ints (h : DI n l v) : intKeys l = some (l.map fun p => keyI p.1) := intKeys_eq fun p hp => let ⟨i, e, _⟩ := h.ks p hp; ⟨i, e⟩
theorem DI.keysNd (h : DI n l v) : (l.map fun p => keyI p.1).Nodup := by
  have h1 := h.nd
  have h2 := h.ks
  clear h
  induction l with
  | nil => exact List.nodup_nil
  | cons p r ih =>
    rw [List.map_cons, List.nodup_cons] at h1 ⊢
    refine ⟨fun z => ?_, ih h1.2 fun q hq => h2 q (List.mem_cons_of_mem _ hq)⟩
    obtain ⟨q, hq, e⟩ := List.mem_map.mp z
    obtain ⟨i, e1, _⟩ := h2 p List.mem_cons_self
    obtain ⟨j, e2, _⟩ := h2 q (List.mem_cons_of_mem _ hq)
    rw [e1, e2] at e
    have e3 : j = i := e
    exact h1.1 (List.mem_map.mpr ⟨q, hq, by rw [e1, e2, e3]⟩)
theorem DI.mem (h : DI n l v) : i ∈ (l.map fun p => keyI p.1) ↔ i ∈ (dl n).filter fun i => (v i).isSome := by
  rw [List.mem_filter, mem_dl, ← h.val]
  constructor
  · intro z
    obtain ⟨p, hp, e⟩ := List.mem_map.mp z
    obtain ⟨j, e1, e2⟩ := h.ks p hp
    rw [e1] at e
    have e3 : j = i := e
    subst e3
    refine ⟨e2, ?_⟩
    rw [← e1, valD_nd h.nd hp]; rfl
  · rintro ⟨_, z⟩
    obtain ⟨d, hd⟩ := Option.isSome_iff_exists.mp z
    exact List.mem_map.mpr ⟨_, valD_mem hd, rfl⟩
theorem DI.len (h : DI n l v) : l.length ≤ n := by
  have := len_dl h.keysNd fun i hi => mem_dl.mp (List.mem_filter.mp (h.mem.mp hi)).1
  rwa [List.length_map] at this
theorem DI.isE (h : DI n l v) : l.isEmpty = true ↔ ∀ i, v i = none := by
  constructor
  · intro z i
    rw [List.isEmpty_iff] at z
    subst z
    rw [← h.val]; rfl
  · intro z
    cases l with
    | nil => rfl
    | cons p r =>
      obtain ⟨i, e, _⟩ := h.ks p List.mem_cons_self
      have := valD_nd h.nd (p := p) List.mem_cons_self
      rw [e, h.val, z] at this; cases this
/-- sorted of the dict -/
theorem DI.sort (h : DI n l v) (hn : n < 64) (hQ : newL G (((dl n).filter fun i => (v i).isSome).map D.int) Q) : srtO l G Q := by
  cases l with
  | nil =>
    have e : (dl n).filter (fun i => (v i).isSome) = [] := by
      rw [List.filter_eq_nil_iff]
      intro i _
      rw [← h.val]; simp [valD]
    rw [e] at hQ
    show ([] : List Str).length < 64 ∧ ∀ ys : List Str, ys.Perm [] → _ → newL G (ys.map D.str) Q
    refine ⟨by simp, fun ys hp _ => ?_⟩
    rw [hp.eq_nil]; exact hQ
  | cons p r =>
    obtain ⟨i, e, _⟩ := h.ks p List.mem_cons_self
    have e1 : strKeys (p :: r) = none := by
      obtain ⟨k, d⟩ := p
      have e' : k = .inl i := e
      subst e'; rfl
    unfold srtO
    rw [e1, h.ints]
    refine ⟨by rw [List.length_map]; exact Nat.lt_of_le_of_lt h.len hn, fun ms hp hs => ?_⟩
    rw [srt_fil h.keysNd (fun i => h.mem) hp hs]
    exact hQ
theorem asInts_map : ∀ {ns : List Int}, asInts (ns.map D.int) = some ns
  | [] => rfl
  | i :: ns => by
    show (asInts (ns.map D.int)).map (i :: ·) = _
    rw [asInts_map]; rfl
theorem srt_row {f : Int → Bool} {ns : List Int} (hN : ns.Nodup) (hm : ∀ i, i ∈ ns ↔ i ∈ (dl n).filter f) (hn : n < 64) (hQ : newL G (((dl n).filter f).map D.int) Q) : rSortD [.kl (ns.map D.int)] G Q := by
  unfold rSortD
  show (match asInts (ns.map D.int) with | some ns => ns.length < 64 ∧ ∀ ms : List Int, ms.Perm ns → ms.Pairwise (· ≤ ·) → newL G (ms.map D.int) Q | none => False)
  rw [asInts_map]
  refine ⟨Nat.lt_of_le_of_lt (len_dl hN fun i hi => mem_dl.mp (List.mem_filter.mp ((hm i).mp hi)).1) hn, fun ms hp hs => ?_⟩
  rw [srt_fil hN hm hp hs]
  exact hQ
end
/-! ### comprehensions -/
/-- a comprehension by a filter and a map; the heap may grow as I lets it -/
theorem lc_I {ok : HD → Prop} {step : D → (D → HD → Prop) → (HD → Prop) → HD → Prop} {fin : List D → HD → Prop} {α : Type} {f : α → D} (I : HD → Prop) (p : α → Bool) (v : α → D) (hk : ∀ G, I G → ok G) :
    ∀ {xs : List α} {acc : List D} {G : HD}, I G → (∀ x ∈ xs, ∀ (ky : D → HD → Prop) (kn : HD → Prop) (G : HD), I G → (∀ G', I G' → if p x = true then ky (v x) G' else kn G') → step (f x) ky kn G) → (∀ G', I G' → fin (acc ++ (xs.filter p).map v) G') → lcD ok step fin (xs.map f) acc G
  | [], acc, G, hI, _, hf => ⟨G, Le.refl _, hk _ hI, by simpa using hf G hI⟩
  | x :: xs, acc, G, hI, h, hf => by
    refine ⟨G, Le.refl _, hk _ hI, h x List.mem_cons_self _ _ _ hI fun G' hI' => ?_⟩
    cases hx : p x with
    | true =>
      rw [if_pos rfl]
      refine lc_I I p v hk hI' (fun y hy => h y (List.mem_cons_of_mem _ hy)) fun G2 h2 => ?_
      have := hf G2 h2
      rw [List.filter_cons_of_pos hx] at this
      simpa using this
    | false =>
      rw [if_neg (by decide)]
      refine lc_I I p v hk hI' (fun y hy => h y (List.mem_cons_of_mem _ hy)) fun G2 h2 => ?_
      have := hf G2 h2
      rw [List.filter_cons_of_neg (by rw [hx]; decide)] at this
      exact this
end P
namespace P
open PySem PySem.Spec L2 DL
local macro_rules | `(tactic| exists $es:term,*) => `(tactic| try simp only [q_upd, r_updP, r_updO, q_revV, r_asLK, r_revO, q_mkX, q_lstI, q_lstRg, r_lrg, r_lenD, r_frzD, q_pop1, r_pop1S, r_pop1I, r_popO1, q_eqE, r_inTT, r_inTN, r_inTK, r_inSo, r_inSn, q_srtI, q_dc, r_keyS, r_keyI, q_methK, r_metKd, r_metK, r_popS, r_popI, r_popO, r_sdfS, r_sdfI, q_items, r_itP, r_itO, r_inIR, r_inIq, r_inIo, q_disp, r_dkF, r_inF, q_augI, r_getP2, r_getO2, r_cmpA, q_makeK, q_enum, r_enumP, r_enumO, r_repK, r_addNK, r_inIK, r_inIT, q_get1, q_get2, q_dget, q_sdict, q_pop2, q_setd, q_dic, r_dictP, r_getS, r_getI, r_getO, r_dkS, r_dkI, r_dkO, r_inS, r_inI, r_inO, r_dpS, r_dpI, r_dpO, r_dicP, r_dicO, r_sortDic, r_listDic, r_dictDic, q_dapp, r_lstP, r_appP, r_appO, q_clear, r_clrP, r_clrO, q_truO, r_truOP, r_ownTru, r_boolOD, r_ownBool, q_notO, r_cmpTI, r_cmpT3, r_lenOD, r_ownLen, q_jkeys, q_jvals, r_fzP, r_fzO, q_jstr, r_strS, r_leXI, r_leXS, q_join, q_upper, r_joinP, r_upP, q_kw1, r_minT2, q_emp, q_mt1, r_isiEB, r_isiEb, r_isiEt, r_isiEs, r_isiEl, r_isiEd, r_isiER, r_isE_non, r_isX_non, r_isE_bl, r_isX_bl, r_isE_int, r_isX_int, r_isE_str, r_isX_str, r_isE_tup, r_isX_tup, r_isE_kl, r_isX_kl, r_isE_kc, r_isX_kc, r_isE_ref, r_isX_ref, r_rIsiET, r_rIsiER, r_rIsiXT, r_rIsiXR, r_isD_non_int, r_isD_non_bool, r_isD_non_tuple, r_isD_non_str, r_isD_non_list, r_isD_non_dict, r_isD_bl_int, r_isD_bl_bool, r_isD_bl_tuple, r_isD_bl_str, r_isD_bl_list, r_isD_bl_dict, r_isD_int_int, r_isD_int_bool, r_isD_int_tuple, r_isD_int_str, r_isD_int_list, r_isD_int_dict, r_isD_str_int, r_isD_str_bool, r_isD_str_tuple, r_isD_str_str, r_isD_str_list, r_isD_str_dict, r_isD_tup_int, r_isD_tup_bool, r_isD_tup_tuple, r_isD_tup_str, r_isD_tup_list, r_isD_tup_dict, r_isD_kl_int, r_isD_kl_bool, r_isD_kl_tuple, r_isD_kl_str, r_isD_kl_list, r_isD_kl_dict, r_isD_kc_int, r_isD_kc_bool, r_isD_kc_tuple, r_isD_kc_str, r_isD_kc_list, r_isD_kc_dict, r_isD_non_own, r_isD_bl_own, r_isD_int_own, r_isD_str_own, r_isD_tup_own, r_isD_kl_own, r_isD_kc_own, q_wpf, q_seq, q_set, q_ret, q_retN, q_if, q_drop, r_unp', r_par, q_next, q_brk, q_cont, q_for, sWhile, q_sub, sAug, q_rng1, r_rng1P, jRng2, q_jseq, r_seqT, r_seqK, r_seqR, r_seqL, r_ownP, q_op, r_var, r_varS, q_c, q_cons, q_nil, q_cb, q_tup, q_lst, r_test, r_tru, q_not, q_and, q_or, r_andV, r_orV, r_notV, q_if', q_un, q_call, q_slice, q_some, q_none, r_intP, r_chn, r_chnT, r_link, r_last, cp2, pw2, cp3, pw3, cp4, pw4, cp5, pw5, cp6, pw6, cp7, pw7, cp8, pw8, cp9, pw9, cp10, pw10, cp12, pw12, cp15, pw15, cp18, pw18, cp20, pw20, cp24, pw24, cp28, pw28, cp29, pw29, cp30, pw30, q_tryH, q_raise0, q_raiseX, q_xfld, r_xfld, q_setAs, q_setAs0, q_endsAs0, q_endsNx, q_endsRt, q_endsBk, q_endsCt, r_isNx, r_lcV, q_lstV, q_sliceV, q_frz, r_frzR, r_frzL, r_frzT, r_frzK, r_frzN, r_addVI, r_addVT, r_addVK, r_addVO, r_sliVK, r_sliVC, r_sliVT, r_sliVR, r_sliVL, r_listVK, r_listVC, r_listVT, r_truK, r_eqXS, r_eqXI, r_eqXT2, r_strI, r_seqC, r_ixC, r_lenC, r_sliC, q_lc, q_yes, q_make, r_nonP, q_fldg, r_eqT2, r_set0, r_set1, q_put1, q_putN, r_blP, r_boolP, r_unpP, r_parP, r_opt, r_pick, r_add, r_addT, r_addR, r_addL, r_sub, r_mul, r_div, r_mod, r_pow, r_cmp, r_lt, r_neg, r_isXB, r_isXN, r_isN, r_isNr, r_isNi, r_isNn, r_isNt, r_eqI, r_ixT, r_ixK, r_ixR, r_lstOf, r_sliT, r_sliK, r_sliR, r_sliL, r_truB, r_truI, r_truT, r_truN, r_truR, r_truL, r_max, r_min, r_intB, r_intI, r_abs, r_lenT, r_lenK, r_lenR, r_lenL, r_nat, r_set, r_setL, r_isI, r_isB, r_isT, r_fld, r_fldR, r_fldI, r_sfd, r_sfdR, r_sfdI, r_met, r_metR, r_met1, atI0, atI1, atI2, atI3, atI4, ixN1a, ixN2a, ixN2b, ixN3a, ixN3b, ixN3c, put_same, List.map_cons, List.map_nil, List.length_cons, List.length_nil, List.length_set, List.replicate, List.cons_append, List.nil_append, List.append_nil, List.getElem?_cons_zero, List.getElem?_cons_succ, List.set_cons_zero, List.set_cons_succ, true_and, and_true, Option.some.injEq, if_true, if_false, ite_true, ite_false, reduceIte, Bool.not_true, Bool.not_false, Bool.false_eq_true, Nat.reduceAdd, Nat.reduceLeDiff, $[$es:term],*])
/-! ### holds, by value -/
def md (b : Bool) : Str := if b = true then "write" else "read"
def mdD (b : Bool) : D := .str (md b)
structure HS where
  hold : Str → Int → Option Bool
  age : Int → Option Int
  fast : Int → Bool
  lost : Int → Bool
  ask : Int → Option (Str × Bool)
def S0 : HS := ⟨fun _ _ => none, fun _ => none, fun _ => false, fun _ => false, fun _ => none⟩
def HS.aged (S : HS) (d ag : Int) : HS := { S with age := setF S.age d (some ((S.age d).getD ag)) }
def HS.unask (S : HS) (d : Int) : HS := { S with ask := setF S.ask d none }
def HS.free1 (S : HS) (k : Str) (d : Int) : HS := { S with hold := fun x o => if x = k ∧ o = d then none else S.hold x o }
def HS.freed (S : HS) (d : Int) (fg : Bool) : HS := ⟨fun x o => if o = d then none else S.hold x o, setF S.age d none, setF S.fast d false, if fg = true then setF S.lost d false else S.lost, setF S.ask d none⟩
def HS.off (S : HS) (d : Int) : HS := { S.freed d false with lost := setF S.lost d true }
def HS.pledged (S : HS) (d : Int) : HS := { S with ask := setF S.ask d none, fast := setF S.fast d true }
def HS.put (S : HS) (k : Str) (d : Int) (m : Bool) : HS := { S with hold := fun x o => if x = k ∧ o = d then some m else S.hold x o }
def barB (S : HS) (d : Int) (k : Str) (m : Bool) (o : Int) : Bool := decide (o ≠ d) && match S.hold k o with
  | some w => w || m
  | none => false
def barL (n : Nat) (S : HS) (d : Int) (k : Str) (m : Bool) : List Int := (dl n).filter (barB S d k m)
def rk (S : HS) (d : Int) : Int := (S.age d).getD d
def canB (S : HS) (d o : Int) : Bool := !S.fast o && PySem.W.listLt [rk S d, d] [rk S o, o]
def offL (n : Nat) (S : HS) (d : Int) (k : Str) (m : Bool) : List Int := (barL n S d k m).filter (canB S d)
def waitL (n : Nat) (S : HS) (d : Int) (k : Str) (m : Bool) : List Int := (barL n S d k m).filter fun o => !canB S d o
def heldB (S : HS) (k : Str) (d : Int) (m : Bool) : Bool := match S.hold k d with
  | some w => w || !m
  | none => false
structure AskR where
  held : Bool
  off : List Int
  st : HS
def askE (n : Nat) (S2 : HS) (off : List Int) (d : Int) (k : Str) (m : Bool) : AskR := if barL n S2 d k m = [] then ⟨true, off, (S2.unask d).put k d m⟩ else ⟨false, off, { S2 with ask := setF S2.ask d (some (k, m)) }⟩
def askR (n : Nat) (S : HS) (d : Int) (k : Str) (m : Bool) (ag : Int) : AskR :=
  if heldB S k d m = true then ⟨true, [], (S.aged d ag).unask d⟩ else askE n ((offL n (S.aged d ag) d k m).foldl HS.off (S.aged d ag)) (offL n (S.aged d ag) d k m) d k m
def ofD (nm : List Str) (S : HS) (d : Int) : KD := nm.filterMap fun k => (S.hold k d).map fun w => (.inr k, mdD w)
def wtD (n : Nat) (S : HS) (d : Int) : Option (Key × D) := match S.ask d with
  | some (k, m) => if waitL n S d k m = [] then none else some (.inl d, .kl ((waitL n S d k m).map D.int))
  | none => none
def waitD (n : Nat) (S : HS) : KD := (dl n).filterMap (wtD n S)
/-! ### holds at a -/
structure HA where
  k : Addr
  g : Addr
  f : Addr
  l : Addr
  q : Addr
  bk : List (Str × Addr)
def fsH (A : HA) : List (Str × D) := [("by_key", .ref A.k), ("ages", .ref A.g), ("fast", .ref A.f), ("lost", .ref A.l), ("asked", .ref A.q)]
def kyD (x : Str × Addr) : Key × D := (.inr x.1, .ref x.2)
def ownH (a : Addr) (A : HA) : List Addr := a :: A.k :: A.g :: A.f :: A.l :: A.q :: A.bk.map (·.2)
def ageD : Option Int → Option D := Option.map D.int
def trD (b : Bool) : Option D := if b = true then some (.bl true) else none
def askD (o : Option (Str × Bool)) : Option D := o.map fun p => .tup [.str p.1, mdD p.2]
structure Hd (e : Env) (G : HD) (a : Addr) (A : HA) (n : Nat) (nm : List Str) (S : HS) : Prop where
  self : G a = some (.ins e.C_Holds (fsH A))
  ks : G A.k = some (.dK (A.bk.map kyD))
  ndk : (A.bk.map (·.1)).Nodup
  mem : ∀ x ∈ A.bk, x.1 ∈ nm
  inn : ∀ x ∈ A.bk, ∃ l, G x.2 = some (.dK l) ∧ l ≠ [] ∧ DI n l fun d => (S.hold x.1 d).map mdD
  out : ∀ k, k ∉ A.bk.map (·.1) → ∀ d, S.hold k d = none
  gs : ∃ l, G A.g = some (.dK l) ∧ DI n l fun d => ageD (S.age d)
  fs : ∃ l, G A.f = some (.dK l) ∧ DI n l fun d => trD (S.fast d)
  ls : ∃ l, G A.l = some (.dK l) ∧ DI n l fun d => trD (S.lost d)
  qs : ∃ l, G A.q = some (.dK l) ∧ DI n l fun d => askD (S.ask d)
  nd : (ownH a A).Nodup
/-- what was done reached own addresses alone -/
structure Go (a : Addr) (A A' : HA) (G G' : HD) : Prop where
  fr : Fr (ownH a A) G G'
  own : ∀ x ∈ ownH a A', x ∈ ownH a A ∨ G x = none
section
variable {e : Env} {G G' G1 G2 : HD} {a : Addr} {A A' A1 A2 : HA} {n : Nat} {nm : List Str} {S : HS} {Q : Post} {E : DX} {X : List Addr} {d : Int} {k : Str} {m : Bool}
theorem lk_k : (fsH A).lookup ("by_key" : Str) = some (.ref A.k) := rfl
theorem lk_g : (fsH A).lookup ("ages" : Str) = some (.ref A.g) := rfl
theorem lk_f : (fsH A).lookup ("fast" : Str) = some (.ref A.f) := rfl
theorem lk_l : (fsH A).lookup ("lost" : Str) = some (.ref A.l) := rfl
theorem lk_q : (fsH A).lookup ("asked" : Str) = some (.ref A.q) := rfl
theorem Go.refl : Go a A A G G := ⟨Fr.refl, fun _ h => .inl h⟩
theorem Go.le (l : Le G G') : Go a A A G G' := ⟨.le l, fun _ h => .inl h⟩
theorem Go.trans (x : Go a A A1 G G1) (y : Go a A1 A2 G1 G2) : Go a A A2 G G2 := by
  have out : ∀ {z o}, z ∉ ownH a A → G z = some o → z ∉ ownH a A1 := fun hz ho h => by
    rcases x.own _ h with h | h
    · exact hz h
    · rw [ho] at h; cases h
  refine ⟨fun z o hz ho => y.fr z o (out hz ho) (x.fr z o hz ho), fun z hz => ?_⟩
  rcases y.own z hz with h | h
  · exact x.own z h
  · by_cases hA : z ∈ ownH a A
    · exact .inl hA
    · refine .inr ?_
      cases ho : G z with
      | none => rfl
      | some o => rw [x.fr z o hA ho] at h; cases h
theorem Go.put {x : Addr} {o : MO} (h : x ∈ ownH a A) : Go a A A G (put G x o) := ⟨Fr.put h, fun _ h => .inl h⟩
theorem Hd.there (h : Hd e G a A n nm S) {x : Addr} (hx : x ∈ ownH a A) : ∃ o, G x = some o := by
  unfold ownH at hx
  simp only [List.mem_cons] at hx
  rcases hx with rfl | rfl | rfl | rfl | rfl | rfl | hx
  · exact ⟨_, h.self⟩
  · exact ⟨_, h.ks⟩
  · exact h.gs.imp' _ fun _ z => z.1
  · exact h.fs.imp' _ fun _ z => z.1
  · exact h.ls.imp' _ fun _ z => z.1
  · exact h.qs.imp' _ fun _ z => z.1
  · obtain ⟨y, hy, rfl⟩ := List.mem_map.mp hx
    obtain ⟨l, h1, _⟩ := h.inn y hy
    exact ⟨_, h1⟩
theorem Hd.out' (h : Hd e G a A n nm S) {x : Addr} (hx : G x = none) : x ∉ ownH a A := fun z => by
  obtain ⟨o, ho⟩ := h.there z
  rw [hx] at ho; cases ho
theorem Hd.fr (h : Hd e G a A n nm S) (f : Fr X G G') (hX : ∀ x ∈ X, x ∉ ownH a A) : Hd e G' a A n nm S := by
  have n : ∀ {y}, y ∈ ownH a A → y ∉ X := fun hy z => hX _ z hy
  obtain ⟨l1, g1, g2⟩ := h.gs
  obtain ⟨l2, f1, f2⟩ := h.fs
  obtain ⟨l3, k1, k2⟩ := h.ls
  obtain ⟨l4, q1, q2⟩ := h.qs
  refine ⟨f _ _ (n (by simp [ownH])) h.self, f _ _ (n (by simp [ownH])) h.ks, h.ndk, h.mem, fun x hx => ?_, h.out, ⟨l1, f _ _ (n (by simp [ownH])) g1, g2⟩, ⟨l2, f _ _ (n (by simp [ownH])) f1, f2⟩, ⟨l3, f _ _ (n (by simp [ownH])) k1, k2⟩, ⟨l4, f _ _ (n (by simp [ownH])) q1, q2⟩, h.nd⟩
  obtain ⟨l, h1, h2, h3⟩ := h.inn x hx
  have hm : x.2 ∈ A.bk.map (·.2) := List.mem_map.mpr ⟨x, hx, rfl⟩
  exact ⟨l, f _ _ (n (by simp [ownH, hm])) h1, h2, h3⟩
theorem Hd.le (h : Hd e G a A n nm S) (l : Le G G') : Hd e G' a A n nm S := h.fr (X := []) (.le l) (by simp)
theorem Hd.go {b : Addr} {B B' : HA} (h : Hd e G a A n nm S) (f : Go b B B' G G') (hX : ∀ x ∈ ownH b B, x ∉ ownH a A) : Hd e G' a A n nm S := h.fr f.fr hX
structure HNe (a : Addr) (A : HA) : Prop where
  ak : a ≠ A.k
  ag : a ≠ A.g
  af : a ≠ A.f
  al : a ≠ A.l
  aq : a ≠ A.q
  ab : a ∉ A.bk.map (·.2)
  kg : A.k ≠ A.g
  kf : A.k ≠ A.f
  kl : A.k ≠ A.l
  kq : A.k ≠ A.q
  kb : A.k ∉ A.bk.map (·.2)
  gf : A.g ≠ A.f
  gl : A.g ≠ A.l
  gq : A.g ≠ A.q
  gb : A.g ∉ A.bk.map (·.2)
  fl : A.f ≠ A.l
  fq : A.f ≠ A.q
  fb : A.f ∉ A.bk.map (·.2)
  lq : A.l ≠ A.q
  lb : A.l ∉ A.bk.map (·.2)
  qb : A.q ∉ A.bk.map (·.2)
  bb : (A.bk.map (·.2)).Nodup
theorem Hd.ne (h : Hd e G a A n nm S) : HNe a A := by
  have hn := h.nd
  unfold ownH at hn
  simp only [List.nodup_cons, List.mem_cons, not_or] at hn
  obtain ⟨⟨a1, a2, a3, a4, a5, a6⟩, ⟨b1, b2, b3, b4, b5⟩, ⟨c1, c2, c3, c4⟩, ⟨d1, d2, d3⟩, ⟨e1, e2⟩, f1, g1⟩ := hn
  exact ⟨a1, a2, a3, a4, a5, a6, b1, b2, b3, b4, b5, c1, c2, c3, c4, d1, d2, d3, e1, e2, f1, g1⟩
theorem ne_b {x : Addr} {y : Str × Addr} (h : x ∉ A.bk.map (·.2)) (hy : y ∈ A.bk) : y.2 ≠ x := fun z => h (by rw [← z]; exact List.mem_map.mpr ⟨y, hy, rfl⟩)
theorem Hd.setG (h : Hd e G a A n nm S) {l : KD} {u : Int → Option Int} (hl : DI n l fun d => ageD (u d)) : Hd e (put G A.g (.dK l)) a A n nm { S with age := u } := by
  have w := h.ne
  refine ⟨(put_ne w.ag).trans h.self, (put_ne w.kg).trans h.ks, h.ndk, h.mem, fun x hx => ?_, h.out, ⟨l, put_same, hl⟩, ?_, ?_, ?_, h.nd⟩
  · obtain ⟨l1, z⟩ := h.inn x hx
    exact ⟨l1, (put_ne (ne_b w.gb hx)).trans z.1, z.2⟩
  · obtain ⟨l1, z⟩ := h.fs; exact ⟨l1, (put_ne w.gf.symm).trans z.1, z.2⟩
  · obtain ⟨l1, z⟩ := h.ls; exact ⟨l1, (put_ne w.gl.symm).trans z.1, z.2⟩
  · obtain ⟨l1, z⟩ := h.qs; exact ⟨l1, (put_ne w.gq.symm).trans z.1, z.2⟩
theorem Hd.setF (h : Hd e G a A n nm S) {l : KD} {u : Int → Bool} (hl : DI n l fun d => trD (u d)) : Hd e (put G A.f (.dK l)) a A n nm { S with fast := u } := by
  have w := h.ne
  refine ⟨(put_ne w.af).trans h.self, (put_ne w.kf).trans h.ks, h.ndk, h.mem, fun x hx => ?_, h.out, ?_, ⟨l, put_same, hl⟩, ?_, ?_, h.nd⟩
  · obtain ⟨l1, z⟩ := h.inn x hx
    exact ⟨l1, (put_ne (ne_b w.fb hx)).trans z.1, z.2⟩
  · obtain ⟨l1, z⟩ := h.gs; exact ⟨l1, (put_ne w.gf).trans z.1, z.2⟩
  · obtain ⟨l1, z⟩ := h.ls; exact ⟨l1, (put_ne w.fl.symm).trans z.1, z.2⟩
  · obtain ⟨l1, z⟩ := h.qs; exact ⟨l1, (put_ne w.fq.symm).trans z.1, z.2⟩
theorem Hd.setL (h : Hd e G a A n nm S) {l : KD} {u : Int → Bool} (hl : DI n l fun d => trD (u d)) : Hd e (put G A.l (.dK l)) a A n nm { S with lost := u } := by
  have w := h.ne
  refine ⟨(put_ne w.al).trans h.self, (put_ne w.kl).trans h.ks, h.ndk, h.mem, fun x hx => ?_, h.out, ?_, ?_, ⟨l, put_same, hl⟩, ?_, h.nd⟩
  · obtain ⟨l1, z⟩ := h.inn x hx
    exact ⟨l1, (put_ne (ne_b w.lb hx)).trans z.1, z.2⟩
  · obtain ⟨l1, z⟩ := h.gs; exact ⟨l1, (put_ne w.gl).trans z.1, z.2⟩
  · obtain ⟨l1, z⟩ := h.fs; exact ⟨l1, (put_ne w.fl).trans z.1, z.2⟩
  · obtain ⟨l1, z⟩ := h.qs; exact ⟨l1, (put_ne w.lq.symm).trans z.1, z.2⟩
theorem Hd.setQ (h : Hd e G a A n nm S) {l : KD} {u : Int → Option (Str × Bool)} (hl : DI n l fun d => askD (u d)) : Hd e (put G A.q (.dK l)) a A n nm { S with ask := u } := by
  have w := h.ne
  refine ⟨(put_ne w.aq).trans h.self, (put_ne w.kq).trans h.ks, h.ndk, h.mem, fun x hx => ?_, h.out, ?_, ?_, ?_, ⟨l, put_same, hl⟩, h.nd⟩
  · obtain ⟨l1, z⟩ := h.inn x hx
    exact ⟨l1, (put_ne (ne_b w.qb hx)).trans z.1, z.2⟩
  · obtain ⟨l1, z⟩ := h.gs; exact ⟨l1, (put_ne w.gq).trans z.1, z.2⟩
  · obtain ⟨l1, z⟩ := h.fs; exact ⟨l1, (put_ne w.fq).trans z.1, z.2⟩
  · obtain ⟨l1, z⟩ := h.ls; exact ⟨l1, (put_ne w.lq).trans z.1, z.2⟩
theorem m_g : A.g ∈ ownH a A := by simp [ownH]
theorem m_f : A.f ∈ ownH a A := by simp [ownH]
theorem m_l : A.l ∈ ownH a A := by simp [ownH]
theorem m_q : A.q ∈ ownH a A := by simp [ownH]
theorem m_k : A.k ∈ ownH a A := by simp [ownH]
theorem m_b {x : Str × Addr} (h : x ∈ A.bk) : x.2 ∈ ownH a A := by
  unfold ownH
  simp only [List.mem_cons]
  exact .inr (.inr (.inr (.inr (.inr (.inr (List.mem_map.mpr ⟨x, h, rfl⟩))))))
theorem ky_keys : ((A.bk.map kyD).map (·.1)) = (A.bk.map (·.1)).map Sum.inr := by rw [List.map_map, List.map_map]; rfl
theorem Hd.kn (h : Hd e G a A n nm S) : ((A.bk.map kyD).map (·.1)).Nodup := by
  rw [ky_keys]
  exact List.Pairwise.map Sum.inr (fun _ _ hab => fun z => hab (Sum.inr.inj z)) h.ndk
theorem Hd.at (h : Hd e G a A n nm S) {x : Str × Addr} (hx : x ∈ A.bk) : valD (A.bk.map kyD) (.inr x.1) = some (.ref x.2) :=
  valD_nd h.kn (p := kyD x) (List.mem_map.mpr ⟨x, hx, rfl⟩)
theorem Hd.at0 (h : k ∉ A.bk.map (·.1)) : valD (A.bk.map kyD) (.inr k) = none := by
  rw [valD_none, ky_keys]
  intro z
  obtain ⟨y, h1, h2⟩ := List.mem_map.mp z
  exact h (Sum.inr.inj h2 ▸ h1)
/-- the holders of a key, or a new {} -/
theorem Hd.inner (h : Hd e G a A n nm S) {p0 : Addr} (hp : G p0 = none) (k : Str) : ∃ p l, (valD (A.bk.map kyD) (.inr k)).getD (.ref p0) = .ref p ∧ put G p0 (.dK []) p = some (.dK l) ∧ DI n l fun d => (S.hold k d).map mdD := by
  by_cases hk : k ∈ A.bk.map (·.1)
  · obtain ⟨x, hx, rfl⟩ := List.mem_map.mp hk
    obtain ⟨l, h1, _, h2⟩ := h.inn x hx
    exact ⟨x.2, l, by rw [h.at hx]; rfl, (put_ne (ne_of h1 hp)).trans h1, h2⟩
  · exact ⟨p0, [], by rw [Hd.at0 hk]; rfl, put_same, DI.nil.congr fun d => by rw [h.out k hk]; rfl⟩
theorem di_md {l : KD} {f : Int → Option Bool} {x : Key × D} (h : DI n l fun d => (f d).map mdD) (hx : x ∈ l) : ∃ o w, x = (.inl o, mdD w) ∧ f o = some w := by
  obtain ⟨o, e1, _⟩ := h.ks x hx
  have e2 := valD_nd h.nd hx
  rw [e1, h.val] at e2
  cases hf : f o with
  | none => rw [hf] at e2; cases e2
  | some w =>
    rw [hf] at e2
    obtain ⟨x1, x2⟩ := x
    have e1' : x1 = .inl o := e1
    have e2' : some (mdD w) = some x2 := e2
    cases e2'
    exact ⟨o, w, by rw [e1'], hf⟩
theorem as_md {w m : Bool} : asStrs [mdD w, mdD m] = some [md w, md m] := rfl
theorem as_md2 {m : Bool} : asStrs [mdD m, .str (Str.ofString "write")] = some [md m, Str.ofString "write"] := rfl
theorem wr_md {w m : Bool} : decide (Str.ofString "write" ∈ [md w, md m]) = (w || m) := by
  cases w <;> cases m <;> decide +kernel
theorem wr_md2 {w m : Bool} : decide (md w ∈ [md m, Str.ofString "write"]) = (w || !m) := by
  cases w <;> cases m <;> decide +kernel
theorem cmp2 {p : Int → Int → Bool} {f : List Int → List Int → Bool} {x y z u : Int} : dCmpT p f (.tup [.int x, .int y]) (.tup [.int z, .int u]) G Q = Q (.bl (f [x, y] [z, u])) G := propext ⟨fun h => h, fun h => h⟩
theorem pyD_l {j : Nat} {p : Addr} {ds : List D} (h : G p = some (.lst ds)) : pyD (j + 1) G (.ref p) = pyD (j + 1) G (.kl ds) := by
  show (match G p with | some (.lst ds) => (ds.mapM (pyD j G)).map PyData.list | _ => none) = _
  rw [h]; rfl
theorem pure_ints {ns : List Int} : pureD 9 (.kl (ns.map D.int)) = true := by
  show (ns.map D.int).all (pureD 8) = true
  rw [List.all_map]
  exact List.all_eq_true.mpr fun _ _ => rfl
theorem eqv_nil {ns : List Int} : eqvD (.kl (ns.map D.int)) (.kl []) = ns.isEmpty := by
  cases ns with
  | nil => rfl
  | cons _ _ => rfl
theorem i_eqN {neg : Bool} {p : Addr} {ns : List Int} (h : G p = some (.lst (ns.map D.int))) (q : Q (.bl (if neg = true then !ns.isEmpty else ns.isEmpty)) G) : dEqX neg (.ref p) (.kl []) G Q := by
  refine i_eqXO (b := ns.isEmpty) ?_ (fun _ z => by cases z) q
  have := eqO_pure (G := G) (d := .kl (ns.map D.int)) (e := .kl []) pure_ints rfl
  rw [eqv_nil] at this
  unfold eqO at this ⊢
  rw [pyD_l h]
  exact this
theorem i_eqK {neg : Bool} {ns : List Int} (q : Q (.bl (if neg = true then !ns.isEmpty else ns.isEmpty)) G) : dEqX neg (.kl (ns.map D.int)) (.kl []) G Q :=
  i_eqX pure_ints rfl (by rw [eqv_nil]; exact q)
end
end P
namespace P
open PySem PySem.Spec L2 DL
local macro_rules | `(tactic| exists $es:term,*) => `(tactic| try simp only [q_upd, r_updP, r_updO, q_revV, r_asLK, r_revO, q_mkX, q_lstI, q_lstRg, r_lrg, r_lenD, r_frzD, q_pop1, r_pop1S, r_pop1I, r_popO1, q_eqE, r_inTT, r_inTN, r_inTK, r_inSo, r_inSn, q_srtI, q_dc, r_keyS, r_keyI, q_methK, r_metKd, r_metK, r_popS, r_popI, r_popO, r_sdfS, r_sdfI, q_items, r_itP, r_itO, r_inIR, r_inIq, r_inIo, q_disp, r_dkF, r_inF, q_augI, r_getP2, r_getO2, r_cmpA, q_makeK, q_enum, r_enumP, r_enumO, r_repK, r_addNK, r_inIK, r_inIT, q_get1, q_get2, q_dget, q_sdict, q_pop2, q_setd, q_dic, r_dictP, r_getS, r_getI, r_getO, r_dkS, r_dkI, r_dkO, r_inS, r_inI, r_inO, r_dpS, r_dpI, r_dpO, r_dicP, r_dicO, r_sortDic, r_listDic, r_dictDic, q_dapp, r_lstP, r_appP, r_appO, q_clear, r_clrP, r_clrO, q_truO, r_truOP, r_ownTru, r_boolOD, r_ownBool, q_notO, r_cmpTI, r_cmpT3, r_lenOD, r_ownLen, q_jkeys, q_jvals, r_fzP, r_fzO, q_jstr, r_strS, r_leXI, r_leXS, q_join, q_upper, r_joinP, r_upP, q_kw1, r_minT2, q_emp, q_mt1, r_isiEB, r_isiEb, r_isiEt, r_isiEs, r_isiEl, r_isiEd, r_isiER, r_isE_non, r_isX_non, r_isE_bl, r_isX_bl, r_isE_int, r_isX_int, r_isE_str, r_isX_str, r_isE_tup, r_isX_tup, r_isE_kl, r_isX_kl, r_isE_kc, r_isX_kc, r_isE_ref, r_isX_ref, r_rIsiET, r_rIsiER, r_rIsiXT, r_rIsiXR, r_isD_non_int, r_isD_non_bool, r_isD_non_tuple, r_isD_non_str, r_isD_non_list, r_isD_non_dict, r_isD_bl_int, r_isD_bl_bool, r_isD_bl_tuple, r_isD_bl_str, r_isD_bl_list, r_isD_bl_dict, r_isD_int_int, r_isD_int_bool, r_isD_int_tuple, r_isD_int_str, r_isD_int_list, r_isD_int_dict, r_isD_str_int, r_isD_str_bool, r_isD_str_tuple, r_isD_str_str, r_isD_str_list, r_isD_str_dict, r_isD_tup_int, r_isD_tup_bool, r_isD_tup_tuple, r_isD_tup_str, r_isD_tup_list, r_isD_tup_dict, r_isD_kl_int, r_isD_kl_bool, r_isD_kl_tuple, r_isD_kl_str, r_isD_kl_list, r_isD_kl_dict, r_isD_kc_int, r_isD_kc_bool, r_isD_kc_tuple, r_isD_kc_str, r_isD_kc_list, r_isD_kc_dict, r_isD_non_own, r_isD_bl_own, r_isD_int_own, r_isD_str_own, r_isD_tup_own, r_isD_kl_own, r_isD_kc_own, q_wpf, q_seq, q_set, q_ret, q_retN, q_if, q_drop, r_unp', r_par, q_next, q_brk, q_cont, q_for, sWhile, q_sub, sAug, q_rng1, r_rng1P, jRng2, q_jseq, r_seqT, r_seqK, r_seqR, r_seqL, r_ownP, q_op, r_var, r_varS, q_c, q_cons, q_nil, q_cb, q_tup, q_lst, r_test, r_tru, q_not, q_and, q_or, r_andV, r_orV, r_notV, q_if', q_un, q_call, q_slice, q_some, q_none, r_intP, r_chn, r_chnT, r_link, r_last, cp2, pw2, cp3, pw3, cp4, pw4, cp5, pw5, cp6, pw6, cp7, pw7, cp8, pw8, cp9, pw9, cp10, pw10, cp12, pw12, cp15, pw15, cp18, pw18, cp20, pw20, cp24, pw24, cp28, pw28, cp29, pw29, cp30, pw30, q_tryH, q_raise0, q_raiseX, q_xfld, r_xfld, q_setAs, q_setAs0, q_endsAs0, q_endsNx, q_endsRt, q_endsBk, q_endsCt, r_isNx, r_lcV, q_lstV, q_sliceV, q_frz, r_frzR, r_frzL, r_frzT, r_frzK, r_frzN, r_addVI, r_addVT, r_addVK, r_addVO, r_sliVK, r_sliVC, r_sliVT, r_sliVR, r_sliVL, r_listVK, r_listVC, r_listVT, r_truK, r_eqXS, r_eqXI, r_eqXT2, r_strI, r_seqC, r_ixC, r_lenC, r_sliC, q_lc, q_yes, q_make, r_nonP, q_fldg, r_eqT2, r_set0, r_set1, q_put1, q_putN, r_blP, r_boolP, r_unpP, r_parP, r_opt, r_pick, r_add, r_addT, r_addR, r_addL, r_sub, r_mul, r_div, r_mod, r_pow, r_cmp, r_lt, r_neg, r_isXB, r_isXN, r_isN, r_isNr, r_isNi, r_isNn, r_isNt, r_eqI, r_ixT, r_ixK, r_ixR, r_lstOf, r_sliT, r_sliK, r_sliR, r_sliL, r_truB, r_truI, r_truT, r_truN, r_truR, r_truL, r_max, r_min, r_intB, r_intI, r_abs, r_lenT, r_lenK, r_lenR, r_lenL, r_nat, r_set, r_setL, r_isI, r_isB, r_isT, r_fld, r_fldR, r_fldI, r_sfd, r_sfdR, r_sfdI, r_met, r_metR, r_met1, atI0, atI1, atI2, atI3, atI4, ixN1a, ixN2a, ixN2b, ixN3a, ixN3b, ixN3c, put_same, List.map_cons, List.map_nil, List.length_cons, List.length_nil, List.length_set, List.replicate, List.cons_append, List.nil_append, List.append_nil, List.getElem?_cons_zero, List.getElem?_cons_succ, List.set_cons_zero, List.set_cons_succ, true_and, and_true, Option.some.injEq, if_true, if_false, ite_true, ite_false, reduceIte, Bool.not_true, Bool.not_false, Bool.false_eq_true, Nat.reduceAdd, Nat.reduceLeDiff, $[$es:term],*])
section
variable {e : Env} {G G' G1 G2 : HD} {a : Addr} {A A' A1 A2 : HA} {n : Nat} {nm : List Str} {S : HS} {Q : Post} {E : DX} {X : List Addr} {d o : Int} {k : Str} {m : Bool}
/-! ### what Holds does -/
theorem make_h (g : e.Good) (hQ : ∀ p G' A, G p = none → (∀ x ∈ ownH p A, G x = none) → Le G G' → Hd e G' p A n nm ⟨fun _ _ => none, fun _ => none, fun _ => false, fun _ => false, fun _ => none⟩ → Q (.ref p) G') : makP e.C_Holds (w_Holds_init e) [] G Q E := by
  intro p hp
  unfold w_Holds_init
  exists if_true
  intro k hk
  have n1 : p ≠ k := by rintro rfl; rw [put_same] at hk; cases hk
  exists put_ne n1
  refine ⟨g.ok_Holds_by_key, (show 0 < 1000 by decide), ?_⟩
  intro x1 h1
  have m1 : p ≠ x1 := by rintro rfl; rw [put_same] at h1; cases h1
  have m2 : k ≠ x1 := by rintro rfl; rw [put_ne n1.symm, put_same] at h1; cases h1
  exists put_ne m1
  refine ⟨g.ok_Holds_ages, (show 1 < 1000 by decide), ?_⟩
  intro x2 h2
  have a1 : p ≠ x2 := by rintro rfl; rw [put_same] at h2; cases h2
  have a3 : x1 ≠ x2 := by rintro rfl; rw [put_ne m1.symm, put_same] at h2; cases h2
  have a2 : k ≠ x2 := by rintro rfl; rw [put_ne n1.symm, put_ne m2, put_ne n1.symm, put_same] at h2; cases h2
  exists put_ne a1
  refine ⟨g.ok_Holds_fast, (show 2 < 1000 by decide), ?_⟩
  intro x3 h3
  have b1 : p ≠ x3 := by rintro rfl; rw [put_same] at h3; cases h3
  have b4 : x2 ≠ x3 := by rintro rfl; rw [put_ne a1.symm, put_same] at h3; cases h3
  have b3 : x1 ≠ x3 := by rintro rfl; rw [put_ne m1.symm, put_ne a3, put_ne m1.symm, put_same] at h3; cases h3
  have b2 : k ≠ x3 := by rintro rfl; rw [put_ne n1.symm, put_ne a2, put_ne n1.symm, put_ne m2, put_ne n1.symm, put_same] at h3; cases h3
  exists put_ne b1
  refine ⟨g.ok_Holds_lost, (show 3 < 1000 by decide), ?_⟩
  intro x4 h4
  have c1 : p ≠ x4 := by rintro rfl; rw [put_same] at h4; cases h4
  have c5 : x3 ≠ x4 := by rintro rfl; rw [put_ne b1.symm, put_same] at h4; cases h4
  have c4 : x2 ≠ x4 := by rintro rfl; rw [put_ne a1.symm, put_ne b4, put_ne a1.symm, put_same] at h4; cases h4
  have c3 : x1 ≠ x4 := by rintro rfl; rw [put_ne m1.symm, put_ne b3, put_ne m1.symm, put_ne a3, put_ne m1.symm, put_same] at h4; cases h4
  have c2 : k ≠ x4 := by rintro rfl; rw [put_ne n1.symm, put_ne b2, put_ne n1.symm, put_ne a2, put_ne n1.symm, put_ne m2, put_ne n1.symm, put_same] at h4; cases h4
  exists put_ne c1
  have z : ∀ x, G x = none ∨ x = p ∨ (x ≠ p ∧ G x ≠ none) := fun x => by
    by_cases h : x = p
    · exact .inr (.inl h)
    · cases hx : G x with
      | none => exact .inl rfl
      | some o => exact .inr (.inr ⟨h, by simp⟩)
  have w0 : G k = none := by rw [put_ne n1.symm] at hk; exact hk
  have w1 : G x1 = none := by rw [put_ne m1.symm, put_ne m2.symm, put_ne m1.symm] at h1; exact h1
  have w2 : G x2 = none := by rw [put_ne a1.symm, put_ne a3.symm, put_ne a1.symm, put_ne a2.symm, put_ne a1.symm] at h2; exact h2
  have w3 : G x3 = none := by rw [put_ne b1.symm, put_ne b4.symm, put_ne b1.symm, put_ne b3.symm, put_ne b1.symm, put_ne b2.symm, put_ne b1.symm] at h3; exact h3
  have w4 : G x4 = none := by rw [put_ne c1.symm, put_ne c5.symm, put_ne c1.symm, put_ne c4.symm, put_ne c1.symm, put_ne c3.symm, put_ne c1.symm, put_ne c2.symm, put_ne c1.symm] at h4; exact h4
  refine ⟨g.ok_Holds_asked, (show 4 < 1000 by decide), fg_in (hQ p _ ⟨k, x1, x2, x3, x4, []⟩ hp ?_ ?_ ⟨put_same, ?_, List.nodup_nil, by simp, by simp, fun _ _ _ => rfl, ⟨[], ?_, DI.nil⟩, ⟨[], ?_, DI.nil⟩, ⟨[], ?_, DI.nil⟩, ⟨[], ?_, DI.nil⟩, ?_⟩)⟩
  · intro x hx
    simp only [ownH, List.map_nil, List.mem_cons, List.not_mem_nil, or_false] at hx
    rcases hx with rfl | rfl | rfl | rfl | rfl | rfl <;> assumption
  · intro y o hy
    have q : ∀ {x}, G x = none → y ≠ x := fun hx z => by rw [z, hx] at hy; cases hy
    rw [put_ne (q hp), put_ne (q w4), put_ne (q hp), put_ne (q w3), put_ne (q hp), put_ne (q w2), put_ne (q hp), put_ne (q w1), put_ne (q hp), put_ne (q w0), put_ne (q hp)]
    exact hy
  · rw [put_ne n1.symm, put_ne c2, put_ne n1.symm, put_ne b2, put_ne n1.symm, put_ne a2, put_ne n1.symm, put_ne m2, put_ne n1.symm, put_same]; rfl
  · rw [put_ne m1.symm, put_ne c3, put_ne m1.symm, put_ne b3, put_ne m1.symm, put_ne a3, put_ne m1.symm, put_same]
  · rw [put_ne a1.symm, put_ne c4, put_ne a1.symm, put_ne b4, put_ne a1.symm, put_same]
  · rw [put_ne b1.symm, put_ne c5, put_ne b1.symm, put_same]
  · rw [put_ne c1.symm, put_same]
  · simp [ownH, n1, m1, a1, b1, c1, m2, a2, b2, c2, a3, b3, c3, b4, c4, c5]
theorem calledoff_ok (g : e.Good) (hn : n < 64) (h : Hd e G a A n nm S) (hQ : ∀ p G', G p = none → Le G G' → G' p = some (.lst (((dl n).filter S.lost).map D.int)) → Q (.ref p) G') : w_Holds_called_off e [.ref a] G Q E := by
  obtain ⟨l, h1, h2⟩ := h.ls
  unfold w_Holds_called_off
  exists h.self, lk_l
  refine ⟨g.ok_Holds_lost, ?_⟩
  exists h1
  refine h2.sort hn (newL_in fun p G' hp _ h3 l3 _ => fg_in (hQ p G' hp l3 ?_))
  rw [h3]
  congr 3
  apply List.filter_congr
  intro i _
  unfold trD
  cases S.lost i <;> rfl
theorem pledged_ok (g : e.Good) (hn : n < 64) (h : Hd e G a A n nm S) (hQ : ∀ p G', G p = none → Le G G' → G' p = some (.lst (((dl n).filter S.fast).map D.int)) → Q (.ref p) G') : w_Holds_pledged e [.ref a] G Q E := by
  obtain ⟨l, h1, h2⟩ := h.fs
  unfold w_Holds_pledged
  exists h.self, lk_f
  refine ⟨g.ok_Holds_fast, ?_⟩
  exists h1
  refine h2.sort hn (newL_in fun p G' hp _ h3 l3 _ => fg_in (hQ p G' hp l3 ?_))
  rw [h3]
  congr 3
  apply List.filter_congr
  intro i _
  unfold trD
  cases S.fast i <;> rfl
theorem popA {Q : Post} {x : Addr} {l : KD} {v : Int → Option D} {z : D} (h1 : G x = some (.dK l)) (h2 : DI n l v) (hQ : ∀ v, Q v (put G x (.dK (dropKD l (.inl d))))) : popO (G x) x (some (.inl d)) z G Q := by
  rw [h1, r_popO]
  refine ⟨fun v _ => hQ v, fun hv => ?_⟩
  have e1 : dropKD l (.inl d) = l := by
    unfold dropKD
    rw [List.filter_eq_self]
    intro p hp
    have := valD_none.mp hv
    exact decide_eq_true fun z => this (List.mem_map.mpr ⟨p, hp, z⟩)
  have := hQ z
  rw [e1, put_id h1] at this
  exact this
theorem dropQ (h : DI n l fun d => askD (S.ask d)) : DI n (dropKD l (.inl d)) fun x => askD (setF S.ask d none x) :=
  h.drop.congr fun i => by unfold setF; split <;> rfl
theorem rank_ok (g : e.Good) (h : Hd e G a A n nm S) (hQ : Q (.tup [.int (rk S d), .int d]) G) : w_Holds_rank e [.ref a, .int d] G Q E := by
  obtain ⟨l, h1, h2⟩ := h.gs
  unfold w_Holds_rank
  exists h.self, lk_g
  refine ⟨g.ok_Holds_ages, ⟨l, h1⟩, ?_⟩
  exists h1
  have e1 : (valD l (.inl d)).getD (.int d) = .int (rk S d) := by
    rw [h2.val]; unfold ageD rk; cases S.age d <;> rfl
  rw [e1]
  exact fg_in hQ
theorem can_ok (g : e.Good) (h : Hd e G a A n nm S) (hQ : Q (.bl (canB S d o)) G) : w_Holds_can_call_off e [.ref a, .int d, .int o] G Q E := by
  obtain ⟨l, h1, h2⟩ := h.fs
  unfold w_Holds_can_call_off
  exists h.self, lk_f
  refine ⟨g.ok_Holds_fast, ?_⟩
  exists h1
  have e1 : (valD l (.inl o)).isSome = S.fast o := by rw [h2.val]; unfold trD; cases S.fast o <;> rfl
  rw [e1]
  unfold canB at hQ
  cases hf : S.fast o with
  | true =>
    rw [hf] at hQ
    exists if_true
    exact fg_in hQ
  | false =>
    rw [hf] at hQ
    exists h.self
    refine ⟨rfl, rank_ok g h ?_⟩
    exists h.self
    refine ⟨rfl, rank_ok g h ?_⟩
    rw [cmp2]
    exact fg_in hQ
theorem bars_ok (g : e.Good) (hn : n < 64) (h : Hd e G a A n nm S) (hQ : ∀ p G', G p = none → Le G G' → G' p = some (.lst ((barL n S d k m).map D.int)) → Q (.ref p) G') : w_Holds_bars e [.ref a, .int d, .str k, mdD m] G Q E := by
  unfold w_Holds_bars
  exists h.self, lk_k
  refine ⟨g.ok_Holds_by_key, ⟨_, h.ks⟩, ?_⟩
  intro p0 hp0
  have hk0 : put G p0 (.dK []) A.k = some (.dK (A.bk.map kyD)) := (put_ne (ne_of h.ks hp0)).trans h.ks
  exists hk0
  obtain ⟨p, l, e1, e2, e3⟩ := h.inner hp0 k
  rw [e1]
  exists q_lockE
  refine ⟨p, l, e2, fun ob mm => ?_⟩
  exists if_true
  refine ⟨by rw [List.length_map]; have := e3.len; omega, lc_I (f := pairD) (I := fun G' => G' = put (put G p0 (.dK [])) p (.fz ob (.dK mm) (.dK l))) (p := fun x => barB S d k m (keyI x.1)) (v := fun x => .int (keyI x.1)) (fun G' hG => by rw [hG, put_same]) rfl (fun x hx ky kn G' hG hk => ?_) fun G' hG => ?_⟩
  · obtain ⟨o, w, rfl, hw⟩ := di_md e3 hx
    have hk' := hk G' hG
    have eb : barB S d k m o = (decide (o ≠ d) && (w || m)) := by unfold barB; rw [hw]
    have hk2 : if (decide (o ≠ d) && (w || m)) = true then ky (.int o) G' else kn G' := by rw [← eb]; exact hk'
    clear hk hk'
    exists pairD, kDi, setAll, dwipe
    by_cases ho : o = d
    · subst ho
      simpa using hk2
    · simp only [ho, decide_false, Bool.not_false, if_true]
      exists as_md, wr_md
      simpa [ho] using hk2
  · subst hG
    have e5 : (([] : List D) ++ (l.filter fun x => barB S d k m (keyI x.1)).map fun x => D.int (keyI x.1)) = ((l.filter fun x => barB S d k m (keyI x.1)).map fun x => keyI x.1).map D.int := by rw [List.map_map]; rfl
    rw [e5, put_put, put_id e2]
    refine ⟨put_same, srt_row (f := barB S d k m) (e3.keysNd.sublist (List.Sublist.map _ List.filter_sublist)) (fun i => ?_) hn (newL_in fun q G' hq _ h3 l3 _ => fg_in (hQ q G' ((Le.newB hp0).no hq) ((Le.newB hp0).trans l3) h3))⟩
    rw [List.mem_filter]
    constructor
    · intro z
      obtain ⟨x, hx, rfl⟩ := List.mem_map.mp z
      obtain ⟨h4, h5⟩ := List.mem_filter.mp hx
      obtain ⟨j, h6, h7⟩ := e3.ks x h4
      exact ⟨mem_dl.mpr (by rw [h6]; exact h7), h5⟩
    · rintro ⟨z1, z2⟩
      have : (S.hold k i).isSome = true := by
        unfold barB at z2
        cases hh : S.hold k i with
        | none => rw [hh] at z2; simp at z2
        | some w => rfl
      obtain ⟨w, hw⟩ := Option.isSome_iff_exists.mp this
      have hv := e3.val i
      rw [hw] at hv
      exact List.mem_map.mpr ⟨(.inl i, mdD w), List.mem_filter.mpr ⟨valD_mem hv, z2⟩, rfl⟩
end
end P
namespace P
open PySem PySem.Spec L2 DL
local macro_rules | `(tactic| exists $es:term,*) => `(tactic| try simp only [q_upd, r_updP, r_updO, q_revV, r_asLK, r_revO, q_mkX, q_lstI, q_lstRg, r_lrg, r_lenD, r_frzD, q_pop1, r_pop1S, r_pop1I, r_popO1, q_eqE, r_inTT, r_inTN, r_inTK, r_inSo, r_inSn, q_srtI, q_dc, r_keyS, r_keyI, q_methK, r_metKd, r_metK, r_popS, r_popI, r_popO, r_sdfS, r_sdfI, q_items, r_itP, r_itO, r_inIR, r_inIq, r_inIo, q_disp, r_dkF, r_inF, q_augI, r_getP2, r_getO2, r_cmpA, q_makeK, q_enum, r_enumP, r_enumO, r_repK, r_addNK, r_inIK, r_inIT, q_get1, q_get2, q_dget, q_sdict, q_pop2, q_setd, q_dic, r_dictP, r_getS, r_getI, r_getO, r_dkS, r_dkI, r_dkO, r_inS, r_inI, r_inO, r_dpS, r_dpI, r_dpO, r_dicP, r_dicO, r_sortDic, r_listDic, r_dictDic, q_dapp, r_lstP, r_appP, r_appO, q_clear, r_clrP, r_clrO, q_truO, r_truOP, r_ownTru, r_boolOD, r_ownBool, q_notO, r_cmpTI, r_cmpT3, r_lenOD, r_ownLen, q_jkeys, q_jvals, r_fzP, r_fzO, q_jstr, r_strS, r_leXI, r_leXS, q_join, q_upper, r_joinP, r_upP, q_kw1, r_minT2, q_emp, q_mt1, r_isiEB, r_isiEb, r_isiEt, r_isiEs, r_isiEl, r_isiEd, r_isiER, r_isE_non, r_isX_non, r_isE_bl, r_isX_bl, r_isE_int, r_isX_int, r_isE_str, r_isX_str, r_isE_tup, r_isX_tup, r_isE_kl, r_isX_kl, r_isE_kc, r_isX_kc, r_isE_ref, r_isX_ref, r_rIsiET, r_rIsiER, r_rIsiXT, r_rIsiXR, r_isD_non_int, r_isD_non_bool, r_isD_non_tuple, r_isD_non_str, r_isD_non_list, r_isD_non_dict, r_isD_bl_int, r_isD_bl_bool, r_isD_bl_tuple, r_isD_bl_str, r_isD_bl_list, r_isD_bl_dict, r_isD_int_int, r_isD_int_bool, r_isD_int_tuple, r_isD_int_str, r_isD_int_list, r_isD_int_dict, r_isD_str_int, r_isD_str_bool, r_isD_str_tuple, r_isD_str_str, r_isD_str_list, r_isD_str_dict, r_isD_tup_int, r_isD_tup_bool, r_isD_tup_tuple, r_isD_tup_str, r_isD_tup_list, r_isD_tup_dict, r_isD_kl_int, r_isD_kl_bool, r_isD_kl_tuple, r_isD_kl_str, r_isD_kl_list, r_isD_kl_dict, r_isD_kc_int, r_isD_kc_bool, r_isD_kc_tuple, r_isD_kc_str, r_isD_kc_list, r_isD_kc_dict, r_isD_non_own, r_isD_bl_own, r_isD_int_own, r_isD_str_own, r_isD_tup_own, r_isD_kl_own, r_isD_kc_own, q_wpf, q_seq, q_set, q_ret, q_retN, q_if, q_drop, r_unp', r_par, q_next, q_brk, q_cont, q_for, sWhile, q_sub, sAug, q_rng1, r_rng1P, jRng2, q_jseq, r_seqT, r_seqK, r_seqR, r_seqL, r_ownP, q_op, r_var, r_varS, q_c, q_cons, q_nil, q_cb, q_tup, q_lst, r_test, r_tru, q_not, q_and, q_or, r_andV, r_orV, r_notV, q_if', q_un, q_call, q_slice, q_some, q_none, r_intP, r_chn, r_chnT, r_link, r_last, cp2, pw2, cp3, pw3, cp4, pw4, cp5, pw5, cp6, pw6, cp7, pw7, cp8, pw8, cp9, pw9, cp10, pw10, cp12, pw12, cp15, pw15, cp18, pw18, cp20, pw20, cp24, pw24, cp28, pw28, cp29, pw29, cp30, pw30, q_tryH, q_raise0, q_raiseX, q_xfld, r_xfld, q_setAs, q_setAs0, q_endsAs0, q_endsNx, q_endsRt, q_endsBk, q_endsCt, r_isNx, r_lcV, q_lstV, q_sliceV, q_frz, r_frzR, r_frzL, r_frzT, r_frzK, r_frzN, r_addVI, r_addVT, r_addVK, r_addVO, r_sliVK, r_sliVC, r_sliVT, r_sliVR, r_sliVL, r_listVK, r_listVC, r_listVT, r_truK, r_eqXS, r_eqXI, r_eqXT2, r_strI, r_seqC, r_ixC, r_lenC, r_sliC, q_lc, q_yes, q_make, r_nonP, q_fldg, r_eqT2, r_set0, r_set1, q_put1, q_putN, r_blP, r_boolP, r_unpP, r_parP, r_opt, r_pick, r_add, r_addT, r_addR, r_addL, r_sub, r_mul, r_div, r_mod, r_pow, r_cmp, r_lt, r_neg, r_isXB, r_isXN, r_isN, r_isNr, r_isNi, r_isNn, r_isNt, r_eqI, r_ixT, r_ixK, r_ixR, r_lstOf, r_sliT, r_sliK, r_sliR, r_sliL, r_truB, r_truI, r_truT, r_truN, r_truR, r_truL, r_max, r_min, r_intB, r_intI, r_abs, r_lenT, r_lenK, r_lenR, r_lenL, r_nat, r_set, r_setL, r_isI, r_isB, r_isT, r_fld, r_fldR, r_fldI, r_sfd, r_sfdR, r_sfdI, r_met, r_metR, r_met1, atI0, atI1, atI2, atI3, atI4, ixN1a, ixN2a, ixN2b, ixN3a, ixN3b, ixN3c, put_same, List.map_cons, List.map_nil, List.length_cons, List.length_nil, List.length_set, List.replicate, List.cons_append, List.nil_append, List.append_nil, List.getElem?_cons_zero, List.getElem?_cons_succ, List.set_cons_zero, List.set_cons_succ, true_and, and_true, Option.some.injEq, if_true, if_false, ite_true, ite_false, reduceIte, Bool.not_true, Bool.not_false, Bool.false_eq_true, Nat.reduceAdd, Nat.reduceLeDiff, $[$es:term],*])
section
variable {e : Env} {G G' G1 G2 : HD} {a : Addr} {A A' A1 A2 : HA} {n : Nat} {nm : List Str} {S : HS} {Q : Post} {E : DX} {X : List Addr} {d o : Int} {k : Str} {m : Bool}
theorem pledge_ok (g : e.Good) (h : Hd e G a A n nm S) (hd0 : 0 ≤ d) (hd1 : d < n) (hn : n < 64) (hQ : ∀ G', Go a A A G G' → Hd e G' a A n nm (S.pledged d) → Q .non G') : w_Holds_pledge e [.ref a, .int d] G Q E := by
  obtain ⟨l, h1, h2⟩ := h.qs
  unfold w_Holds_pledge
  exists h.self, lk_q
  refine ⟨g.ok_Holds_asked, ⟨l, h1⟩, popA h1 h2 fun v => ?_⟩
  have h3 := h.setQ (dropQ h2 (d := d))
  have g3 : Go a A A G (put G A.q (.dK (dropKD l (.inl d)))) := Go.put m_q
  generalize put G A.q (.dK (dropKD l (.inl d))) = G1 at h3 g3
  obtain ⟨l2, f1, f2⟩ := h3.fs
  exists h3.self, lk_f
  refine ⟨g.ok_Holds_fast, ?_⟩
  exists f1
  have hl := f2.len
  refine ⟨by omega, fg_in (hQ _ (g3.trans (Go.put m_f)) (h3.setF (u := setF S.fast d true) ((f2.put hd0 hd1).congr fun i => ?_)))⟩
  unfold setF
  split
  · rfl
  · rfl
end
end P
namespace P
open PySem PySem.Spec L2 DL
local macro_rules | `(tactic| exists $es:term,*) => `(tactic| try simp only [q_upd, r_updP, r_updO, q_revV, r_asLK, r_revO, q_mkX, q_lstI, q_lstRg, r_lrg, r_lenD, r_frzD, q_pop1, r_pop1S, r_pop1I, r_popO1, q_eqE, r_inTT, r_inTN, r_inTK, r_inSo, r_inSn, q_srtI, q_dc, r_keyS, r_keyI, q_methK, r_metKd, r_metK, r_popS, r_popI, r_popO, r_sdfS, r_sdfI, q_items, r_itP, r_itO, r_inIR, r_inIq, r_inIo, q_disp, r_dkF, r_inF, q_augI, r_getP2, r_getO2, r_cmpA, q_makeK, q_enum, r_enumP, r_enumO, r_repK, r_addNK, r_inIK, r_inIT, q_get1, q_get2, q_dget, q_sdict, q_pop2, q_setd, q_dic, r_dictP, r_getS, r_getI, r_getO, r_dkS, r_dkI, r_dkO, r_inS, r_inI, r_inO, r_dpS, r_dpI, r_dpO, r_dicP, r_dicO, r_sortDic, r_listDic, r_dictDic, q_dapp, r_lstP, r_appP, r_appO, q_clear, r_clrP, r_clrO, q_truO, r_truOP, r_ownTru, r_boolOD, r_ownBool, q_notO, r_cmpTI, r_cmpT3, r_lenOD, r_ownLen, q_jkeys, q_jvals, r_fzP, r_fzO, q_jstr, r_strS, r_leXI, r_leXS, q_join, q_upper, r_joinP, r_upP, q_kw1, r_minT2, q_emp, q_mt1, r_isiEB, r_isiEb, r_isiEt, r_isiEs, r_isiEl, r_isiEd, r_isiER, r_isE_non, r_isX_non, r_isE_bl, r_isX_bl, r_isE_int, r_isX_int, r_isE_str, r_isX_str, r_isE_tup, r_isX_tup, r_isE_kl, r_isX_kl, r_isE_kc, r_isX_kc, r_isE_ref, r_isX_ref, r_rIsiET, r_rIsiER, r_rIsiXT, r_rIsiXR, r_isD_non_int, r_isD_non_bool, r_isD_non_tuple, r_isD_non_str, r_isD_non_list, r_isD_non_dict, r_isD_bl_int, r_isD_bl_bool, r_isD_bl_tuple, r_isD_bl_str, r_isD_bl_list, r_isD_bl_dict, r_isD_int_int, r_isD_int_bool, r_isD_int_tuple, r_isD_int_str, r_isD_int_list, r_isD_int_dict, r_isD_str_int, r_isD_str_bool, r_isD_str_tuple, r_isD_str_str, r_isD_str_list, r_isD_str_dict, r_isD_tup_int, r_isD_tup_bool, r_isD_tup_tuple, r_isD_tup_str, r_isD_tup_list, r_isD_tup_dict, r_isD_kl_int, r_isD_kl_bool, r_isD_kl_tuple, r_isD_kl_str, r_isD_kl_list, r_isD_kl_dict, r_isD_kc_int, r_isD_kc_bool, r_isD_kc_tuple, r_isD_kc_str, r_isD_kc_list, r_isD_kc_dict, r_isD_non_own, r_isD_bl_own, r_isD_int_own, r_isD_str_own, r_isD_tup_own, r_isD_kl_own, r_isD_kc_own, q_wpf, q_seq, q_set, q_ret, q_retN, q_if, q_drop, r_unp', r_par, q_next, q_brk, q_cont, q_for, sWhile, q_sub, sAug, q_rng1, r_rng1P, jRng2, q_jseq, r_seqT, r_seqK, r_seqR, r_seqL, r_ownP, q_op, r_var, r_varS, q_c, q_cons, q_nil, q_cb, q_tup, q_lst, r_test, r_tru, q_not, q_and, q_or, r_andV, r_orV, r_notV, q_if', q_un, q_call, q_slice, q_some, q_none, r_intP, r_chn, r_chnT, r_link, r_last, cp2, pw2, cp3, pw3, cp4, pw4, cp5, pw5, cp6, pw6, cp7, pw7, cp8, pw8, cp9, pw9, cp10, pw10, cp12, pw12, cp15, pw15, cp18, pw18, cp20, pw20, cp24, pw24, cp28, pw28, cp29, pw29, cp30, pw30, q_tryH, q_raise0, q_raiseX, q_xfld, r_xfld, q_setAs, q_setAs0, q_endsAs0, q_endsNx, q_endsRt, q_endsBk, q_endsCt, r_isNx, r_lcV, q_lstV, q_sliceV, q_frz, r_frzR, r_frzL, r_frzT, r_frzK, r_frzN, r_addVI, r_addVT, r_addVK, r_addVO, r_sliVK, r_sliVC, r_sliVT, r_sliVR, r_sliVL, r_listVK, r_listVC, r_listVT, r_truK, r_eqXS, r_eqXI, r_eqXT2, r_strI, r_seqC, r_ixC, r_lenC, r_sliC, q_lc, q_yes, q_make, r_nonP, q_fldg, r_eqT2, r_set0, r_set1, q_put1, q_putN, r_blP, r_boolP, r_unpP, r_parP, r_opt, r_pick, r_add, r_addT, r_addR, r_addL, r_sub, r_mul, r_div, r_mod, r_pow, r_cmp, r_lt, r_neg, r_isXB, r_isXN, r_isN, r_isNr, r_isNi, r_isNn, r_isNt, r_eqI, r_ixT, r_ixK, r_ixR, r_lstOf, r_sliT, r_sliK, r_sliR, r_sliL, r_truB, r_truI, r_truT, r_truN, r_truR, r_truL, r_max, r_min, r_intB, r_intI, r_abs, r_lenT, r_lenK, r_lenR, r_lenL, r_nat, r_set, r_setL, r_isI, r_isB, r_isT, r_fld, r_fldR, r_fldI, r_sfd, r_sfdR, r_sfdI, r_met, r_metR, r_met1, atI0, atI1, atI2, atI3, atI4, ixN1a, ixN2a, ixN2b, ixN3a, ixN3b, ixN3c, put_same, List.map_cons, List.map_nil, List.length_cons, List.length_nil, List.length_set, List.replicate, List.cons_append, List.nil_append, List.append_nil, List.getElem?_cons_zero, List.getElem?_cons_succ, List.set_cons_zero, List.set_cons_succ, true_and, and_true, Option.some.injEq, if_true, if_false, ite_true, ite_false, reduceIte, Bool.not_true, Bool.not_false, Bool.false_eq_true, Nat.reduceAdd, Nat.reduceLeDiff, $[$es:term],*])
section
variable {e : Env} {G G' G1 G2 : HD} {a : Addr} {A A' A1 A2 : HA} {n : Nat} {nm : List Str} {S : HS} {Q : Post} {E : DX} {X : List Addr} {d o : Int} {k : Str} {m : Bool}
theorem dropB {l : KD} {f : Int → Bool} (h : DI n l fun d => trD (f d)) : DI n (dropKD l (.inl d)) fun x => trD (setF f d false x) :=
  h.drop.congr fun i => by unfold setF; split <;> rfl
theorem dropA {l : KD} {f : Int → Option Int} (h : DI n l fun d => ageD (f d)) : DI n (dropKD l (.inl d)) fun x => ageD (setF f d none x) :=
  h.drop.congr fun i => by unfold setF; split <;> rfl
theorem dropH {l : KD} {f : Int → Option Bool} (h : DI n l fun d => (f d).map mdD) : DI n (dropKD l (.inl d)) fun x => (if x = d then none else f x).map mdD :=
  h.drop.congr fun i => by unfold setF; split <;> rfl
/-! ### one key freed -/
theorem free1_ok (g : e.Good) (h : Hd e G a A n nm S) {dn rs : List (Str × Addr)} {x : Str × Addr} (hb : A.bk = dn ++ x :: rs) {fg : D} {W : DW} {D' : DEnds}
    (hk : ∀ G' dn', (dn' = dn ∨ dn' = dn ++ [x]) → Go a A { A with bk := dn' ++ rs } G G' → Hd e G' a { A with bk := dn' ++ rs } n nm (S.free1 x.1 d) → D'.nx [some (.ref a), some (.int d), some fg, some (.str x.1)] G') :
    l_Holds_free_1 e W D' [some (.ref a), some (.int d), some fg, some (.str x.1)] G := by
  have hx : x ∈ A.bk := by rw [hb]; simp
  obtain ⟨l, h1, h2, h3⟩ := h.inn x hx
  have w := h.ne
  have hxk : x.2 ≠ A.k := ne_b w.kb hx
  have hxa : x.2 ≠ a := ne_b w.ab hx
  unfold l_Holds_free_1
  exists h.self, lk_k
  refine ⟨g.ok_Holds_by_key, ?_⟩
  exists h.ks, h.at hx
  refine ⟨⟨l, h1⟩, popA h1 h3 fun v => ?_⟩
  have h3' := dropH h3 (d := d)
  have ha1 : put G x.2 (.dK (dropKD l (.inl d))) a = some (.ins e.C_Holds (fsH A)) := (put_ne hxa.symm).trans h.self
  have hk1 : put G x.2 (.dK (dropKD l (.inl d))) A.k = some (.dK (A.bk.map kyD)) := (put_ne hxk.symm).trans h.ks
  exists ha1, lk_k
  refine ⟨g.ok_Holds_by_key, ?_⟩
  exists hk1, h.at hx
  have hbb : ∀ y ∈ A.bk, y.1 ≠ x.1 → y.2 ≠ x.2 := fun y hy hne z => hne (by rw [map_inj w.bb hy hx z])
  have hol : ∀ y : Str × Addr, y.1 ≠ x.1 → (S.free1 x.1 d).hold y.1 = S.hold y.1 := fun y hy => by
    funext o
    show (if y.1 = x.1 ∧ o = d then none else S.hold y.1 o) = _
    rw [if_neg fun z => hy z.1]
  have hox : (S.free1 x.1 d).hold x.1 = fun o => if o = d then none else S.hold x.1 o := by
    funext o
    show (if x.1 = x.1 ∧ o = d then none else S.hold x.1 o) = _
    by_cases ho : o = d <;> simp [ho]
  have uniq : ∀ y ∈ A.bk, y.1 = x.1 → y = x := fun y hy hyx => map_inj h.ndk hy hx hyx
  have base : ∀ l' : KD, l' ≠ [] → l' = dropKD l (.inl d) → Hd e (put G x.2 (.dK l')) a A n nm (S.free1 x.1 d) := fun l' hne hl' => by
    subst hl'
    refine ⟨ha1, hk1, h.ndk, h.mem, fun y hy => ?_, fun k hk o => ?_, ?_, ?_, ?_, ?_, h.nd⟩
    · by_cases hyx : y.1 = x.1
      · rw [uniq y hy hyx]
        exact ⟨_, put_same, hne, by rw [hox]; exact h3'⟩
      · obtain ⟨l2, q1, q2, q3⟩ := h.inn y hy
        exact ⟨l2, (put_ne (hbb y hy hyx)).trans q1, q2, by rw [hol y hyx]; exact q3⟩
    · show (if k = x.1 ∧ o = d then none else S.hold k o) = none
      rw [h.out k hk]; split <;> rfl
    · obtain ⟨l1, z⟩ := h.gs; exact ⟨l1, (put_ne (ne_b w.gb hx).symm).trans z.1, z.2⟩
    · obtain ⟨l1, z⟩ := h.fs; exact ⟨l1, (put_ne (ne_b w.fb hx).symm).trans z.1, z.2⟩
    · obtain ⟨l1, z⟩ := h.ls; exact ⟨l1, (put_ne (ne_b w.lb hx).symm).trans z.1, z.2⟩
    · obtain ⟨l1, z⟩ := h.qs; exact ⟨l1, (put_ne (ne_b w.qb hx).symm).trans z.1, z.2⟩
  cases he : (dropKD l (.inl d)).isEmpty with
  | false =>
    exists if_true
    have eA : { A with bk := (dn ++ [x]) ++ rs } = A := by cases A; simp only [HA.mk.injEq, true_and]; simpa using hb.symm
    refine hk _ (dn ++ [x]) (.inr rfl) (by rw [eA]; exact Go.put (m_b hx)) (by rw [eA]; exact base _ (fun z => by rw [z] at he; cases he) rfl)
  | true =>
    exists ha1, lk_k
    refine ⟨g.ok_Holds_by_key, ⟨_, hk1⟩, ?_⟩
    exists hk1, h.at hx
    have ed : dropKD (A.bk.map kyD) (.inr x.1) = ((dn ++ rs).map kyD) := by
      have nd := h.ndk
      rw [hb] at nd ⊢
      rw [List.map_append, List.map_cons, List.nodup_append] at nd
      obtain ⟨n1, n2, n3⟩ := nd
      rw [List.nodup_cons] at n2
      unfold dropKD
      rw [List.map_append, List.map_cons, List.filter_append, List.filter_cons_of_neg (by simp [kyD]), List.map_append]
      congr 1
      · rw [List.filter_eq_self]
        intro p hp
        obtain ⟨y, hy, rfl⟩ := List.mem_map.mp hp
        exact decide_eq_true fun z => n3 y.1 (List.mem_map.mpr ⟨y, hy, rfl⟩) x.1 List.mem_cons_self (Sum.inr.inj z)
      · rw [List.filter_eq_self]
        intro p hp
        obtain ⟨y, hy, rfl⟩ := List.mem_map.mp hp
        exact decide_eq_true fun z => n2.1 (List.mem_map.mpr ⟨y, hy, Sum.inr.inj z⟩)
    rw [ed]
    have hsub : ∀ y ∈ dn ++ rs, y ∈ A.bk ∧ y.1 ≠ x.1 := fun y hy => by
      have nd := h.ndk
      rw [hb] at nd ⊢
      rw [List.map_append, List.map_cons, List.nodup_append] at nd
      obtain ⟨n1, n2, n3⟩ := nd
      rw [List.nodup_cons] at n2
      rcases List.mem_append.mp hy with hy | hy
      · exact ⟨by simp [hy], fun z => n3 y.1 (List.mem_map.mpr ⟨y, hy, rfl⟩) x.1 List.mem_cons_self z⟩
      · exact ⟨by simp [hy], fun z => n2.1 (List.mem_map.mpr ⟨y, hy, z⟩)⟩
    have hsl : (dn ++ rs).Sublist A.bk := by rw [hb]; exact List.Sublist.append_left (List.sublist_cons_self _ _) _
    have hown : (ownH a { A with bk := dn ++ rs }).Sublist (ownH a A) := by
      unfold ownH
      exact ((((((hsl.map _).cons_cons _).cons_cons _).cons_cons _).cons_cons _).cons_cons _).cons_cons _
    have g0 : Go a A A G (put (put G x.2 (.dK (dropKD l (.inl d)))) A.k (.dK ((dn ++ rs).map kyD))) := (Go.put (m_b hx)).trans (Go.put m_k)
    refine hk _ dn (.inl rfl) ⟨g0.fr, fun y hy => .inl (hown.subset hy)⟩ ⟨?_, put_same, h.ndk.sublist (hsl.map _), fun y hy => h.mem y (hsub y hy).1, fun y hy => ?_, fun k hk o => ?_, ?_, ?_, ?_, ?_, h.nd.sublist hown⟩
    · rw [put_ne w.ak, ha1]; rfl
    · obtain ⟨q0, q1⟩ := hsub y hy
      obtain ⟨l2, q2, q3, q4⟩ := h.inn y q0
      exact ⟨l2, (put_ne (ne_b w.kb q0)).trans ((put_ne (hbb y q0 q1)).trans q2), q3, by rw [hol y q1]; exact q4⟩
    · show (if k = x.1 ∧ o = d then none else S.hold k o) = none
      by_cases hkx : k = x.1
      · subst hkx
        have h5 := h3'.isE.mp he o
        by_cases ho : o = d
        · rw [if_pos ⟨rfl, ho⟩]
        · rw [if_neg ho] at h5
          rw [if_neg (fun z => ho z.2)]
          cases hh : S.hold x.1 o with
          | none => rfl
          | some w => rw [hh] at h5; cases h5
      · rw [if_neg fun z => hkx z.1]
        refine h.out k (fun z => hk ?_) o
        obtain ⟨y, hy, e1⟩ := List.mem_map.mp z
        rw [hb] at hy
        rcases List.mem_append.mp hy with hy | hy
        · exact List.mem_map.mpr ⟨y, List.mem_append_left _ hy, e1⟩
        · rcases List.mem_cons.mp hy with rfl | hy
          · exact absurd e1.symm hkx
          · exact List.mem_map.mpr ⟨y, List.mem_append_right _ hy, e1⟩
    · obtain ⟨l1, z⟩ := h.gs; exact ⟨l1, (put_ne w.kg.symm).trans ((put_ne (ne_b w.gb hx).symm).trans z.1), z.2⟩
    · obtain ⟨l1, z⟩ := h.fs; exact ⟨l1, (put_ne w.kf.symm).trans ((put_ne (ne_b w.fb hx).symm).trans z.1), z.2⟩
    · obtain ⟨l1, z⟩ := h.ls; exact ⟨l1, (put_ne w.kl.symm).trans ((put_ne (ne_b w.lb hx).symm).trans z.1), z.2⟩
    · obtain ⟨l1, z⟩ := h.qs; exact ⟨l1, (put_ne w.kq.symm).trans ((put_ne (ne_b w.qb hx).symm).trans z.1), z.2⟩
theorem keysD_ky {l : List (Str × Addr)} : keysD (l.map kyD) = l.map fun x => .str x.1 := by unfold keysD; rw [List.map_map]; rfl
theorem free_ok (g : e.Good) (hn : n < 64) (h : Hd e G a A n nm S) {fg : Bool} (hQ : ∀ G' A', Go a A A' G G' → Hd e G' a A' n nm (S.freed d fg) → Q .non G') : w_Holds_free e [.ref a, .int d, .bl fg] G Q E := by
  unfold w_Holds_free
  exists h.self, lk_k
  refine ⟨g.ok_Holds_by_key, ?_⟩
  exists h.ks
  refine newL_in fun q G1 hq _ hq1 l1 _ => ?_
  exists hq1
  have h1 := h.le l1
  rw [keysD_ky] at hq1 ⊢
  have hqo : q ∉ ownH a A := h.out' hq
  have h1a := h1.out' (x := q)
  refine forD_inv (fun l σ G' => ∃ dn rs ks A' x3, l = rs.map (fun x => D.str x.1) ∧ σ = [some (.ref a), some (.int d), some (.bl fg), x3] ∧ A' = { A with bk := dn ++ rs } ∧ (∀ k, k ∈ A.bk.map (·.1) ↔ k ∈ ks ∨ k ∈ rs.map (·.1)) ∧ Go a A A' G1 G' ∧ G' q = some (.lst (A.bk.map fun x => D.str x.1)) ∧ Hd e G' a A' n nm { S with hold := fun x o => if x ∈ ks ∧ o = d then none else S.hold x o })
    (fun l σ G' ⟨_, _, _, _, _, _, _, _, _, _, z, _⟩ => z) (fun y l κ σ G' hI hk => ?_) (fun σ G' hI => ?_) _ _ _ ⟨[], A.bk, [], A, none, rfl, rfl, by cases A; rfl, by simp, Go.refl, hq1, by simpa using h1⟩
  · obtain ⟨dn, rs, ks, A', x3, e1, rfl, eA, hks, hg, hqq, hH⟩ := hI
    cases rs with
    | nil => cases e1
    | cons x rs =>
      rw [List.map_cons] at e1
      injection e1 with e2 e3
      subst e2; subst e3
      exists if_true
      have hbk : A'.bk = dn ++ x :: rs := by rw [eA]
      refine free1_ok g hH hbk (fun G2 dn' hdn hgo hH2 => hk _ _ ⟨dn', rs, x.1 :: ks, _, _, rfl, rfl, by rw [eA], fun k => ?_, hg.trans hgo, ?_, ?_⟩)
      · rw [hks k, List.map_cons, List.mem_cons, List.mem_cons]
        constructor
        · rintro (z | z | z)
          · exact .inl (.inr z)
          · exact .inl (.inl z)
          · exact .inr z
        · rintro ((z | z) | z)
          · exact .inr (.inl z)
          · exact .inl z
          · exact .inr (.inr z)
      · refine hgo.fr q _ (fun z => ?_) hqq
        rcases hg.own q z with z | z
        · exact hqo z
        · rw [hq1] at z; cases z
      · have e5 : ({ S with hold := fun x o => if x ∈ ks ∧ o = d then none else S.hold x o } : HS).free1 x.1 d = { S with hold := fun y o => if y ∈ x.1 :: ks ∧ o = d then none else S.hold y o } := by
          unfold HS.free1
          congr 1
          funext y o
          show (if y = x.1 ∧ o = d then none else if y ∈ ks ∧ o = d then none else S.hold y o) = _
          by_cases ho : o = d
          · by_cases h1 : y = x.1 <;> by_cases h2 : y ∈ ks <;> simp [h1, h2, ho]
          · simp [ho]
        rw [← e5]; exact hH2
  · obtain ⟨dn, rs, ks, A', x3, e1, rfl, eA, hks, hg, hqq, hH⟩ := hI
    have hrs : rs = [] := by cases rs with
      | nil => rfl
      | cons _ _ => cases e1
    subst hrs
    have hg0 : Go a A A' G G' := (Go.le l1).trans hg
    have eH : ({ S with hold := fun x o => if x ∈ ks ∧ o = d then none else S.hold x o } : HS) = { S with hold := fun x o => if o = d then none else S.hold x o } := by
      congr 1
      funext x o
      by_cases ho : o = d
      · by_cases hx : x ∈ ks
        · simp [hx, ho]
        · have : x ∉ A.bk.map (·.1) := fun z => by
            rcases (hks x).mp z with z | z
            · exact hx z
            · cases z
          simp [hx, ho, h.out x this]
      · simp [ho]
    rw [eH] at hH
    obtain ⟨l4, q1, q2⟩ := hH.qs
    exists hH.self, lk_q
    refine ⟨g.ok_Holds_asked, ⟨l4, q1⟩, popA q1 q2 fun v => ?_⟩
    have hH2 := hH.setQ (dropQ q2 (d := d))
    have hg2 := hg0.trans (Go.put (G := G') (o := .dK (dropKD l4 (.inl d))) m_q)
    generalize put G' A'.q (.dK (dropKD l4 (.inl d))) = G2 at hH2 hg2
    obtain ⟨l2, f1, f2⟩ := hH2.fs
    exists hH2.self, lk_f
    refine ⟨g.ok_Holds_fast, ⟨l2, f1⟩, popA f1 f2 fun v => ?_⟩
    have hH3 := hH2.setF (dropB f2 (d := d))
    have hg3 := hg2.trans (Go.put (G := G2) (o := .dK (dropKD l2 (.inl d))) m_f)
    generalize put G2 A'.f (.dK (dropKD l2 (.inl d))) = G3 at hH3 hg3
    obtain ⟨l5, g1, g2⟩ := hH3.gs
    exists hH3.self, lk_g
    refine ⟨g.ok_Holds_ages, ⟨l5, g1⟩, popA g1 g2 fun v => ?_⟩
    have hH4 := hH3.setG (dropA g2 (d := d))
    have hg4 := hg3.trans (Go.put (G := G3) (o := .dK (dropKD l5 (.inl d))) m_g)
    generalize put G3 A'.g (.dK (dropKD l5 (.inl d))) = G4 at hH4 hg4
    cases fg with
    | false =>
      exists if_true
      exact fg_in (hQ _ _ hg4 hH4)
    | true =>
      obtain ⟨l3, k1, k2⟩ := hH4.ls
      exists hH4.self, lk_l
      refine ⟨g.ok_Holds_lost, ⟨l3, k1⟩, popA k1 k2 fun v => fg_in ?_⟩
      exact hQ _ _ (hg4.trans (Go.put (G := G4) (o := .dK (dropKD l3 (.inl d))) m_l)) (hH4.setL (dropB k2 (d := d)))
theorem calloff_ok (g : e.Good) (hn : n < 64) (h : Hd e G a A n nm S) (hd0 : 0 ≤ d) (hd1 : d < n) (hQ : ∀ G' A', Go a A A' G G' → Hd e G' a A' n nm (S.off d) → Q .non G') : w_Holds_call_off e [.ref a, .int d] G Q E := by
  unfold w_Holds_call_off
  exists h.self
  refine ⟨rfl, free_ok g hn h fun G1 A1 g1 h1 => ?_⟩
  obtain ⟨l3, k1, k2⟩ := h1.ls
  exists h1.self, lk_l
  refine ⟨g.ok_Holds_lost, ?_⟩
  exists k1
  have hl := k2.len
  refine ⟨by omega, fg_in (hQ _ _ (g1.trans (Go.put m_l)) ?_)⟩
  refine h1.setL (u := setF S.lost d true) ((k2.put hd0 hd1).congr fun i => ?_)
  unfold setF
  show (if i = d then _ else trD (S.lost i)) = trD (if i = d then true else S.lost i)
  split <;> rfl
end
end P
namespace P
open PySem PySem.Spec L2 DL
local macro_rules | `(tactic| exists $es:term,*) => `(tactic| try simp only [q_upd, r_updP, r_updO, q_revV, r_asLK, r_revO, q_mkX, q_lstI, q_lstRg, r_lrg, r_lenD, r_frzD, q_pop1, r_pop1S, r_pop1I, r_popO1, q_eqE, r_inTT, r_inTN, r_inTK, r_inSo, r_inSn, q_srtI, q_dc, r_keyS, r_keyI, q_methK, r_metKd, r_metK, r_popS, r_popI, r_popO, r_sdfS, r_sdfI, q_items, r_itP, r_itO, r_inIR, r_inIq, r_inIo, q_disp, r_dkF, r_inF, q_augI, r_getP2, r_getO2, r_cmpA, q_makeK, q_enum, r_enumP, r_enumO, r_repK, r_addNK, r_inIK, r_inIT, q_get1, q_get2, q_dget, q_sdict, q_pop2, q_setd, q_dic, r_dictP, r_getS, r_getI, r_getO, r_dkS, r_dkI, r_dkO, r_inS, r_inI, r_inO, r_dpS, r_dpI, r_dpO, r_dicP, r_dicO, r_sortDic, r_listDic, r_dictDic, q_dapp, r_lstP, r_appP, r_appO, q_clear, r_clrP, r_clrO, q_truO, r_truOP, r_ownTru, r_boolOD, r_ownBool, q_notO, r_cmpTI, r_cmpT3, r_lenOD, r_ownLen, q_jkeys, q_jvals, r_fzP, r_fzO, q_jstr, r_strS, r_leXI, r_leXS, q_join, q_upper, r_joinP, r_upP, q_kw1, r_minT2, q_emp, q_mt1, r_isiEB, r_isiEb, r_isiEt, r_isiEs, r_isiEl, r_isiEd, r_isiER, r_isE_non, r_isX_non, r_isE_bl, r_isX_bl, r_isE_int, r_isX_int, r_isE_str, r_isX_str, r_isE_tup, r_isX_tup, r_isE_kl, r_isX_kl, r_isE_kc, r_isX_kc, r_isE_ref, r_isX_ref, r_rIsiET, r_rIsiER, r_rIsiXT, r_rIsiXR, r_isD_non_int, r_isD_non_bool, r_isD_non_tuple, r_isD_non_str, r_isD_non_list, r_isD_non_dict, r_isD_bl_int, r_isD_bl_bool, r_isD_bl_tuple, r_isD_bl_str, r_isD_bl_list, r_isD_bl_dict, r_isD_int_int, r_isD_int_bool, r_isD_int_tuple, r_isD_int_str, r_isD_int_list, r_isD_int_dict, r_isD_str_int, r_isD_str_bool, r_isD_str_tuple, r_isD_str_str, r_isD_str_list, r_isD_str_dict, r_isD_tup_int, r_isD_tup_bool, r_isD_tup_tuple, r_isD_tup_str, r_isD_tup_list, r_isD_tup_dict, r_isD_kl_int, r_isD_kl_bool, r_isD_kl_tuple, r_isD_kl_str, r_isD_kl_list, r_isD_kl_dict, r_isD_kc_int, r_isD_kc_bool, r_isD_kc_tuple, r_isD_kc_str, r_isD_kc_list, r_isD_kc_dict, r_isD_non_own, r_isD_bl_own, r_isD_int_own, r_isD_str_own, r_isD_tup_own, r_isD_kl_own, r_isD_kc_own, q_wpf, q_seq, q_set, q_ret, q_retN, q_if, q_drop, r_unp', r_par, q_next, q_brk, q_cont, q_for, sWhile, q_sub, sAug, q_rng1, r_rng1P, jRng2, q_jseq, r_seqT, r_seqK, r_seqR, r_seqL, r_ownP, q_op, r_var, r_varS, q_c, q_cons, q_nil, q_cb, q_tup, q_lst, r_test, r_tru, q_not, q_and, q_or, r_andV, r_orV, r_notV, q_if', q_un, q_call, q_slice, q_some, q_none, r_intP, r_chn, r_chnT, r_link, r_last, cp2, pw2, cp3, pw3, cp4, pw4, cp5, pw5, cp6, pw6, cp7, pw7, cp8, pw8, cp9, pw9, cp10, pw10, cp12, pw12, cp15, pw15, cp18, pw18, cp20, pw20, cp24, pw24, cp28, pw28, cp29, pw29, cp30, pw30, q_tryH, q_raise0, q_raiseX, q_xfld, r_xfld, q_setAs, q_setAs0, q_endsAs0, q_endsNx, q_endsRt, q_endsBk, q_endsCt, r_isNx, r_lcV, q_lstV, q_sliceV, q_frz, r_frzR, r_frzL, r_frzT, r_frzK, r_frzN, r_addVI, r_addVT, r_addVK, r_addVO, r_sliVK, r_sliVC, r_sliVT, r_sliVR, r_sliVL, r_listVK, r_listVC, r_listVT, r_truK, r_eqXS, r_eqXI, r_eqXT2, r_strI, r_seqC, r_ixC, r_lenC, r_sliC, q_lc, q_yes, q_make, r_nonP, q_fldg, r_eqT2, r_set0, r_set1, q_put1, q_putN, r_blP, r_boolP, r_unpP, r_parP, r_opt, r_pick, r_add, r_addT, r_addR, r_addL, r_sub, r_mul, r_div, r_mod, r_pow, r_cmp, r_lt, r_neg, r_isXB, r_isXN, r_isN, r_isNr, r_isNi, r_isNn, r_isNt, r_eqI, r_ixT, r_ixK, r_ixR, r_lstOf, r_sliT, r_sliK, r_sliR, r_sliL, r_truB, r_truI, r_truT, r_truN, r_truR, r_truL, r_max, r_min, r_intB, r_intI, r_abs, r_lenT, r_lenK, r_lenR, r_lenL, r_nat, r_set, r_setL, r_isI, r_isB, r_isT, r_fld, r_fldR, r_fldI, r_sfd, r_sfdR, r_sfdI, r_met, r_metR, r_met1, atI0, atI1, atI2, atI3, atI4, ixN1a, ixN2a, ixN2b, ixN3a, ixN3b, ixN3c, put_same, List.map_cons, List.map_nil, List.length_cons, List.length_nil, List.length_set, List.replicate, List.cons_append, List.nil_append, List.append_nil, List.getElem?_cons_zero, List.getElem?_cons_succ, List.set_cons_zero, List.set_cons_succ, true_and, and_true, Option.some.injEq, if_true, if_false, ite_true, ite_false, reduceIte, Bool.not_true, Bool.not_false, Bool.false_eq_true, Nat.reduceAdd, Nat.reduceLeDiff, $[$es:term],*])
section
variable {e : Env} {G G' G1 G2 : HD} {a : Addr} {A A' A1 A2 : HA} {n : Nat} {nm : List Str} {S : HS} {Q : Post} {E : DX} {X : List Addr} {d o : Int} {k : Str} {m : Bool}
/-! ### of -/
/-- a dict comprehension over unlike keys -/
theorem dc_I {ok : HD → Prop} {step : D → (Key → D → HD → Prop) → (HD → Prop) → HD → Prop} {fin : KD → HD → Prop} {α : Type} {f : α → D} {G : HD} (p : α → Option D) (ky : α → Key) (hk : ok G) :
    ∀ {xs : List α} {acc : KD}, (acc.map (·.1) ++ xs.map ky).Nodup → (∀ x ∈ xs, ∀ (kY : Key → D → HD → Prop) (kn : HD → Prop), (match p x with | some v => kY (ky x) v G | none => kn G) → step (f x) kY kn G) → fin (acc ++ xs.filterMap fun x => (p x).map fun v => (ky x, v)) G → dcD ok step fin (xs.map f) acc G
  | [], acc, _, _, hf => ⟨G, Le.refl _, hk, by simpa using hf⟩
  | x :: xs, acc, hn, h, hf => by
    refine ⟨G, Le.refl _, hk, h x List.mem_cons_self _ _ ?_⟩
    cases hx : p x with
    | none =>
      refine dc_I p ky hk (hn.sublist (List.Sublist.append_left (by rw [List.map_cons]; exact List.sublist_cons_self _ _) _)) (fun y hy => h y (List.mem_cons_of_mem _ hy)) ?_
      rw [List.filterMap_cons, hx] at hf
      exact hf
    | some v =>
      have e1 : putKD acc (ky x) v = acc ++ [(ky x, v)] := by
        unfold putKD
        rw [if_neg]
        intro z
        have z' := has_mem.mp z
        exact (List.nodup_append.mp hn).2.2 _ z' _ (by rw [List.map_cons]; exact List.mem_cons_self) rfl
      show dcD ok step fin (xs.map f) (putKD acc (ky x) v) G
      rw [e1]
      refine dc_I p ky hk (by rw [List.map_append, List.append_assoc]; exact hn) (fun y hy => h y (List.mem_cons_of_mem _ hy)) ?_
      rw [List.filterMap_cons, hx] at hf
      simpa using hf
theorem fm_congr {α β : Type} {f g : α → Option β} : ∀ {l : List α}, (∀ x ∈ l, f x = g x) → l.filterMap f = l.filterMap g
  | [], _ => rfl
  | x :: l, h => by rw [List.filterMap_cons, List.filterMap_cons, h x List.mem_cons_self, fm_congr fun y hy => h y (List.mem_cons_of_mem _ hy)]
theorem s_ext {x y : Str} (h : x.cps.toList = y.cps.toList) : x = y := by
  cases x; cases y
  simp only [Str.mk.injEq] at h ⊢
  exact Array.ext' h
/-- names, sorted -/
def Srt (nm : List Str) : Prop := nm.Pairwise fun a b => a.cps.toList < b.cps.toList
theorem srt_nd {nm : List Str} (h : Srt nm) : nm.Nodup := h.imp fun z e => by rw [e] at z; exact absurd z (Std.lt_irrefl (α := List Nat))
theorem srt_same {l nm : List Str} (hn : Srt nm) (h : l.Pairwise fun a b => ¬ b.cps.toList < a.cps.toList) (hp : l.Perm nm) : l = nm :=
  hp.eq_of_pairwise (fun a b _ _ h3 h4 => s_ext (Std.le_antisymm (Std.not_lt.mp h3) (Std.not_lt.mp h4))) h (hn.imp fun z w => absurd (Std.lt_trans z w) Std.lt_irrefl)
theorem str_ky : ∀ {l : List (Str × Addr)}, strItems (l.map kyD) = some (l.map fun x => (x.1, .ref x.2))
  | [] => rfl
  | x :: l => by
    show (strItems (l.map kyD)).map ((x.1, D.ref x.2) :: ·) = _
    rw [str_ky]; rfl
theorem of_ok (g : e.Good) (hs : Srt nm) (hm : nm.length < 64) (h : Hd e G a A n nm S) (hQ : ∀ p G', G p = none → Le G G' → G' p = some (.dK (ofD nm S d)) → Q (.ref p) G') : w_Holds_of e [.ref a, .int d] G Q E := by
  unfold w_Holds_of
  exists h.self, lk_k
  refine ⟨g.ok_Holds_by_key, ?_⟩
  exists h.ks, str_ky
  refine ⟨by rw [List.map_map]; exact h.ndk, fun qs hp hsr => ?_⟩
  exists if_true
  have hks : (qs.map (·.1)).Perm (A.bk.map (·.1)) := by
    have := hp.map (·.1)
    rwa [List.map_map] at this
  have hmem : ∀ q ∈ qs, ∃ x ∈ A.bk, q = (x.1, .ref x.2) := fun q hq => by
    obtain ⟨x, hx, e⟩ := List.mem_map.mp (hp.mem_iff.mp hq)
    exact ⟨x, hx, e.symm⟩
  have hfl : qs.map (·.1) = nm.filter fun k => decide (k ∈ A.bk.map (·.1)) := by
    refine srt_same (hs.sublist List.filter_sublist) hsr (hks.trans (perm_mem h.ndk ((srt_nd hs).sublist List.filter_sublist) fun k => ?_))
    rw [List.mem_filter]
    constructor
    · intro z
      obtain ⟨x, hx, e1⟩ := List.mem_map.mp z
      exact ⟨e1 ▸ h.mem x hx, decide_eq_true z⟩
    · intro z; exact of_decide_eq_true z.2
  refine ⟨?_, ?_⟩
  · rw [List.length_map, ← List.length_map (f := (·.1)), hfl]
    have := List.length_filter_le (fun k => decide (k ∈ A.bk.map (·.1))) nm
    omega
  refine dc_I (G := G) (f := itD) (ky := fun q => .inr q.1) (p := fun q => (S.hold q.1 d).map mdD) trivial ?_ (fun q hq kY kn hk => ?_) (fun p hp0 => ?_)
  · rw [List.map_nil, List.nil_append]
    have e1 : (qs.map fun q => (Sum.inr q.1 : Key)) = (qs.map (·.1)).map Sum.inr := by rw [List.map_map]; rfl
    rw [e1]
    exact List.Pairwise.map Sum.inr (fun _ _ hab => fun z => hab (Sum.inr.inj z)) (hks.nodup_iff.mpr h.ndk)
  · obtain ⟨x, hx, rfl⟩ := hmem q hq
    obtain ⟨l, h1, h2, h3⟩ := h.inn x hx
    exists itD, dwipe, setAll, h1
    have hv := h3.val d
    rw [hv]
    have hk' : match (S.hold x.1 d).map mdD with | some v => kY (.inr x.1) v G | none => kn G := hk
    cases hh : S.hold x.1 d with
    | none => rw [hh] at hk'; exact hk'
    | some w => rw [hh] at hk'; exact hk'
  · refine fg_in (hQ p _ hp0 (Le.newB hp0) ?_)
    rw [put_same, List.nil_append]
    have e1 : (qs.filterMap fun x => ((S.hold x.1 d).map mdD).map fun v => ((.inr x.1 : Key), v)) = (qs.map (·.1)).filterMap fun k => (S.hold k d).map fun w => ((.inr k : Key), mdD w) := by
      rw [List.filterMap_map]
      congr 1
      funext x
      simp only [Function.comp, Option.map_map]
      rfl
    rw [e1, hfl]
    unfold ofD
    congr 2
    rw [List.filterMap_filter]
    refine fm_congr fun k _ => ?_
    by_cases hk : k ∈ A.bk.map (·.1)
    · simp [hk]
    · simp [hk, h.out k hk]
end
end P
namespace P
open PySem PySem.Spec L2 DL
local macro_rules | `(tactic| exists $es:term,*) => `(tactic| try simp only [q_upd, r_updP, r_updO, q_revV, r_asLK, r_revO, q_mkX, q_lstI, q_lstRg, r_lrg, r_lenD, r_frzD, q_pop1, r_pop1S, r_pop1I, r_popO1, q_eqE, r_inTT, r_inTN, r_inTK, r_inSo, r_inSn, q_srtI, q_dc, r_keyS, r_keyI, q_methK, r_metKd, r_metK, r_popS, r_popI, r_popO, r_sdfS, r_sdfI, q_items, r_itP, r_itO, r_inIR, r_inIq, r_inIo, q_disp, r_dkF, r_inF, q_augI, r_getP2, r_getO2, r_cmpA, q_makeK, q_enum, r_enumP, r_enumO, r_repK, r_addNK, r_inIK, r_inIT, q_get1, q_get2, q_dget, q_sdict, q_pop2, q_setd, q_dic, r_dictP, r_getS, r_getI, r_getO, r_dkS, r_dkI, r_dkO, r_inS, r_inI, r_inO, r_dpS, r_dpI, r_dpO, r_dicP, r_dicO, r_sortDic, r_listDic, r_dictDic, q_dapp, r_lstP, r_appP, r_appO, q_clear, r_clrP, r_clrO, q_truO, r_truOP, r_ownTru, r_boolOD, r_ownBool, q_notO, r_cmpTI, r_cmpT3, r_lenOD, r_ownLen, q_jkeys, q_jvals, r_fzP, r_fzO, q_jstr, r_strS, r_leXI, r_leXS, q_join, q_upper, r_joinP, r_upP, q_kw1, r_minT2, q_emp, q_mt1, r_isiEB, r_isiEb, r_isiEt, r_isiEs, r_isiEl, r_isiEd, r_isiER, r_isE_non, r_isX_non, r_isE_bl, r_isX_bl, r_isE_int, r_isX_int, r_isE_str, r_isX_str, r_isE_tup, r_isX_tup, r_isE_kl, r_isX_kl, r_isE_kc, r_isX_kc, r_isE_ref, r_isX_ref, r_rIsiET, r_rIsiER, r_rIsiXT, r_rIsiXR, r_isD_non_int, r_isD_non_bool, r_isD_non_tuple, r_isD_non_str, r_isD_non_list, r_isD_non_dict, r_isD_bl_int, r_isD_bl_bool, r_isD_bl_tuple, r_isD_bl_str, r_isD_bl_list, r_isD_bl_dict, r_isD_int_int, r_isD_int_bool, r_isD_int_tuple, r_isD_int_str, r_isD_int_list, r_isD_int_dict, r_isD_str_int, r_isD_str_bool, r_isD_str_tuple, r_isD_str_str, r_isD_str_list, r_isD_str_dict, r_isD_tup_int, r_isD_tup_bool, r_isD_tup_tuple, r_isD_tup_str, r_isD_tup_list, r_isD_tup_dict, r_isD_kl_int, r_isD_kl_bool, r_isD_kl_tuple, r_isD_kl_str, r_isD_kl_list, r_isD_kl_dict, r_isD_kc_int, r_isD_kc_bool, r_isD_kc_tuple, r_isD_kc_str, r_isD_kc_list, r_isD_kc_dict, r_isD_non_own, r_isD_bl_own, r_isD_int_own, r_isD_str_own, r_isD_tup_own, r_isD_kl_own, r_isD_kc_own, q_wpf, q_seq, q_set, q_ret, q_retN, q_if, q_drop, r_unp', r_par, q_next, q_brk, q_cont, q_for, sWhile, q_sub, sAug, q_rng1, r_rng1P, jRng2, q_jseq, r_seqT, r_seqK, r_seqR, r_seqL, r_ownP, q_op, r_var, r_varS, q_c, q_cons, q_nil, q_cb, q_tup, q_lst, r_test, r_tru, q_not, q_and, q_or, r_andV, r_orV, r_notV, q_if', q_un, q_call, q_slice, q_some, q_none, r_intP, r_chn, r_chnT, r_link, r_last, cp2, pw2, cp3, pw3, cp4, pw4, cp5, pw5, cp6, pw6, cp7, pw7, cp8, pw8, cp9, pw9, cp10, pw10, cp12, pw12, cp15, pw15, cp18, pw18, cp20, pw20, cp24, pw24, cp28, pw28, cp29, pw29, cp30, pw30, q_tryH, q_raise0, q_raiseX, q_xfld, r_xfld, q_setAs, q_setAs0, q_endsAs0, q_endsNx, q_endsRt, q_endsBk, q_endsCt, r_isNx, r_lcV, q_lstV, q_sliceV, q_frz, r_frzR, r_frzL, r_frzT, r_frzK, r_frzN, r_addVI, r_addVT, r_addVK, r_addVO, r_sliVK, r_sliVC, r_sliVT, r_sliVR, r_sliVL, r_listVK, r_listVC, r_listVT, r_truK, r_eqXS, r_eqXI, r_eqXT2, r_strI, r_seqC, r_ixC, r_lenC, r_sliC, q_lc, q_yes, q_make, r_nonP, q_fldg, r_eqT2, r_set0, r_set1, q_put1, q_putN, r_blP, r_boolP, r_unpP, r_parP, r_opt, r_pick, r_add, r_addT, r_addR, r_addL, r_sub, r_mul, r_div, r_mod, r_pow, r_cmp, r_lt, r_neg, r_isXB, r_isXN, r_isN, r_isNr, r_isNi, r_isNn, r_isNt, r_eqI, r_ixT, r_ixK, r_ixR, r_lstOf, r_sliT, r_sliK, r_sliR, r_sliL, r_truB, r_truI, r_truT, r_truN, r_truR, r_truL, r_max, r_min, r_intB, r_intI, r_abs, r_lenT, r_lenK, r_lenR, r_lenL, r_nat, r_set, r_setL, r_isI, r_isB, r_isT, r_fld, r_fldR, r_fldI, r_sfd, r_sfdR, r_sfdI, r_met, r_metR, r_met1, atI0, atI1, atI2, atI3, atI4, ixN1a, ixN2a, ixN2b, ixN3a, ixN3b, ixN3c, put_same, List.map_cons, List.map_nil, List.length_cons, List.length_nil, List.length_set, List.replicate, List.cons_append, List.nil_append, List.append_nil, List.getElem?_cons_zero, List.getElem?_cons_succ, List.set_cons_zero, List.set_cons_succ, true_and, and_true, Option.some.injEq, if_true, if_false, ite_true, ite_false, reduceIte, Bool.not_true, Bool.not_false, Bool.false_eq_true, Nat.reduceAdd, Nat.reduceLeDiff, $[$es:term],*])
section
variable {e : Env} {G G' G1 G2 : HD} {a : Addr} {A A' A1 A2 : HA} {n : Nat} {nm : List Str} {S : HS} {Q : Post} {E : DX} {X : List Addr} {d o : Int} {k : Str} {m : Bool}
/-! ### waiting -/
theorem put_new {l : KD} {k : Key} {v : D} (h : k ∉ l.map (·.1)) : putKD l k v = l ++ [(k, v)] := by
  unfold putKD
  rw [if_neg fun z => h (has_mem.mp z)]
theorem wtD_key {x : Int} {y : Key × D} (h : wtD n S x = some y) : y.1 = .inl x := by
  unfold wtD at h
  split at h
  · split at h
    · cases h
    · cases h; rfl
  · cases h
theorem mem_wt {l : List Int} {i : Int} (h : (.inl i : Key) ∈ (l.filterMap (wtD n S)).map (·.1)) : i ∈ l := by
  obtain ⟨y, hy, e1⟩ := List.mem_map.mp h
  obtain ⟨x, hx, e2⟩ := List.mem_filterMap.mp hy
  have := wtD_key e2
  rw [e1] at this
  cases this
  exact hx
theorem waiting_ok (g : e.Good) (hn : n < 64) (h : Hd e G a A n nm S) (hQ : ∀ p G', G p = none → Le G G' → G' p = some (.dK (waitD n S)) → Q (.ref p) G') : w_Holds_waiting e [.ref a] G Q E := by
  unfold w_Holds_waiting
  exists if_true
  intro p hp
  have h1 := h.le (Le.newB (o := .dK []) hp)
  have l1 : Le G (put G p (.dK [])) := Le.newB hp
  have hp1 : put G p (.dK []) p = some (.dK []) := put_same
  generalize put G p (.dK []) = G1 at h1 l1 hp1
  obtain ⟨l4, q1, q2⟩ := h1.qs
  exists h1.self, lk_q
  refine ⟨g.ok_Holds_asked, ?_⟩
  exists q1
  refine q2.sort hn (newL_in fun q G2 hq _ hq2 l2 _ => ?_)
  exists hq2
  have npq : p ≠ q := ne_of hp1 hq
  have h2 := h1.le l2
  refine forD_inv (fun l σ G' => ∃ dn rs x2 x3 x4 x5 x6, ((dl n).filter fun i => (askD (S.ask i)).isSome) = dn ++ rs ∧ l = rs.map D.int ∧ σ = [some (.ref a), some (.ref p), x2, x3, x4, x5, x6] ∧ Le G G' ∧ Hd e G' a A n nm S ∧ G' p = some (.dK (dn.filterMap (wtD n S))) ∧ G' q = some (.lst (((dl n).filter fun i => (askD (S.ask i)).isSome).map D.int)))
    (fun l σ G' ⟨_, _, _, _, _, _, _, _, _, _, _, _, _, z⟩ => z) (fun y l κ σ G' hI hk => ?_) (fun σ G' hI => ?_) _ _ _ ⟨[], _, none, none, none, none, none, rfl, rfl, rfl, l1.trans l2, h2, l2 _ _ hp1, hq2⟩
  · obtain ⟨dn, rs, x2, x3, x4, x5, x6, eA, e1, rfl, hl, hH, hpp, hqq⟩ := hI
    cases rs with
    | nil => cases e1
    | cons x rs =>
      rw [List.map_cons] at e1
      injection e1 with e2 e3
      subst e2; subst e3
      have hxm : x ∈ (dl n).filter fun i => (askD (S.ask i)).isSome := by rw [eA]; simp
      have hxs := (List.mem_filter.mp hxm).2
      have hnd : (dn ++ x :: rs).Nodup := by rw [← eA]; exact lt_nodup fil_pw
      have hxd : x ∉ dn := fun z => (List.nodup_append.mp hnd).2.2 x z x List.mem_cons_self rfl
      cases hq' : S.ask x with
      | none => rw [hq'] at hxs; cases hxs
      | some km =>
        obtain ⟨k, m⟩ := km
        unfold l_Holds_waiting_1
        obtain ⟨l5, z1, z2⟩ := hH.qs
        exists hH.self, lk_q
        refine ⟨g.ok_Holds_asked, ?_⟩
        have ev : valD l5 (.inl x) = some (.tup [.str k, mdD m]) := by rw [z2.val, hq']; rfl
        exists z1, ev, setAll
        exists hH.self
        refine ⟨rfl, bars_ok g hn hH fun b G3 hb l3 hb3 => ?_⟩
        have hH3 := hH.le l3
        exists hb3
        refine ⟨by rw [List.length_map]; have := List.length_filter_le (barB S x k m) (dl n); rw [dl_len] at this; unfold barL; omega, lc_I (f := D.int) (I := fun G' => G' = G3) (p := fun o => !canB S x o) (v := D.int) (fun G' hG => by rw [hG]; exact hb3) rfl (fun o ho ky kn G' hG hk => ?_) fun G4 hG4 => ?_⟩
        · subst hG
          exists dwipe, setAll, hH3.self
          refine ⟨rfl, can_ok g hH3 ?_⟩
          exists if_true
          have := hk G' rfl
          cases hc : canB S x o with
          | true => rw [hc] at this; simpa using this
          | false => rw [hc] at this; simpa using this
        · subst hG4
          rw [List.nil_append]
          exists if_true
          refine i_eqK ?_
          have hwl : ((barL n S x k m).filter fun o => !canB S x o) = waitL n S x k m := rfl
          rw [hwl]
          have hp4 := l3 _ _ hpp
          cases hw : waitL n S x k m with
          | nil =>
            exists if_true
            have e7 : (dn ++ [x]).filterMap (wtD n S) = dn.filterMap (wtD n S) := by
              rw [List.filterMap_append, List.filterMap_cons]
              have : wtD n S x = none := by unfold wtD; rw [hq']; simp [hw]
              rw [this]; simp
            refine hk _ _ ⟨dn ++ [x], rs, _, _, _, _, _, by rw [eA]; simp, rfl, rfl, hl.trans l3, hH3, ?_, l3 _ _ hqq⟩
            rw [e7]; exact hp4
          | cons u us =>
            have hne : ((u :: us : List Int).isEmpty) = false := rfl
            exists hne, hp4
            have e7 : (dn ++ [x]).filterMap (wtD n S) = dn.filterMap (wtD n S) ++ [(.inl x, .kl ((u :: us).map D.int))] := by
              rw [List.filterMap_append, List.filterMap_cons]
              have : wtD n S x = some (.inl x, .kl ((u :: us).map D.int)) := by unfold wtD; rw [hq']; simp [hw]
              rw [this]; simp
            have e8 : putKD (dn.filterMap (wtD n S)) (.inl x) (.kl ((u :: us).map D.int)) = (dn ++ [x]).filterMap (wtD n S) := by
              rw [e7]
              exact put_new fun z => hxd (mem_wt z)
            have hpo : p ∉ ownH a A := h.out' hp
            refine ⟨?_, hk _ _ ⟨dn ++ [x], rs, _, _, _, _, _, by rw [eA]; simp, rfl, rfl, fun b o hb => ?_, hH3.fr (X := [p]) (Fr.put List.mem_cons_self) (fun y hy => by rw [List.mem_singleton.mp hy]; exact hpo), ?_, ?_⟩⟩
            · have h9 := List.length_filterMap_le (wtD n S) dn
              have h10 : (dn ++ x :: rs).length ≤ n := by
                rw [← eA]
                have := List.length_filter_le (fun i => (askD (S.ask i)).isSome) (dl n)
                rwa [dl_len] at this
              rw [List.length_append] at h10
              omega
            · rw [put_ne (ne_of hb hp)]; exact l3 _ _ (hl b o hb)
            · rw [put_same, ← e8]; rfl
            · rw [put_ne npq.symm]; exact l3 _ _ hqq
  · obtain ⟨dn, rs, x2, x3, x4, x5, x6, eA, e1, rfl, hl, hH, hpp, hqq⟩ := hI
    have hrs : rs = [] := by cases rs with
      | nil => rfl
      | cons _ _ => cases e1
    subst hrs
    rw [List.append_nil] at eA
    exists hpp, r_frzD
    refine fg_in (hQ p _ hp hl ?_)
    rw [hpp, ← eA]
    congr 2
    unfold waitD
    rw [List.filterMap_filter]
    refine fm_congr fun i _ => ?_
    cases hi : S.ask i with
    | none => simp [askD, wtD, hi]
    | some _ => simp [askD]
end
end P
namespace P
open PySem PySem.Spec L2 DL
local macro_rules | `(tactic| exists $es:term,*) => `(tactic| try simp only [q_upd, r_updP, r_updO, q_revV, r_asLK, r_revO, q_mkX, q_lstI, q_lstRg, r_lrg, r_lenD, r_frzD, q_pop1, r_pop1S, r_pop1I, r_popO1, q_eqE, r_inTT, r_inTN, r_inTK, r_inSo, r_inSn, q_srtI, q_dc, r_keyS, r_keyI, q_methK, r_metKd, r_metK, r_popS, r_popI, r_popO, r_sdfS, r_sdfI, q_items, r_itP, r_itO, r_inIR, r_inIq, r_inIo, q_disp, r_dkF, r_inF, q_augI, r_getP2, r_getO2, r_cmpA, q_makeK, q_enum, r_enumP, r_enumO, r_repK, r_addNK, r_inIK, r_inIT, q_get1, q_get2, q_dget, q_sdict, q_pop2, q_setd, q_dic, r_dictP, r_getS, r_getI, r_getO, r_dkS, r_dkI, r_dkO, r_inS, r_inI, r_inO, r_dpS, r_dpI, r_dpO, r_dicP, r_dicO, r_sortDic, r_listDic, r_dictDic, q_dapp, r_lstP, r_appP, r_appO, q_clear, r_clrP, r_clrO, q_truO, r_truOP, r_ownTru, r_boolOD, r_ownBool, q_notO, r_cmpTI, r_cmpT3, r_lenOD, r_ownLen, q_jkeys, q_jvals, r_fzP, r_fzO, q_jstr, r_strS, r_leXI, r_leXS, q_join, q_upper, r_joinP, r_upP, q_kw1, r_minT2, q_emp, q_mt1, r_isiEB, r_isiEb, r_isiEt, r_isiEs, r_isiEl, r_isiEd, r_isiER, r_isE_non, r_isX_non, r_isE_bl, r_isX_bl, r_isE_int, r_isX_int, r_isE_str, r_isX_str, r_isE_tup, r_isX_tup, r_isE_kl, r_isX_kl, r_isE_kc, r_isX_kc, r_isE_ref, r_isX_ref, r_rIsiET, r_rIsiER, r_rIsiXT, r_rIsiXR, r_isD_non_int, r_isD_non_bool, r_isD_non_tuple, r_isD_non_str, r_isD_non_list, r_isD_non_dict, r_isD_bl_int, r_isD_bl_bool, r_isD_bl_tuple, r_isD_bl_str, r_isD_bl_list, r_isD_bl_dict, r_isD_int_int, r_isD_int_bool, r_isD_int_tuple, r_isD_int_str, r_isD_int_list, r_isD_int_dict, r_isD_str_int, r_isD_str_bool, r_isD_str_tuple, r_isD_str_str, r_isD_str_list, r_isD_str_dict, r_isD_tup_int, r_isD_tup_bool, r_isD_tup_tuple, r_isD_tup_str, r_isD_tup_list, r_isD_tup_dict, r_isD_kl_int, r_isD_kl_bool, r_isD_kl_tuple, r_isD_kl_str, r_isD_kl_list, r_isD_kl_dict, r_isD_kc_int, r_isD_kc_bool, r_isD_kc_tuple, r_isD_kc_str, r_isD_kc_list, r_isD_kc_dict, r_isD_non_own, r_isD_bl_own, r_isD_int_own, r_isD_str_own, r_isD_tup_own, r_isD_kl_own, r_isD_kc_own, q_wpf, q_seq, q_set, q_ret, q_retN, q_if, q_drop, r_unp', r_par, q_next, q_brk, q_cont, q_for, sWhile, q_sub, sAug, q_rng1, r_rng1P, jRng2, q_jseq, r_seqT, r_seqK, r_seqR, r_seqL, r_ownP, q_op, r_var, r_varS, q_c, q_cons, q_nil, q_cb, q_tup, q_lst, r_test, r_tru, q_not, q_and, q_or, r_andV, r_orV, r_notV, q_if', q_un, q_call, q_slice, q_some, q_none, r_intP, r_chn, r_chnT, r_link, r_last, cp2, pw2, cp3, pw3, cp4, pw4, cp5, pw5, cp6, pw6, cp7, pw7, cp8, pw8, cp9, pw9, cp10, pw10, cp12, pw12, cp15, pw15, cp18, pw18, cp20, pw20, cp24, pw24, cp28, pw28, cp29, pw29, cp30, pw30, q_tryH, q_raise0, q_raiseX, q_xfld, r_xfld, q_setAs, q_setAs0, q_endsAs0, q_endsNx, q_endsRt, q_endsBk, q_endsCt, r_isNx, r_lcV, q_lstV, q_sliceV, q_frz, r_frzR, r_frzL, r_frzT, r_frzK, r_frzN, r_addVI, r_addVT, r_addVK, r_addVO, r_sliVK, r_sliVC, r_sliVT, r_sliVR, r_sliVL, r_listVK, r_listVC, r_listVT, r_truK, r_eqXS, r_eqXI, r_eqXT2, r_strI, r_seqC, r_ixC, r_lenC, r_sliC, q_lc, q_yes, q_make, r_nonP, q_fldg, r_eqT2, r_set0, r_set1, q_put1, q_putN, r_blP, r_boolP, r_unpP, r_parP, r_opt, r_pick, r_add, r_addT, r_addR, r_addL, r_sub, r_mul, r_div, r_mod, r_pow, r_cmp, r_lt, r_neg, r_isXB, r_isXN, r_isN, r_isNr, r_isNi, r_isNn, r_isNt, r_eqI, r_ixT, r_ixK, r_ixR, r_lstOf, r_sliT, r_sliK, r_sliR, r_sliL, r_truB, r_truI, r_truT, r_truN, r_truR, r_truL, r_max, r_min, r_intB, r_intI, r_abs, r_lenT, r_lenK, r_lenR, r_lenL, r_nat, r_set, r_setL, r_isI, r_isB, r_isT, r_fld, r_fldR, r_fldI, r_sfd, r_sfdR, r_sfdI, r_met, r_metR, r_met1, atI0, atI1, atI2, atI3, atI4, ixN1a, ixN2a, ixN2b, ixN3a, ixN3b, ixN3c, put_same, List.map_cons, List.map_nil, List.length_cons, List.length_nil, List.length_set, List.replicate, List.cons_append, List.nil_append, List.append_nil, List.getElem?_cons_zero, List.getElem?_cons_succ, List.set_cons_zero, List.set_cons_succ, true_and, and_true, Option.some.injEq, if_true, if_false, ite_true, ite_false, reduceIte, Bool.not_true, Bool.not_false, Bool.false_eq_true, Nat.reduceAdd, Nat.reduceLeDiff, $[$es:term],*])
def agD : Option Int → D
  | none => .non
  | some i => .int i
def heD (b : Bool) : D := .str (if b = true then "held" else "waits")
section
variable {e : Env} {G G' G1 G2 : HD} {a : Addr} {A A' A1 A2 : HA} {n : Nat} {nm : List Str} {S : HS} {Q : Post} {E : DX} {X : List Addr} {d o : Int} {k : Str} {m : Bool}
/-! ### ask -/
theorem off_lost {d o : Int} : (S.off d).lost o = if o = d then true else S.lost o := rfl
theorem isT {l : KD} {f : Int → Bool} {i : Int} (h : DI n l fun d => trD (f d)) : (valD l (.inl i)).isSome = f i := by rw [h.val]; unfold trD; cases f i <;> rfl
theorem isA {l : KD} {f : Int → Option Int} {i : Int} (h : DI n l fun d => ageD (f d)) : (valD l (.inl i)).isSome = (f i).isSome := by rw [h.val]; unfold ageD; cases f i <;> rfl
theorem putsQ {l : KD} (h : DI n l fun d => askD (S.ask d)) (h0 : 0 ≤ d) (h1 : d < n) : DI n (putKD l (.inl d) (.tup [.str k, mdD m])) fun x => askD (setF S.ask d (some (k, m)) x) :=
  (h.put h0 h1).congr fun i => by unfold setF; split <;> rfl
theorem sub_len {l m : List Str} (h : l.Nodup) (hs : ∀ x ∈ l, x ∈ m) : l.length ≤ m.length := by
  induction l generalizing m with
  | nil => exact Nat.zero_le _
  | cons x l ih =>
    rw [List.nodup_cons] at h
    have h1 := ih (m := m.erase x) h.2 fun y hy => (List.mem_erase_of_ne (fun z => h.1 (by rw [← z]; exact hy))).mpr (hs y (List.mem_cons_of_mem _ hy))
    rw [List.length_erase_of_mem (hs x List.mem_cons_self)] at h1
    have : 0 < m.length := List.length_pos_of_mem (hs x List.mem_cons_self)
    rw [List.length_cons]; omega
theorem Hd.setH (h : Hd e G a A n nm S) {x : Str × Addr} (hx : x ∈ A.bk) (h0 : 0 ≤ d) (h1 : d < n) {l : KD} (hl : G x.2 = some (.dK l)) (hd : DI n l fun d => (S.hold x.1 d).map mdD) : Hd e (put G x.2 (.dK (putKD l (.inl d) (mdD m)))) a A n nm (S.put x.1 d m) := by
  have w := h.ne
  refine ⟨(put_ne (ne_b w.ab hx).symm).trans h.self, (put_ne (ne_b w.kb hx).symm).trans h.ks, h.ndk, h.mem, fun y hy => ?_, fun k hk o => ?_, ?_, ?_, ?_, ?_, h.nd⟩
  · by_cases hyx : y = x
    · subst hyx
      refine ⟨_, put_same, fun z => ?_, (hd.put h0 h1).congr fun i => ?_⟩
      · have := valD_put (l := l) (k := .inl d) (d := mdD m) (k2 := .inl d)
        rw [z, if_pos rfl] at this; cases this
      · show (if i = d then _ else _) = (if y.1 = y.1 ∧ i = d then some m else S.hold y.1 i).map mdD
        by_cases hi : i = d <;> simp [hi]
    · obtain ⟨l2, q1, q2, q3⟩ := h.inn y hy
      have hne : y.2 ≠ x.2 := fun z => hyx (map_inj w.bb hy hx z)
      have hne1 : y.1 ≠ x.1 := fun z => hyx (map_inj h.ndk hy hx z)
      refine ⟨l2, (put_ne hne).trans q1, q2, q3.congr fun i => ?_⟩
      show _ = (if y.1 = x.1 ∧ i = d then some m else S.hold y.1 i).map mdD
      rw [if_neg fun z => hne1 z.1]
  · show (if k = x.1 ∧ o = d then some m else S.hold k o) = none
    rw [if_neg fun z => hk (by rw [z.1]; exact List.mem_map.mpr ⟨x, hx, rfl⟩)]
    exact h.out k hk o
  · obtain ⟨l1, z⟩ := h.gs; exact ⟨l1, (put_ne (ne_b w.gb hx).symm).trans z.1, z.2⟩
  · obtain ⟨l1, z⟩ := h.fs; exact ⟨l1, (put_ne (ne_b w.fb hx).symm).trans z.1, z.2⟩
  · obtain ⟨l1, z⟩ := h.ls; exact ⟨l1, (put_ne (ne_b w.lb hx).symm).trans z.1, z.2⟩
  · obtain ⟨l1, z⟩ := h.qs; exact ⟨l1, (put_ne (ne_b w.qb hx).symm).trans z.1, z.2⟩
theorem Hd.newH (h : Hd e G a A n nm S) (hk : k ∈ nm) (h0 : 0 ≤ d) (h1 : d < n) (hkb : k ∉ A.bk.map (·.1)) {p : Addr} (hp : G p = some (.dK [])) (hpo : p ∉ ownH a A) :
    Hd e (put (put G A.k (.dK (putKD (A.bk.map kyD) (.inr k) (.ref p)))) p (.dK (putKD [] (.inl d) (mdD m)))) a { A with bk := A.bk ++ [(k, p)] } n nm (S.put k d m) := by
  have w := h.ne
  have np : ∀ {y}, y ∈ ownH a A → y ≠ p := fun hy z => hpo (z ▸ hy)
  have e1 : putKD (A.bk.map kyD) (.inr k) (.ref p) = (A.bk ++ [(k, p)]).map kyD := by
    rw [List.map_append, put_new]; rfl
    rw [ky_keys]
    intro z
    obtain ⟨y, h1, h2⟩ := List.mem_map.mp z
    exact hkb (Sum.inr.inj h2 ▸ h1)
  rw [e1]
  have ex : ∀ {y : Addr} {o : MO}, y ∈ ownH a A → y ≠ A.k → G y = some o → put (put G A.k (.dK ((A.bk ++ [(k, p)]).map kyD))) p (.dK (putKD [] (.inl d) (mdD m))) y = some o := fun hy hyk ho => by
    rw [put_ne (np hy), put_ne hyk]; exact ho
  refine ⟨ex (by simp [ownH]) w.ak h.self, by rw [put_ne (np m_k), put_same], ?_, fun y hy => ?_, fun y hy => ?_, fun k' hk' o => ?_, ?_, ?_, ?_, ?_, ?_⟩
  · rw [List.map_append]
    exact List.nodup_append.mpr ⟨h.ndk, by simp, fun x hx y hy => by rw [List.mem_singleton.mp hy]; rintro rfl; exact hkb hx⟩
  · rcases List.mem_append.mp hy with hy | hy
    · exact h.mem y hy
    · rw [List.mem_singleton.mp hy]; exact hk
  · rcases List.mem_append.mp hy with hy | hy
    · obtain ⟨l2, q1, q2, q3⟩ := h.inn y hy
      have hne1 : y.1 ≠ k := fun z => hkb (by rw [← z]; exact List.mem_map.mpr ⟨y, hy, rfl⟩)
      refine ⟨l2, ex (m_b hy) (ne_b w.kb hy) q1, q2, q3.congr fun i => ?_⟩
      show _ = (if y.1 = k ∧ i = d then some m else S.hold y.1 i).map mdD
      rw [if_neg fun z => hne1 z.1]
    · rw [List.mem_singleton.mp hy]
      refine ⟨_, put_same, fun z => (nomatch z), ((DI.nil (n := n)).put h0 h1).congr fun i => ?_⟩
      show (if i = d then some (mdD m) else none) = (if k = k ∧ i = d then some m else S.hold k i).map mdD
      by_cases hi : i = d
      · simp [hi]
      · simp [hi, h.out k hkb]
  · rw [List.map_append, List.mem_append, not_or] at hk'
    have hne : k' ≠ k := fun z => hk'.2 (by simp [z])
    show (if k' = k ∧ o = d then some m else S.hold k' o) = none
    rw [if_neg fun z => hne z.1]
    exact h.out k' hk'.1 o
  · obtain ⟨l1, z⟩ := h.gs; exact ⟨l1, ex m_g w.kg.symm z.1, z.2⟩
  · obtain ⟨l1, z⟩ := h.fs; exact ⟨l1, ex m_f w.kf.symm z.1, z.2⟩
  · obtain ⟨l1, z⟩ := h.ls; exact ⟨l1, ex m_l w.kl.symm z.1, z.2⟩
  · obtain ⟨l1, z⟩ := h.qs; exact ⟨l1, ex m_q w.kq.symm z.1, z.2⟩
  · have e2 : ownH a { A with bk := A.bk ++ [(k, p)] } = ownH a A ++ [p] := by simp [ownH]
    rw [e2]
    exact List.nodup_append.mpr ⟨h.nd, by simp, fun x hx y hy => by rw [List.mem_singleton.mp hy]; rintro rfl; exact hpo hx⟩
theorem mem_off {i : Int} (h : i ∈ offL n S d k m) : 0 ≤ i ∧ i < n := mem_dl.mp (List.mem_filter.mp (List.mem_filter.mp h).1).1
theorem ask_ok (g : e.Good) (hn : n < 64) (hm : nm.length < 64) (h : Hd e G a A n nm S) (hd0 : 0 ≤ d) (hd1 : d < n) (hk : k ∈ nm) (hl : S.lost d = false) (hf : S.fast d = false) {ag : Option Int}
    (hQ : ∀ G' A', Go a A A' G G' → Hd e G' a A' n nm (askR n S d k m (ag.getD d)).st → Q (.tup [heD (askR n S d k m (ag.getD d)).held, .kl ((askR n S d k m (ag.getD d)).off.map D.int)]) G') : w_Holds_ask e [.ref a, .int d, .str k, mdD m, agD ag] G Q E := by
  obtain ⟨ll, k1, k2⟩ := h.ls
  obtain ⟨lf, f1, f2⟩ := h.fs
  unfold w_Holds_ask
  exists h.self, lk_l
  refine ⟨g.ok_Holds_lost, ?_⟩
  exists k1, isT k2, hl, h.self, lk_f
  refine ⟨g.ok_Holds_fast, ?_⟩
  exists f1, isT f2, hf
  refine seqJ (I := fun σ' G' => σ' = [some (.ref a), some (.int d), some (.str k), some (mdD m), some (agD ag), none, none] ∧ Go a A A G G' ∧ Hd e G' a A n nm (S.aged d (ag.getD d))) (fun κ hκ => ?_) (fun σ' G1 hI => ?_)
  · obtain ⟨lg, g1, g2⟩ := h.gs
    exists h.self, lk_g
    refine ⟨g.ok_Holds_ages, ?_⟩
    exists g1, isA g2
    have hput : ∀ v : Int, S.age d = none → Hd e (put G A.g (.dK (putKD lg (.inl d) (.int v)))) a A n nm (S.aged d v) := fun v hv => by
      refine h.setG ((g2.put hd0 hd1 (d := .int v)).congr fun i => ?_)
      unfold setF
      split
      · simp [ageD, hv]
      · rfl
    cases hag : S.age d with
    | some x =>
      simp only [Option.isSome_some]
      exists if_true
      refine hκ _ _ ⟨rfl, Go.refl, ?_⟩
      have : S.aged d (ag.getD d) = S := by
        unfold HS.aged
        cases S
        congr 1
        funext i
        unfold setF
        split
        · rename_i hi; subst hi; rw [hag]; exact hag.symm
        · rfl
      rw [this]; exact h
    | none =>
      simp only [Option.isSome_none]
      have hlen := g2.len
      cases ag with
      | none =>
        have e0 : agD none = .non := rfl
        have e1 : DL.isNon .non = true := rfl
        rw [e0] at hκ ⊢
        exists e1, h.self, lk_g
        refine ⟨g.ok_Holds_ages, ?_⟩
        exists g1
        exact ⟨by omega, hκ _ _ ⟨rfl, Go.put m_g, hput _ hag⟩⟩
      | some v =>
        have e0 : agD (some v) = .int v := rfl
        have e1 : DL.isNon (.int v) = false := rfl
        rw [e0] at hκ ⊢
        exists e1, h.self, lk_g
        refine ⟨g.ok_Holds_ages, ?_⟩
        exists g1
        exact ⟨by omega, hκ _ _ ⟨rfl, Go.put m_g, hput _ hag⟩⟩
  · obtain ⟨rfl, go1, h1⟩ := hI
    unfold askR askE at hQ
    exists h1.self, lk_k
    refine ⟨g.ok_Holds_by_key, ⟨_, h1.ks⟩, ?_⟩
    intro p0 hp0
    have hk0 : put G1 p0 (.dK []) A.k = some (.dK (A.bk.map kyD)) := (put_ne (ne_of h1.ks hp0)).trans h1.ks
    exists hk0
    obtain ⟨p, l, e1, e2, e3⟩ := h1.inner hp0 k
    rw [e1]
    have h2 := h1.le (Le.newB (o := .dK []) hp0)
    have go2 := go1.trans (Go.le (a := a) (A := A) (Le.newB (o := .dK []) hp0))
    generalize put G1 p0 (.dK []) = G2 at hk0 e2 h2 go2
    exists if_true
    refine ⟨⟨l, e2⟩, ?_⟩
    exists e2
    have ev : (valD l (.inl d)).getD .non = match S.hold k d with | some w => mdD w | none => .non := by
      rw [e3.val]
      show ((S.hold k d).map mdD).getD .non = _
      cases S.hold k d <;> rfl
    rw [ev]
    have eH : heldB (S.aged d (ag.getD d)) k d m = heldB S k d m := rfl
    have fin : ∀ b : Bool, heldB S k d m = b → (dInT false (match S.hold k d with | some w => mdD w | none => .non) (.tup [mdD m, .str (Str.ofString "write")]) G2 = fun Q : Post => Q (.bl b) G2) := fun b hb => by
      funext Q
      unfold heldB at hb
      cases hh : S.hold k d with
      | none =>
        rw [hh] at hb
        rw [← hb]
        show dInT false .non (.tup [mdD m, .str (Str.ofString "write")]) G2 Q = _
        rw [r_inTN, as_md2, r_inSn]
      | some w =>
        rw [hh] at hb
        rw [← hb]
        show dInT false (.str (md w)) (.tup [mdD m, .str (Str.ofString "write")]) G2 Q = _
        rw [r_inTT, as_md2, r_inSo, wr_md2]
        rfl
    cases hb : heldB S k d m with
    | true =>
      rw [if_pos hb] at hQ
      rw [fin _ hb]
      exists if_true
      obtain ⟨lq, q1, q2⟩ := h2.qs
      exists h2.self, lk_q
      refine ⟨g.ok_Holds_asked, ⟨lq, q1⟩, popA q1 q2 fun v => ?_⟩
      exists if_true
      exact fg_in (hQ _ _ (go2.trans (Go.put m_q)) (h2.setQ (dropQ q2)))
    | false =>
      rw [if_neg (by rw [hb]; decide)] at hQ
      rw [fin _ hb]
      exists h2.self
      refine ⟨rfl, bars_ok g hn h2 fun b1 G3 hb1 l3 hb3 => ?_⟩
      have h3 := h2.le l3
      have go3 := go2.trans (Go.le (a := a) (A := A) l3)
      exists hb3
      refine ⟨by rw [List.length_map]; have := List.length_filter_le (barB (S.aged d (ag.getD d)) d k m) (dl n); rw [dl_len] at this; unfold barL; omega, lc_I (f := D.int) (I := fun G' => G' = G3) (p := fun o => canB (S.aged d (ag.getD d)) d o) (v := D.int) (fun G' hG => by rw [hG]; exact hb3) rfl (fun o ho ky kn G' hG hk => ?_) fun G4 hG4 => ?_⟩
      · subst hG
        exists dwipe, setAll, h3.self
        refine ⟨rfl, can_ok g h3 ?_⟩
        exists if_true
        have := hk G' rfl
        cases hc : canB (S.aged d (ag.getD d)) d o with
        | true => rw [hc] at this; simpa using this
        | false => rw [hc] at this; simpa using this
      · subst hG4
        rw [List.nil_append]
        have hol : ((barL n (S.aged d (ag.getD d)) d k m).filter fun o => canB (S.aged d (ag.getD d)) d o) = offL n (S.aged d (ag.getD d)) d k m := rfl
        rw [hol]
        have hoff : ∀ i ∈ offL n (S.aged d (ag.getD d)) d k m, 0 ≤ i ∧ i < n := fun i hi => mem_off hi
        have holen : (offL n (S.aged d (ag.getD d)) d k m).length ≤ 100 := by
          have a1 := List.length_filter_le (canB (S.aged d (ag.getD d)) d) (barL n (S.aged d (ag.getD d)) d k m)
          have a2 := List.length_filter_le (barB (S.aged d (ag.getD d)) d k m) (dl n)
          rw [dl_len] at a2
          unfold offL barL at *
          omega
        generalize hS1 : S.aged d (ag.getD d) = S1 at *
        generalize hoL : offL n S1 d k m = oL at *
        exists if_true
        refine forD_inv (fun l σ G' => ∃ dn rs A' x6, oL = dn ++ rs ∧ l = rs.map D.int ∧ σ = [some (.ref a), some (.int d), some (.str k), some (mdD m), some (agD ag), some (.kl (oL.map D.int)), x6] ∧ Go a A A' G G' ∧ Hd e G' a A' n nm (dn.foldl HS.off S1)) (fun _ _ _ _ => trivial) (fun y l κ σ G' hI hk => ?_) (fun σ G' hI => ?_) _ _ _ ⟨[], oL, A, none, rfl, rfl, rfl, go3, h3⟩
        · obtain ⟨dn, rs, A', x6, eo, el, rfl, hg, hH⟩ := hI
          cases rs with
          | nil => cases el
          | cons x rs =>
            rw [List.map_cons] at el
            injection el with e4 e5
            subst e4; subst e5
            unfold l_Holds_ask_1
            exists hH.self
            obtain ⟨x0, x1⟩ := hoff x (by rw [eo]; simp)
            refine ⟨rfl, calloff_ok g hn hH x0 x1 fun G5 A5 g5 h5 => hk _ _ ⟨dn ++ [x], rs, A5, _, by rw [eo]; simp, rfl, rfl, hg.trans g5, ?_⟩⟩
            rw [List.foldl_append]; exact h5
        · obtain ⟨dn, rs, A', x6, eo, el, rfl, hg, hH⟩ := hI
          have hrs : rs = [] := by cases rs with
            | nil => rfl
            | cons _ _ => cases el
          subst hrs
          rw [List.append_nil] at eo
          rw [← eo] at hH
          generalize hS2 : oL.foldl HS.off S1 = S2 at hH hQ
          exists hH.self
          refine ⟨rfl, bars_ok g hn hH fun b2 G5 hb2 l5 hb5 => i_eqN hb5 ?_⟩
          have h5 := hH.le l5
          have go5 := hg.trans (Go.le (a := a) (A := A') l5)
          obtain ⟨lq, q1, q2⟩ := h5.qs
          have hqlen := q2.len
          cases hbl : barL n S2 d k m with
          | cons u us =>
            have hne : ((u :: us : List Int).isEmpty) = false := rfl
            rw [if_neg (by rw [hbl]; exact List.cons_ne_nil _ _)] at hQ
            exists hne, h5.self, lk_q
            refine ⟨g.ok_Holds_asked, ?_⟩
            exists q1
            exact ⟨by omega, fg_in (hQ _ _ (go5.trans (Go.put m_q)) (h5.setQ (putsQ q2 hd0 hd1)))⟩
          | nil =>
            rw [if_pos hbl] at hQ
            have hne : (([] : List Int).isEmpty) = true := rfl
            exists hne, h5.self, lk_q
            refine ⟨g.ok_Holds_asked, ⟨lq, q1⟩, popA q1 q2 fun v => ?_⟩
            have h6 := h5.setQ (dropQ q2 (d := d))
            have go6 := go5.trans (Go.put (o := .dK (dropKD lq (.inl d))) (m_q (a := a)))
            generalize put G5 A'.q (.dK (dropKD lq (.inl d))) = G6 at h6 go6
            exists h6.self, lk_k
            refine ⟨g.ok_Holds_by_key, ⟨_, h6.ks⟩, ?_⟩
            intro p9 hp9
            have h7 := h6.le (Le.newB (o := .dK []) hp9)
            have go7 := go6.trans (Go.le (a := a) (A := A') (Le.newB (o := .dK []) hp9))
            have n9 : p9 ∉ ownH a A' := h6.out' hp9
            have hp9' : put G6 p9 (.dK []) p9 = some (.dK []) := put_same
            have hG7 : ∀ y o, G6 y = some o → put G6 p9 (.dK []) y = some o := Le.newB hp9
            generalize put G6 p9 (.dK []) = G7 at h7 go7 hp9' hG7 ⊢
            have hbkl : A'.bk.length ≤ nm.length := by
              have := sub_len h7.ndk fun x hx => by
                obtain ⟨y, hy, rfl⟩ := List.mem_map.mp hx
                exact h7.mem y hy
              rwa [List.length_map] at this
            exists h7.ks
            refine ⟨by rw [List.length_map]; omega, fun v hv => ?_, fun hv => ?_⟩
            · have hkb : k ∈ A'.bk.map (·.1) := Classical.byContradiction fun z => by rw [Hd.at0 z] at hv; cases hv
              obtain ⟨x, hx, e7⟩ := List.mem_map.mp hkb
              subst e7
              rw [h7.at hx] at hv
              cases hv
              obtain ⟨li, i1, i2, i3⟩ := h7.inn x hx
              exists i1
              have := i3.len
              exact ⟨by omega, fg_in (hQ _ _ (go7.trans (Go.put (m_b hx))) (h7.setH hx hd0 hd1 i1 i3))⟩
            · have hkb : k ∉ A'.bk.map (·.1) := fun z => by
                obtain ⟨x, hx, e7⟩ := List.mem_map.mp z
                subst e7
                rw [h7.at hx] at hv; cases hv
              have npk : p9 ≠ A'.k := fun z => n9 (by rw [z]; exact m_k)
              exists put_ne npk, hp9'
              refine ⟨by decide, fg_in (hQ _ { A' with bk := A'.bk ++ [(k, p9)] } (go6.trans ⟨fun y o hy ho => ?_, fun y hy => ?_⟩) (h7.newH hk hd0 hd1 hkb hp9' n9))⟩
              · rw [put_ne (ne_of ho hp9), put_ne (fun z => hy (by rw [z]; exact m_k))]
                exact hG7 y o ho
              · have e2 : ownH a { A' with bk := A'.bk ++ [(k, p9)] } = ownH a A' ++ [p9] := by simp [ownH]
                rw [e2] at hy
                rcases List.mem_append.mp hy with hy | hy
                · exact .inl hy
                · rw [List.mem_singleton.mp hy]; exact .inr hp9
end
end P
namespace P
open PySem PySem.Spec L2 DL
local macro_rules | `(tactic| exists $es:term,*) => `(tactic| try simp only [q_upd, r_updP, r_updO, q_revV, r_asLK, r_revO, q_mkX, q_lstI, q_lstRg, r_lrg, r_lenD, r_frzD, q_pop1, r_pop1S, r_pop1I, r_popO1, q_eqE, r_inTT, r_inTN, r_inTK, r_inSo, r_inSn, q_srtI, q_dc, r_keyS, r_keyI, q_methK, r_metKd, r_metK, r_popS, r_popI, r_popO, r_sdfS, r_sdfI, q_items, r_itP, r_itO, r_inIR, r_inIq, r_inIo, q_disp, r_dkF, r_inF, q_augI, r_getP2, r_getO2, r_cmpA, q_makeK, q_enum, r_enumP, r_enumO, r_repK, r_addNK, r_inIK, r_inIT, q_get1, q_get2, q_dget, q_sdict, q_pop2, q_setd, q_dic, r_dictP, r_getS, r_getI, r_getO, r_dkS, r_dkI, r_dkO, r_inS, r_inI, r_inO, r_dpS, r_dpI, r_dpO, r_dicP, r_dicO, r_sortDic, r_listDic, r_dictDic, q_dapp, r_lstP, r_appP, r_appO, q_clear, r_clrP, r_clrO, q_truO, r_truOP, r_ownTru, r_boolOD, r_ownBool, q_notO, r_cmpTI, r_cmpT3, r_lenOD, r_ownLen, q_jkeys, q_jvals, r_fzP, r_fzO, q_jstr, r_strS, r_leXI, r_leXS, q_join, q_upper, r_joinP, r_upP, q_kw1, r_minT2, q_emp, q_mt1, r_isiEB, r_isiEb, r_isiEt, r_isiEs, r_isiEl, r_isiEd, r_isiER, r_isE_non, r_isX_non, r_isE_bl, r_isX_bl, r_isE_int, r_isX_int, r_isE_str, r_isX_str, r_isE_tup, r_isX_tup, r_isE_kl, r_isX_kl, r_isE_kc, r_isX_kc, r_isE_ref, r_isX_ref, r_rIsiET, r_rIsiER, r_rIsiXT, r_rIsiXR, r_isD_non_int, r_isD_non_bool, r_isD_non_tuple, r_isD_non_str, r_isD_non_list, r_isD_non_dict, r_isD_bl_int, r_isD_bl_bool, r_isD_bl_tuple, r_isD_bl_str, r_isD_bl_list, r_isD_bl_dict, r_isD_int_int, r_isD_int_bool, r_isD_int_tuple, r_isD_int_str, r_isD_int_list, r_isD_int_dict, r_isD_str_int, r_isD_str_bool, r_isD_str_tuple, r_isD_str_str, r_isD_str_list, r_isD_str_dict, r_isD_tup_int, r_isD_tup_bool, r_isD_tup_tuple, r_isD_tup_str, r_isD_tup_list, r_isD_tup_dict, r_isD_kl_int, r_isD_kl_bool, r_isD_kl_tuple, r_isD_kl_str, r_isD_kl_list, r_isD_kl_dict, r_isD_kc_int, r_isD_kc_bool, r_isD_kc_tuple, r_isD_kc_str, r_isD_kc_list, r_isD_kc_dict, r_isD_non_own, r_isD_bl_own, r_isD_int_own, r_isD_str_own, r_isD_tup_own, r_isD_kl_own, r_isD_kc_own, q_wpf, q_seq, q_set, q_ret, q_retN, q_if, q_drop, r_unp', r_par, q_next, q_brk, q_cont, q_for, sWhile, q_sub, sAug, q_rng1, r_rng1P, jRng2, q_jseq, r_seqT, r_seqK, r_seqR, r_seqL, r_ownP, q_op, r_var, r_varS, q_c, q_cons, q_nil, q_cb, q_tup, q_lst, r_test, r_tru, q_not, q_and, q_or, r_andV, r_orV, r_notV, q_if', q_un, q_call, q_slice, q_some, q_none, r_intP, r_chn, r_chnT, r_link, r_last, cp2, pw2, cp3, pw3, cp4, pw4, cp5, pw5, cp6, pw6, cp7, pw7, cp8, pw8, cp9, pw9, cp10, pw10, cp12, pw12, cp15, pw15, cp18, pw18, cp20, pw20, cp24, pw24, cp28, pw28, cp29, pw29, cp30, pw30, q_tryH, q_raise0, q_raiseX, q_xfld, r_xfld, q_setAs, q_setAs0, q_endsAs0, q_endsNx, q_endsRt, q_endsBk, q_endsCt, r_isNx, r_lcV, q_lstV, q_sliceV, q_frz, r_frzR, r_frzL, r_frzT, r_frzK, r_frzN, r_addVI, r_addVT, r_addVK, r_addVO, r_sliVK, r_sliVC, r_sliVT, r_sliVR, r_sliVL, r_listVK, r_listVC, r_listVT, r_truK, r_eqXS, r_eqXI, r_eqXT2, r_strI, r_seqC, r_ixC, r_lenC, r_sliC, q_lc, q_yes, q_make, r_nonP, q_fldg, r_eqT2, r_set0, r_set1, q_put1, q_putN, r_blP, r_boolP, r_unpP, r_parP, r_opt, r_pick, r_add, r_addT, r_addR, r_addL, r_sub, r_mul, r_div, r_mod, r_pow, r_cmp, r_lt, r_neg, r_isXB, r_isXN, r_isN, r_isNr, r_isNi, r_isNn, r_isNt, r_eqI, r_ixT, r_ixK, r_ixR, r_lstOf, r_sliT, r_sliK, r_sliR, r_sliL, r_truB, r_truI, r_truT, r_truN, r_truR, r_truL, r_max, r_min, r_intB, r_intI, r_abs, r_lenT, r_lenK, r_lenR, r_lenL, r_nat, r_set, r_setL, r_isI, r_isB, r_isT, r_fld, r_fldR, r_fldI, r_sfd, r_sfdR, r_sfdI, r_met, r_metR, r_met1, atI0, atI1, atI2, atI3, atI4, ixN1a, ixN2a, ixN2b, ixN3a, ixN3b, ixN3c, put_same, List.map_cons, List.map_nil, List.length_cons, List.length_nil, List.length_set, List.replicate, List.cons_append, List.nil_append, List.append_nil, List.getElem?_cons_zero, List.getElem?_cons_succ, List.set_cons_zero, List.set_cons_succ, true_and, and_true, Option.some.injEq, if_true, if_false, ite_true, ite_false, reduceIte, Bool.not_true, Bool.not_false, Bool.false_eq_true, Nat.reduceAdd, Nat.reduceLeDiff, $[$es:term],*])
/-! ### the bag of draws -/
def Row (G : HD) (a : Addr) : Prop := ∃ x y : Int, 0 ≤ x ∧ G a = some (.lst [.int x, .int y])
theorem Row.le {G G' : HD} {a : Addr} (h : Row G a) (l : Le G G') : Row G' a := let ⟨x, y, h0, h1⟩ := h; ⟨x, y, h0, l _ _ h1⟩
theorem Row.ne {G : HD} {a p : Addr} (h : Row G a) (hp : G p = none) : a ≠ p := let ⟨_, _, _, h1⟩ := h; ne_of h1 hp
theorem Row.ins {G : HD} {a p C : Addr} {fs : List (Str × D)} (h : Row G a) (hp : G p = some (.ins C fs)) : a ≠ p := by
  obtain ⟨_, _, _, h1⟩ := h; rintro rfl; rw [h1] at hp; cases hp
theorem Row.fr {G G' : HD} {a : Addr} {A : List Addr} (h : Row G a) (l : Fr A G G') (n : a ∉ A) : Row G' a := let ⟨x, y, h0, h1⟩ := h; ⟨x, y, h0, l _ _ n h1⟩
theorem out_ok {e : Env} {G : HD} {a : Addr} {n : Int} {Q : Post} {E : DX} (hG : Row G a) (hn : 0 < n) (hn2 : n < 2 ^ 62) (hQ : ∀ r G', 0 ≤ r → r < n → Row G' a → Fr [a] G G' → Q (.int r) G') : w_law_out e [.ref a, .int n] G Q E := by
  obtain ⟨x, y, hx, hG⟩ := hG
  unfold w_law_out
  exists hG
  by_cases hz : 0 < x
  · exists hz, decide_true
    exact ⟨hn, div_s hn (by omega), fg_in (hQ _ _ (Int.emod_nonneg _ (by omega)) (Int.emod_lt_of_pos _ hn) ⟨x / n, y, Int.ediv_nonneg hx (by omega), put_same⟩ (Fr.put List.mem_cons_self))⟩
  · exists hz, decide_false
    refine ⟨mul_r (by omega) (by omega), by omega, div_s (by omega) (by omega), mul_l (by omega) (by omega), by omega, div_s (by omega) (by omega), hn, fg_in (hQ _ _ (Int.emod_nonneg _ (by omega)) (Int.emod_lt_of_pos _ hn) ⟨x, _, hx, put_same⟩ (Fr.put List.mem_cons_self))⟩
theorem bag_ok {e : Env} {G : HD} {ns : List Int} {k : Nat} {Q : Post} {E : DX} (h9 : k < 100) (hQ : ∀ p G', Row G' p → Le G G' → G p = none → Q (.ref p) G') : w_law_bag e [.kc (ns.map D.int), .int k] G Q E := by
  unfold w_law_bag
  exists q_seqJ
  have fin : ∀ c : Int, (MulOk 7368787 (k : Int) ∧ CPow (c % 998244353 + 7368787 * (k : Int) + 41) 3) := fun c => ⟨mul_l (by omega) (by omega), by omega, by omega, by omega⟩
  have last : ∀ x y : Int, 0 ≤ x → newL G [.int x, .int y] (fg Q) := fun x y hx => newL_in fun p G1 hp _ h1 l1 _ => fg_in (hQ _ _ ⟨x, y, hx, h1⟩ l1 hp)
  by_cases hk : (k : Int) < (ns.map D.int).length
  · have e1 : ∃ c, atI (ns.map D.int) (k : Int) = some (.int c) := by
      obtain ⟨x, hx, ex⟩ := pick (l := ns.map D.int) (by omega) hk
      obtain ⟨c, _, rfl⟩ := List.mem_map.mp hx
      exact ⟨c, ex⟩
    obtain ⟨c, ec⟩ := e1
    exists q_seqJ, hk, decide_true, ec
    by_cases hc : (1000000000000000000 : Int) ≤ c
    · exists q_seqJ, hc, decide_true
      exact ⟨by omega, (fin c).1, (fin c).2, by omega, last _ _ (by omega)⟩
    · exists q_seqJ, hc, decide_false
      exact ⟨by omega, (fin c).1, (fin c).2, by omega, last _ _ (by omega)⟩
  · exists q_seqJ, hk, decide_false
    have hc : ¬ (1000000000000000000 : Int) ≤ 0 := by decide
    exists q_seqJ, hc, decide_false
    exact ⟨by omega, (fin 0).1, (fin 0).2, by omega, last _ _ (by omega)⟩
end P
namespace P
open PySem PySem.Spec L2 DL
local macro_rules | `(tactic| exists $es:term,*) => `(tactic| try simp only [q_upd, r_updP, r_updO, q_revV, r_asLK, r_revO, q_mkX, q_lstI, q_lstRg, r_lrg, r_lenD, r_frzD, q_pop1, r_pop1S, r_pop1I, r_popO1, q_eqE, r_inTT, r_inTN, r_inTK, r_inSo, r_inSn, q_srtI, q_dc, r_keyS, r_keyI, q_methK, r_metKd, r_metK, r_popS, r_popI, r_popO, r_sdfS, r_sdfI, q_items, r_itP, r_itO, r_inIR, r_inIq, r_inIo, q_disp, r_dkF, r_inF, q_augI, r_getP2, r_getO2, r_cmpA, q_makeK, q_enum, r_enumP, r_enumO, r_repK, r_addNK, r_inIK, r_inIT, q_get1, q_get2, q_dget, q_sdict, q_pop2, q_setd, q_dic, r_dictP, r_getS, r_getI, r_getO, r_dkS, r_dkI, r_dkO, r_inS, r_inI, r_inO, r_dpS, r_dpI, r_dpO, r_dicP, r_dicO, r_sortDic, r_listDic, r_dictDic, q_dapp, r_lstP, r_appP, r_appO, q_clear, r_clrP, r_clrO, q_truO, r_truOP, r_ownTru, r_boolOD, r_ownBool, q_notO, r_cmpTI, r_cmpT3, r_lenOD, r_ownLen, q_jkeys, q_jvals, r_fzP, r_fzO, q_jstr, r_strS, r_leXI, r_leXS, q_join, q_upper, r_joinP, r_upP, q_kw1, r_minT2, q_emp, q_mt1, r_isiEB, r_isiEb, r_isiEt, r_isiEs, r_isiEl, r_isiEd, r_isiER, r_isE_non, r_isX_non, r_isE_bl, r_isX_bl, r_isE_int, r_isX_int, r_isE_str, r_isX_str, r_isE_tup, r_isX_tup, r_isE_kl, r_isX_kl, r_isE_kc, r_isX_kc, r_isE_ref, r_isX_ref, r_rIsiET, r_rIsiER, r_rIsiXT, r_rIsiXR, r_isD_non_int, r_isD_non_bool, r_isD_non_tuple, r_isD_non_str, r_isD_non_list, r_isD_non_dict, r_isD_bl_int, r_isD_bl_bool, r_isD_bl_tuple, r_isD_bl_str, r_isD_bl_list, r_isD_bl_dict, r_isD_int_int, r_isD_int_bool, r_isD_int_tuple, r_isD_int_str, r_isD_int_list, r_isD_int_dict, r_isD_str_int, r_isD_str_bool, r_isD_str_tuple, r_isD_str_str, r_isD_str_list, r_isD_str_dict, r_isD_tup_int, r_isD_tup_bool, r_isD_tup_tuple, r_isD_tup_str, r_isD_tup_list, r_isD_tup_dict, r_isD_kl_int, r_isD_kl_bool, r_isD_kl_tuple, r_isD_kl_str, r_isD_kl_list, r_isD_kl_dict, r_isD_kc_int, r_isD_kc_bool, r_isD_kc_tuple, r_isD_kc_str, r_isD_kc_list, r_isD_kc_dict, r_isD_non_own, r_isD_bl_own, r_isD_int_own, r_isD_str_own, r_isD_tup_own, r_isD_kl_own, r_isD_kc_own, q_wpf, q_seq, q_set, q_ret, q_retN, q_if, q_drop, r_unp', r_par, q_next, q_brk, q_cont, q_for, sWhile, q_sub, sAug, q_rng1, r_rng1P, jRng2, q_jseq, r_seqT, r_seqK, r_seqR, r_seqL, r_ownP, q_op, r_var, r_varS, q_c, q_cons, q_nil, q_cb, q_tup, q_lst, r_test, r_tru, q_not, q_and, q_or, r_andV, r_orV, r_notV, q_if', q_un, q_call, q_slice, q_some, q_none, r_intP, r_chn, r_chnT, r_link, r_last, cp2, pw2, cp3, pw3, cp4, pw4, cp5, pw5, cp6, pw6, cp7, pw7, cp8, pw8, cp9, pw9, cp10, pw10, cp12, pw12, cp15, pw15, cp18, pw18, cp20, pw20, cp24, pw24, cp28, pw28, cp29, pw29, cp30, pw30, q_tryH, q_raise0, q_raiseX, q_xfld, r_xfld, q_setAs, q_setAs0, q_endsAs0, q_endsNx, q_endsRt, q_endsBk, q_endsCt, r_isNx, r_lcV, q_lstV, q_sliceV, q_frz, r_frzR, r_frzL, r_frzT, r_frzK, r_frzN, r_addVI, r_addVT, r_addVK, r_addVO, r_sliVK, r_sliVC, r_sliVT, r_sliVR, r_sliVL, r_listVK, r_listVC, r_listVT, r_truK, r_eqXS, r_eqXI, r_eqXT2, r_strI, r_seqC, r_ixC, r_lenC, r_sliC, q_lc, q_yes, q_make, r_nonP, q_fldg, r_eqT2, r_set0, r_set1, q_put1, q_putN, r_blP, r_boolP, r_unpP, r_parP, r_opt, r_pick, r_add, r_addT, r_addR, r_addL, r_sub, r_mul, r_div, r_mod, r_pow, r_cmp, r_lt, r_neg, r_isXB, r_isXN, r_isN, r_isNr, r_isNi, r_isNn, r_isNt, r_eqI, r_ixT, r_ixK, r_ixR, r_lstOf, r_sliT, r_sliK, r_sliR, r_sliL, r_truB, r_truI, r_truT, r_truN, r_truR, r_truL, r_max, r_min, r_intB, r_intI, r_abs, r_lenT, r_lenK, r_lenR, r_lenL, r_nat, r_set, r_setL, r_isI, r_isB, r_isT, r_fld, r_fldR, r_fldI, r_sfd, r_sfdR, r_sfdI, r_met, r_metR, r_met1, atI0, atI1, atI2, atI3, atI4, ixN1a, ixN2a, ixN2b, ixN3a, ixN3b, ixN3c, put_same, List.map_cons, List.map_nil, List.length_cons, List.length_nil, List.length_set, List.replicate, List.cons_append, List.nil_append, List.append_nil, List.getElem?_cons_zero, List.getElem?_cons_succ, List.set_cons_zero, List.set_cons_succ, true_and, and_true, Option.some.injEq, if_true, if_false, ite_true, ite_false, reduceIte, Bool.not_true, Bool.not_false, Bool.false_eq_true, Nat.reduceAdd, Nat.reduceLeDiff, $[$es:term],*])
section
variable {n : Nat} {S : HS} {d o : Int} {k : Str} {m : Bool}
/-- for whom one waits -/
def wL (n : Nat) (S : HS) (d : Int) : List Int := match S.ask d with
  | some (k, m) => waitL n S d k m
  | none => []
def wtrs (n : Nat) (S : HS) : List Int := (dl n).filter fun d => !(wL n S d).isEmpty
theorem wt_eq : wtD n S d = if (!(wL n S d).isEmpty) = true then some (.inl d, .kl ((wL n S d).map D.int)) else none := by
  unfold wtD wL
  cases S.ask d with
  | none => rfl
  | some p =>
    obtain ⟨k, m⟩ := p
    show (if waitL n S d k m = [] then none else some _) = _
    cases hw : waitL n S d k m with
    | nil => simp [hw]
    | cons u us => simp [hw]
theorem waitD_eq : waitD n S = (wtrs n S).map fun d => (.inl d, .kl ((wL n S d).map D.int)) := by
  unfold waitD wtrs
  induction dl n with
  | nil => rfl
  | cons x l ih =>
    rw [List.filterMap_cons, wt_eq]
    cases hx : (wL n S x).isEmpty with
    | true => rw [List.filter_cons_of_neg (by simp [hx])]; simpa using ih
    | false => rw [List.filter_cons_of_pos (by simp [hx])]; simpa using ih
theorem val_map {l : List Int} {f : Int → D} (h : d ∈ l) : valD (l.map fun d => ((.inl d : Key), f d)) (.inl d) = some (f d) := by
  induction l with
  | nil => cases h
  | cons x l ih =>
    show (if (Sum.inl x : Key) = .inl d then some (f x) else valD (l.map fun d => ((.inl d : Key), f d)) (.inl d)) = _
    by_cases hx : x = d
    · subst hx; rw [if_pos rfl]
    · rw [if_neg (fun z => hx (Sum.inl.inj z))]
      rcases List.mem_cons.mp h with e | h
      · exact absurd e.symm hx
      · exact ih h
theorem val_map0 {l : List Int} {f : Int → D} (h : d ∉ l) : valD (l.map fun d => ((.inl d : Key), f d)) (.inl d) = none := by
  rw [valD_none]
  intro z
  rw [List.map_map] at z
  obtain ⟨y, hy, e⟩ := List.mem_map.mp z
  exact h (Sum.inl.inj e ▸ hy)
theorem val_is {l : List Int} {f : Int → D} : (valD (l.map fun d => ((.inl d : Key), f d)) (.inl d)).isSome = decide (d ∈ l) := by
  by_cases h : d ∈ l
  · rw [val_map h]; simp [h]
  · rw [val_map0 h]; simp [h]
end
end P
namespace P
open PySem PySem.Spec L2 DL
local macro_rules | `(tactic| exists $es:term,*) => `(tactic| try simp only [q_upd, r_updP, r_updO, q_revV, r_asLK, r_revO, q_mkX, q_lstI, q_lstRg, r_lrg, r_lenD, r_frzD, q_pop1, r_pop1S, r_pop1I, r_popO1, q_eqE, r_inTT, r_inTN, r_inTK, r_inSo, r_inSn, q_srtI, q_dc, r_keyS, r_keyI, q_methK, r_metKd, r_metK, r_popS, r_popI, r_popO, r_sdfS, r_sdfI, q_items, r_itP, r_itO, r_inIR, r_inIq, r_inIo, q_disp, r_dkF, r_inF, q_augI, r_getP2, r_getO2, r_cmpA, q_makeK, q_enum, r_enumP, r_enumO, r_repK, r_addNK, r_inIK, r_inIT, q_get1, q_get2, q_dget, q_sdict, q_pop2, q_setd, q_dic, r_dictP, r_getS, r_getI, r_getO, r_dkS, r_dkI, r_dkO, r_inS, r_inI, r_inO, r_dpS, r_dpI, r_dpO, r_dicP, r_dicO, r_sortDic, r_listDic, r_dictDic, q_dapp, r_lstP, r_appP, r_appO, q_clear, r_clrP, r_clrO, q_truO, r_truOP, r_ownTru, r_boolOD, r_ownBool, q_notO, r_cmpTI, r_cmpT3, r_lenOD, r_ownLen, q_jkeys, q_jvals, r_fzP, r_fzO, q_jstr, r_strS, r_leXI, r_leXS, q_join, q_upper, r_joinP, r_upP, q_kw1, r_minT2, q_emp, q_mt1, r_isiEB, r_isiEb, r_isiEt, r_isiEs, r_isiEl, r_isiEd, r_isiER, r_isE_non, r_isX_non, r_isE_bl, r_isX_bl, r_isE_int, r_isX_int, r_isE_str, r_isX_str, r_isE_tup, r_isX_tup, r_isE_kl, r_isX_kl, r_isE_kc, r_isX_kc, r_isE_ref, r_isX_ref, r_rIsiET, r_rIsiER, r_rIsiXT, r_rIsiXR, r_isD_non_int, r_isD_non_bool, r_isD_non_tuple, r_isD_non_str, r_isD_non_list, r_isD_non_dict, r_isD_bl_int, r_isD_bl_bool, r_isD_bl_tuple, r_isD_bl_str, r_isD_bl_list, r_isD_bl_dict, r_isD_int_int, r_isD_int_bool, r_isD_int_tuple, r_isD_int_str, r_isD_int_list, r_isD_int_dict, r_isD_str_int, r_isD_str_bool, r_isD_str_tuple, r_isD_str_str, r_isD_str_list, r_isD_str_dict, r_isD_tup_int, r_isD_tup_bool, r_isD_tup_tuple, r_isD_tup_str, r_isD_tup_list, r_isD_tup_dict, r_isD_kl_int, r_isD_kl_bool, r_isD_kl_tuple, r_isD_kl_str, r_isD_kl_list, r_isD_kl_dict, r_isD_kc_int, r_isD_kc_bool, r_isD_kc_tuple, r_isD_kc_str, r_isD_kc_list, r_isD_kc_dict, r_isD_non_own, r_isD_bl_own, r_isD_int_own, r_isD_str_own, r_isD_tup_own, r_isD_kl_own, r_isD_kc_own, q_wpf, q_seq, q_set, q_ret, q_retN, q_if, q_drop, r_unp', r_par, q_next, q_brk, q_cont, q_for, sWhile, q_sub, sAug, q_rng1, r_rng1P, jRng2, q_jseq, r_seqT, r_seqK, r_seqR, r_seqL, r_ownP, q_op, r_var, r_varS, q_c, q_cons, q_nil, q_cb, q_tup, q_lst, r_test, r_tru, q_not, q_and, q_or, r_andV, r_orV, r_notV, q_if', q_un, q_call, q_slice, q_some, q_none, r_intP, r_chn, r_chnT, r_link, r_last, cp2, pw2, cp3, pw3, cp4, pw4, cp5, pw5, cp6, pw6, cp7, pw7, cp8, pw8, cp9, pw9, cp10, pw10, cp12, pw12, cp15, pw15, cp18, pw18, cp20, pw20, cp24, pw24, cp28, pw28, cp29, pw29, cp30, pw30, q_tryH, q_raise0, q_raiseX, q_xfld, r_xfld, q_setAs, q_setAs0, q_endsAs0, q_endsNx, q_endsRt, q_endsBk, q_endsCt, r_isNx, r_lcV, q_lstV, q_sliceV, q_frz, r_frzR, r_frzL, r_frzT, r_frzK, r_frzN, r_addVI, r_addVT, r_addVK, r_addVO, r_sliVK, r_sliVC, r_sliVT, r_sliVR, r_sliVL, r_listVK, r_listVC, r_listVT, r_truK, r_eqXS, r_eqXI, r_eqXT2, r_strI, r_seqC, r_ixC, r_lenC, r_sliC, q_lc, q_yes, q_make, r_nonP, q_fldg, r_eqT2, r_set0, r_set1, q_put1, q_putN, r_blP, r_boolP, r_unpP, r_parP, r_opt, r_pick, r_add, r_addT, r_addR, r_addL, r_sub, r_mul, r_div, r_mod, r_pow, r_cmp, r_lt, r_neg, r_isXB, r_isXN, r_isN, r_isNr, r_isNi, r_isNn, r_isNt, r_eqI, r_ixT, r_ixK, r_ixR, r_lstOf, r_sliT, r_sliK, r_sliR, r_sliL, r_truB, r_truI, r_truT, r_truN, r_truR, r_truL, r_max, r_min, r_intB, r_intI, r_abs, r_lenT, r_lenK, r_lenR, r_lenL, r_nat, r_set, r_setL, r_isI, r_isB, r_isT, r_fld, r_fldR, r_fldI, r_sfd, r_sfdR, r_sfdI, r_met, r_metR, r_met1, atI0, atI1, atI2, atI3, atI4, ixN1a, ixN2a, ixN2b, ixN3a, ixN3b, ixN3c, put_same, List.map_cons, List.map_nil, List.length_cons, List.length_nil, List.length_set, List.replicate, List.cons_append, List.nil_append, List.append_nil, List.getElem?_cons_zero, List.getElem?_cons_succ, List.set_cons_zero, List.set_cons_succ, true_and, and_true, Option.some.injEq, if_true, if_false, ite_true, ite_false, reduceIte, Bool.not_true, Bool.not_false, Bool.false_eq_true, Nat.reduceAdd, Nat.reduceLeDiff, $[$es:term],*])
/-! ### plain laws of holds -/
structure Inv (n : Nat) (S : HS) : Prop where
  rng : ∀ k o, S.hold k o ≠ none → 0 ≤ o ∧ o < n
  one : ∀ k o o', o ≠ o' → S.hold k o = some true → S.hold k o' = none
  lost : ∀ d, S.lost d = true → ∀ k, S.hold k d = none
  ask : ∀ d, S.ask d ≠ none → S.fast d = false ∧ S.lost d = false
  age : ∀ d, S.age d = none ∨ S.age d = some d
section
variable {n : Nat} {S : HS} {d o : Int} {k : Str} {m : Bool}
theorem Inv.zero : Inv n S0 := ⟨fun _ _ h => (h rfl).elim, fun _ _ _ _ h => (nomatch h), fun _ h => (nomatch h), fun _ h => (h rfl).elim, fun _ => .inl rfl⟩
theorem Inv.freed (h : Inv n S) {fg : Bool} : Inv n (S.freed d fg) := by
  refine ⟨fun k o hk => ?_, fun k o o' hne hk => ?_, fun x hx k => ?_, fun x hx => ?_, fun x => ?_⟩
  · have : (if o = d then none else S.hold k o) ≠ none := hk
    split at this
    · exact (this rfl).elim
    · exact h.rng k o this
  · have hk' : (if o = d then none else S.hold k o) = some true := hk
    show (if o' = d then none else S.hold k o') = none
    split at hk'
    · cases hk'
    · split
      · rfl
      · exact h.one k o o' hne hk'
  · show (if x = d then none else S.hold k x) = none
    by_cases hxd : x = d
    · rw [if_pos hxd]
    · rw [if_neg hxd]
      refine h.lost x ?_ k
      have hx' : (if fg = true then setF S.lost d false else S.lost) x = true := hx
      split at hx'
      · rwa [setF_ne hxd] at hx'
      · exact hx'
  · have hx' : setF S.ask d none x ≠ none := hx
    by_cases hxd : x = d
    · subst hxd; rw [setF_same] at hx'; exact (hx' rfl).elim
    · rw [setF_ne hxd] at hx'
      obtain ⟨h1, h2⟩ := h.ask x hx'
      refine ⟨(setF_ne hxd).trans h1, ?_⟩
      show (if fg = true then setF S.lost d false else S.lost) x = false
      split
      · rw [setF_ne hxd]; exact h2
      · exact h2
  · show setF S.age d none x = none ∨ setF S.age d none x = some x
    by_cases hxd : x = d
    · subst hxd; exact .inl setF_same
    · rw [setF_ne hxd]; exact h.age x
theorem Inv.off (h : Inv n S) : Inv n (S.off d) := by
  have h2 := h.freed (d := d) (fg := false)
  refine ⟨h2.rng, h2.one, fun x hx k => ?_, fun x hx => ?_, h2.age⟩
  · by_cases hxd : x = d
    · show (if x = d then none else S.hold k x) = none
      rw [if_pos hxd]
    · exact h2.lost x (by rw [← hx]; exact (setF_ne hxd).symm) k
  · by_cases hxd : x = d
    · have hx' : setF S.ask d none x ≠ none := hx
      subst hxd; rw [setF_same] at hx'; exact (hx' rfl).elim
    · obtain ⟨z1, z2⟩ := h2.ask x hx
      exact ⟨z1, (setF_ne hxd).trans z2⟩
theorem Inv.offs : ∀ {l : List Int} {S : HS}, Inv n S → Inv n (l.foldl HS.off S)
  | [], _, h => h
  | x :: l, _, h => Inv.offs (l := l) h.off
theorem offs_at : ∀ {l : List Int} {S : HS}, (∀ o ∈ l, o ≠ d) → (l.foldl HS.off S).lost d = S.lost d ∧ (l.foldl HS.off S).fast d = S.fast d
  | [], _, _ => ⟨rfl, rfl⟩
  | x :: l, S, h => by
    have h1 := offs_at (l := l) (S := S.off x) fun o ho => h o (List.mem_cons_of_mem _ ho)
    have hx : d ≠ x := (h x List.mem_cons_self).symm
    have e1 : (S.off x).lost d = S.lost d := setF_ne hx
    have e2 : (S.off x).fast d = S.fast d := setF_ne hx
    rw [e1, e2] at h1
    exact h1
theorem Inv.unask (h : Inv n S) : Inv n (S.unask d) := by
  refine ⟨h.rng, h.one, h.lost, fun x hx => ?_, h.age⟩
  have hx' : setF S.ask d none x ≠ none := hx
  by_cases hxd : x = d
  · subst hxd; rw [setF_same] at hx'; exact (hx' rfl).elim
  · rw [setF_ne hxd] at hx'; exact h.ask x hx'
theorem Inv.aged (h : Inv n S) : Inv n (S.aged d d) := by
  refine ⟨h.rng, h.one, h.lost, h.ask, fun x => ?_⟩
  show setF S.age d _ x = none ∨ setF S.age d _ x = some x
  by_cases hxd : x = d
  · subst hxd
    rw [setF_same]
    rcases h.age x with z | z <;> rw [z] <;> exact .inr rfl
  · rw [setF_ne hxd]; exact h.age x
theorem Inv.pledged (h : Inv n S) : Inv n (S.pledged d) := by
  refine ⟨h.rng, h.one, h.lost, fun x hx => ?_, h.age⟩
  have hx' : setF S.ask d none x ≠ none := hx
  by_cases hxd : x = d
  · subst hxd; rw [setF_same] at hx'; exact (hx' rfl).elim
  · rw [setF_ne hxd] at hx'
    obtain ⟨z1, z2⟩ := h.ask x hx'
    exact ⟨(setF_ne hxd).trans z1, z2⟩
theorem bar_in (h : Inv n S) {w : Bool} (ho : o ≠ d) (hh : S.hold k o = some w) (hw : (w || m) = true) : o ∈ barL n S d k m := by
  refine List.mem_filter.mpr ⟨mem_dl.mpr (h.rng k o (by rw [hh]; simp)), ?_⟩
  unfold barB
  rw [hh]
  simp [ho, hw]
theorem Inv.put (h : Inv n S) (hd : 0 ≤ d ∧ d < n) (hb : barL n S d k m = []) (hl : S.lost d = false) : Inv n (S.put k d m) := by
  refine ⟨fun x o hx => ?_, fun x o o' hne hx => ?_, fun x hx y => ?_, h.ask, h.age⟩
  · have hx' : (if x = k ∧ o = d then some m else S.hold x o) ≠ none := hx
    split at hx'
    · rename_i hh; rw [hh.2]; exact hd
    · exact h.rng x o hx'
  · have hx' : (if x = k ∧ o = d then some m else S.hold x o) = some true := hx
    show (if x = k ∧ o' = d then some m else S.hold x o') = none
    split at hx'
    · rename_i hh
      cases hx'
      rw [if_neg fun z => hne (hh.2.trans z.2.symm)]
      cases hv : S.hold x o' with
      | none => rfl
      | some w =>
        have := bar_in h (d := d) (k := k) (m := true) (o := o') (w := w) (fun z => hne (hh.2.trans z.symm)) (by rw [← hh.1]; exact hv) (by simp)
        rw [hb] at this; cases this
    · by_cases hh : x = k ∧ o' = d
      · have := bar_in h (d := d) (k := k) (m := m) (o := o) (w := true) (fun z => hne (z.trans hh.2.symm)) (by rw [← hh.1]; exact hx') rfl
        rw [hb] at this; cases this
      · rw [if_neg hh]; exact h.one x o o' hne hx'
  · show (if y = k ∧ x = d then some m else S.hold y x) = none
    have hx' : S.lost x = true := hx
    rw [if_neg (fun z => by rw [z.2, hl] at hx'; cases hx')]
    exact h.lost x hx' y
theorem off_ne {o : Int} (h : o ∈ offL n S d k m) : o ≠ d := by
  have := (List.mem_filter.mp (List.mem_filter.mp h).1).2
  unfold barB at this
  rw [Bool.and_eq_true] at this
  exact of_decide_eq_true this.1
theorem Inv.askR (h : Inv n S) (hd : 0 ≤ d ∧ d < n) (hl : S.lost d = false) (hf : S.fast d = false) : Inv n (askR n S d k m d).st := by
  unfold P.askR
  split
  · exact h.aged.unask
  · unfold askE
    have h1 := h.aged (d := d)
    have h2 := Inv.offs (l := offL n (S.aged d d) d k m) h1
    obtain ⟨e1, e2⟩ := offs_at (d := d) (l := offL n (S.aged d d) d k m) (S := S.aged d d) fun o ho => off_ne ho
    have e1' : (List.foldl HS.off (S.aged d d) (offL n (S.aged d d) d k m)).lost d = false := e1.trans hl
    have e2' : (List.foldl HS.off (S.aged d d) (offL n (S.aged d d) d k m)).fast d = false := e2.trans hf
    generalize List.foldl HS.off (S.aged d d) (offL n (S.aged d d) d k m) = S2 at *
    split
    · rename_i hb
      exact h2.unask.put hd hb e1'
    · refine ⟨h2.rng, h2.one, h2.lost, fun x hx => ?_, h2.age⟩
      have hx' : setF S2.ask d (some (k, m)) x ≠ none := hx
      by_cases hxd : x = d
      · subst hxd; exact ⟨e2', e1'⟩
      · rw [setF_ne hxd] at hx'; exact h2.ask x hx'
/-- what is known of whom one waits for -/
theorem wL_mem (h : Inv n S) (ho : o ∈ wL n S d) : (S.fast o = true ∨ o < d) ∧ o ≠ d ∧ (∃ k, S.hold k o ≠ none) ∧ 0 ≤ o ∧ o < n := by
  unfold wL at ho
  split at ho
  · rename_i k m _
    obtain ⟨h1, h2⟩ := List.mem_filter.mp ho
    obtain ⟨h3, h4⟩ := List.mem_filter.mp h1
    unfold barB at h4
    rw [Bool.and_eq_true] at h4
    have hod := of_decide_eq_true h4.1
    refine ⟨?_, hod, ⟨k, fun z => by rw [z] at h4; simp at h4⟩, mem_dl.mp h3⟩
    unfold canB at h2
    cases hf : S.fast o with
    | true => exact .inl rfl
    | false =>
      refine .inr ?_
      rw [hf] at h2
      have e1 : rk S d = d := by unfold rk; rcases h.age d with z | z <;> rw [z] <;> rfl
      have e2 : rk S o = o := by unfold rk; rcases h.age o with z | z <;> rw [z] <;> rfl
      rw [e1, e2] at h2
      have h5 : PySem.W.listLt [d, d] [o, o] = false := by simpa using h2
      by_cases hlt : d < o
      · have : PySem.W.listLt [d, d] [o, o] = true := by simp [PySem.W.listLt, PySem.W.DatumOrd.lt, hlt]; omega
        rw [this] at h5; cases h5
      · omega
  · cases ho
theorem wt_fast (h : Inv n S) (hd : d ∈ wtrs n S) : S.fast d = false ∧ S.lost d = false := by
  refine h.ask d fun z => ?_
  have := (List.mem_filter.mp hd).2
  unfold wL at this
  rw [z] at this; cases this
/-- some that wait, wait for none that waits -/
theorem ends_ne (h : Inv n S) (hw : wtrs n S ≠ []) : ((wtrs n S).filter fun d => ((wL n S d).filter fun o => decide (o ∈ wtrs n S)).isEmpty) ≠ [] := by
  cases he : wtrs n S with
  | nil => exact (hw he).elim
  | cons x r =>
    have hx : x ∈ wtrs n S := by rw [he]; exact List.mem_cons_self
    have hp : (wtrs n S).Pairwise (· < ·) := fil_pw
    rw [← he]
    intro z
    have := List.filter_eq_nil_iff.mp z x hx
    apply this
    rw [List.isEmpty_iff, List.filter_eq_nil_iff]
    intro o ho hmem
    have hmem := of_decide_eq_true hmem
    obtain ⟨h1, _⟩ := wL_mem h ho
    rcases h1 with h1 | h1
    · rw [(wt_fast h hmem).1] at h1; cases h1
    · rw [he] at hmem hp
      rcases List.mem_cons.mp hmem with e | hm
      · omega
      · have := (List.pairwise_cons.mp hp).1 o hm; omega
theorem of_nil {nm : List Str} (h : ∀ k, S.hold k d = none) : ofD nm S d = [] := by
  unfold ofD
  rw [List.filterMap_eq_nil_iff]
  intro k _
  rw [h]; rfl
theorem val_of {nm : List Str} (h : k ∈ nm) : valD (ofD nm S d) (.inr k) = (S.hold k d).map mdD := by
  unfold ofD
  induction nm with
  | nil => cases h
  | cons x nm ih =>
    rw [List.filterMap_cons]
    by_cases hx : x = k
    · subst hx
      cases hh : S.hold x d with
      | none =>
        simp only [Option.map_none]
        by_cases hm : x ∈ nm
        · rw [ih hm, hh]; rfl
        · rw [valD_none]
          intro z
          obtain ⟨y, hy, e1⟩ := List.mem_map.mp z
          obtain ⟨u, hu, e2⟩ := List.mem_filterMap.mp hy
          cases hq : S.hold u d with
          | none => rw [hq] at e2; cases e2
          | some w =>
            rw [hq] at e2
            cases e2
            exact hm (Sum.inr.inj e1 ▸ hu)
      | some w =>
        show (if (Sum.inr x : Key) = .inr x then some (mdD w) else _) = _
        rw [if_pos rfl]; rfl
    · have hk : k ∈ nm := by
        rcases List.mem_cons.mp h with e | h
        · exact absurd e.symm hx
        · exact h
      cases hh : S.hold x d with
      | none => exact ih hk
      | some w =>
        show (if (Sum.inr x : Key) = .inr k then some (mdD w) else _) = _
        rw [if_neg fun z => hx (Sum.inr.inj z)]
        exact ih hk
end
end P
namespace P
open PySem PySem.Spec L2 DL
local macro_rules | `(tactic| exists $es:term,*) => `(tactic| try simp only [q_upd, r_updP, r_updO, q_revV, r_asLK, r_revO, q_mkX, q_lstI, q_lstRg, r_lrg, r_lenD, r_frzD, q_pop1, r_pop1S, r_pop1I, r_popO1, q_eqE, r_inTT, r_inTN, r_inTK, r_inSo, r_inSn, q_srtI, q_dc, r_keyS, r_keyI, q_methK, r_metKd, r_metK, r_popS, r_popI, r_popO, r_sdfS, r_sdfI, q_items, r_itP, r_itO, r_inIR, r_inIq, r_inIo, q_disp, r_dkF, r_inF, q_augI, r_getP2, r_getO2, r_cmpA, q_makeK, q_enum, r_enumP, r_enumO, r_repK, r_addNK, r_inIK, r_inIT, q_get1, q_get2, q_dget, q_sdict, q_pop2, q_setd, q_dic, r_dictP, r_getS, r_getI, r_getO, r_dkS, r_dkI, r_dkO, r_inS, r_inI, r_inO, r_dpS, r_dpI, r_dpO, r_dicP, r_dicO, r_sortDic, r_listDic, r_dictDic, q_dapp, r_lstP, r_appP, r_appO, q_clear, r_clrP, r_clrO, q_truO, r_truOP, r_ownTru, r_boolOD, r_ownBool, q_notO, r_cmpTI, r_cmpT3, r_lenOD, r_ownLen, q_jkeys, q_jvals, r_fzP, r_fzO, q_jstr, r_strS, r_leXI, r_leXS, q_join, q_upper, r_joinP, r_upP, q_kw1, r_minT2, q_emp, q_mt1, r_isiEB, r_isiEb, r_isiEt, r_isiEs, r_isiEl, r_isiEd, r_isiER, r_isE_non, r_isX_non, r_isE_bl, r_isX_bl, r_isE_int, r_isX_int, r_isE_str, r_isX_str, r_isE_tup, r_isX_tup, r_isE_kl, r_isX_kl, r_isE_kc, r_isX_kc, r_isE_ref, r_isX_ref, r_rIsiET, r_rIsiER, r_rIsiXT, r_rIsiXR, r_isD_non_int, r_isD_non_bool, r_isD_non_tuple, r_isD_non_str, r_isD_non_list, r_isD_non_dict, r_isD_bl_int, r_isD_bl_bool, r_isD_bl_tuple, r_isD_bl_str, r_isD_bl_list, r_isD_bl_dict, r_isD_int_int, r_isD_int_bool, r_isD_int_tuple, r_isD_int_str, r_isD_int_list, r_isD_int_dict, r_isD_str_int, r_isD_str_bool, r_isD_str_tuple, r_isD_str_str, r_isD_str_list, r_isD_str_dict, r_isD_tup_int, r_isD_tup_bool, r_isD_tup_tuple, r_isD_tup_str, r_isD_tup_list, r_isD_tup_dict, r_isD_kl_int, r_isD_kl_bool, r_isD_kl_tuple, r_isD_kl_str, r_isD_kl_list, r_isD_kl_dict, r_isD_kc_int, r_isD_kc_bool, r_isD_kc_tuple, r_isD_kc_str, r_isD_kc_list, r_isD_kc_dict, r_isD_non_own, r_isD_bl_own, r_isD_int_own, r_isD_str_own, r_isD_tup_own, r_isD_kl_own, r_isD_kc_own, q_wpf, q_seq, q_set, q_ret, q_retN, q_if, q_drop, r_unp', r_par, q_next, q_brk, q_cont, q_for, sWhile, q_sub, sAug, q_rng1, r_rng1P, jRng2, q_jseq, r_seqT, r_seqK, r_seqR, r_seqL, r_ownP, q_op, r_var, r_varS, q_c, q_cons, q_nil, q_cb, q_tup, q_lst, r_test, r_tru, q_not, q_and, q_or, r_andV, r_orV, r_notV, q_if', q_un, q_call, q_slice, q_some, q_none, r_intP, r_chn, r_chnT, r_link, r_last, cp2, pw2, cp3, pw3, cp4, pw4, cp5, pw5, cp6, pw6, cp7, pw7, cp8, pw8, cp9, pw9, cp10, pw10, cp12, pw12, cp15, pw15, cp18, pw18, cp20, pw20, cp24, pw24, cp28, pw28, cp29, pw29, cp30, pw30, q_tryH, q_raise0, q_raiseX, q_xfld, r_xfld, q_setAs, q_setAs0, q_endsAs0, q_endsNx, q_endsRt, q_endsBk, q_endsCt, r_isNx, r_lcV, q_lstV, q_sliceV, q_frz, r_frzR, r_frzL, r_frzT, r_frzK, r_frzN, r_addVI, r_addVT, r_addVK, r_addVO, r_sliVK, r_sliVC, r_sliVT, r_sliVR, r_sliVL, r_listVK, r_listVC, r_listVT, r_truK, r_eqXS, r_eqXI, r_eqXT2, r_strI, r_seqC, r_ixC, r_lenC, r_sliC, q_lc, q_yes, q_make, r_nonP, q_fldg, r_eqT2, r_set0, r_set1, q_put1, q_putN, r_blP, r_boolP, r_unpP, r_parP, r_opt, r_pick, r_add, r_addT, r_addR, r_addL, r_sub, r_mul, r_div, r_mod, r_pow, r_cmp, r_lt, r_neg, r_isXB, r_isXN, r_isN, r_isNr, r_isNi, r_isNn, r_isNt, r_eqI, r_ixT, r_ixK, r_ixR, r_lstOf, r_sliT, r_sliK, r_sliR, r_sliL, r_truB, r_truI, r_truT, r_truN, r_truR, r_truL, r_max, r_min, r_intB, r_intI, r_abs, r_lenT, r_lenK, r_lenR, r_lenL, r_nat, r_set, r_setL, r_isI, r_isB, r_isT, r_fld, r_fldR, r_fldI, r_sfd, r_sfdR, r_sfdI, r_met, r_metR, r_met1, atI0, atI1, atI2, atI3, atI4, ixN1a, ixN2a, ixN2b, ixN3a, ixN3b, ixN3c, put_same, List.map_cons, List.map_nil, List.length_cons, List.length_nil, List.length_set, List.replicate, List.cons_append, List.nil_append, List.append_nil, List.getElem?_cons_zero, List.getElem?_cons_succ, List.set_cons_zero, List.set_cons_succ, true_and, and_true, Option.some.injEq, if_true, if_false, ite_true, ite_false, reduceIte, Bool.not_true, Bool.not_false, Bool.false_eq_true, Nat.reduceAdd, Nat.reduceLeDiff, $[$es:term],*])
/-! ### rounds, by value -/
structure RS where
  S : HS
  st : Int → Int
def rRes (P : RS) (d : Int) : RS := if P.S.lost d = true then ⟨P.S.freed d true, setF P.st d 0⟩ else P
def rAsk (n : Nat) (P : RS) (d : Int) (ws : List (Str × Bool)) : RS := match ws[(P.st d).toNat]? with
  | some (k, m) => ⟨(askR n P.S d k m d).st, if (askR n P.S d k m d).held = true then setF P.st d (P.st d + 1) else P.st⟩
  | none => P
def rFin (P : RS) (d : Int) (ws : List (Str × Bool)) : RS := if P.st d = ws.length then ⟨P.S.pledged d, setF P.st d (-2)⟩ else P
def rStep (n : Nat) (W : Int → List (Str × Bool)) (P : RS) (d : Int) : RS :=
  if P.st d = -2 then ⟨P.S.freed d false, setF P.st d (-1)⟩
  else if 0 ≤ P.st d then rFin (rAsk n (rRes P d) d (W d)) d (W d) else P
section
variable {n : Nat} {W : Int → List (Str × Bool)} {S T U : HS} {P P0 : RS} {d o a x v D0 : Int} {k : Str} {m fg : Bool} {ws : List (Str × Bool)}
/-- alike at x -/
def Sm (x : Int) (S T : HS) : Prop := (∀ k, T.hold k x = S.hold k x) ∧ T.fast x = S.fast x ∧ T.lost x = S.lost x ∧ T.ask x = S.ask x
theorem Sm.refl : Sm x S S := ⟨fun _ => rfl, rfl, rfl, rfl⟩
theorem Sm.trans (h : Sm x S T) (g : Sm x T U) : Sm x S U := ⟨fun k => (g.1 k).trans (h.1 k), g.2.1.trans h.2.1, g.2.2.1.trans h.2.2.1, g.2.2.2.trans h.2.2.2⟩
theorem Sm.freed (hx : x ≠ d) : Sm x S (S.freed d fg) := by
  refine ⟨fun k => ?_, setF_ne hx, ?_, setF_ne hx⟩
  · show (if x = d then none else S.hold k x) = _
    rw [if_neg hx]
  · show (if fg = true then setF S.lost d false else S.lost) x = S.lost x
    split
    · exact setF_ne hx
    · rfl
theorem Sm.off (hx : x ≠ d) : Sm x S (S.off d) := by
  obtain ⟨h1, h2, _, h4⟩ := Sm.freed (S := S) (fg := false) hx
  exact ⟨h1, h2, setF_ne hx, h4⟩
theorem Sm.offs : ∀ {l : List Int} {S : HS}, x ∉ l → Sm x S (l.foldl HS.off S)
  | [], _, _ => Sm.refl
  | y :: l, S, h => (Sm.off fun z => h (by rw [z]; exact List.mem_cons_self)).trans (Sm.offs (l := l) fun z => h (List.mem_cons_of_mem _ z))
theorem offs_none : ∀ {l : List Int} {S : HS}, x ∈ l → (l.foldl HS.off S).hold k x = none
  | y :: l, S, h => by
    by_cases hx : x ∈ l
    · exact offs_none (l := l) hx
    · have e : x = y := (List.mem_cons.mp h).resolve_right hx
      have := (Sm.offs (S := S.off y) hx).1 k
      refine this.trans ?_
      show (if x = y then none else S.hold k x) = none
      rw [if_pos e]
theorem offs_fast : ∀ {l : List Int} {S : HS}, S.fast x = false → (l.foldl HS.off S).fast x = false
  | [], _, h => h
  | y :: l, S, h => offs_fast (l := l) (S := S.off y) (by
    show setF S.fast y false x = false
    by_cases hx : x = y
    · subst hx; exact setF_same
    · rw [setF_ne hx]; exact h)
theorem ask_sm (hx : x ≠ d) (ho : x ∉ offL n (S.aged d d) d k m) : Sm x S (askR n S d k m d).st := by
  have ha : Sm x S (S.aged d d) := ⟨fun _ => rfl, rfl, rfl, rfl⟩
  unfold askR
  split
  · exact ⟨fun _ => rfl, rfl, rfl, setF_ne hx⟩
  · unfold askE
    have h1 := ha.trans (Sm.offs (S := S.aged d d) ho)
    generalize List.foldl HS.off (S.aged d d) (offL n (S.aged d d) d k m) = S2 at *
    split
    · refine h1.trans ⟨fun k' => ?_, rfl, rfl, setF_ne hx⟩
      show (if k' = k ∧ x = d then some m else S2.hold k' x) = _
      rw [if_neg fun z => hx z.2]
    · exact h1.trans ⟨fun _ => rfl, rfl, rfl, setF_ne hx⟩
theorem ask_fast (hx : S.fast x = false) : (askR n S d k m d).st.fast x = false := by
  unfold askR
  split
  · exact hx
  · unfold askE
    have h1 := offs_fast (x := x) (l := offL n (S.aged d d) d k m) (S := S.aged d d) hx
    generalize List.foldl HS.off (S.aged d d) (offL n (S.aged d d) d k m) = S2 at *
    split
    · exact h1
    · exact h1
theorem ask_lost : (askR n S d k m d).st.lost d = S.lost d := by
  unfold askR
  split
  · rfl
  · unfold askE
    have h1 := offs_at (d := d) (l := offL n (S.aged d d) d k m) (S := S.aged d d) fun o ho => off_ne ho
    generalize List.foldl HS.off (S.aged d d) (offL n (S.aged d d) d k m) = S2 at *
    split
    · exact h1.1
    · exact h1.1
theorem off_can (h : Inv n S) (ho : o ∈ offL n (S.aged d d) d k m) : S.fast o = false ∧ S.hold k o ≠ none ∧ d < o := by
  obtain ⟨h1, h2⟩ := List.mem_filter.mp ho
  have h3 := (List.mem_filter.mp h1).2
  have hi := h.aged (d := d)
  unfold canB at h2
  rw [Bool.and_eq_true] at h2
  have e1 : rk (S.aged d d) d = d := by unfold rk; rcases hi.age d with z | z <;> rw [z] <;> rfl
  have e2 : rk (S.aged d d) o = o := by unfold rk; rcases hi.age o with z | z <;> rw [z] <;> rfl
  rw [e1, e2] at h2
  refine ⟨?_, fun z => ?_, ?_⟩
  · have : (!S.fast o) = true := h2.1
    simpa using this
  · unfold barB at h3
    have z' : (S.aged d d).hold k o = none := z
    rw [z'] at h3; simp at h3
  · refine Classical.byContradiction fun hn => ?_
    have : PySem.W.listLt [d, d] [o, o] = false := by
      rcases (show o < d ∨ o = d by omega) with z | z
      · simp [PySem.W.listLt, PySem.W.DatumOrd.lt, hn, z]
      · subst z; simp [PySem.W.listLt, PySem.W.DatumOrd.lt]
    rw [this] at h2; cases h2.2
/-- who is not held is barred by one that is fast or elder -/
theorem ask_wait (h : Inv n S) (hn : (askR n S d k m d).held = false) : ∃ o, o ≠ d ∧ S.hold k o ≠ none ∧ (S.fast o = true ∨ o < d) := by
  refine Classical.byContradiction fun hc => ?_
  unfold askR at hn
  split at hn
  · cases hn
  · unfold askE at hn
    split at hn
    · cases hn
    · rename_i hb
      obtain ⟨o, ho⟩ := List.exists_mem_of_ne_nil _ hb
      have h1 := (List.mem_filter.mp ho)
      have hoff : o ∉ offL n (S.aged d d) d k m := fun z => by
        have h2 := h1.2
        unfold barB at h2
        rw [offs_none z] at h2; simp at h2
      have hsm := (Sm.offs (S := S.aged d d) hoff).1 k
      have hbar : barB (S.aged d d) d k m o = true := by
        have h2 := h1.2
        unfold barB at h2 ⊢
        rw [hsm] at h2; exact h2
      have hod : o ≠ d := by
        have h2 := hbar
        unfold barB at h2
        rw [Bool.and_eq_true] at h2
        exact of_decide_eq_true h2.1
      have hh : S.hold k o ≠ none := fun z => by
        have h2 := hbar
        unfold barB at h2
        have z' : (S.aged d d).hold k o = none := z
        rw [z'] at h2; simp at h2
      have hi := h.aged (d := d)
      have e1 : rk (S.aged d d) d = d := by unfold rk; rcases hi.age d with z | z <;> rw [z] <;> rfl
      have e2 : rk (S.aged d d) o = o := by unfold rk; rcases hi.age o with z | z <;> rw [z] <;> rfl
      refine hoff (List.mem_filter.mpr ⟨List.mem_filter.mpr ⟨h1.1, hbar⟩, ?_⟩)
      unfold canB
      rw [e1, e2]
      have hf : (S.aged d d).fast o = false := by
        cases hq : S.fast o with
        | false => exact hq
        | true => exact (hc ⟨o, hod, hh, .inl hq⟩).elim
      have hlt : d < o := by
        have : ¬ o < d := fun z => hc ⟨o, hod, hh, .inr z⟩
        omega
      rw [hf]
      simp [PySem.W.listLt, PySem.W.DatumOrd.lt, hlt]
      omega
def At (S : HS) (v : Int) (x : Int) : Prop := (v = -1 ∧ (∀ k, S.hold k x = none) ∧ S.ask x = none ∧ S.fast x = false ∧ S.lost x = false) ∨ (v = -2 ∧ S.fast x = true ∧ S.lost x = false) ∨ (0 ≤ v ∧ S.fast x = false)
theorem At.sm (h : At S v x) (s : Sm x S T) : At T v x := by
  obtain ⟨s1, s2, s3, s4⟩ := s
  rcases h with ⟨h0, h1, h2, h3, h4⟩ | ⟨h0, h1, h2⟩ | ⟨h0, h1⟩
  · exact .inl ⟨h0, fun k => (s1 k).trans (h1 k), s4.trans h2, s2.trans h3, s3.trans h4⟩
  · exact .inr (.inl ⟨h0, s2.trans h1, s3.trans h2⟩)
  · exact .inr (.inr ⟨h0, s2.trans h1⟩)
def J (n : Nat) (P : RS) : Prop := Inv n P.S ∧ ∀ x, At P.S (P.st x) x
theorem J.free (h : J n P) (hd : P.st d = -2) : J n ⟨P.S.freed d false, setF P.st d (-1)⟩ := by
  refine ⟨h.1.freed, fun x => ?_⟩
  show At _ (setF P.st d (-1) x) x
  by_cases hx : x = d
  · subst hx
    rw [setF_same]
    have hl : P.S.lost x = false := by
      rcases h.2 x with z | z | z
      · omega
      · exact z.2.2
      · omega
    refine .inl ⟨rfl, fun k => ?_, setF_same, setF_same, hl⟩
    show (if x = x then none else P.S.hold k x) = none
    rw [if_pos rfl]
  · rw [setF_ne hx]; exact (h.2 x).sm (Sm.freed hx)
theorem J.res (h : J n P) : J n (rRes P d) := by
  unfold rRes
  split
  · refine ⟨h.1.freed, fun x => ?_⟩
    show At _ (setF P.st d 0 x) x
    by_cases hx : x = d
    · subst hx
      rw [setF_same]
      exact .inr (.inr ⟨by omega, setF_same⟩)
    · rw [setF_ne hx]; exact (h.2 x).sm (Sm.freed hx)
  · exact h
theorem res_at (h : 0 ≤ P.st d) : (rRes P d).S.lost d = false ∧ (rRes P d).st d = (if P.S.lost d = true then 0 else P.st d) ∧ 0 ≤ (rRes P d).st d := by
  unfold rRes
  by_cases hl : P.S.lost d = true
  · rw [if_pos hl, if_pos hl]
    refine ⟨setF_same, setF_same, ?_⟩
    show 0 ≤ setF P.st d 0 d
    rw [setF_same]; omega
  · rw [if_neg hl, if_neg hl]
    exact ⟨by simpa using hl, rfl, h⟩
theorem res_ne (hx : x ≠ d) : (rRes P d).st x = P.st x ∧ Sm x P.S (rRes P d).S := by
  unfold rRes
  split
  · exact ⟨setF_ne hx, Sm.freed hx⟩
  · exact ⟨rfl, Sm.refl⟩
theorem J.ask (h : J n P) (hr : 0 ≤ d ∧ d < n) (hd : 0 ≤ P.st d) (hl : P.S.lost d = false) : J n (rAsk n P d ws) := by
  have hf : P.S.fast d = false := by
    rcases h.2 d with z | z | z
    · omega
    · omega
    · exact z.2
  unfold rAsk
  split
  · rename_i k m _
    refine ⟨h.1.askR hr hl hf, fun x => ?_⟩
    show At (askR n P.S d k m d).st ((if (askR n P.S d k m d).held = true then setF P.st d (P.st d + 1) else P.st) x) x
    by_cases hx : x = d
    · subst hx
      refine .inr (.inr ⟨?_, ask_fast hf⟩)
      split
      · rw [setF_same]; omega
      · exact hd
    · have e : (if (askR n P.S d k m d).held = true then setF P.st d (P.st d + 1) else P.st) x = P.st x := by
        split
        · exact setF_ne hx
        · rfl
      rw [e]
      by_cases ho : x ∈ offL n (P.S.aged d d) d k m
      · obtain ⟨o1, o2, _⟩ := off_can h.1 ho
        rcases h.2 x with z | z | z
        · exact (o2 (z.2.1 k)).elim
        · rw [o1] at z; cases z.2.1
        · exact .inr (.inr ⟨z.1, ask_fast z.2⟩)
      · exact (h.2 x).sm (ask_sm hx ho)
  · exact h
theorem rask_ne (hx : x ≠ d) : (rAsk n P d ws).st x = P.st x := by
  unfold rAsk
  split
  · rename_i k m _
    show (if (askR n P.S d k m d).held = true then setF P.st d (P.st d + 1) else P.st) x = _
    split
    · exact setF_ne hx
    · rfl
  · rfl
theorem rask_lost (h : Inv n P.S) (hx : x ≤ d) : (rAsk n P d ws).S.lost x = P.S.lost x := by
  unfold rAsk
  split
  · rename_i k m _
    show (askR n P.S d k m d).st.lost x = _
    by_cases hxd : x = d
    · subst hxd; exact ask_lost
    · refine (ask_sm hxd fun z => ?_).2.2.1
      have := (off_can h z).2.2
      omega
  · rfl
theorem J.fin (h : J n P) (hl : P.S.lost d = false) : J n (rFin P d ws) := by
  unfold rFin
  split
  · refine ⟨h.1.pledged, fun x => ?_⟩
    show At _ (setF P.st d (-2) x) x
    by_cases hx : x = d
    · subst hx
      rw [setF_same]
      exact .inr (.inl ⟨rfl, setF_same, hl⟩)
    · rw [setF_ne hx]
      exact (h.2 x).sm ⟨fun _ => rfl, setF_ne hx, rfl, setF_ne hx⟩
  · exact h
theorem fin_ne (hx : x ≠ d) : (rFin P d ws).st x = P.st x := by
  unfold rFin
  split
  · exact setF_ne hx
  · rfl
theorem fin_lost : (rFin P d ws).S.lost x = P.S.lost x := by
  unfold rFin
  split <;> rfl
theorem J.step (h : J n P) (hr : 0 ≤ d ∧ d < n) : J n (rStep n W P d) := by
  unfold rStep
  split
  · rename_i hd; exact h.free hd
  · split
    · rename_i hd
      obtain ⟨r1, r2, r3⟩ := res_at hd
      have h1 := h.res (d := d)
      exact (h1.ask hr r3 r1).fin (by rw [rask_lost h1.1 (Int.le_refl d)]; exact r1)
    · exact h
theorem step_ne (hx : x ≠ d) : (rStep n W P d).st x = P.st x := by
  unfold rStep
  split
  · exact setF_ne hx
  · split
    · rw [fin_ne hx, rask_ne hx, (res_ne hx).1]
    · rfl
/-- at its own turn -/
theorem step_at (h : P.st d = -1 ∨ P.st d = -2) : (rStep n W P d).st d = -1 := by
  unfold rStep
  rcases h with h | h
  · rw [if_neg (by omega), if_neg (by omega)]; exact h
  · rw [if_pos h]; exact setF_same
theorem step_lost (h : J n P) (hx : x < d) : (rStep n W P d).S.lost x = P.S.lost x := by
  have hne : x ≠ d := by omega
  unfold rStep
  split
  · exact (Sm.freed hne).2.2.1
  · split
    · rw [fin_lost, rask_lost h.res.1 (by omega)]
      exact (res_ne hne).2.2.2.1
    · rfl
theorem step_lost' (h : P.st d < 0) (hx : x ≠ d) : (rStep n W P d).S.lost x = P.S.lost x := by
  unfold rStep
  split
  · exact (Sm.freed hx).2.2.1
  · rw [if_neg (by omega)]
/-- stands are below the ends of their rows -/
def Bd (W : Int → List (Str × Bool)) (P : RS) : Prop := ∀ x, 0 ≤ P.st x → P.st x < (W x).length ∨ P.st x = 0
theorem Bd.step (h : Bd W P) : Bd W (rStep n W P d) := by
  intro x hx
  by_cases hxd : x = d
  · subst hxd
    unfold rStep at hx ⊢
    by_cases h2 : P.st x = -2
    · rw [if_pos h2] at hx
      have : 0 ≤ setF P.st x (-1) x := hx
      rw [setF_same] at this; omega
    · rw [if_neg h2] at hx ⊢
      by_cases h0 : 0 ≤ P.st x
      · rw [if_pos h0] at hx ⊢
        obtain ⟨_, r2, r3⟩ := res_at h0
        have hb : (rRes P x).st x < (W x).length ∨ (rRes P x).st x = 0 := by
          rw [r2]; split
          · exact .inr rfl
          · exact h x h0
        generalize rRes P x = P1 at *
        have hb2 : (rAsk n P1 x (W x)).st x ≤ (W x).length ∨ (rAsk n P1 x (W x)).st x = 0 := by
          unfold rAsk
          split
          · rename_i k m hk
            have hlt : (P1.st x).toNat < (W x).length := by
              obtain ⟨h1, _⟩ := List.getElem?_eq_some_iff.mp hk
              exact h1
            refine .inl ?_
            show (if (askR n P1.S x k m x).held = true then setF P1.st x (P1.st x + 1) else P1.st) x ≤ _
            split
            · rw [setF_same]; omega
            · omega
          · omega
        generalize rAsk n P1 x (W x) = P2 at *
        unfold rFin at hx ⊢
        by_cases h3 : P2.st x = (W x).length
        · rw [if_pos h3] at hx
          have : 0 ≤ setF P2.st x (-2) x := hx
          rw [setF_same] at this; omega
        · rw [if_neg h3]
          omega
      · rw [if_neg h0] at hx; exact (h0 hx).elim
  · rw [step_ne hxd] at hx ⊢; exact h x hx
/-- the turn of the eldest -/
def eff (P : RS) (a : Int) : Int := if P.S.lost a = true then 0 else P.st a
theorem step_el (h : J n P) (hb : Bd W P) (h0 : 0 ≤ P.st a) (ha : ∀ x, 0 ≤ x → x < a → P.st x = -1) (hr : 0 ≤ a) :
    (rStep n W P a).st a = -2 ∨ 0 ≤ (rStep n W P a).st a ∧ (rStep n W P a).S.lost a = false ∧ ((rStep n W P a).st a = eff P a + 1 ∨ (rStep n W P a).st a = eff P a ∧ ∃ x, a < x ∧ x < n ∧ P.st x = -2) := by
  unfold rStep
  rw [if_neg (by omega), if_pos h0]
  obtain ⟨r1, r2, r3⟩ := res_at h0
  have h1 := h.res (d := a)
  have hbb : (rRes P a).st a < (W a).length ∨ (rRes P a).st a = 0 := by
    rw [r2]; split
    · exact .inr rfl
    · exact hb a h0
  have hw : ∀ x, x ≠ a → (rRes P a).st x = P.st x := fun x hx => (res_ne hx).1
  have r2' : (rRes P a).st a = eff P a := r2
  rw [← r2']
  have l2 := rask_lost (n := n) (ws := W a) h1.1 (Int.le_refl a)
  rw [r1] at l2
  generalize rRes P a = P1 at *
  have key : (rAsk n P1 a (W a)).st a = (W a).length ∨ 0 ≤ (rAsk n P1 a (W a)).st a ∧ ((rAsk n P1 a (W a)).st a = P1.st a + 1 ∨ (rAsk n P1 a (W a)).st a = P1.st a ∧ ∃ x, a < x ∧ x < n ∧ P.st x = -2) := by
    unfold rAsk
    split
    · rename_i k m hk
      refine .inr ?_
      show 0 ≤ (if (askR n P1.S a k m a).held = true then setF P1.st a (P1.st a + 1) else P1.st) a ∧ ((if (askR n P1.S a k m a).held = true then setF P1.st a (P1.st a + 1) else P1.st) a = _ ∨ (if (askR n P1.S a k m a).held = true then setF P1.st a (P1.st a + 1) else P1.st) a = _ ∧ _)
      cases hh : (askR n P1.S a k m a).held with
      | true =>
        rw [if_pos rfl, setF_same]
        exact ⟨by omega, .inl rfl⟩
      | false =>
        rw [if_neg (by decide)]
        refine ⟨r3, .inr ⟨rfl, ?_⟩⟩
        obtain ⟨o, o1, o2, o3⟩ := ask_wait h1.1 hh
        obtain ⟨g1, g2⟩ := h1.1.rng k o o2
        have hA := h1.2 o
        rw [hw o o1] at hA
        rcases hA with z | z | z
        · exact (o2 (z.2.1 k)).elim
        · refine ⟨o, ?_, g2, z.1⟩
          have : ¬ o < a := fun u => by have := ha o g1 u; omega
          omega
        · rcases o3 with o3 | o3
          · rw [z.2] at o3; cases o3
          · have := ha o g1 o3; omega
    · rename_i hk
      have hk := List.getElem?_eq_none_iff.mp hk
      refine .inl ?_
      omega
  generalize rAsk n P1 a (W a) = P2 at *
  unfold rFin
  by_cases h3 : P2.st a = (W a).length
  · rw [if_pos h3]; exact .inl setF_same
  · rw [if_neg h3]
    rcases key with z | ⟨z1, z2⟩
    · exact (h3 z).elim
    · exact .inr ⟨z1, l2, z2⟩
/-! ### a round -/
structure Rel (n : Nat) (W : Int → List (Str × Bool)) (P0 : RS) (D0 : Int) (P : RS) : Prop where
  j : J n P
  b : Bd W P
  nd : ∀ x, D0 ≤ x → P.st x = P0.st x
  dn : ∀ x, 0 ≤ x → x < D0 → P.st x ≠ -1 → 0 ≤ P0.st x
theorem Rel.step (h : Rel n W P0 d P) (hr : 0 ≤ d ∧ d < n) : Rel n W P0 (d + 1) (rStep n W P d) := by
  refine ⟨h.j.step hr, h.b.step, fun x hx => ?_, fun x x0 x1 hx => ?_⟩
  · rw [step_ne (by omega)]; exact h.nd x (by omega)
  · by_cases hxd : x = d
    · subst hxd
      have e := h.nd x (Int.le_refl x)
      refine Classical.byContradiction fun hn => ?_
      refine hx (step_at ?_)
      rcases h.j.2 x with z | z | z
      · exact .inl z.1
      · exact .inr z.1
      · omega
    · rw [step_ne hxd] at hx; exact h.dn x x0 (by omega) hx
structure RelA (n : Nat) (P0 : RS) (a D0 : Int) (P : RS) : Prop where
  lo : D0 ≤ a → P.S.lost a = P0.S.lost a
  hi : a < D0 → P.st a = -2 ∨ 0 ≤ P.st a ∧ P.S.lost a = false ∧ (P.st a = eff P0 a + 1 ∨ P.st a = eff P0 a ∧ ∃ x : Int, 0 ≤ x ∧ x < n ∧ P0.st x = -2)
theorem RelA.step (h : Rel n W P0 d P) (ha : RelA n P0 a d P) (hd : 0 ≤ d) (a0 : 0 ≤ a) (h0 : 0 ≤ P0.st a) (hm : ∀ x, 0 ≤ x → x < a → P0.st x < 0) : RelA n P0 a (d + 1) (rStep n W P d) := by
  refine ⟨fun hda => ?_, fun had => ?_⟩
  · have e := h.nd d (Int.le_refl d)
    have := hm d hd (by omega)
    rw [step_lost' (by omega) (by omega)]
    exact ha.lo (by omega)
  · by_cases hda : a = d
    · subst hda
      have e := h.nd a (Int.le_refl a)
      have e2 : eff P a = eff P0 a := by unfold eff; rw [ha.lo (Int.le_refl a), e]
      have h1 : ∀ x, 0 ≤ x → x < a → P.st x = -1 := fun x x0 x1 => Classical.byContradiction fun hn => by
        have := h.dn x x0 x1 hn
        have := hm x x0 x1
        omega
      rcases step_el (W := W) h.j h.b (by omega) h1 a0 with z | ⟨z1, z2, z3⟩
      · exact .inl z
      · rw [e2] at z3
        refine .inr ⟨z1, z2, z3.imp id fun u => ⟨u.1, ?_⟩⟩
        obtain ⟨x, x1, x2, x3⟩ := u.2
        exact ⟨x, by omega, x2, by rw [← h.nd x (by omega)]; exact x3⟩
    · rw [step_ne hda, step_lost h.j (by omega)]
      exact ha.hi (by omega)
/-! ### what is left -/
def Un (n : Nat) (P : RS) : List Int := (dl n).filter fun x => decide (0 ≤ P.st x)
def flag (n : Nat) (P : RS) : Nat := if ((dl n).filter fun x => decide (P.st x = -2)) = [] then 0 else 1
def Ms (n : Nat) (P : RS) : Nat := match Un n P with
  | [] => flag n P
  | a :: l => 6 * (l.length + 1) + (4 - (eff P a).toNat) + flag n P
theorem flag_le : flag n P ≤ 1 := by unfold flag; split <;> omega
theorem fil_le {α : Type} {p q : α → Bool} (h : ∀ x, p x = true → q x = true) : ∀ {l : List α}, (l.filter p).length ≤ (l.filter q).length ∧ ((l.filter p).length = (l.filter q).length → l.filter p = l.filter q)
  | [] => ⟨Nat.le_refl _, fun _ => rfl⟩
  | x :: l => by
    obtain ⟨h1, h2⟩ := fil_le h (l := l)
    cases hp : p x with
    | true =>
      rw [List.filter_cons_of_pos hp, List.filter_cons_of_pos (h x hp)]
      exact ⟨by simp [h1], fun e => by rw [h2 (by simpa using e)]⟩
    | false =>
      cases hq : q x with
      | true =>
        rw [List.filter_cons_of_neg (by rw [hp]; decide), List.filter_cons_of_pos hq]
        exact ⟨by rw [List.length_cons]; omega, fun e => by rw [List.length_cons] at e; omega⟩
      | false =>
        rw [List.filter_cons_of_neg (by rw [hp]; decide), List.filter_cons_of_neg (by rw [hq]; decide)]
        exact ⟨h1, h2⟩
theorem Ms_le (h4 : ∀ x, (W x).length ≤ 4) (hn : Un n P ≠ []) : 6 * (Un n P).length ≤ Ms n P ∧ Ms n P ≤ 6 * (Un n P).length + 5 := by
  unfold Ms
  have := flag_le (n := n) (P := P)
  cases hu : Un n P with
  | nil => exact (hn hu).elim
  | cons a l => simp only [List.length_cons]; omega
theorem fil_len {α : Type} {p q : α → Bool} {l : List α} (h : ∀ x ∈ l, p x = q x) : l.filter p = l.filter q := List.filter_congr h
/-- a round brings it nearer -/
theorem Ms_lt (h4 : ∀ x, (W x).length ≤ 4) (h0 : Bd W P0) (h : Rel n W P0 n P) (hA : ∀ a l, Un n P0 = a :: l → RelA n P0 a n P) (hne : Un n P0 ≠ [] ∨ flag n P0 = 1) : Ms n P < Ms n P0 := by
  have hU : ∀ x ∈ dl n, 0 ≤ P.st x → 0 ≤ P0.st x := fun x hx hp => h.dn x (mem_dl.mp hx).1 (mem_dl.mp hx).2 (by omega)
  have hU' : Un n P = (dl n).filter fun x => decide (0 ≤ P.st x) && decide (0 ≤ P0.st x) := by
    refine List.filter_congr fun x hx => ?_
    by_cases hp : 0 ≤ P.st x
    · simp [hp, hU x hx hp]
    · simp [hp]
  obtain ⟨l1, l2⟩ := fil_le (p := fun x => decide (0 ≤ P.st x) && decide (0 ≤ P0.st x)) (q := fun x => decide (0 ≤ P0.st x)) (fun x hx => by rw [Bool.and_eq_true] at hx; exact hx.2) (l := dl n)
  rw [← hU'] at l1 l2
  have e0 : (dl n).filter (fun x => decide (0 ≤ P0.st x)) = Un n P0 := rfl
  rw [e0] at l1 l2
  have nof : (∀ x ∈ dl n, P.st x = -2 → False) → flag n P = 0 := fun hz => by
    unfold flag
    rw [if_pos]
    rw [List.filter_eq_nil_iff]
    intro x hx hd
    exact hz x hx (of_decide_eq_true hd)
  have inU : ∀ {P : RS} {x : Int}, x ∈ dl n → 0 ≤ P.st x → x ∈ Un n P := fun hx hp => List.mem_filter.mpr ⟨hx, decide_eq_true hp⟩
  have ofU : ∀ {P : RS} {x : Int}, x ∈ Un n P → 0 ≤ P.st x := fun hx => of_decide_eq_true (List.mem_filter.mp hx).2
  cases hu0 : Un n P0 with
  | nil =>
    rw [hu0] at l1
    have hu : Un n P = [] := List.eq_nil_of_length_eq_zero (by simpa using l1)
    have e1 : Ms n P = flag n P := by unfold Ms; rw [hu]
    have e2 : Ms n P0 = flag n P0 := by unfold Ms; rw [hu0]
    rw [e1, e2]
    have : flag n P = 0 := nof fun x hx hz => by
      have := inU hx (h.dn x (mem_dl.mp hx).1 (mem_dl.mp hx).2 (by omega))
      rw [hu0] at this; cases this
    rcases hne with z | z
    · exact (z hu0).elim
    · omega
  | cons a l =>
    have ne0 : Un n P0 ≠ [] := by rw [hu0]; exact List.cons_ne_nil _ _
    obtain ⟨m1, _⟩ := Ms_le (n := n) (P := P0) h4 ne0
    by_cases hlt : (Un n P).length < (Un n P0).length
    · by_cases hu : Un n P = []
      · have e1 : Ms n P = flag n P := by unfold Ms; rw [hu]
        have := flag_le (n := n) (P := P)
        rw [hu0, List.length_cons] at m1
        omega
      · obtain ⟨_, m2⟩ := Ms_le (n := n) (P := P) h4 hu
        have h6 : Ms n P0 ≥ 6 * (Un n P0).length + 1 := by
          have ha : a ∈ Un n P0 := by rw [hu0]; exact List.mem_cons_self
          have hb := h0 a (ofU ha)
          have := h4 a
          unfold Ms
          rw [hu0]
          simp only [List.length_cons]
          unfold eff
          have : (if P0.S.lost a = true then (0 : Int) else P0.st a).toNat ≤ 3 := by split <;> omega
          omega
        omega
    · have hE := l2 (by omega)
      have hua : Un n P = a :: l := by rw [hE, hu0]
      have ha : a ∈ Un n P := by rw [hua]; exact List.mem_cons_self
      have ha2 := ofU ha
      have han := mem_dl.mp (List.mem_filter.mp ha).1
      have hf : flag n P = 0 := nof fun x hx hz => by
        have : x ∈ Un n P := by rw [hE]; exact inU hx (h.dn x (mem_dl.mp hx).1 (mem_dl.mp hx).2 (by omega))
        have := ofU this
        omega
      have hb := h.b a ha2
      have := h4 a
      have e1 : Ms n P = 6 * (l.length + 1) + (4 - (eff P a).toNat) := by unfold Ms; rw [hua]; simp only [hf]; rfl
      have e2 : Ms n P0 = 6 * (l.length + 1) + (4 - (eff P0 a).toNat) + flag n P0 := by unfold Ms; rw [hu0]
      rw [e1, e2]
      rcases (hA a l hu0).hi han.2 with z | ⟨z1, z2, z3⟩
      · omega
      · have e3 : eff P a = P.st a := by unfold eff; rw [z2, if_neg (by decide)]
        rw [e3]
        have he0 : 0 ≤ eff P0 a := by
          unfold eff
          split
          · omega
          · exact ofU (by rw [hu0]; exact List.mem_cons_self)
        rcases z3 with z3 | ⟨z3, x, x1, x2, x3⟩
        · omega
        · have : flag n P0 = 1 := by
            unfold flag
            rw [if_neg]
            intro hz
            have := List.filter_eq_nil_iff.mp hz x (mem_dl.mpr ⟨x1, x2⟩)
            exact this (decide_eq_true x3)
          omega
theorem Un_min {l : List Int} (h : Un n P = a :: l) : 0 ≤ a ∧ a < n ∧ 0 ≤ P.st a ∧ ∀ x, 0 ≤ x → x < a → P.st x < 0 := by
  have ha : a ∈ Un n P := by rw [h]; exact List.mem_cons_self
  obtain ⟨h1, h2⟩ := List.mem_filter.mp ha
  have h1 := mem_dl.mp h1
  refine ⟨h1.1, h1.2, of_decide_eq_true h2, fun x x0 x1 => Classical.byContradiction fun hn => ?_⟩
  have hx : x ∈ Un n P := List.mem_filter.mpr ⟨mem_dl.mpr ⟨x0, by omega⟩, decide_eq_true (by omega)⟩
  have hp : (Un n P).Pairwise (· < ·) := fil_pw
  rw [h] at hx hp
  rcases List.mem_cons.mp hx with e | hm
  · omega
  · have := (List.pairwise_cons.mp hp).1 x hm; omega
/-- a whole round -/
def rRound (n : Nat) (W : Int → List (Str × Bool)) (P : RS) (i : Nat) : RS := (dl i).foldl (rStep n W) P
theorem dl_succ {i : Nat} : dl (i + 1) = dl i ++ [(i : Int)] := by unfold dl; rw [List.range_succ, List.map_append]; rfl
theorem round_succ {i : Nat} : rRound n W P (i + 1) = rStep n W (rRound n W P i) i := by unfold rRound; rw [dl_succ, List.foldl_append]; rfl
theorem round_rel (h : J n P) (hb : Bd W P) : ∀ {i : Nat}, i ≤ n → Rel n W P i (rRound n W P i)
  | 0, _ => ⟨h, hb, fun _ _ => rfl, fun x x0 x1 => by omega⟩
  | i + 1, hi => by
    rw [round_succ]
    exact (round_rel h hb (i := i) (by omega)).step ⟨by omega, by omega⟩
theorem round_relA (h : J n P) (hb : Bd W P) {l : List Int} (hu : Un n P = a :: l) : ∀ {i : Nat}, i ≤ n → RelA n P a i (rRound n W P i)
  | 0, _ => by
    obtain ⟨a0, a1, a2, a3⟩ := Un_min hu
    exact ⟨fun _ => rfl, fun z => by omega⟩
  | i + 1, hi => by
    obtain ⟨a0, a1, a2, a3⟩ := Un_min hu
    rw [round_succ]
    exact RelA.step (round_rel h hb (i := i) (by omega)) (round_relA h hb hu (i := i) (by omega)) (by omega) a0 a2 a3
theorem round_lt (h4 : ∀ x, (W x).length ≤ 4) (h : J n P) (hb : Bd W P) (hne : ∃ x ∈ dl n, P.st x ≠ -1) : J n (rRound n W P n) ∧ Bd W (rRound n W P n) ∧ Ms n (rRound n W P n) < Ms n P := by
  have hr := round_rel h hb (Nat.le_refl n)
  refine ⟨hr.j, hr.b, Ms_lt h4 hb hr (fun a l hu => round_relA h hb hu (Nat.le_refl n)) ?_⟩
  obtain ⟨x, hx, hn⟩ := hne
  by_cases h0 : 0 ≤ P.st x
  · refine .inl fun z => ?_
    have := List.filter_eq_nil_iff.mp z x hx
    exact this (decide_eq_true h0)
  · refine .inr ?_
    unfold flag
    rw [if_neg]
    intro z
    have := List.filter_eq_nil_iff.mp z x hx
    refine this (decide_eq_true ?_)
    rcases h.2 x with y | y | y
    · exact (hn y.1).elim
    · exact y.1
    · exact (h0 y.1).elim
theorem Ms_zero : Ms n ⟨S0, fun _ => 0⟩ ≤ 6 * n + 4 := by
  have hf : flag n ⟨S0, fun _ => 0⟩ = 0 := by
    unfold flag
    rw [if_pos]
    rw [List.filter_eq_nil_iff]
    intro x _ z
    exact absurd (of_decide_eq_true z) (show ¬ ((0 : Int) = -2) by decide)
  have hl : (Un n ⟨S0, fun _ => 0⟩).length ≤ n := by
    refine Nat.le_trans (List.length_filter_le _ _) ?_
    unfold dl; rw [List.length_map, List.length_range]; exact Nat.le_refl n
  unfold Ms
  cases hu : Un n ⟨S0, fun _ => 0⟩ with
  | nil => simp only [hf]; omega
  | cons a l =>
    rw [hu, List.length_cons] at hl
    simp only [hf]; omega
end
end P
namespace P
open PySem PySem.Spec L2 DL
local macro_rules | `(tactic| exists $es:term,*) => `(tactic| try simp only [q_upd, r_updP, r_updO, q_revV, r_asLK, r_revO, q_mkX, q_lstI, q_lstRg, r_lrg, r_lenD, r_frzD, q_pop1, r_pop1S, r_pop1I, r_popO1, q_eqE, r_inTT, r_inTN, r_inTK, r_inSo, r_inSn, q_srtI, q_dc, r_keyS, r_keyI, q_methK, r_metKd, r_metK, r_popS, r_popI, r_popO, r_sdfS, r_sdfI, q_items, r_itP, r_itO, r_inIR, r_inIq, r_inIo, q_disp, r_dkF, r_inF, q_augI, r_getP2, r_getO2, r_cmpA, q_makeK, q_enum, r_enumP, r_enumO, r_repK, r_addNK, r_inIK, r_inIT, q_get1, q_get2, q_dget, q_sdict, q_pop2, q_setd, q_dic, r_dictP, r_getS, r_getI, r_getO, r_dkS, r_dkI, r_dkO, r_inS, r_inI, r_inO, r_dpS, r_dpI, r_dpO, r_dicP, r_dicO, r_sortDic, r_listDic, r_dictDic, q_dapp, r_lstP, r_appP, r_appO, q_clear, r_clrP, r_clrO, q_truO, r_truOP, r_ownTru, r_boolOD, r_ownBool, q_notO, r_cmpTI, r_cmpT3, r_lenOD, r_ownLen, q_jkeys, q_jvals, r_fzP, r_fzO, q_jstr, r_strS, r_leXI, r_leXS, q_join, q_upper, r_joinP, r_upP, q_kw1, r_minT2, q_emp, q_mt1, r_isiEB, r_isiEb, r_isiEt, r_isiEs, r_isiEl, r_isiEd, r_isiER, r_isE_non, r_isX_non, r_isE_bl, r_isX_bl, r_isE_int, r_isX_int, r_isE_str, r_isX_str, r_isE_tup, r_isX_tup, r_isE_kl, r_isX_kl, r_isE_kc, r_isX_kc, r_isE_ref, r_isX_ref, r_rIsiET, r_rIsiER, r_rIsiXT, r_rIsiXR, r_isD_non_int, r_isD_non_bool, r_isD_non_tuple, r_isD_non_str, r_isD_non_list, r_isD_non_dict, r_isD_bl_int, r_isD_bl_bool, r_isD_bl_tuple, r_isD_bl_str, r_isD_bl_list, r_isD_bl_dict, r_isD_int_int, r_isD_int_bool, r_isD_int_tuple, r_isD_int_str, r_isD_int_list, r_isD_int_dict, r_isD_str_int, r_isD_str_bool, r_isD_str_tuple, r_isD_str_str, r_isD_str_list, r_isD_str_dict, r_isD_tup_int, r_isD_tup_bool, r_isD_tup_tuple, r_isD_tup_str, r_isD_tup_list, r_isD_tup_dict, r_isD_kl_int, r_isD_kl_bool, r_isD_kl_tuple, r_isD_kl_str, r_isD_kl_list, r_isD_kl_dict, r_isD_kc_int, r_isD_kc_bool, r_isD_kc_tuple, r_isD_kc_str, r_isD_kc_list, r_isD_kc_dict, r_isD_non_own, r_isD_bl_own, r_isD_int_own, r_isD_str_own, r_isD_tup_own, r_isD_kl_own, r_isD_kc_own, q_wpf, q_seq, q_set, q_ret, q_retN, q_if, q_drop, r_unp', r_par, q_next, q_brk, q_cont, q_for, sWhile, q_sub, sAug, q_rng1, r_rng1P, jRng2, q_jseq, r_seqT, r_seqK, r_seqR, r_seqL, r_ownP, q_op, r_var, r_varS, q_c, q_cons, q_nil, q_cb, q_tup, q_lst, r_test, r_tru, q_not, q_and, q_or, r_andV, r_orV, r_notV, q_if', q_un, q_call, q_slice, q_some, q_none, r_intP, r_chn, r_chnT, r_link, r_last, cp2, pw2, cp3, pw3, cp4, pw4, cp5, pw5, cp6, pw6, cp7, pw7, cp8, pw8, cp9, pw9, cp10, pw10, cp12, pw12, cp15, pw15, cp18, pw18, cp20, pw20, cp24, pw24, cp28, pw28, cp29, pw29, cp30, pw30, q_tryH, q_raise0, q_raiseX, q_xfld, r_xfld, q_setAs, q_setAs0, q_endsAs0, q_endsNx, q_endsRt, q_endsBk, q_endsCt, r_isNx, r_lcV, q_lstV, q_sliceV, q_frz, r_frzR, r_frzL, r_frzT, r_frzK, r_frzN, r_addVI, r_addVT, r_addVK, r_addVO, r_sliVK, r_sliVC, r_sliVT, r_sliVR, r_sliVL, r_listVK, r_listVC, r_listVT, r_truK, r_eqXS, r_eqXI, r_eqXT2, r_strI, r_seqC, r_ixC, r_lenC, r_sliC, q_lc, q_yes, q_make, r_nonP, q_fldg, r_eqT2, r_set0, r_set1, q_put1, q_putN, r_blP, r_boolP, r_unpP, r_parP, r_opt, r_pick, r_add, r_addT, r_addR, r_addL, r_sub, r_mul, r_div, r_mod, r_pow, r_cmp, r_lt, r_neg, r_isXB, r_isXN, r_isN, r_isNr, r_isNi, r_isNn, r_isNt, r_eqI, r_ixT, r_ixK, r_ixR, r_lstOf, r_sliT, r_sliK, r_sliR, r_sliL, r_truB, r_truI, r_truT, r_truN, r_truR, r_truL, r_max, r_min, r_intB, r_intI, r_abs, r_lenT, r_lenK, r_lenR, r_lenL, r_nat, r_set, r_setL, r_isI, r_isB, r_isT, r_fld, r_fldR, r_fldI, r_sfd, r_sfdR, r_sfdI, r_met, r_metR, r_met1, atI0, atI1, atI2, atI3, atI4, ixN1a, ixN2a, ixN2b, ixN3a, ixN3b, ixN3c, put_same, List.map_cons, List.map_nil, List.length_cons, List.length_nil, List.length_set, List.replicate, List.cons_append, List.nil_append, List.append_nil, List.getElem?_cons_zero, List.getElem?_cons_succ, List.set_cons_zero, List.set_cons_succ, true_and, and_true, Option.some.injEq, if_true, if_false, ite_true, ite_false, reduceIte, Bool.not_true, Bool.not_false, Bool.false_eq_true, Nat.reduceAdd, Nat.reduceLeDiff, $[$es:term],*])
def nm24 : List Str := ["a", "b", "c", "d"]
theorem srt24 : Srt nm24 := by unfold Srt nm24; decide +kernel
def wD (x : Str × Bool) : D := .tup [.str x.1, mdD x.2]
def WR (G : HD) (x : D) (ws : List (Str × Bool)) : Prop := x = .kl (ws.map wD) ∨ ∃ p, x = .ref p ∧ G p = some (.lst (ws.map wD))
/-- rows of wishes, none of them at L -/
def WS (G : HD) (L : List Addr) (wd : List D) : Prop := ∀ x ∈ wd, (∃ ws, WR G x ws ∧ ws.length ≤ 4 ∧ ∀ y ∈ ws, y.1 ∈ nm24) ∧ ∀ z ∈ L, x ≠ .ref z
section
variable {e : Env} {G G' G1 : HD} {Q : Post} {E : DX} {a y b : Addr} {A : HA} {S : HS} {d : Int} {n : Nat} {nm : List Str} {L X : List Addr} {wd : List D} {ws : List (Str × Bool)} {x : D}
theorem WR.fr (h : WR G x ws) (f : Fr X G G') (hX : ∀ z ∈ X, x ≠ .ref z) : WR G' x ws := h.imp id fun ⟨p, h1, h2⟩ => ⟨p, h1, f _ _ (fun z => hX p z h1) h2⟩
theorem WR.asL (h : WR G x ws) : DL.asL G x = some (ws.map wD) := by
  rcases h with rfl | ⟨p, rfl, h2⟩
  · rfl
  · show (match G p with | some (.lst ds) => some ds | _ => none) = _
    rw [h2]
theorem WS.fr (h : WS G L wd) (f : Fr X G G') (hX : ∀ z ∈ X, z ∈ L) : WS G' L wd := fun x hx => by
  obtain ⟨⟨ws, h1, h2⟩, h3⟩ := h x hx
  exact ⟨⟨ws, h1.fr f fun z hz => h3 z (hX z hz), h2⟩, h3⟩
theorem WS.new (h : WS G L wd) {q : Addr} (hq : G q = none) {o : MO} : WS (put G q o) (q :: L) wd := fun x hx => by
  obtain ⟨⟨ws, h1, h2⟩, h3⟩ := h x hx
  refine ⟨⟨ws, h1.fr (Fr.le (A := []) (Le.newB hq)) (fun z hz => nomatch hz), h2⟩, fun z hz => ?_⟩
  rcases List.mem_cons.mp hz with rfl | hz
  · rcases h1 with rfl | ⟨p, rfl, h4⟩
    · intro u; cases u
    · intro u; cases u; rw [hq] at h4; cases h4
  · exact h3 z hz
theorem WS.sub (h : WS G L wd) {L' : List Addr} (hL : ∀ z ∈ L', z ∈ L) : WS G L' wd := fun x hx => ⟨(h x hx).1, fun z hz => (h x hx).2 z (hL z hz)⟩
theorem pk24 {r : Int} {Q : Post} (h0 : 0 ≤ r) (h1 : r < 2) (hQ : ∀ m, Q (mdD m) G) : optP (atI [D.str (Str.ofString "read"), .str (Str.ofString "write")] r) G Q :=
  pickP h0 (by simpa using h1) fun x hx => by
    rcases List.mem_cons.mp hx with rfl | hx
    · exact hQ false
    · rw [List.mem_singleton.mp hx]; exact hQ true
theorem wishes_ok (g : e.Good) (hR : Row G b) {m : Int} (m0 : 1 ≤ m) (m1 : m ≤ 6) (hQ : ∀ wd G', wd.length = m.toNat → WS G' [b] wd → Row G' b → Q (.kl wd) G') : w_law_wishes e [.ref b, .int m] G Q E := by
  unfold w_law_wishes
  exists if_true
  intro p hp
  exists if_true
  have hbp : b ≠ p := hR.ne hp
  refine ⟨by omega, by omega, ?_⟩
  refine forR_inv (I := fun i σ G' => ∃ wd x3 x4 x5, σ = [some (.ref b), some (.int m), some (.ref p), x3, x4, x5] ∧ G' p = some (.lst wd) ∧ wd.length = i ∧ WS G' [b, p] wd ∧ Row G' b) (fun _ => trivial) (fun i κ σ G' hi hI hk => ?_) (fun σ G' hI => ?_) ⟨[], _, _, _, rfl, put_same, rfl, (fun _ h => nomatch h), hR.le (Le.newB hp)⟩
  · obtain ⟨wd, x3, x4, x5, rfl, hp1, hl, hws, hR⟩ := hI
    unfold l_law_wishes_2
    exists if_true
    intro q hq
    exists if_true
    have hqp : p ≠ q := ne_of hp1 hq
    have hqb : b ≠ q := hR.ne hq
    refine forD_inv (fun l σ G' => ∃ ws x5, σ = [some (.ref b), some (.int m), some (.ref p), some (.int (0 + (i : Nat))), some (.ref q), x5] ∧ G' p = some (.lst wd) ∧ G' q = some (.lst (ws.map wD)) ∧ ws.length + l.length ≤ 4 ∧ (∀ y ∈ ws, y.1 ∈ nm24) ∧ (∀ y ∈ l, ∃ k ∈ nm24, y = .str k) ∧ WS G' [q, b, p] wd ∧ Row G' b) (fun _ _ _ _ => trivial) (fun u l κ2 σ G' hI hk2 => ?_) (fun σ G' hI => ?_) _ _ _ ⟨[], _, rfl, (put_ne hqp).trans hp1, put_same, by decide, (fun _ h => nomatch h), fun y hy => ?_, hws.new hq, hR.le (Le.newB hq)⟩
    · obtain ⟨ws, x5, rfl, hp1, hq1, hlen, hnm, hl4, hws, hR⟩ := hI
      unfold l_law_wishes_1
      obtain ⟨k, hk4, rfl⟩ := hl4 u List.mem_cons_self
      rw [List.length_cons] at hlen
      have hl4' : ∀ y ∈ l, ∃ k ∈ nm24, y = .str k := fun y hy => hl4 y (List.mem_cons_of_mem _ hy)
      exists if_true
      refine out_ok hR (by decide) (by decide) fun r G2 r0 r1 R2 f2 => ?_
      have dr : ∀ {G G' : HD}, Fr [b] G G' → G p = some (.lst wd) → G q = some (.lst (ws.map wD)) → WS G [q, b, p] wd → G' p = some (.lst wd) ∧ G' q = some (.lst (ws.map wD)) ∧ WS G' [q, b, p] wd := fun f h1 h2 h3 => ⟨f _ _ (fun z => hbp (List.mem_singleton.mp z).symm) h1, f _ _ (fun z => hqb (List.mem_singleton.mp z).symm) h2, h3.fr f fun z hz => by rw [List.mem_singleton.mp hz]; simp⟩
      obtain ⟨hp2, hq2, hws2⟩ := dr f2 hp1 hq1 hws
      exists if_true
      by_cases hr : r = 0
      · simp only [hr, decide_true, if_true]
        exists if_true
        refine ⟨⟨_, hq2⟩, ?_⟩
        refine out_ok R2 (by decide) (by decide) fun v G3 v0 v1 R3 f3 => ?_
        obtain ⟨hp3, hq3, hws3⟩ := dr f3 hp2 hq2 hws2
        exists if_true
        refine pk24 v0 v1 fun mm => ?_
        exists hq3, List.length_map
        have e1 : ws.map wD ++ [.tup [.str k, mdD mm]] = (ws ++ [(k, mm)]).map wD := by simp [wD]
        rw [e1]
        have f4 : Fr [q] G3 (put G3 q (.lst ((ws ++ [(k, mm)]).map wD))) := Fr.put List.mem_cons_self
        refine ⟨by omega, hk2 _ _ ⟨ws ++ [(k, mm)], _, rfl, (put_ne hqp).trans hp3, put_same, by rw [List.length_append]; simp only [List.length_cons, List.length_nil]; omega, fun y hy => ?_, hl4', hws3.fr f4 (fun z hz => by rw [List.mem_singleton.mp hz]; simp), R3.fr f4 (fun z => hqb (List.mem_singleton.mp z))⟩⟩
        rcases List.mem_append.mp hy with hy | hy
        · exact hnm y hy
        · rw [List.mem_singleton.mp hy]; exact hk4
      · simp only [hr, decide_false]
        exists if_true
        exact hk2 _ _ ⟨ws, _, rfl, hp2, hq2, by omega, hnm, hl4', hws2, R2⟩
    · obtain ⟨ws, x5, rfl, hp1, hq1, hlen, hnm, hl4, hws, hR⟩ := hI
      exists hq1
      refine ⟨⟨_, hp1⟩, ?_⟩
      have eq1 : DL.asL G' (.ref q) = some (ws.map wD) := by
        show (match G' q with | some (.lst ds) => some ds | _ => none) = _
        rw [hq1]
      rw [eq1, r_revO]
      refine out_ok hR (by decide) (by decide) fun r G2 r0 r1 R2 f2 => ?_
      have hp2 := f2 _ _ (fun z => hbp (List.mem_singleton.mp z).symm) hp1
      have hq2 := f2 _ _ (fun z => hqb (List.mem_singleton.mp z).symm) hq1
      have hws2 := (hws.fr f2 fun z hz => by rw [List.mem_singleton.mp hz]; simp).sub (L' := [b, p]) (by simp)
      exists if_true
      refine pickP r0 (by simpa using r1) fun z hz => ?_
      exists hp2
      have f4 : ∀ {o}, Fr [p] G2 (put G2 p o) := Fr.put List.mem_cons_self
      refine ⟨by omega, hk _ _ ⟨wd ++ [z], _, _, _, rfl, put_same, by rw [List.length_append, hl]; rfl, fun x hx => ?_, R2.fr f4 (fun z => hbp (List.mem_singleton.mp z))⟩⟩
      rcases List.mem_append.mp hx with hx | hx
      · exact (hws2.fr f4 (fun z hz => by rw [List.mem_singleton.mp hz]; simp)) x hx
      · rw [List.mem_singleton.mp hx]
        rcases List.mem_cons.mp hz with rfl | hz
        · refine ⟨⟨ws, .inr ⟨q, rfl, (put_ne hqp.symm).trans hq2⟩, by omega, hnm⟩, fun z hz u => ?_⟩
          cases u
          rcases List.mem_cons.mp hz with u | hz
          · exact hqb u.symm
          · exact hqp (List.mem_singleton.mp hz).symm
        · rw [List.mem_singleton.mp hz]
          exact ⟨⟨ws.reverse, .inl (by rw [List.map_reverse]), by rw [List.length_reverse]; omega, fun y hy => hnm y (List.mem_reverse.mp hy)⟩, fun z hz u => nomatch u⟩
    · have : ∀ k ∈ (["a", "b", "c", "d"] : List Str), k ∈ nm24 := by unfold nm24; decide +kernel
      obtain ⟨k, hk, rfl⟩ := List.mem_map.mp (show y ∈ (["a", "b", "c", "d"] : List Str).map D.str from hy)
      exact ⟨k, this k hk, rfl⟩
  · obtain ⟨wd, x3, x4, x5, rfl, hp1, hl, hws, hR⟩ := hI
    exists hp1
    have f : Fr [p] G' (delG G' p) := fun z o hz ho => by
      unfold delG
      rw [if_neg fun u => hz (by rw [u]; exact List.mem_cons_self)]; exact ho
    exact fg_in (hQ wd _ hl ((hws.fr f (fun z hz => by rw [List.mem_singleton.mp hz]; simp)).sub (by simp)) (hR.fr f fun z => hbp (List.mem_singleton.mp z)))
/-! ### the round -/
theorem dl_get {i : Nat} (hi : i < n) : (dl n)[i]? = some (i : Int) := by
  unfold dl
  rw [List.getElem?_map, List.getElem?_range hi]; rfl
def stD (n : Nat) (st : Int → Int) : List D := (dl n).map fun x => .int (st x)
theorem stD_len {st : Int → Int} : (stD n st).length = n := by unfold stD; rw [List.length_map, dl_len]
theorem stD_at {st : Int → Int} {i : Nat} (hi : i < n) : atI (stD n st) (i : Int) = some (.int (st i)) :=
  DL.atI_nat (by unfold stD; rw [List.getElem?_map, dl_get hi]; rfl)
theorem stD_set {st : Int → Int} {i : Nat} (hi : i < n) {v : Int} : (stD n st).set i (.int v) = stD n (setF st i v) := by
  refine List.ext_getElem? fun j => ?_
  unfold stD
  rw [List.getElem?_set, List.getElem?_map, List.getElem?_map, List.length_map, dl_len]
  by_cases hj : i = j
  · subst hj
    rw [if_pos rfl, if_pos hi, dl_get hi]
    show _ = some (D.int (setF st i v i))
    rw [setF_same]
  · rw [if_neg hj]
    by_cases hjn : j < n
    · rw [dl_get hjn]
      show some (D.int (st j)) = some (D.int (setF st i v j))
      rw [setF_ne (fun z => hj (by omega))]
    · rw [List.getElem?_eq_none (by rw [dl_len]; omega)]; rfl
theorem st_set {st : Int → Int} {sl : Addr} {i : Nat} (hs : G sl = some (.lst (stD n st))) (hi : i < n) {v : Int} {K : HD → Prop} (q : K (put G sl (.lst (stD n (setF st i v))))) : setP (G sl) sl i (.int v) G K := by
  rw [hs, r_setL, stD_len, DL.ixN_nat hi]
  show K (put G sl (.lst ((stD n st).set i (.int v))))
  rw [stD_set hi]; exact q
theorem Hd.lst (h : Hd e G a A n nm S) {p : Addr} {l : List D} (hp : G p = some (.lst l)) : p ∉ ownH a A := fun z => by
  have nl : ∀ {y : Addr} {o : MO}, G y = some o → (∀ l, o ≠ .lst l) → y ≠ p := fun hy hn e => by rw [e, hp] at hy; cases hy; exact hn _ rfl
  obtain ⟨_, z1, _⟩ := h.gs
  obtain ⟨_, z2, _⟩ := h.fs
  obtain ⟨_, z3, _⟩ := h.ls
  obtain ⟨_, z4, _⟩ := h.qs
  unfold ownH at z
  simp only [List.mem_cons] at z
  rcases z with z | z | z | z | z | z | z
  · exact nl h.self (fun _ z => nomatch z) z.symm
  · exact nl h.ks (fun _ z => nomatch z) z.symm
  · exact nl z1 (fun _ z => nomatch z) z.symm
  · exact nl z2 (fun _ z => nomatch z) z.symm
  · exact nl z3 (fun _ z => nomatch z) z.symm
  · exact nl z4 (fun _ z => nomatch z) z.symm
  · obtain ⟨y, hy, e1⟩ := List.mem_map.mp z
    obtain ⟨_, z5, _⟩ := h.inn y hy
    exact nl z5 (fun _ z => nomatch z) e1
structure Rd (e : Env) (G : HD) (a : Addr) (A : HA) (sl : Addr) (wd : List D) (n : Nat) (W : Int → List (Str × Bool)) (P : RS) : Prop where
  h : Hd e G a A n nm24 P.S
  s : G sl = some (.lst (stD n P.st))
  w : ∀ i : Nat, i < n → ∃ d, wd[i]? = some d ∧ WR G d (W i) ∧ d ≠ .ref sl
section
variable {A' : HA} {sl : Addr} {W : Int → List (Str × Bool)} {P P' : RS} {i : Nat}
theorem Rd.lists (R : Rd e G a A sl wd n W P) (hk : ∀ p l, G p = some (.lst l) → G' p = some (.lst l)) (h : Hd e G' a A' n nm24 S) : Rd e G' a A' sl wd n W ⟨S, P.st⟩ := by
  refine ⟨h, hk _ _ R.s, fun i hi => ?_⟩
  obtain ⟨d, h1, h2, h3⟩ := R.w i hi
  exact ⟨d, h1, h2.imp id fun ⟨p, p1, p2⟩ => ⟨p, p1, hk _ _ p2⟩, h3⟩
theorem Rd.go (R : Rd e G a A sl wd n W P) (g : Go a A A' G G') (h : Hd e G' a A' n nm24 S) : Rd e G' a A' sl wd n W ⟨S, P.st⟩ :=
  R.lists (fun p l hp => g.fr _ _ (R.h.lst hp) hp) h
theorem Rd.le (R : Rd e G a A sl wd n W P) (l : Le G G') : Rd e G' a A sl wd n W P :=
  R.lists (fun p _ hp => l _ _ hp) (R.h.le l)
theorem Rd.set (R : Rd e G a A sl wd n W P) {st : Int → Int} : Rd e (put G sl (.lst (stD n st))) a A sl wd n W ⟨P.S, st⟩ := by
  have f : ∀ {o}, Fr [sl] G (put G sl o) := Fr.put List.mem_cons_self
  refine ⟨R.h.fr f fun x hx => by rw [List.mem_singleton.mp hx]; exact R.h.lst R.s, put_same, fun i hi => ?_⟩
  obtain ⟨d, h1, h2, h3⟩ := R.w i hi
  exact ⟨d, h1, h2.fr f fun z hz => by rw [List.mem_singleton.mp hz]; exact h3, h3⟩
end
end
end P
namespace P
open PySem PySem.Spec L2 DL
local macro_rules | `(tactic| exists $es:term,*) => `(tactic| try simp only [q_upd, r_updP, r_updO, q_revV, r_asLK, r_revO, q_mkX, q_lstI, q_lstRg, r_lrg, r_lenD, r_frzD, q_pop1, r_pop1S, r_pop1I, r_popO1, q_eqE, r_inTT, r_inTN, r_inTK, r_inSo, r_inSn, q_srtI, q_dc, r_keyS, r_keyI, q_methK, r_metKd, r_metK, r_popS, r_popI, r_popO, r_sdfS, r_sdfI, q_items, r_itP, r_itO, r_inIR, r_inIq, r_inIo, q_disp, r_dkF, r_inF, q_augI, r_getP2, r_getO2, r_cmpA, q_makeK, q_enum, r_enumP, r_enumO, r_repK, r_addNK, r_inIK, r_inIT, q_get1, q_get2, q_dget, q_sdict, q_pop2, q_setd, q_dic, r_dictP, r_getS, r_getI, r_getO, r_dkS, r_dkI, r_dkO, r_inS, r_inI, r_inO, r_dpS, r_dpI, r_dpO, r_dicP, r_dicO, r_sortDic, r_listDic, r_dictDic, q_dapp, r_lstP, r_appP, r_appO, q_clear, r_clrP, r_clrO, q_truO, r_truOP, r_ownTru, r_boolOD, r_ownBool, q_notO, r_cmpTI, r_cmpT3, r_lenOD, r_ownLen, q_jkeys, q_jvals, r_fzP, r_fzO, q_jstr, r_strS, r_leXI, r_leXS, q_join, q_upper, r_joinP, r_upP, q_kw1, r_minT2, q_emp, q_mt1, r_isiEB, r_isiEb, r_isiEt, r_isiEs, r_isiEl, r_isiEd, r_isiER, r_isE_non, r_isX_non, r_isE_bl, r_isX_bl, r_isE_int, r_isX_int, r_isE_str, r_isX_str, r_isE_tup, r_isX_tup, r_isE_kl, r_isX_kl, r_isE_kc, r_isX_kc, r_isE_ref, r_isX_ref, r_rIsiET, r_rIsiER, r_rIsiXT, r_rIsiXR, r_isD_non_int, r_isD_non_bool, r_isD_non_tuple, r_isD_non_str, r_isD_non_list, r_isD_non_dict, r_isD_bl_int, r_isD_bl_bool, r_isD_bl_tuple, r_isD_bl_str, r_isD_bl_list, r_isD_bl_dict, r_isD_int_int, r_isD_int_bool, r_isD_int_tuple, r_isD_int_str, r_isD_int_list, r_isD_int_dict, r_isD_str_int, r_isD_str_bool, r_isD_str_tuple, r_isD_str_str, r_isD_str_list, r_isD_str_dict, r_isD_tup_int, r_isD_tup_bool, r_isD_tup_tuple, r_isD_tup_str, r_isD_tup_list, r_isD_tup_dict, r_isD_kl_int, r_isD_kl_bool, r_isD_kl_tuple, r_isD_kl_str, r_isD_kl_list, r_isD_kl_dict, r_isD_kc_int, r_isD_kc_bool, r_isD_kc_tuple, r_isD_kc_str, r_isD_kc_list, r_isD_kc_dict, r_isD_non_own, r_isD_bl_own, r_isD_int_own, r_isD_str_own, r_isD_tup_own, r_isD_kl_own, r_isD_kc_own, q_wpf, q_seq, q_set, q_ret, q_retN, q_if, q_drop, r_unp', r_par, q_next, q_brk, q_cont, q_for, sWhile, q_sub, sAug, q_rng1, r_rng1P, jRng2, q_jseq, r_seqT, r_seqK, r_seqR, r_seqL, r_ownP, q_op, r_var, r_varS, q_c, q_cons, q_nil, q_cb, q_tup, q_lst, r_test, r_tru, q_not, q_and, q_or, r_andV, r_orV, r_notV, q_if', q_un, q_call, q_slice, q_some, q_none, r_intP, r_chn, r_chnT, r_link, r_last, cp2, pw2, cp3, pw3, cp4, pw4, cp5, pw5, cp6, pw6, cp7, pw7, cp8, pw8, cp9, pw9, cp10, pw10, cp12, pw12, cp15, pw15, cp18, pw18, cp20, pw20, cp24, pw24, cp28, pw28, cp29, pw29, cp30, pw30, q_tryH, q_raise0, q_raiseX, q_xfld, r_xfld, q_setAs, q_setAs0, q_endsAs0, q_endsNx, q_endsRt, q_endsBk, q_endsCt, r_isNx, r_lcV, q_lstV, q_sliceV, q_frz, r_frzR, r_frzL, r_frzT, r_frzK, r_frzN, r_addVI, r_addVT, r_addVK, r_addVO, r_sliVK, r_sliVC, r_sliVT, r_sliVR, r_sliVL, r_listVK, r_listVC, r_listVT, r_truK, r_eqXS, r_eqXI, r_eqXT2, r_strI, r_seqC, r_ixC, r_lenC, r_sliC, q_lc, q_yes, q_make, r_nonP, q_fldg, r_eqT2, r_set0, r_set1, q_put1, q_putN, r_blP, r_boolP, r_unpP, r_parP, r_opt, r_pick, r_add, r_addT, r_addR, r_addL, r_sub, r_mul, r_div, r_mod, r_pow, r_cmp, r_lt, r_neg, r_isXB, r_isXN, r_isN, r_isNr, r_isNi, r_isNn, r_isNt, r_eqI, r_ixT, r_ixK, r_ixR, r_lstOf, r_sliT, r_sliK, r_sliR, r_sliL, r_truB, r_truI, r_truT, r_truN, r_truR, r_truL, r_max, r_min, r_intB, r_intI, r_abs, r_lenT, r_lenK, r_lenR, r_lenL, r_nat, r_set, r_setL, r_isI, r_isB, r_isT, r_fld, r_fldR, r_fldI, r_sfd, r_sfdR, r_sfdI, r_met, r_metR, r_met1, atI0, atI1, atI2, atI3, atI4, ixN1a, ixN2a, ixN2b, ixN3a, ixN3b, ixN3c, put_same, List.map_cons, List.map_nil, List.length_cons, List.length_nil, List.length_set, List.replicate, List.cons_append, List.nil_append, List.append_nil, List.getElem?_cons_zero, List.getElem?_cons_succ, List.set_cons_zero, List.set_cons_succ, true_and, and_true, Option.some.injEq, if_true, if_false, ite_true, ite_false, reduceIte, Bool.not_true, Bool.not_false, Bool.false_eq_true, Nat.reduceAdd, Nat.reduceLeDiff, $[$es:term],*])
section
variable {e : Env} {G G' G1 : HD} {Q : Post} {E : DX} {a y b : Addr} {A A' : HA} {S : HS} {d : Int} {n : Nat} {sl : Addr} {wd : List D} {W : Int → List (Str × Bool)} {P P' : RS} {i : Nat}
theorem len_wr {x : D} {ws : List (Str × Bool)} (h : WR G x ws) (q : Q (.int ws.length) G) : DL.rLen [x] G Q := by
  rcases h with rfl | ⟨p, rfl, h⟩
  · exists List.length_map
    exact q
  · exists h, List.length_map
    exact q
theorem ix_wr {x : D} {ws : List (Str × Bool)} {j : Int} {z : Str × Bool} (h : WR G x ws) (h0 : 0 ≤ j) (hj : ws[j.toNat]? = some z) (q : Q (wD z) G) : dIx x (.int j) G Q := by
  have e1 : atI (ws.map wD) j = some (wD z) := by
    obtain ⟨i, rfl⟩ := Int.eq_ofNat_of_zero_le h0
    exact DL.atI_nat (by rw [List.getElem?_map, show ws[i]? = some z from hj]; rfl)
  rcases h with rfl | ⟨p, rfl, h⟩
  · exists e1
    exact q
  · exists h, e1
    exact q
theorem round_ok (g : e.Good) (hn : n < 64) (hnm : ∀ x, ∀ y ∈ W x, y.1 ∈ nm24) (h4 : ∀ x, (W x).length ≤ 4) (hwd : wd.length = n) (R : Rd e G a A sl wd n W P) (hJ : J n P) (hB : Bd W P) (hQ : ∀ G' A', Rd e G' a A' sl wd n W (rRound n W P n) → Q .non G') : w_law_round e [.ref a, .kl wd, .ref sl] G Q E := by
  unfold w_law_round
  exists if_true
  refine ⟨by omega, by omega, ?_⟩
  rw [hwd, Int.toNat_natCast]
  refine forR_inv (I := fun i σ G' => ∃ A' x3 x4 x5, σ = [some (.ref a), some (.kl wd), some (.ref sl), x3, x4, x5] ∧ Rd e G' a A' sl wd n W (rRound n W P i)) (fun _ => trivial) (fun i κ σ G' hi hI hk => ?_) (fun σ G' hI => ?_) ⟨A, _, _, _, rfl, R⟩
  · obtain ⟨A, x3, x4, x5, rfl, R⟩ := hI
    have hRel := round_rel hJ hB (i := i) (by omega)
    have hJ := hRel.j
    have hB := hRel.b
    clear hRel
    rw [round_succ] at hk
    rw [Int.zero_add]
    generalize rRound n W P i = P at *
    have hfst : ∀ {P : RS}, J n P → 0 ≤ P.st i → P.S.fast i = false := fun h h0 => by
      rcases h.2 i with z | z | z
      · omega
      · omega
      · exact z.2
    have at0 : ∀ {st : Int → Int}, atI (stD n st) (i : Int) = some (.int (st i)) := stD_at hi
    obtain ⟨wx, w1, w2, w3⟩ := R.w i hi
    have w1' : atI wd (i : Int) = some wx := DL.atI_nat w1
    unfold l_law_round_1
    exists R.s, at0
    by_cases h2 : P.st i = -2
    · simp only [h2, decide_true, if_true]
      exists R.h.self
      refine ⟨rfl, free_ok g hn R.h fun G1 A1 g1 h1 => ?_⟩
      have R1 := R.go g1 h1
      refine st_set R1.s hi (hk _ _ ⟨A1, _, _, _, rfl, ?_⟩)
      have := R1.set (st := setF P.st i (-1))
      unfold rStep
      rw [if_pos h2]; exact this
    · simp only [h2, decide_false]
      exists R.s, at0
      by_cases h0 : 0 ≤ P.st i
      · simp only [h0, decide_true, if_true]
        exists if_true
        refine seqJ (I := fun σ' G' => ∃ A' x4 x5, σ' = [some (.ref a), some (.kl wd), some (.ref sl), some (.int (i : Nat)), x4, x5] ∧ Rd e G' a A' sl wd n W (rRes P i)) (fun κ2 hκ2 => ?_) (fun σ' G2 hI2 => ?_)
        · exists R.h.self
          refine ⟨rfl, calledoff_ok g hn R.h fun p G2 hp l2 h2 => ?_⟩
          have R2 := R.le l2
          exists h2, asInts_map
          by_cases hl : P.S.lost i = true
          · have hm : (i : Int) ∈ (dl n).filter P.S.lost := List.mem_filter.mpr ⟨mem_dl.mpr ⟨by omega, by omega⟩, hl⟩
            exists hm, decide_true, R2.h.self
            refine ⟨rfl, ?_⟩
            show w_Holds_free e [.ref a, .int i, .bl true] G2 _ _
            refine free_ok g hn R2.h fun G3 A3 g3 h3 => ?_
            have R3 := R2.go g3 h3
            refine st_set R3.s hi (hκ2 _ _ ⟨A3, _, _, rfl, ?_⟩)
            have := R3.set (st := setF P.st i 0)
            unfold rRes
            rw [if_pos hl]; exact this
          · have hm : (i : Int) ∉ (dl n).filter P.S.lost := fun z => hl (List.mem_filter.mp z).2
            exists hm, decide_false
            refine hκ2 _ _ ⟨A, _, _, rfl, ?_⟩
            unfold rRes
            rw [if_neg hl]; exact R2
        · obtain ⟨A2, x4, x5, rfl, R2⟩ := hI2
          obtain ⟨r1, _, r3⟩ := res_at (P := P) h0
          have hJ2 := hJ.res (d := i)
          have hBd : (rRes P i).st i < (W i).length ∨ (rRes P i).st i = 0 := by
            rw [(res_at h0).2.1]; split
            · exact .inr rfl
            · exact hB i h0
          have hk' : ∀ σ' G', (∃ A' x3 x4 x5, σ' = [some (.ref a), some (.kl wd), some (.ref sl), x3, x4, x5] ∧ Rd e G' a A' sl wd n W (rFin (rAsk n (rRes P i) i (W i)) i (W i))) → κ σ' G' := fun σ' G' hh => hk σ' G' (by unfold rStep; rw [if_neg h2, if_pos h0]; exact hh)
          clear hk
          generalize rRes P i = P2 at *
          obtain ⟨wx2, u1, u2, u3⟩ := R2.w i hi
          have u1' : atI wd (i : Int) = some wx2 := DL.atI_nat u1
          have u4 := u2.asL
          have w4 := h4 i
          refine seqJ (I := fun σ' G' => ∃ A' x4 x5, σ' = [some (.ref a), some (.kl wd), some (.ref sl), some (.int (i : Nat)), x4, x5] ∧ Rd e G' a A' sl wd n W (rAsk n P2 i (W i))) (fun κ2 hκ2 => ?_) (fun σ' G3 hI3 => ?_)
          · exists R2.s, at0, u1'
            refine len_wr u2 ?_
            exists if_true
            by_cases hlt : P2.st i < (W i).length
            · have hw : (W i)[(P2.st i).toNat]? = some ((W i)[(P2.st i).toNat]'(by omega)) := List.getElem?_eq_getElem _
              have hkm := hnm i _ (List.getElem_mem (by omega : (P2.st i).toNat < (W i).length))
              generalize (W i)[(P2.st i).toNat]'(by omega) = z at hw hkm
              obtain ⟨k, m⟩ := z
              exists hlt, decide_true, R2.s, at0
              refine ix_wr u2 r3 hw ?_
              show unpP (.tup [.str k, mdD m]) 2 _
              exists setAll, R2.h.self
              refine ⟨rfl, ?_⟩
              refine ask_ok (ag := none) g hn (by decide) R2.h (by omega) (by omega) hkm r1 (hfst hJ2 r3) fun G3 A3 g3 h3 => ?_
              have R3 := R2.go g3 h3
              have eA : rAsk n P2 i (W i) = ⟨(askR n P2.S i k m i).st, if (askR n P2.S i k m i).held = true then setF P2.st i (P2.st i + 1) else P2.st⟩ := by unfold rAsk; rw [hw]
              rw [eA] at hκ2
              have e0 : (Option.getD none (i : Int)) = (i : Int) := rfl
              rw [e0] at R3 ⊢
              cases hh : (askR n P2.S i k m i).held with
              | true =>
                rw [hh] at hκ2
                exists heD, decide_true, R3.s, at0
                rw [stD_len, DL.ixN_nat hi]
                show κ2 _ (put G3 sl (.lst ((stD n P2.st).set i (.int (P2.st i + 1)))))
                rw [stD_set hi]
                refine hκ2 _ _ ⟨A3, _, _, rfl, ?_⟩
                exact R3.set (st := setF P2.st i (P2.st i + 1))
              | false =>
                rw [hh] at hκ2
                have hne : decide (Str.ofString "waits" = Str.ofString "held") = false := by decide +kernel
                exists heD, hne
                exact hκ2 _ _ ⟨A3, _, _, rfl, R3⟩
            · have eA : rAsk n P2 i (W i) = P2 := by
                unfold rAsk
                rw [List.getElem?_eq_none (by omega)]
              rw [eA] at hκ2
              exists hlt, decide_false
              exact hκ2 _ _ ⟨A2, _, _, rfl, R2⟩
          · obtain ⟨A3, x4, x5, rfl, R3⟩ := hI3
            exists R3.s, at0, u1'
            obtain ⟨wx3, v1, v2, v3⟩ := R3.w i hi
            rw [u1] at v1
            cases v1
            refine len_wr v2 ?_
            exists if_true
            by_cases he : (rAsk n P2 i (W i)).st i = (W i).length
            · exists he, decide_true, R3.h.self
              refine ⟨rfl, pledge_ok g R3.h (by omega) (by omega) hn fun G4 g4 h4' => ?_⟩
              have R4 := R3.go g4 h4'
              refine st_set R4.s hi (hk' _ _ ⟨A3, _, _, _, rfl, ?_⟩)
              have := R4.set (st := setF (rAsk n P2 i (W i)).st i (-2))
              unfold rFin
              rw [if_pos he]; exact this
            · exists he, decide_false
              refine hk' _ _ ⟨A3, _, _, _, rfl, ?_⟩
              unfold rFin
              rw [if_neg he]; exact R3
      · simp only [h0, decide_false]
        exists if_true
        refine hk _ _ ⟨A, _, _, _, rfl, ?_⟩
        unfold rStep
        rw [if_neg h2, if_neg h0]; exact R
  · obtain ⟨A, x3, x4, x5, rfl, R⟩ := hI
    exists if_true
    exact fg_in (hQ _ _ R)
/-- is any not done -/
def anyB (n : Nat) (st : Int → Int) : Bool := !((dl n).filter fun x => !decide (st x = -1)).isEmpty
theorem any_ne {st : Int → Int} : anyB n st = true ↔ ∃ x ∈ dl n, st x ≠ -1 := by
  unfold anyB
  constructor
  · intro z
    cases hf : (dl n).filter fun x => !decide (st x = -1) with
    | nil => rw [hf] at z; cases z
    | cons x l =>
      have : x ∈ (dl n).filter fun x => !decide (st x = -1) := by rw [hf]; exact List.mem_cons_self
      obtain ⟨h1, h2⟩ := List.mem_filter.mp this
      exact ⟨x, h1, by simpa using h2⟩
  · intro ⟨x, h1, h2⟩
    have : x ∈ (dl n).filter fun x => !decide (st x = -1) := List.mem_filter.mpr ⟨h1, by simpa using h2⟩
    cases hf : (dl n).filter fun x => !decide (st x = -1) with
    | nil => rw [hf] at this; cases this
    | cons x l => rfl
theorem stands_ok {ok : HD → Prop} {step : D → (D → HD → Prop) → (HD → Prop) → HD → Prop} {st : Int → Int} {K : Post} (hok : ok G) (hs : ∀ (x : Int) ky kn, (if (!decide (st x = -1)) = true then ky (.int (st x)) G else kn G) → step (.int (st x)) ky kn G) (q : K (.bl (anyB n st)) G) : lcD ok step (fun acc G2 => dEqX true (.kl acc) (.kl []) G2 K) (stD n st) [] G := by
  refine lc_I (f := fun x => .int (st x)) (I := fun G' => G' = G) (p := fun x => !decide (st x = -1)) (v := fun x => .int (st x)) (fun G' hG => by rw [hG]; exact hok) rfl (fun x _ ky kn G' hG hk => ?_) fun G' hG => ?_
  · subst hG; exact hs x ky kn (hk _ rfl)
  · subst hG
    have e3 : ([] : List D) ++ ((dl n).filter fun x => !decide (st x = -1)).map (fun x => D.int (st x)) = (((dl n).filter fun x => !decide (st x = -1)).map st).map D.int := by
      rw [List.nil_append, List.map_map]; rfl
    rw [e3]
    refine i_eqK ?_
    have : (if true = true then !(((dl n).filter fun x => !decide (st x = -1)).map st).isEmpty else (((dl n).filter fun x => !decide (st x = -1)).map st).isEmpty) = anyB n st := by
      unfold anyB
      rw [if_pos rfl]
      cases (dl n).filter fun x => !decide (st x = -1) <;> rfl
    rw [this]; exact q
end
theorem ints_dl {n : Nat} : intsD 0 n = (dl n).map D.int := by
  unfold intsD dl
  rw [List.map_map]
  apply List.map_congr_left
  intro i _
  simp
theorem main (e : Env) (g : e.Good) (ns : List Int) (h : ns.length ≤ 63) : w_law e [.kc (ns.map D.int)] (fun _ => none) (fun d _ => d = .bl true) fun _ _ _ => False := by
  unfold w_law
  exists List.length_map
  refine ⟨by repeat' split <;> omega, by repeat' split <;> omega, ?_⟩
  have hN : (if (if (8 : Int) < (ns.length : Nat) then (8 : Int) else (ns.length : Nat)) > 1 then if (8 : Int) < (ns.length : Nat) then (8 : Int) else (ns.length : Nat) else 1).toNat ≤ 8 := by repeat' split <;> omega
  generalize (if (if (8 : Int) < (ns.length : Nat) then (8 : Int) else (ns.length : Nat)) > 1 then if (8 : Int) < (ns.length : Nat) then (8 : Int) else (ns.length : Nat) else 1).toNat = N at hN ⊢
  refine forR_inv (I := fun _ σ G' => ∃ x1 x2 x3 x4 x5 x6 x7 x8 x9 x10, σ = [some (.kc (ns.map D.int)), x1, x2, x3, x4, x5, x6, x7, x8, x9, x10]) (fun _ => trivial) (fun i κ σ G' hi hI hk => ?_) (fun σ G' hI => ?_) ⟨_, _, _, _, _, _, _, _, _, _, rfl⟩
  · obtain ⟨x1, x2, x3, x4, x5, x6, x7, x8, x9, x10, rfl⟩ := hI
    unfold l_law_2
    exists if_true
    rw [Int.zero_add]
    refine bag_ok (by omega) fun b G1 hR l1 hb => ?_
    exists if_true
    refine out_ok hR (by decide) (by decide) fun w G2 w0 w1 R2 f2 => ?_
    exists if_true
    refine wishes_ok (m := 1 + w) g R2 (by omega) (by omega) fun wd G3 hwd hws R3 => ?_
    have hn1 : (1 + w).toNat ≤ 6 := by omega
    have hn0 : 1 ≤ (1 + w).toNat := by omega
    generalize (1 + w).toNat = n at hwd hn1 hn0
    clear w0 w1 R2
    exists if_true
    refine make_h (n := n) (nm := nm24) g fun a G4 A ha hown l4 h4' => ?_
    exists if_true
    refine ⟨by omega, ?_⟩
    have hws4 : WS G4 [b] wd := hws.fr (Fr.le (A := []) l4) (fun z hz => nomatch hz)
    have hc : ∀ x : Int, ∃ ws : List (Str × Bool), ws.length ≤ 4 ∧ (∀ y ∈ ws, y.1 ∈ nm24) ∧ ∀ d, wd[x.toNat]? = some d → WR G4 d ws := fun x => by
      cases hd : wd[x.toNat]? with
      | none => exact ⟨[], by decide, (fun _ h => nomatch h), (fun d h => nomatch h)⟩
      | some d =>
        obtain ⟨⟨ws, z1, z2, z3⟩, _⟩ := hws4 d (List.mem_of_getElem? hd)
        exact ⟨ws, z2, z3, fun d' h => by cases h; exact z1⟩
    obtain ⟨W, hW⟩ := Classical.axiomOfChoice hc
    have h4 : ∀ x, (W x).length ≤ 4 := fun x => (hW x).1
    have hnm : ∀ x, ∀ y ∈ W x, y.1 ∈ nm24 := fun x => (hW x).2.1
    have e0 : wd = wd.map id := by simp
    conv => arg 4; rw [e0]
    refine lc_I (f := id) (I := fun G' => G' = G4) (p := fun _ => true) (v := fun _ => .int 0) (fun _ _ => trivial) rfl (fun x _ ky kn G' hG hk => ?_) fun G5 hG5 => ?_
    · have := hk _ hG
      rw [if_pos rfl] at this; exact this
    subst hG5
    have e1 : ([] : List D) ++ (wd.filter fun _ => true).map (fun _ => D.int 0) = stD n fun _ => 0 := by
      refine List.ext_getElem? fun j => ?_
      have : wd.filter (fun _ => true) = wd := List.filter_eq_self.mpr fun _ _ => rfl
      rw [this, List.nil_append]
      unfold stD
      rw [List.getElem?_map, List.getElem?_map]
      by_cases hj : j < n
      · rw [dl_get hj, List.getElem?_eq_getElem (by omega : j < wd.length)]; rfl
      · rw [List.getElem?_eq_none (by omega), List.getElem?_eq_none (by rw [dl_len]; omega)]; rfl
    rw [e1]
    refine newL_in fun sl G6 hsl _ hs6 l6 _ => ?_
    have R6 : Rd e G6 a A sl wd n W ⟨S0, fun _ => 0⟩ := ⟨h4'.le l6, hs6, fun i hi => by
      have hlt : i < wd.length := by omega
      refine ⟨wd[i], List.getElem?_eq_getElem hlt, ((hW i).2.2 _ (by rw [Int.toNat_natCast]; exact List.getElem?_eq_getElem hlt)).fr (Fr.le (A := []) l6) (fun z hz => nomatch hz), fun z => ?_⟩
      rcases (hW i).2.2 _ (by rw [Int.toNat_natCast]; exact List.getElem?_eq_getElem hlt) with u | ⟨p, u, v⟩
      · rw [z] at u; cases u
      · rw [z] at u; cases u; rw [hsl] at v; cases v⟩
    have hJ0 : J n ⟨S0, fun _ => 0⟩ := ⟨Inv.zero, fun x => .inr (.inr ⟨Int.le_refl 0, rfl⟩)⟩
    have hB0 : Bd W ⟨S0, fun _ => 0⟩ := fun x _ => .inr rfl
    exists if_true
    refine ⟨mul_l (by omega) (by omega), ?_⟩
    refine wh_in (I := fun N σ G' => ∃ A P t x8 x9 x10, σ = [some (.kc (ns.map D.int)), some (.int (i : Nat)), some (.ref b), some (.kl wd), some (.ref a), some (.ref sl), some (.int (6 * (wd.length : Nat) + 6)), some (.int t), x8, x9, x10] ∧ Rd e G' a A sl wd n W P ∧ J n P ∧ Bd W P ∧ N = Ms n P ∧ 0 ≤ t ∧ t + (N : Nat) ≤ 6 * n + 4) (fun M k σ G' hI hk2 => ?_) ⟨A, ⟨S0, fun _ => 0⟩, 0, _, _, _, rfl, R6, hJ0, hB0, rfl, by decide, by have := Ms_zero (n := n); omega⟩
    obtain ⟨A, P, t, x8, x9, x10, rfl, R, hJ, hB, rfl, ht0, ht⟩ := hI
    have hlt : t < 6 * (wd.length : Nat) + 6 := by omega
    exists hlt, decide_true, R.s, stD_len
    refine ⟨by omega, ?_⟩
    refine stands_ok R.s (fun x ky kn hx => ?_) ?_
    · exists dwipe
      by_cases hx1 : P.st x = -1
      · simp only [hx1, decide_true, Bool.not_true, if_true] at hx ⊢
        simpa using hx
      · simp only [hx1, decide_false] at hx ⊢
        simpa using hx
    exists if_true
    cases hany : anyB n P.st with
    | true =>
      rw [if_pos rfl]
      unfold l_law_1
      exists if_true
      refine round_ok g (by omega) hnm h4 hwd R hJ hB fun G7 A7 R7 => ?_
      obtain ⟨j1, j2, j3⟩ := round_lt h4 hJ hB (any_ne.mp hany)
      exists if_true
      exact hk2 (Ms n (rRound n W P n)) _ _ j3 ⟨A7, rRound n W P n, t + 1, _, _, _, rfl, R7, j1, j2, rfl, by omega, by omega⟩
    | false =>
      rw [if_neg (by decide)]
      have hdone : ∀ x ∈ dl n, P.st x = -1 := fun x hx => Classical.byContradiction fun hn => by
        have := any_ne.mpr ⟨x, hx, hn⟩
        rw [hany] at this; cases this
      have hat : ∀ x ∈ dl n, (∀ k, P.S.hold k x = none) ∧ P.S.ask x = none ∧ P.S.fast x = false := fun x hx => by
        have := hdone x hx
        rcases hJ.2 x with z | z | z
        · exact ⟨z.2.1, z.2.2.1, z.2.2.2.1⟩
        · omega
        · omega
      exists R.s, stD_len
      refine ⟨by omega, ?_⟩
      refine stands_ok R.s (fun x ky kn hx => ?_) ?_
      · exists dwipe
        by_cases hx1 : P.st x = -1
        · simp only [hx1, decide_true, Bool.not_true, if_true] at hx ⊢
          simpa using hx
        · simp only [hx1, decide_false] at hx ⊢
          simpa using hx
      rw [hany]
      exists R.h.self
      refine ⟨rfl, waiting_ok g (by omega) R.h fun p G7 hp l7 h7 => ?_⟩
      have e7 : waitD n P.S = [] := by
        unfold waitD
        rw [List.filterMap_eq_nil_iff]
        intro x hx
        unfold wtD
        rw [(hat x hx).2.1]
      rw [e7] at h7
      have R7 := R.le l7
      exists h7, R7.h.self
      refine ⟨rfl, pledged_ok g (by omega) R7.h fun p2 G8 hp2 l8 h8 => ?_⟩
      have e8 : (dl n).filter P.S.fast = [] := by
        rw [List.filter_eq_nil_iff]
        intro x hx z
        rw [(hat x hx).2.2] at z; cases z
      rw [e8] at h8
      have R8 := R7.le l8
      refine i_eqN (ns := []) h8 ?_
      exists if_true
      rw [if_neg (by decide)]
      refine ⟨by omega, by omega, by rw [ints_len]; omega, ?_⟩
      rw [Int.toNat_natCast, hwd, ints_dl]
      refine lc_I (f := D.int) (I := fun G' => Rd e G' a A sl wd n W P) (p := fun _ => false) (v := D.int) (fun _ _ => trivial) R8 (fun x hx ky kn G' R9 hc => ?_) fun G' R9 => ?_
      · exists dwipe, R9.h.self
        refine ⟨rfl, of_ok g srt24 (by decide) R9.h fun p3 G10 hp3 l10 h10 => ?_⟩
        rw [of_nil (hat x hx).1] at h10
        exists h10
        exact hc _ (R9.le l10)
      · have e9 : ([] : List D) ++ ((dl n).filter fun _ => false).map D.int = ([] : List Int).map D.int := by
          have : (dl n).filter (fun _ => false) = [] := List.filter_eq_nil_iff.mpr fun _ _ => by decide
          rw [this]; rfl
        rw [e9]
        refine i_eqK ?_
        exists if_true
        rw [if_neg (by decide)]
        exact hk _ _ ⟨_, _, _, _, _, _, _, _, _, _, rfl⟩
  · exists if_true
    exact fg_in rfl
end P

set_option maxHeartbeats 4000000
namespace P
open PySem PySem.Spec L2 DL
open PyProof.Rows hiding St
def top (i : Nat) : Stmt := PySem.Challenge.pw_stampedwait_k24_whole_who_asks_again_hol.main.body.getD i (.Pass ⟨0, 0, 0, 0⟩)
abbrev s_law_bag : Stmt := top 7
abbrev N_law_bag : List Str := ["_law_script", "_law_k", "_law_cell", "_law_great"]
abbrev s_law_out : Stmt := top 8
abbrev N_law_out : List Str := ["_law_bag_here", "_law_many", "_law_found"]
abbrev s_law_wishes : Stmt := top 9
abbrev N_law_wishes : List Str := ["_law_bag_here", "_law_many", "_law_found", "_law_dealing", "_law_row", "_law_key"]
abbrev s_Holds_init : Stmt := inClass (top 5) 0
abbrev N_Holds_init : List Str := ["self"]
abbrev s_Holds_free : Stmt := inClass (top 5) 6
abbrev N_Holds_free : List Str := ["self", "dealing", "forget", "key"]
abbrev s_Holds_called_off : Stmt := inClass (top 5) 11
abbrev N_Holds_called_off : List Str := ["self"]
abbrev s_Holds_pledge : Stmt := inClass (top 5) 7
abbrev N_Holds_pledge : List Str := ["self", "dealing"]
abbrev s_Holds_call_off : Stmt := inClass (top 5) 5
abbrev N_Holds_call_off : List Str := ["self", "dealing"]
abbrev s_Holds_bars : Stmt := inClass (top 5) 2
abbrev N_Holds_bars : List Str := ["self", "dealing", "key", "mode", "some", "other", "how"]
abbrev s_Holds_rank : Stmt := inClass (top 5) 1
abbrev N_Holds_rank : List Str := ["self", "dealing"]
abbrev s_Holds_can_call_off : Stmt := inClass (top 5) 4
abbrev N_Holds_can_call_off : List Str := ["self", "dealing", "other"]
abbrev s_Holds_ask : Stmt := inClass (top 5) 3
abbrev N_Holds_ask : List Str := ["self", "dealing", "key", "mode", "age", "off", "other"]
abbrev s_law_round : Stmt := top 10
abbrev N_law_round : List Str := ["_law_holds", "_law_wishes_here", "_law_stands", "_law_dealing", "_law_key", "_law_mode"]
abbrev s_Holds_waiting : Stmt := inClass (top 5) 10
abbrev N_Holds_waiting : List Str := ["self", "found", "dealing", "key", "mode", "some", "other"]
abbrev s_Holds_pledged : Stmt := inClass (top 5) 12
abbrev N_Holds_pledged : List Str := ["self"]
abbrev s_Holds_of : Stmt := inClass (top 5) 9
abbrev N_Holds_of : List Str := ["self", "dealing", "key", "some"]
abbrev s_law : Stmt := top 11
abbrev N_law : List Str := ["_law_script", "_law_k", "_law_bag_here", "_law_wishes_here", "_law_holds", "_law_stands", "_law_most", "_law_turns", "_law_row", "_law_stand", "_law_dealing"]
abbrev s_Off_init : Stmt := inClass (top 2) 0
theorem bt_list : bootBuiltins "list" = some (.type "list") := by decide +kernel
/-! ### what the top has left of them -/
structure Txt (K : PySem.W.Frag) (mg : Str → Option Value) (e : Env) : Prop where
  hok : ∀ C f, e.ok C f → AttrOk K C f
  hic : ∀ a c b, e.ic a c b → IsiOk K a c b
  hxm : ∀ c u b, e.xm c u b → PySem.W.exmOne K u c = some b
  hxf : ∀ C f, e.xf C f → XfOk K C f
  hec : ∀ C c b, e.ec C c b → EcOk K C c b
  gx_Off : mg "Off" = some (.ref e.C_Off)
  xi_Off : DX.OexB K "RuntimeError" "RuntimeError.__new__" [.type "RuntimeError", .type "Exception", .type "BaseException", .type "object"] e.C_Off
  xb_Off : BaseI K mg "RuntimeError" "RuntimeError.__init__"
  xn_Off : PySem.W.findIn K (.ref e.C_Off) "dealing" = some none
  xk_Off : PySem.W.keepIn K (.ref e.C_Off) = true ∧ PySem.W.subIn K (.ref e.C_Off) (.type "BaseException") = some true ∧ PySem.W.typeIn K (.ref e.C_Off) = some (.type "type")
  f_Off_init : MetF K e.C_Off "__init__" "Off.__init__" s_Off_init []
  n_len : mg "len" = none
  n_list : mg "list" = none
  n_max : mg "max" = none
  n_min : mg "min" = none
  n_range : mg "range" = none
  n_sorted : mg "sorted" = none
  k_WRITE : ConstF K mg "WRITE" (.str "write")
  mg_Holds : mg "Holds" = some (.ref e.C_Holds)
  cl_Holds : Cls K e.C_Holds
  mk_Holds : PySem.W.makesIn K e.C_Holds = true ∧ PySem.W.keepIn K (.ref e.C_Holds) = true
  f_law_bag : DefF K mg "_law_bag" s_law_bag ([])
  f_law_out : DefF K mg "_law_out" s_law_out ([])
  f_law_wishes : DefF K mg "_law_wishes" s_law_wishes ([])
  f_Holds_init : MetF K e.C_Holds "__init__" "Holds.__init__" s_Holds_init ([])
  f_Holds_free : MetF2 K e.C_Holds "free" "Holds.free" s_Holds_free ([]) ["forget"] [.bl false]
  f_Holds_called_off : MetF K e.C_Holds "called_off" "Holds.called_off" s_Holds_called_off ([])
  f_Holds_pledge : MetF K e.C_Holds "pledge" "Holds.pledge" s_Holds_pledge ([])
  f_Holds_call_off : MetF K e.C_Holds "call_off" "Holds.call_off" s_Holds_call_off ([])
  f_Holds_bars : MetF K e.C_Holds "bars" "Holds.bars" s_Holds_bars ([])
  f_Holds_rank : MetF K e.C_Holds "rank" "Holds.rank" s_Holds_rank ([])
  f_Holds_can_call_off : MetF K e.C_Holds "can_call_off" "Holds.can_call_off" s_Holds_can_call_off ([])
  f_Holds_ask : MetF2 K e.C_Holds "ask" "Holds.ask" s_Holds_ask ([]) ["age"] [.non]
  f_law_round : DefF K mg "_law_round" s_law_round ([])
  f_Holds_waiting : MetF K e.C_Holds "waiting" "Holds.waiting" s_Holds_waiting ([])
  f_Holds_pledged : MetF K e.C_Holds "pledged" "Holds.pledged" s_Holds_pledged ([])
  f_Holds_of : MetF K e.C_Holds "of" "Holds.of" s_Holds_of ([])
  f_law : DefF K mg "law" s_law ([])
theorem gc_WRITE {X : Cx} {e : Env} (T : Txt X.K X.mg e) (hg : Gl X "WRITE" := by rfl) {pos : Pos} : DE X (.Name "WRITE" pos) (dC (.str "write")) := T.k_WRITE.de hg
section
variable {P : Program} {w : World} {K : PySem.W.Frag} {mg : Str → Option Value} {base : Heap} {e : Env}
theorem sc_Off_init : FnScope ["self", "dealing"] ["self", "dealing"] (defScope s_Off_init) := ⟨rfl, rfl, rfl, by decide +kernel, rfl, by decide +kernel, by decide +kernel⟩
theorem ri_Off (T : Txt K mg e) : RaiseI P w K mg base 1 "Off" e.C_Off ["dealing"] := by
    obtain ⟨f, fd, dvs, hdd, F, hm⟩ := T.f_Off_init
    obtain rfl : dvs = [] := List.eq_nil_of_length_eq_zero (hdd.rel (fun _ => none)).length
    exact ⟨⟨_, _, _, _, f, fd, T.xi_Off, (DX.XBase.of PySem.F.excBase_RuntimeError), hm.at_, hm.fn, init1 (m := "off") sc_Off_init F (fun cdv A outer s H E => pss_cons (ps_expr (pe_bin T.xi_Off (DX.XBase.of PySem.F.excBase_RuntimeError) T.xb_Off (by rfl) (pa_cons (pv 0) (pa_cons pe_str pa_nil)) (by decide +kernel))) (pss_one (ps_stB T.xi_Off T.xn_Off (pv 0) (pv 1)))), F.bindsN (ps := ["self", "dealing"]) fun _ _ _ _ _ _ us hl => match us, hl with | [_, _], _ => rfl⟩, T.gx_Off, T.xk_Off.1, T.xk_Off.2.1, T.xk_Off.2.2⟩
theorem sc_law_bag : FnScope N_law_bag ["_law_script", "_law_k"] (defScope s_law_bag) := ⟨rfl, rfl, rfl, by decide +kernel, rfl, by decide +kernel, by decide +kernel⟩
theorem ok_law_bag (T : Txt K mg e) {f : Addr} {fd : FuncData} {dvs : List V} (F : L2.FunD K "_law_bag" "_law_bag" (defArgs s_law_bag) (defBody s_law_bag) (defScope s_law_bag) dvs [] f fd) : FnK P w K mg base 1 f fd ["_law_script", "_law_k"] (w_law_bag e) :=
  fnd (k := 0) F sc_law_bag rfl rfl fun cdv A outer s H E hr =>
    (dss_cons (ds_set (i := 2) de_int sc_law_bag.nd)
    (dss_consJ (ds_if (dt_c1 (c_lt hr.units) (dv 1) (bc_len T.n_len (da_cons (dv 0) da_nil)))
    (dss_one (ds_set (i := 2) (de_item (dv 0) (dv 1)) sc_law_bag.nd))
    dss_nil)
    (dss_cons (ds_set (i := 3) de_int sc_law_bag.nd)
    (dss_consJ (ds_if (dt_c1 (c_ge hr.units) (dv 2) (de_pow de_int de_int))
    (dss_one (ds_set (i := 3) (dv 2) sc_law_bag.nd))
    dss_nil)
    (dss_one (ds_ret (de_lst (da_cons (dv 3) (da_cons (de_mod (de_pow (de_addV (de_addV (de_mod (dv 2) de_int) (de_mul de_int (dv 1))) de_int) de_int) de_int) da_nil)))))))))
theorem c_law_bag_2 (T : Txt K mg e) : DefK P w K mg base 1 "_law_bag" (w_law_bag e) [] := by
    obtain ⟨f, fd, dvs, hdd, F, hm⟩ := T.f_law_bag
    have hdl : dvs.length = 0 := (hdd.rel (fun _ => none)).length
    obtain ⟨ds, hv, hb⟩ : ∃ ds, Vals (dvs.drop 0) ds ∧ Binds K fd ["_law_script", "_law_k"] ds := by
      obtain rfl : dvs = [] := List.eq_nil_of_length_eq_zero hdl
      exact ⟨[], .nil, F.bindsN (ps := ["_law_script", "_law_k"]) fun _ _ _ _ _ _ us hl => match us, hl with | [_, _], _ => rfl⟩
    exact ⟨f, fd, _, _, _, ok_law_bag T F, hm, F.kp, hb, hv, hdd.drop 0, wpf_len⟩
theorem sc_law_out : FnScope N_law_out ["_law_bag_here", "_law_many"] (defScope s_law_out) := ⟨rfl, rfl, rfl, by decide +kernel, rfl, by decide +kernel, by decide +kernel⟩
theorem ok_law_out (T : Txt K mg e) {f : Addr} {fd : FuncData} {dvs : List V} (F : L2.FunD K "_law_out" "_law_out" (defArgs s_law_out) (defBody s_law_out) (defScope s_law_out) dvs [] f fd) : FnK P w K mg base 1 f fd ["_law_bag_here", "_law_many"] (w_law_out e) :=
  fnd (k := 0) F sc_law_out rfl rfl fun cdv A outer s H E hr =>
    (dss_cons (ds_if (dt_c1 (c_gt hr.units) (de_item (dv 0) de_int) de_int)
    (dss_cons (ds_set (i := 2) (de_mod (de_item (dv 0) de_int) (dv 1)) sc_law_out.nd)
    (dss_cons (ds_sub set_list (sd_list _) (dv 0) de_int (de_div (de_item (dv 0) de_int) (dv 1)))
    (dss_one (ds_ret (dv 2)))))
    dss_nil)
    (dss_cons (ds_sub set_list (sd_list _) (dv 0) de_int (de_mod (de_addV (de_mul (de_item (dv 0) de_int) de_int) de_int) de_int))
    (dss_one (ds_ret (de_mod (de_div (de_mod (de_mul (de_item (dv 0) de_int) (de_addV (de_div (de_item (dv 0) de_int) de_int) de_int)) de_int) de_int) (dv 1))))))
theorem c_law_out_2 (T : Txt K mg e) : DefK P w K mg base 1 "_law_out" (w_law_out e) [] := by
    obtain ⟨f, fd, dvs, hdd, F, hm⟩ := T.f_law_out
    have hdl : dvs.length = 0 := (hdd.rel (fun _ => none)).length
    obtain ⟨ds, hv, hb⟩ : ∃ ds, Vals (dvs.drop 0) ds ∧ Binds K fd ["_law_bag_here", "_law_many"] ds := by
      obtain rfl : dvs = [] := List.eq_nil_of_length_eq_zero hdl
      exact ⟨[], .nil, F.bindsN (ps := ["_law_bag_here", "_law_many"]) fun _ _ _ _ _ _ us hl => match us, hl with | [_, _], _ => rfl⟩
    exact ⟨f, fd, _, _, _, ok_law_out T F, hm, F.kp, hb, hv, hdd.drop 0, wpf_len⟩
theorem sc_law_wishes : FnScope N_law_wishes ["_law_bag_here", "_law_many"] (defScope s_law_wishes) := ⟨rfl, rfl, rfl, by decide +kernel, rfl, by decide +kernel, by decide +kernel⟩
theorem ok_law_wishes (T : Txt K mg e) {f : Addr} {fd : FuncData} {dvs : List V} (F : L2.FunD K "_law_wishes" "_law_wishes" (defArgs s_law_wishes) (defBody s_law_wishes) (defScope s_law_wishes) dvs [] f fd) : FnK P w K mg base 2 f fd ["_law_bag_here", "_law_many"] (w_law_wishes e) :=
  fnd (k := 1) F sc_law_wishes rfl rfl fun cdv A outer s H E hr =>
    (dss_cons (ds_set (i := 2) (de_lst da_nil) sc_law_wishes.nd)
    (dss_cons (ds_for (passes_of rfl) rfl (di_range1 T.n_range (da_cons (dv 1) da_nil)) (tg_one sc_law_wishes.nd 3)
    (dss_cons (ds_set (i := 4) (de_lst da_nil) sc_law_wishes.nd)
    (dss_cons (ds_for (passes_of rfl) rfl (di_seq (de_lstV (da_cons de_str (da_cons de_str (da_cons de_str (da_cons de_str da_nil)))))) (tg_one sc_law_wishes.nd 5)
    (dss_one (ds_if (dt_c1 (c_eqX hr.units) (dk_call (c_law_out_2 T) hr (da_cons (dv 0) (da_cons de_int da_nil))) de_int)
    (dss_one (ds_expr (de_app (dv 4) (da_cons (de_tup (da_cons (dv 5) (da_cons (de_item (de_lstV (da_cons de_str (da_cons de_str da_nil))) (dk_call (c_law_out_2 T) hr (da_cons (dv 0) (da_cons de_int da_nil)))) da_nil))) da_nil))))
    dss_nil)))
    (dss_one (ds_expr (de_app (dv 2) (da_cons (de_item (de_lstV (da_cons (dv 4) (da_cons (de_revV (dv 4)) da_nil))) (dk_call (c_law_out_2 T) hr (da_cons (dv 0) (da_cons de_int da_nil)))) da_nil)))))))
    (dss_one (ds_ret (de_frz (dv 2))))))
theorem c_law_wishes_2 (T : Txt K mg e) : DefK P w K mg base 2 "_law_wishes" (w_law_wishes e) [] := by
    obtain ⟨f, fd, dvs, hdd, F, hm⟩ := T.f_law_wishes
    have hdl : dvs.length = 0 := (hdd.rel (fun _ => none)).length
    obtain ⟨ds, hv, hb⟩ : ∃ ds, Vals (dvs.drop 0) ds ∧ Binds K fd ["_law_bag_here", "_law_many"] ds := by
      obtain rfl : dvs = [] := List.eq_nil_of_length_eq_zero hdl
      exact ⟨[], .nil, F.bindsN (ps := ["_law_bag_here", "_law_many"]) fun _ _ _ _ _ _ us hl => match us, hl with | [_, _], _ => rfl⟩
    exact ⟨f, fd, _, _, _, ok_law_wishes T F, hm, F.kp, hb, hv, hdd.drop 0, wpf_len⟩
theorem sc_Holds_init : FnScope N_Holds_init ["self"] (defScope s_Holds_init) := ⟨rfl, rfl, rfl, by decide +kernel, rfl, by decide +kernel, by decide +kernel⟩
theorem ok_Holds_init (T : Txt K mg e) {f : Addr} {fd : FuncData} {dvs : List V} (F : L2.FunD K "__init__" "Holds.__init__" (defArgs s_Holds_init) (defBody s_Holds_init) (defScope s_Holds_init) dvs [] f fd) : FnK P w K mg base 1 f fd ["self"] (w_Holds_init e) :=
  fnd (k := 0) F sc_Holds_init rfl rfl fun cdv A outer s H E hr =>
    (dss_cons (ds_fld T.hok (dv 0) de_dic)
    (dss_cons (ds_fld T.hok (dv 0) de_dic)
    (dss_cons (ds_fld T.hok (dv 0) de_dic)
    (dss_cons (ds_fld T.hok (dv 0) de_dic)
    (dss_one (ds_fld T.hok (dv 0) de_dic))))))
theorem n_Holds_1 (T : Txt K mg e) : MakK P w K mg base 1 "Holds" e.C_Holds (w_Holds_init e) [] := by
    obtain ⟨f, fd, dvs, hdd, F, hm⟩ := T.f_Holds_init
    have hdl : dvs.length = 0 := (hdd.rel (fun _ => none)).length
    obtain ⟨ds, hv, hb⟩ : ∃ ds, Vals (dvs.drop 0) ds ∧ Binds K fd ["self"] ds := by
      obtain rfl : dvs = [] := List.eq_nil_of_length_eq_zero hdl
      exact ⟨[], .nil, F.bindsN (ps := ["self"]) fun _ _ _ _ _ _ us hl => match us, hl with | [_], _ => rfl⟩
    exact ⟨f, fd, _, _, _, ⟨T.mk_Holds.1, hm.at_, hm.fn, T.mk_Holds.2⟩, ok_Holds_init T F, T.mg_Holds, hb, hv, hdd.drop 0, wpf_len⟩
theorem sc_Holds_free : FnScope N_Holds_free ["self", "dealing", "forget"] (defScope s_Holds_free) := ⟨rfl, rfl, rfl, by decide +kernel, rfl, by decide +kernel, by decide +kernel⟩
theorem ok_Holds_free (T : Txt K mg e) {f : Addr} {fd : FuncData} {dvs : List V} (F : L2.FunD K "free" "Holds.free" (defArgs s_Holds_free) (defBody s_Holds_free) (defScope s_Holds_free) dvs [] f fd) : FnK P w K mg base 1 f fd ["self", "dealing", "forget"] (w_Holds_free e) :=
  fnd (k := 0) F sc_Holds_free rfl rfl fun cdv A outer s H E hr =>
    (dss_cons (ds_for (passes_of rfl) rfl (di_seq (bc_listDic rfl T.n_list (da_cons (de_fld T.hok (dv 0)) da_nil))) (tg_one sc_Holds_free.nd 3)
    (dss_cons (ds_expr (de_pop2 (de_dget hr.units (de_fld T.hok (dv 0)) (dv 3)) (dv 1) de_non ⟨rfl, rfl, rfl, rfl⟩))
    (dss_one (ds_if (dt_eqE hr.units (de_dget hr.units (de_fld T.hok (dv 0)) (dv 3)))
    (dss_one (ds_expr (de_pop1 (de_fld T.hok (dv 0)) (dv 3) ⟨rfl, rfl, rfl, rfl⟩)))
    dss_nil))))
    (dss_cons (ds_expr (de_pop2 (de_fld T.hok (dv 0)) (dv 1) de_non ⟨rfl, rfl, rfl, rfl⟩))
    (dss_cons (ds_expr (de_pop2 (de_fld T.hok (dv 0)) (dv 1) de_non ⟨rfl, rfl, rfl, rfl⟩))
    (dss_cons (ds_expr (de_pop2 (de_fld T.hok (dv 0)) (dv 1) de_non ⟨rfl, rfl, rfl, rfl⟩))
    (dss_one (ds_if (dt_tru (dv 2))
    (dss_one (ds_expr (de_pop2 (de_fld T.hok (dv 0)) (dv 1) de_non ⟨rfl, rfl, rfl, rfl⟩)))
    dss_nil))))))
theorem mk_Holds_free_1_forget (T : Txt K mg e) : MetKw P w K mg base 1 "free" e.C_Holds (w_Holds_free e) 1 ["forget"] [0, 1, 2] [] := by
    obtain ⟨f, fd, dvs, kvs, hdd, hkl, hkd, F, hm⟩ := T.f_Holds_free
    obtain ⟨v0, rfl⟩ : ∃ v0, kvs = [v0] := (match kvs, hkl with | [_], _ => ⟨_, rfl⟩)
    have hdl : dvs.length = 0 := (hdd.rel (fun _ => none)).length
    obtain rfl : dvs = [] := List.eq_nil_of_length_eq_zero hdl
    exact ⟨f, fd, _, T.cl_Holds, hm, ok_Holds_free T (FunD.nokw F), kwb_told F 2 ["forget"] [0, 1, 2] (fun kV doc pm an cdv ct us ws h1 h2 => match us, ws, h1, h2 with | [_, _], [_], _, _ => rfl), wpf_len⟩
theorem m_Holds_free_2 (T : Txt K mg e) : MetK P w K mg base 1 "free" e.C_Holds (w_Holds_free e) [.bl false] := by
    obtain ⟨f, fd, dvs, kvs, hdd, hkl, hkd, F, hm⟩ := T.f_Holds_free
    obtain ⟨v0, rfl⟩ : ∃ v0, kvs = [v0] := (match kvs, hkl with | [_], _ => ⟨_, rfl⟩)
    have hdl : dvs.length = 0 := (hdd.rel (fun _ => none)).length
    obtain ⟨ds, hv, hb⟩ : ∃ ds, Vals (dvs.drop 0 ++ [v0]) ds ∧ Binds K fd ["self", "dealing", "forget"] ds := by
      obtain rfl : dvs = [] := List.eq_nil_of_length_eq_zero hdl
      exact F.binds0 (ps := ["self", "dealing", "forget"]) 2 (by simp) rfl (fun D doc pm an cdv ct us ks h1 h2 => match us, ks, h1, h2 with | [_, _], [_], _, _ => ⟨_, _, _, _, _, _, rfl, rfl, rfl⟩)
    exact ⟨f, fd, _, _, _, T.cl_Holds, hm, ok_Holds_free T (FunD.nokw F), hb, hv, (hdd.drop 0).app hkd, wpf_len⟩
theorem sc_Holds_called_off : FnScope N_Holds_called_off ["self"] (defScope s_Holds_called_off) := ⟨rfl, rfl, rfl, by decide +kernel, rfl, by decide +kernel, by decide +kernel⟩
theorem ok_Holds_called_off (T : Txt K mg e) {f : Addr} {fd : FuncData} {dvs : List V} (F : L2.FunD K "called_off" "Holds.called_off" (defArgs s_Holds_called_off) (defBody s_Holds_called_off) (defScope s_Holds_called_off) dvs [] f fd) : FnK P w K mg base 1 f fd ["self"] (w_Holds_called_off e) :=
  fnd (k := 0) F sc_Holds_called_off rfl rfl fun cdv A outer s H E hr =>
    (dss_one (ds_ret (bc_sortDic rfl T.n_sorted (da_cons (de_fld T.hok (dv 0)) da_nil))))
theorem m_Holds_called_off_1 (T : Txt K mg e) : MetK P w K mg base 1 "called_off" e.C_Holds (w_Holds_called_off e) [] := by
    obtain ⟨f, fd, dvs, hdd, F, hm⟩ := T.f_Holds_called_off
    have hdl : dvs.length = 0 := (hdd.rel (fun _ => none)).length
    obtain ⟨ds, hv, hb⟩ : ∃ ds, Vals (dvs.drop 0) ds ∧ Binds K fd ["self"] ds := by
      obtain rfl : dvs = [] := List.eq_nil_of_length_eq_zero hdl
      exact ⟨[], .nil, F.bindsN (ps := ["self"]) fun _ _ _ _ _ _ us hl => match us, hl with | [_], _ => rfl⟩
    exact ⟨f, fd, _, _, _, T.cl_Holds, hm, ok_Holds_called_off T F, hb, hv, hdd.drop 0, wpf_len⟩
theorem sc_Holds_pledge : FnScope N_Holds_pledge ["self", "dealing"] (defScope s_Holds_pledge) := ⟨rfl, rfl, rfl, by decide +kernel, rfl, by decide +kernel, by decide +kernel⟩
theorem ok_Holds_pledge (T : Txt K mg e) {f : Addr} {fd : FuncData} {dvs : List V} (F : L2.FunD K "pledge" "Holds.pledge" (defArgs s_Holds_pledge) (defBody s_Holds_pledge) (defScope s_Holds_pledge) dvs [] f fd) : FnK P w K mg base 1 f fd ["self", "dealing"] (w_Holds_pledge e) :=
  fnd (k := 0) F sc_Holds_pledge rfl rfl fun cdv A outer s H E hr =>
    (dss_cons (ds_expr (de_pop2 (de_fld T.hok (dv 0)) (dv 1) de_non ⟨rfl, rfl, rfl, rfl⟩))
    (dss_one (ds_dict hr.units (de_fld T.hok (dv 0)) (dv 1) de_bl)))
theorem m_Holds_pledge_2 (T : Txt K mg e) : MetK P w K mg base 1 "pledge" e.C_Holds (w_Holds_pledge e) [] := by
    obtain ⟨f, fd, dvs, hdd, F, hm⟩ := T.f_Holds_pledge
    have hdl : dvs.length = 0 := (hdd.rel (fun _ => none)).length
    obtain ⟨ds, hv, hb⟩ : ∃ ds, Vals (dvs.drop 0) ds ∧ Binds K fd ["self", "dealing"] ds := by
      obtain rfl : dvs = [] := List.eq_nil_of_length_eq_zero hdl
      exact ⟨[], .nil, F.bindsN (ps := ["self", "dealing"]) fun _ _ _ _ _ _ us hl => match us, hl with | [_, _], _ => rfl⟩
    exact ⟨f, fd, _, _, _, T.cl_Holds, hm, ok_Holds_pledge T F, hb, hv, hdd.drop 0, wpf_len⟩
theorem sc_Holds_call_off : FnScope N_Holds_call_off ["self", "dealing"] (defScope s_Holds_call_off) := ⟨rfl, rfl, rfl, by decide +kernel, rfl, by decide +kernel, by decide +kernel⟩
theorem ok_Holds_call_off (T : Txt K mg e) {f : Addr} {fd : FuncData} {dvs : List V} (F : L2.FunD K "call_off" "Holds.call_off" (defArgs s_Holds_call_off) (defBody s_Holds_call_off) (defScope s_Holds_call_off) dvs [] f fd) : FnK P w K mg base 2 f fd ["self", "dealing"] (w_Holds_call_off e) :=
  fnd (k := 1) F sc_Holds_call_off rfl rfl fun cdv A outer s H E hr =>
    (dss_cons (ds_expr (de_meth hr (Mets.all (metsC (m_Holds_free_2 T) .nil)) (dv 0) (da_cons (dv 1) da_nil)))
    (dss_one (ds_dict hr.units (de_fld T.hok (dv 0)) (dv 1) de_bl)))
theorem m_Holds_call_off_2 (T : Txt K mg e) : MetK P w K mg base 2 "call_off" e.C_Holds (w_Holds_call_off e) [] := by
    obtain ⟨f, fd, dvs, hdd, F, hm⟩ := T.f_Holds_call_off
    have hdl : dvs.length = 0 := (hdd.rel (fun _ => none)).length
    obtain ⟨ds, hv, hb⟩ : ∃ ds, Vals (dvs.drop 0) ds ∧ Binds K fd ["self", "dealing"] ds := by
      obtain rfl : dvs = [] := List.eq_nil_of_length_eq_zero hdl
      exact ⟨[], .nil, F.bindsN (ps := ["self", "dealing"]) fun _ _ _ _ _ _ us hl => match us, hl with | [_, _], _ => rfl⟩
    exact ⟨f, fd, _, _, _, T.cl_Holds, hm, ok_Holds_call_off T F, hb, hv, hdd.drop 0, wpf_len⟩
theorem sc_Holds_bars : FnScope N_Holds_bars ["self", "dealing", "key", "mode"] (defScope s_Holds_bars) := ⟨rfl, rfl, rfl, by decide +kernel, rfl, by decide +kernel, by decide +kernel⟩
theorem ok_Holds_bars (T : Txt K mg e) {f : Addr} {fd : FuncData} {dvs : List V} (F : L2.FunD K "bars" "Holds.bars" (defArgs s_Holds_bars) (defBody s_Holds_bars) (defScope s_Holds_bars) dvs [] f fd) : FnK P w K mg base 1 f fd ["self", "dealing", "key", "mode"] (w_Holds_bars e) :=
  fnd (k := 0) F sc_Holds_bars rfl rfl fun cdv A outer s H E hr =>
    (dss_cons (ds_set (i := 4) (de_get2 hr.units (de_fld T.hok (dv 0)) (dv 2) de_dic ⟨rfl, rfl, rfl, rfl⟩) sc_Holds_bars.nd)
    (dss_one (ds_ret (bc_sort T.n_sorted (da_cons (de_lock (de_lcV (own := [("other", 5), ("how", 6)]) rfl sc_Holds_bars.nd (di_items (dv 4)) (blkOk_by (N := N_Holds_bars) (sc := defScope s_Holds_bars) (by decide +kernel)) (fun _ _ _ _ _ => pg_tup rfl (pgs_cons (pg_name (i := 5) sc_Holds_bars.nd rfl (Or.inl rfl)) (pgs_cons (pg_name (i := 6) sc_Holds_bars.nd rfl (Or.inl rfl)) pgs_nil))) tr_many (by decide) (fun _ _ _ _ _ => (dts_cons (dt_c1 (c_neX hr.units) (dv 5) (dv 1)) (dts_one (dt_c1 c_inT (gc_WRITE T) (de_tup (da_cons (dv 6) (da_cons (dv 3) da_nil))))))) (fun _ _ _ _ _ => (dv 5)))) da_nil)))))
theorem m_Holds_bars_4 (T : Txt K mg e) : MetK P w K mg base 1 "bars" e.C_Holds (w_Holds_bars e) [] := by
    obtain ⟨f, fd, dvs, hdd, F, hm⟩ := T.f_Holds_bars
    have hdl : dvs.length = 0 := (hdd.rel (fun _ => none)).length
    obtain ⟨ds, hv, hb⟩ : ∃ ds, Vals (dvs.drop 0) ds ∧ Binds K fd ["self", "dealing", "key", "mode"] ds := by
      obtain rfl : dvs = [] := List.eq_nil_of_length_eq_zero hdl
      exact ⟨[], .nil, F.bindsN (ps := ["self", "dealing", "key", "mode"]) fun _ _ _ _ _ _ us hl => match us, hl with | [_, _, _, _], _ => rfl⟩
    exact ⟨f, fd, _, _, _, T.cl_Holds, hm, ok_Holds_bars T F, hb, hv, hdd.drop 0, wpf_len⟩
theorem sc_Holds_rank : FnScope N_Holds_rank ["self", "dealing"] (defScope s_Holds_rank) := ⟨rfl, rfl, rfl, by decide +kernel, rfl, by decide +kernel, by decide +kernel⟩
theorem ok_Holds_rank (T : Txt K mg e) {f : Addr} {fd : FuncData} {dvs : List V} (F : L2.FunD K "rank" "Holds.rank" (defArgs s_Holds_rank) (defBody s_Holds_rank) (defScope s_Holds_rank) dvs [] f fd) : FnK P w K mg base 1 f fd ["self", "dealing"] (w_Holds_rank e) :=
  fnd (k := 0) F sc_Holds_rank rfl rfl fun cdv A outer s H E hr =>
    (dss_one (ds_ret (de_tup (da_cons (de_get2 hr.units (de_fld T.hok (dv 0)) (dv 1) (dv 1) ⟨rfl, rfl, rfl, rfl⟩) (da_cons (dv 1) da_nil)))))
theorem m_Holds_rank_2 (T : Txt K mg e) : MetK P w K mg base 1 "rank" e.C_Holds (w_Holds_rank e) [] := by
    obtain ⟨f, fd, dvs, hdd, F, hm⟩ := T.f_Holds_rank
    have hdl : dvs.length = 0 := (hdd.rel (fun _ => none)).length
    obtain ⟨ds, hv, hb⟩ : ∃ ds, Vals (dvs.drop 0) ds ∧ Binds K fd ["self", "dealing"] ds := by
      obtain rfl : dvs = [] := List.eq_nil_of_length_eq_zero hdl
      exact ⟨[], .nil, F.bindsN (ps := ["self", "dealing"]) fun _ _ _ _ _ _ us hl => match us, hl with | [_, _], _ => rfl⟩
    exact ⟨f, fd, _, _, _, T.cl_Holds, hm, ok_Holds_rank T F, hb, hv, hdd.drop 0, wpf_len⟩
theorem sc_Holds_can_call_off : FnScope N_Holds_can_call_off ["self", "dealing", "other"] (defScope s_Holds_can_call_off) := ⟨rfl, rfl, rfl, by decide +kernel, rfl, by decide +kernel, by decide +kernel⟩
theorem ok_Holds_can_call_off (T : Txt K mg e) {f : Addr} {fd : FuncData} {dvs : List V} (F : L2.FunD K "can_call_off" "Holds.can_call_off" (defArgs s_Holds_can_call_off) (defBody s_Holds_can_call_off) (defScope s_Holds_can_call_off) dvs [] f fd) : FnK P w K mg base 2 f fd ["self", "dealing", "other"] (w_Holds_can_call_off e) :=
  fnd (k := 1) F sc_Holds_can_call_off rfl rfl fun cdv A outer s H E hr =>
    (dss_one (ds_ret (de_and (de_c1 (c_dnotin hr.units) (dv 2) (de_fld T.hok (dv 0))) (de_one (de_c1 (c_gtT hr.units) (de_meth hr (Mets.all (metsC (m_Holds_rank_2 T) .nil)) (dv 0) (da_cons (dv 2) da_nil)) (de_meth hr (Mets.all (metsC (m_Holds_rank_2 T) .nil)) (dv 0) (da_cons (dv 1) da_nil)))))))
theorem m_Holds_can_call_off_3 (T : Txt K mg e) : MetK P w K mg base 2 "can_call_off" e.C_Holds (w_Holds_can_call_off e) [] := by
    obtain ⟨f, fd, dvs, hdd, F, hm⟩ := T.f_Holds_can_call_off
    have hdl : dvs.length = 0 := (hdd.rel (fun _ => none)).length
    obtain ⟨ds, hv, hb⟩ : ∃ ds, Vals (dvs.drop 0) ds ∧ Binds K fd ["self", "dealing", "other"] ds := by
      obtain rfl : dvs = [] := List.eq_nil_of_length_eq_zero hdl
      exact ⟨[], .nil, F.bindsN (ps := ["self", "dealing", "other"]) fun _ _ _ _ _ _ us hl => match us, hl with | [_, _, _], _ => rfl⟩
    exact ⟨f, fd, _, _, _, T.cl_Holds, hm, ok_Holds_can_call_off T F, hb, hv, hdd.drop 0, wpf_len⟩
theorem sc_Holds_ask : FnScope N_Holds_ask ["self", "dealing", "key", "mode", "age"] (defScope s_Holds_ask) := ⟨rfl, rfl, rfl, by decide +kernel, rfl, by decide +kernel, by decide +kernel⟩
theorem ok_Holds_ask (T : Txt K mg e) {f : Addr} {fd : FuncData} {dvs : List V} (F : L2.FunD K "ask" "Holds.ask" (defArgs s_Holds_ask) (defBody s_Holds_ask) (defScope s_Holds_ask) dvs [] f fd) : FnK P w K mg base 3 f fd ["self", "dealing", "key", "mode", "age"] (w_Holds_ask e) :=
  fnd (k := 2) F sc_Holds_ask rfl rfl fun cdv A outer s H E hr =>
    (dss_cons (ds_if (dt_w (dtw_or (dt_c1 (c_din hr.units) (dv 1) (de_fld T.hok (dv 0))) (dtw_or1 (dt_c1 (c_din hr.units) (dv 1) (de_fld T.hok (dv 0))))))
    (dss_one (ds_raiseX (ri_Off T) hr (da_cons (dv 1) da_nil) rfl))
    dss_nil)
    (dss_consJ (ds_if (dt_c1 (c_dnotin hr.units) (dv 1) (de_fld T.hok (dv 0)))
    (dss_one (ds_dict hr.units (de_fld T.hok (dv 0)) (dv 1) (de_ifExp (dt_c1 (c_isX hr.units) (dv 4) de_non) (dv 1) (dv 4))))
    dss_nil)
    (dss_cons (ds_if (dt_c1 c_inT (de_get1 hr.units (de_get2 hr.units (de_fld T.hok (dv 0)) (dv 2) de_dic ⟨rfl, rfl, rfl, rfl⟩) (dv 1) ⟨rfl, rfl, rfl, rfl⟩) (de_tup (da_cons (dv 3) (da_cons (gc_WRITE T) da_nil))))
    (dss_cons (ds_expr (de_pop2 (de_fld T.hok (dv 0)) (dv 1) de_non ⟨rfl, rfl, rfl, rfl⟩))
    (dss_one (ds_ret (de_tup (da_cons de_str (da_cons (de_lstV da_nil) da_nil))))))
    dss_nil)
    (dss_cons (ds_setLcV (i := 5) (own := [("other", 6)]) rfl sc_Holds_ask.nd rfl rfl (sw_true rfl rfl rfl (by decide +kernel)) (di_seq (de_meth hr (Mets.all (metsC (m_Holds_bars_4 T) .nil)) (dv 0) (da_cons (dv 1) (da_cons (dv 2) (da_cons (dv 3) da_nil))))) (blkOk_by (N := N_Holds_ask) (sc := defScope s_Holds_ask) (by decide +kernel)) (fun _ _ _ _ _ => pg_name (i := 6) sc_Holds_ask.nd rfl (Or.inl rfl)) tr_one (by decide) (fun _ _ _ _ _ => (dts_one (dt_tru (de_meth hr (Mets.all (metsC (m_Holds_can_call_off_3 T) .nil)) (dv 0) (da_cons (dv 1) (da_cons (dv 6) da_nil)))))) (fun _ _ _ _ _ => (dv 6)))
    (dss_cons (ds_for (passes_of rfl) rfl (di_seq (dv 5)) (tg_one sc_Holds_ask.nd 6)
    (dss_one (ds_expr (de_meth hr (Mets.all (metsC (m_Holds_call_off_2 T) .nil)) (dv 0) (da_cons (dv 6) da_nil)))))
    (dss_cons (ds_if (dt_c1 (c_neX hr.units) (de_meth hr (Mets.all (metsC (m_Holds_bars_4 T) .nil)) (dv 0) (da_cons (dv 1) (da_cons (dv 2) (da_cons (dv 3) da_nil)))) (de_lstV da_nil))
    (dss_cons (ds_dict hr.units (de_fld T.hok (dv 0)) (dv 1) (de_tup (da_cons (dv 2) (da_cons (dv 3) da_nil))))
    (dss_one (ds_ret (de_tup (da_cons de_str (da_cons (dv 5) da_nil))))))
    dss_nil)
    (dss_cons (ds_expr (de_pop2 (de_fld T.hok (dv 0)) (dv 1) de_non ⟨rfl, rfl, rfl, rfl⟩))
    (dss_cons (ds_dict hr.units (de_setd (de_fld T.hok (dv 0)) (dv 2) de_dic ⟨rfl, rfl, rfl, rfl⟩) (dv 1) (dv 3))
    (dss_one (ds_ret (de_tup (da_cons de_str (da_cons (dv 5) da_nil)))))))))))))
theorem m_Holds_ask_4 (T : Txt K mg e) : MetK P w K mg base 3 "ask" e.C_Holds (w_Holds_ask e) [.non] := by
    obtain ⟨f, fd, dvs, kvs, hdd, hkl, hkd, F, hm⟩ := T.f_Holds_ask
    obtain ⟨v0, rfl⟩ : ∃ v0, kvs = [v0] := (match kvs, hkl with | [_], _ => ⟨_, rfl⟩)
    have hdl : dvs.length = 0 := (hdd.rel (fun _ => none)).length
    obtain ⟨ds, hv, hb⟩ : ∃ ds, Vals (dvs.drop 0 ++ [v0]) ds ∧ Binds K fd ["self", "dealing", "key", "mode", "age"] ds := by
      obtain rfl : dvs = [] := List.eq_nil_of_length_eq_zero hdl
      exact F.binds0 (ps := ["self", "dealing", "key", "mode", "age"]) 4 (by simp) rfl (fun D doc pm an cdv ct us ks h1 h2 => match us, ks, h1, h2 with | [_, _, _, _], [_], _, _ => ⟨_, _, _, _, _, _, rfl, rfl, rfl⟩)
    exact ⟨f, fd, _, _, _, T.cl_Holds, hm, ok_Holds_ask T (FunD.nokw F), hb, hv, (hdd.drop 0).app hkd, wpf_len⟩
theorem sc_law_round : FnScope N_law_round ["_law_holds", "_law_wishes_here", "_law_stands"] (defScope s_law_round) := ⟨rfl, rfl, rfl, by decide +kernel, rfl, by decide +kernel, by decide +kernel⟩
theorem ok_law_round (T : Txt K mg e) {f : Addr} {fd : FuncData} {dvs : List V} (F : L2.FunD K "_law_round" "_law_round" (defArgs s_law_round) (defBody s_law_round) (defScope s_law_round) dvs [] f fd) : FnK P w K mg base 4 f fd ["_law_holds", "_law_wishes_here", "_law_stands"] (w_law_round e) :=
  fnd (k := 3) F sc_law_round rfl rfl fun cdv A outer s H E hr =>
    (dss_one (ds_for (passes_of rfl) rfl (di_range1 T.n_range (da_cons (bc_len T.n_len (da_cons (dv 1) da_nil)) da_nil)) (tg_one sc_law_round.nd 3)
    (dss_one (ds_if (dt_c1 (c_eqX hr.units) (de_item (dv 2) (dv 3)) (de_neg de_int))
    (dss_cons (ds_expr (de_meth hr (Mets.all (metsC (m_Holds_free_2 T) .nil)) (dv 0) (da_cons (dv 3) da_nil)))
    (dss_one (ds_sub set_list (sd_list _) (dv 2) (dv 3) (de_neg de_int))))
    (dss_one (ds_if (dt_c1 (c_ge hr.units) (de_item (dv 2) (dv 3)) de_int)
    (dss_consJ (ds_if (dt_c1 c_inI (dv 3) (de_meth0 hr (Mets.all (metsC (m_Holds_called_off_1 T) .nil)) (dv 0)))
    (dss_cons (ds_expr (de_methK (mk_Holds_free_1_forget T) hr (dv 0) (da_cons (dv 3) da_nil) (dkw_cons de_bl dkw_nil)))
    (dss_one (ds_sub set_list (sd_list _) (dv 2) (dv 3) de_int)))
    dss_nil)
    (dss_consJ (ds_if (dt_c1 (c_lt hr.units) (de_item (dv 2) (dv 3)) (bc_len T.n_len (da_cons (de_item (dv 1) (dv 3)) da_nil)))
    (dss_cons (ds_unp (is := [4, 5]) (de_item (de_item (dv 1) (dv 3)) (de_item (dv 2) (dv 3))) rfl (.one sc_law_round.nd 4 (.one sc_law_round.nd 5 .nil)))
    (dss_one (ds_if (dt_c1 (c_eqX hr.units) (de_item (de_meth hr (Mets.all (metsC (m_Holds_ask_4 T) .nil)) (dv 0) (da_cons (dv 3) (da_cons (dv 4) (da_cons (dv 5) da_nil)))) de_int) de_str)
    (dss_one (ds_sub set_list (sd_list _) (dv 2) (dv 3) (de_addV (de_item (dv 2) (dv 3)) de_int)))
    dss_nil)))
    dss_nil)
    (dss_one (ds_if (dt_c1 (c_eqX hr.units) (de_item (dv 2) (dv 3)) (bc_len T.n_len (da_cons (de_item (dv 1) (dv 3)) da_nil)))
    (dss_cons (ds_expr (de_meth hr (Mets.all (metsC (m_Holds_pledge_2 T) .nil)) (dv 0) (da_cons (dv 3) da_nil)))
    (dss_one (ds_sub set_list (sd_list _) (dv 2) (dv 3) (de_neg de_int))))
    dss_nil))))
    dss_nil))))))
theorem c_law_round_3 (T : Txt K mg e) : DefK P w K mg base 4 "_law_round" (w_law_round e) [] := by
    obtain ⟨f, fd, dvs, hdd, F, hm⟩ := T.f_law_round
    have hdl : dvs.length = 0 := (hdd.rel (fun _ => none)).length
    obtain ⟨ds, hv, hb⟩ : ∃ ds, Vals (dvs.drop 0) ds ∧ Binds K fd ["_law_holds", "_law_wishes_here", "_law_stands"] ds := by
      obtain rfl : dvs = [] := List.eq_nil_of_length_eq_zero hdl
      exact ⟨[], .nil, F.bindsN (ps := ["_law_holds", "_law_wishes_here", "_law_stands"]) fun _ _ _ _ _ _ us hl => match us, hl with | [_, _, _], _ => rfl⟩
    exact ⟨f, fd, _, _, _, ok_law_round T F, hm, F.kp, hb, hv, hdd.drop 0, wpf_len⟩
theorem sc_Holds_waiting : FnScope N_Holds_waiting ["self"] (defScope s_Holds_waiting) := ⟨rfl, rfl, rfl, by decide +kernel, rfl, by decide +kernel, by decide +kernel⟩
theorem ok_Holds_waiting (T : Txt K mg e) {f : Addr} {fd : FuncData} {dvs : List V} (F : L2.FunD K "waiting" "Holds.waiting" (defArgs s_Holds_waiting) (defBody s_Holds_waiting) (defScope s_Holds_waiting) dvs [] f fd) : FnK P w K mg base 3 f fd ["self"] (w_Holds_waiting e) :=
  fnd (k := 2) F sc_Holds_waiting rfl rfl fun cdv A outer s H E hr =>
    (dss_cons (ds_set (i := 1) de_dic sc_Holds_waiting.nd)
    (dss_cons (ds_for (passes_of rfl) rfl (di_seq (bc_sortDic rfl T.n_sorted (da_cons (de_fld T.hok (dv 0)) da_nil))) (tg_one sc_Holds_waiting.nd 2)
    (dss_cons (ds_unp (is := [3, 4]) (de_dget hr.units (de_fld T.hok (dv 0)) (dv 2)) rfl (.one sc_Holds_waiting.nd 3 (.one sc_Holds_waiting.nd 4 .nil)))
    (dss_cons (ds_setLcV (i := 5) (own := [("other", 6)]) rfl sc_Holds_waiting.nd rfl rfl (sw_true rfl rfl rfl (by decide +kernel)) (di_seq (de_meth hr (Mets.all (metsC (m_Holds_bars_4 T) .nil)) (dv 0) (da_cons (dv 2) (da_cons (dv 3) (da_cons (dv 4) da_nil))))) (blkOk_by (N := N_Holds_waiting) (sc := defScope s_Holds_waiting) (by decide +kernel)) (fun _ _ _ _ _ => pg_name (i := 6) sc_Holds_waiting.nd rfl (Or.inl rfl)) tr_one (by decide) (fun _ _ _ _ _ => (dts_one (dt_not (dt_tru (de_meth hr (Mets.all (metsC (m_Holds_can_call_off_3 T) .nil)) (dv 0) (da_cons (dv 2) (da_cons (dv 6) da_nil))))))) (fun _ _ _ _ _ => (dv 6)))
    (dss_one (ds_if (dt_c1 (c_neX hr.units) (dv 5) (de_lstV da_nil))
    (dss_one (ds_dict hr.units (dv 1) (dv 2) (dv 5)))
    dss_nil)))))
    (dss_one (ds_ret (de_frz (dv 1))))))
theorem m_Holds_waiting_1 (T : Txt K mg e) : MetK P w K mg base 3 "waiting" e.C_Holds (w_Holds_waiting e) [] := by
    obtain ⟨f, fd, dvs, hdd, F, hm⟩ := T.f_Holds_waiting
    have hdl : dvs.length = 0 := (hdd.rel (fun _ => none)).length
    obtain ⟨ds, hv, hb⟩ : ∃ ds, Vals (dvs.drop 0) ds ∧ Binds K fd ["self"] ds := by
      obtain rfl : dvs = [] := List.eq_nil_of_length_eq_zero hdl
      exact ⟨[], .nil, F.bindsN (ps := ["self"]) fun _ _ _ _ _ _ us hl => match us, hl with | [_], _ => rfl⟩
    exact ⟨f, fd, _, _, _, T.cl_Holds, hm, ok_Holds_waiting T F, hb, hv, hdd.drop 0, wpf_len⟩
theorem sc_Holds_pledged : FnScope N_Holds_pledged ["self"] (defScope s_Holds_pledged) := ⟨rfl, rfl, rfl, by decide +kernel, rfl, by decide +kernel, by decide +kernel⟩
theorem ok_Holds_pledged (T : Txt K mg e) {f : Addr} {fd : FuncData} {dvs : List V} (F : L2.FunD K "pledged" "Holds.pledged" (defArgs s_Holds_pledged) (defBody s_Holds_pledged) (defScope s_Holds_pledged) dvs [] f fd) : FnK P w K mg base 1 f fd ["self"] (w_Holds_pledged e) :=
  fnd (k := 0) F sc_Holds_pledged rfl rfl fun cdv A outer s H E hr =>
    (dss_one (ds_ret (bc_sortDic rfl T.n_sorted (da_cons (de_fld T.hok (dv 0)) da_nil))))
theorem m_Holds_pledged_1 (T : Txt K mg e) : MetK P w K mg base 1 "pledged" e.C_Holds (w_Holds_pledged e) [] := by
    obtain ⟨f, fd, dvs, hdd, F, hm⟩ := T.f_Holds_pledged
    have hdl : dvs.length = 0 := (hdd.rel (fun _ => none)).length
    obtain ⟨ds, hv, hb⟩ : ∃ ds, Vals (dvs.drop 0) ds ∧ Binds K fd ["self"] ds := by
      obtain rfl : dvs = [] := List.eq_nil_of_length_eq_zero hdl
      exact ⟨[], .nil, F.bindsN (ps := ["self"]) fun _ _ _ _ _ _ us hl => match us, hl with | [_], _ => rfl⟩
    exact ⟨f, fd, _, _, _, T.cl_Holds, hm, ok_Holds_pledged T F, hb, hv, hdd.drop 0, wpf_len⟩
theorem sc_Holds_of : FnScope N_Holds_of ["self", "dealing"] (defScope s_Holds_of) := ⟨rfl, rfl, rfl, by decide +kernel, rfl, by decide +kernel, by decide +kernel⟩
theorem ok_Holds_of (T : Txt K mg e) {f : Addr} {fd : FuncData} {dvs : List V} (F : L2.FunD K "of" "Holds.of" (defArgs s_Holds_of) (defBody s_Holds_of) (defScope s_Holds_of) dvs [] f fd) : FnK P w K mg base 1 f fd ["self", "dealing"] (w_Holds_of e) :=
  fnd (k := 0) F sc_Holds_of rfl rfl fun cdv A outer s H E hr =>
    (dss_one (ds_ret (de_dc (own := [("key", 2), ("some", 3)]) rfl sc_Holds_of.nd (di_seq (de_srtItems rfl T.n_sorted (de_fld T.hok (dv 0)))) (blkOk_by (N := N_Holds_of) (sc := defScope s_Holds_of) (by decide +kernel)) (fun _ _ _ _ _ => pg_tup rfl (pgs_cons (pg_name (i := 2) sc_Holds_of.nd rfl (Or.inl rfl)) (pgs_cons (pg_name (i := 3) sc_Holds_of.nd rfl (Or.inl rfl)) pgs_nil))) tr_many (by decide) (fun _ _ _ _ _ => (dts_one (dt_c1 (c_din hr.units) (dv 1) (dv 3)))) (fun _ _ _ _ _ => (dv 2)) (fun _ _ _ _ _ => (de_dget hr.units (dv 3) (dv 1))))))
theorem m_Holds_of_2 (T : Txt K mg e) : MetK P w K mg base 1 "of" e.C_Holds (w_Holds_of e) [] := by
    obtain ⟨f, fd, dvs, hdd, F, hm⟩ := T.f_Holds_of
    have hdl : dvs.length = 0 := (hdd.rel (fun _ => none)).length
    obtain ⟨ds, hv, hb⟩ : ∃ ds, Vals (dvs.drop 0) ds ∧ Binds K fd ["self", "dealing"] ds := by
      obtain rfl : dvs = [] := List.eq_nil_of_length_eq_zero hdl
      exact ⟨[], .nil, F.bindsN (ps := ["self", "dealing"]) fun _ _ _ _ _ _ us hl => match us, hl with | [_, _], _ => rfl⟩
    exact ⟨f, fd, _, _, _, T.cl_Holds, hm, ok_Holds_of T F, hb, hv, hdd.drop 0, wpf_len⟩
theorem sc_law : FnScope N_law ["_law_script"] (defScope s_law) := ⟨rfl, rfl, rfl, by decide +kernel, rfl, by decide +kernel, by decide +kernel⟩
theorem ok_law (T : Txt K mg e) {f : Addr} {fd : FuncData} {dvs : List V} (F : L2.FunD K "law" "law" (defArgs s_law) (defBody s_law) (defScope s_law) dvs [] f fd) : FnK P w K mg base 5 f fd ["_law_script"] (w_law e) :=
  fnd (k := 4) F sc_law rfl rfl fun cdv A outer s H E hr =>
    (dss_cons (ds_for (passes_of rfl) rfl (di_range1 T.n_range (da_cons (bc_max rfl T.n_max (da_cons de_int (da_cons (bc_min rfl T.n_min (da_cons (bc_len T.n_len (da_cons (dv 0) da_nil)) (da_cons de_int da_nil))) da_nil))) da_nil)) (tg_one sc_law.nd 1)
    (dss_cons (ds_set (i := 2) (dk_call (c_law_bag_2 T) hr (da_cons (dv 0) (da_cons (dv 1) da_nil))) sc_law.nd)
    (dss_cons (ds_set (i := 3) (dk_call (c_law_wishes_2 T) hr (da_cons (dv 2) (da_cons (de_addV de_int (dk_call (c_law_out_2 T) hr (da_cons (dv 2) (da_cons de_int da_nil)))) da_nil))) sc_law.nd)
    (dss_cons (ds_set (i := 4) (dk_make0 (n_Holds_1 T) hr) sc_law.nd)
    (dss_cons (ds_setLc (i := 5) (own := [("_law_row", 8)]) rfl sc_law.nd rfl rfl (sw_true rfl rfl rfl (by decide +kernel)) (di_seq (dv 3)) (blkOk_by (N := N_law) (sc := defScope s_law) (by decide +kernel)) (fun _ _ _ _ _ => pg_name (i := 8) sc_law.nd rfl (Or.inl rfl)) tr_one (by decide) (fun _ _ _ _ _ => dts_nil) (fun _ _ _ _ _ => de_int))
    (dss_cons (ds_set (i := 6) (de_addV (de_mul de_int (bc_len T.n_len (da_cons (dv 3) da_nil))) de_int) sc_law.nd)
    (dss_cons (ds_set (i := 7) de_int sc_law.nd)
    (dss_cons (ds_while (passes_of rfl) (dt_w (dtw_and (dt_c1 (c_lt hr.units) (dv 7) (dv 6)) (dtw_and1 (dt_c1 (c_neX hr.units) (de_lcV (own := [("_law_stand", 9)]) rfl sc_law.nd (di_seq (dv 5)) (blkOk_by (N := N_law) (sc := defScope s_law) (by decide +kernel)) (fun _ _ _ _ _ => pg_name (i := 9) sc_law.nd rfl (Or.inl rfl)) tr_one (by decide) (fun _ _ _ _ _ => (dts_one (dt_c1 (c_neX hr.units) (dv 9) (de_neg de_int)))) (fun _ _ _ _ _ => (dv 9))) (de_lstV da_nil)))))
    (dss_cons (ds_expr (dk_call (c_law_round_3 T) hr (da_cons (dv 4) (da_cons (dv 3) (da_cons (dv 5) da_nil)))))
    (dss_one (ds_set (i := 7) (de_addV (dv 7) de_int) sc_law.nd))))
    (dss_cons (ds_if (dt_w (dtw_or (dt_c1 (c_neX hr.units) (de_lcV (own := [("_law_stand", 9)]) rfl sc_law.nd (di_seq (dv 5)) (blkOk_by (N := N_law) (sc := defScope s_law) (by decide +kernel)) (fun _ _ _ _ _ => pg_name (i := 9) sc_law.nd rfl (Or.inl rfl)) tr_one (by decide) (fun _ _ _ _ _ => (dts_one (dt_c1 (c_neX hr.units) (dv 9) (de_neg de_int)))) (fun _ _ _ _ _ => (dv 9))) (de_lstV da_nil)) (dtw_or (dt_neE hr.units (de_meth0 hr (Mets.all (metsC (m_Holds_waiting_1 T) .nil)) (dv 4))) (dtw_or1 (dt_c1 (c_neX hr.units) (de_meth0 hr (Mets.all (metsC (m_Holds_pledged_1 T) .nil)) (dv 4)) (de_lstV da_nil))))))
    (dss_one (ds_ret de_bl))
    dss_nil)
    (dss_one (ds_if (dt_c1 (c_neX hr.units) (de_lcV (own := [("_law_dealing", 10)]) rfl sc_law.nd (di_range1 T.n_range (da_cons (bc_len T.n_len (da_cons (dv 3) da_nil)) da_nil)) (blkOk_by (N := N_law) (sc := defScope s_law) (by decide +kernel)) (fun _ _ _ _ _ => pg_name (i := 10) sc_law.nd rfl (Or.inl rfl)) tr_one (by decide) (fun _ _ _ _ _ => (dts_one (dt_neE hr.units (de_meth hr (Mets.all (metsC (m_Holds_of_2 T) .nil)) (dv 4) (da_cons (dv 10) da_nil))))) (fun _ _ _ _ _ => (dv 10))) (de_lstV da_nil))
    (dss_one (ds_ret de_bl))
    dss_nil)))))))))))
    (dss_one (ds_ret de_bl)))
end
/-! ### each fact, as the head has it -/
theorem all_mk {l : PySem.W.OpenLaw} {w : World} {K : PySem.W.Frag} {h : Heap} {mg : Str → Option Value} {fa : Addr} (X : K.In h) (G : h.Ns mainGlobals mg) (hfa : mg "law" = some (.ref fa)) (hmain : ∀ e : Env, e.Good → ∀ ns : List Int, ns.length ≤ 63 → w_law e [.kc (ns.map D.int)] (fun _ => none) (fun d _ => d = .bl true) fun _ _ _ => False)
    {C_Holds C_Off f_XOff f_law_bag f_law_out f_law_wishes f_Holds_init f_Holds_free KD_Holds_free f_Holds_called_off f_Holds_pledge f_Holds_call_off f_Holds_bars f_Holds_rank f_Holds_can_call_off f_Holds_ask KD_Holds_ask f_law_round f_Holds_waiting f_Holds_pledged f_Holds_of f_law : Addr}  {od_XOff an_XOff od_law_bag an_law_bag od_law_out an_law_out od_law_wishes an_law_wishes od_Holds_init an_Holds_init od_Holds_free an_Holds_free od_Holds_called_off an_Holds_called_off od_Holds_pledge an_Holds_pledge od_Holds_call_off an_Holds_call_off od_Holds_bars an_Holds_bars od_Holds_rank an_Holds_rank od_Holds_can_call_off an_Holds_can_call_off od_Holds_ask an_Holds_ask od_law_round an_law_round od_Holds_waiting an_Holds_waiting od_Holds_pledged an_Holds_pledged od_Holds_of an_Holds_of od_law an_law : Option Addr} {sl_XOff sl_law_bag sl_law_out sl_law_wishes sl_Holds_init sl_Holds_free sl_Holds_called_off sl_Holds_pledge sl_Holds_call_off sl_Holds_bars sl_Holds_rank sl_Holds_can_call_off sl_Holds_ask sl_law_round sl_Holds_waiting sl_Holds_pledged sl_Holds_of sl_law : Array (Option Value)} {oc_XOff dV_XOff kV_XOff dc_XOff pm_XOff cd_XOff ct_XOff u_WRITE oc_law_bag dV_law_bag kV_law_bag dc_law_bag pm_law_bag cd_law_bag ct_law_bag oc_law_out dV_law_out kV_law_out dc_law_out pm_law_out cd_law_out ct_law_out oc_law_wishes dV_law_wishes kV_law_wishes dc_law_wishes pm_law_wishes cd_law_wishes ct_law_wishes oc_Holds_init dV_Holds_init kV_Holds_init dc_Holds_init pm_Holds_init cd_Holds_init ct_Holds_init oc_Holds_free dV_Holds_free kV_Holds_free dc_Holds_free pm_Holds_free cd_Holds_free ct_Holds_free ku_Holds_free_forget oc_Holds_called_off dV_Holds_called_off kV_Holds_called_off dc_Holds_called_off pm_Holds_called_off cd_Holds_called_off ct_Holds_called_off oc_Holds_pledge dV_Holds_pledge kV_Holds_pledge dc_Holds_pledge pm_Holds_pledge cd_Holds_pledge ct_Holds_pledge oc_Holds_call_off dV_Holds_call_off kV_Holds_call_off dc_Holds_call_off pm_Holds_call_off cd_Holds_call_off ct_Holds_call_off oc_Holds_bars dV_Holds_bars kV_Holds_bars dc_Holds_bars pm_Holds_bars cd_Holds_bars ct_Holds_bars oc_Holds_rank dV_Holds_rank kV_Holds_rank dc_Holds_rank pm_Holds_rank cd_Holds_rank ct_Holds_rank oc_Holds_can_call_off dV_Holds_can_call_off kV_Holds_can_call_off dc_Holds_can_call_off pm_Holds_can_call_off cd_Holds_can_call_off ct_Holds_can_call_off oc_Holds_ask dV_Holds_ask kV_Holds_ask dc_Holds_ask pm_Holds_ask cd_Holds_ask ct_Holds_ask ku_Holds_ask_age oc_law_round dV_law_round kV_law_round dc_law_round pm_law_round cd_law_round ct_law_round oc_Holds_waiting dV_Holds_waiting kV_Holds_waiting dc_Holds_waiting pm_Holds_waiting cd_Holds_waiting ct_Holds_waiting oc_Holds_pledged dV_Holds_pledged kV_Holds_pledged dc_Holds_pledged pm_Holds_pledged cd_Holds_pledged ct_Holds_pledged oc_Holds_of dV_Holds_of kV_Holds_of dc_Holds_of pm_Holds_of cd_Holds_of ct_Holds_of oc_law dV_law kV_law dc_law pm_law cd_law ct_law : Value}
    (z_len : PySem.W.nsIn K mainGlobals "len" = some none)
    (z_list : PySem.W.nsIn K mainGlobals "list" = some none)
    (z_max : PySem.W.nsIn K mainGlobals "max" = some none)
    (z_min : PySem.W.nsIn K mainGlobals "min" = some none)
    (z_range : PySem.W.nsIn K mainGlobals "range" = some none)
    (z_sorted : PySem.W.nsIn K mainGlobals "sorted" = some none)
    (a_Holds : PySem.W.nsIn K mainGlobals "Holds" = some (some (.ref C_Holds)))
    (pg_Holds : PySem.W.plainGet K C_Holds Str.empty = true)
    (hd_Holds : PySem.W.hasDictIn K C_Holds = true)
    (po_Holds : PySem.W.plainOver K C_Holds = true)
    (sa_Holds : PySem.W.findIn K (.ref C_Holds) "__setattr__" = some (some (.builtin "object.__setattr__")))
    (mk_Holds : PySem.W.makesIn K C_Holds = true)
    (kc_Holds : PySem.W.keepIn K (.ref C_Holds) = true)
    (na_Holds_ages : PySem.W.findIn K (.ref C_Holds) "ages" = some none)
    (na_Holds_asked : PySem.W.findIn K (.ref C_Holds) "asked" = some none)
    (na_Holds_by_key : PySem.W.findIn K (.ref C_Holds) "by_key" = some none)
    (na_Holds_fast : PySem.W.findIn K (.ref C_Holds) "fast" = some none)
    (na_Holds_lost : PySem.W.findIn K (.ref C_Holds) "lost" = some none)
    (a_Off : PySem.W.nsIn K mainGlobals "Off" = some (some (.ref C_Off)))
    (ek_Off : PySem.W.keepIn K (.ref C_Off) = true)
    (es_Off : PySem.W.subIn K (.ref C_Off) (.type "BaseException") = some true)
    (et_Off : PySem.W.typeIn K (.ref C_Off) = some (.type "type"))
    (ej_Off : PySem.W.isClsIn K C_Off = true)
    (eu_Off_Off : PySem.W.subIn K (.ref C_Off) (.ref C_Off) = some true)
    (xga_Off : PySem.W.findIn K (.ref C_Off) "__getattribute__" = some (some (.builtin "BaseException.__getattribute__")))
    (xgg_Off : PySem.W.findIn K (.ref C_Off) "__getattr__" = some none)
    (xhd_Off : PySem.W.hasDictIn K C_Off = true)
    (xno_Off_dealing : PySem.W.findIn K (.ref C_Off) "dealing" = some none)
    (xin_Off : PySem.W.excInitIn K C_Off [.type "RuntimeError", .type "Exception", .type "BaseException", .type "object"] "RuntimeError.__new__" = true)
    (xov_Off : PySem.W.excOver K C_Off [.type "RuntimeError", .type "Exception", .type "BaseException", .type "object"] = true)
    (xsa_Off : PySem.W.findIn K (.ref C_Off) "__setattr__" = some (some (.builtin "object.__setattr__")))
    (xa_Off : PySem.W.findIn K (.ref C_Off) "__init__" = some (some (.ref f_XOff)))
    (xi_Off : PySem.W.isFn K (.ref f_XOff) = true)
    (xl_Off : K.lookup f_XOff = some ⟨oc_XOff, od_XOff, .func (PySem.W.fnOf "__init__" "Off.__init__" (defArgs s_Off_init) (defBody s_Off_init) (defScope s_Off_init) dV_XOff kV_XOff dc_XOff pm_XOff an_XOff cd_XOff ct_XOff), sl_XOff⟩)
    (xc_Off : PySem.W.codeIn K cd_XOff "Off.__init__" = true)
    (xk_Off : PySem.W.keepIn K (.ref f_XOff) = true)
    (e_XOff : dV_XOff = .none)
    (z_RuntimeError : PySem.W.nsIn K mainGlobals "RuntimeError" = some none)
    (xq3_RuntimeError : PySem.W.findCls K (.type "RuntimeError") (.type "type") "__init__" = some (.val (.builtin "RuntimeError.__init__")))
    (a_WRITE : PySem.W.nsIn K mainGlobals "WRITE" = some (some u_WRITE))
    (t_WRITE : ScaF u_WRITE (.str "write"))
    (a_law_bag : PySem.W.nsIn K mainGlobals "_law_bag" = some (some (.ref f_law_bag)))
    (l_law_bag : K.lookup f_law_bag = some ⟨oc_law_bag, od_law_bag, .func (PySem.W.fnOf "_law_bag" "_law_bag" (defArgs s_law_bag) (defBody s_law_bag) (defScope s_law_bag) dV_law_bag kV_law_bag dc_law_bag pm_law_bag an_law_bag cd_law_bag ct_law_bag), sl_law_bag⟩)
    (c_law_bag : PySem.W.codeIn K cd_law_bag "_law_bag" = true)
    (k_law_bag : PySem.W.keepIn K (.ref f_law_bag) = true)
    (e_law_bag : dV_law_bag = .none)
    (a_law_out : PySem.W.nsIn K mainGlobals "_law_out" = some (some (.ref f_law_out)))
    (l_law_out : K.lookup f_law_out = some ⟨oc_law_out, od_law_out, .func (PySem.W.fnOf "_law_out" "_law_out" (defArgs s_law_out) (defBody s_law_out) (defScope s_law_out) dV_law_out kV_law_out dc_law_out pm_law_out an_law_out cd_law_out ct_law_out), sl_law_out⟩)
    (c_law_out : PySem.W.codeIn K cd_law_out "_law_out" = true)
    (k_law_out : PySem.W.keepIn K (.ref f_law_out) = true)
    (e_law_out : dV_law_out = .none)
    (a_law_wishes : PySem.W.nsIn K mainGlobals "_law_wishes" = some (some (.ref f_law_wishes)))
    (l_law_wishes : K.lookup f_law_wishes = some ⟨oc_law_wishes, od_law_wishes, .func (PySem.W.fnOf "_law_wishes" "_law_wishes" (defArgs s_law_wishes) (defBody s_law_wishes) (defScope s_law_wishes) dV_law_wishes kV_law_wishes dc_law_wishes pm_law_wishes an_law_wishes cd_law_wishes ct_law_wishes), sl_law_wishes⟩)
    (c_law_wishes : PySem.W.codeIn K cd_law_wishes "_law_wishes" = true)
    (k_law_wishes : PySem.W.keepIn K (.ref f_law_wishes) = true)
    (e_law_wishes : dV_law_wishes = .none)
    (a_Holds_init : PySem.W.findIn K (.ref C_Holds) "__init__" = some (some (.ref f_Holds_init)))
    (i_Holds_init : PySem.W.isFn K (.ref f_Holds_init) = true)
    (l_Holds_init : K.lookup f_Holds_init = some ⟨oc_Holds_init, od_Holds_init, .func (PySem.W.fnOf "__init__" "Holds.__init__" (defArgs s_Holds_init) (defBody s_Holds_init) (defScope s_Holds_init) dV_Holds_init kV_Holds_init dc_Holds_init pm_Holds_init an_Holds_init cd_Holds_init ct_Holds_init), sl_Holds_init⟩)
    (c_Holds_init : PySem.W.codeIn K cd_Holds_init "Holds.__init__" = true)
    (k_Holds_init : PySem.W.keepIn K (.ref f_Holds_init) = true)
    (e_Holds_init : dV_Holds_init = .none)
    (a_Holds_free : PySem.W.findIn K (.ref C_Holds) "free" = some (some (.ref f_Holds_free)))
    (i_Holds_free : PySem.W.isFn K (.ref f_Holds_free) = true)
    (l_Holds_free : K.lookup f_Holds_free = some ⟨oc_Holds_free, od_Holds_free, .func (PySem.W.fnOf "free" "Holds.free" (defArgs s_Holds_free) (defBody s_Holds_free) (defScope s_Holds_free) dV_Holds_free kV_Holds_free dc_Holds_free pm_Holds_free an_Holds_free cd_Holds_free ct_Holds_free), sl_Holds_free⟩)
    (c_Holds_free : PySem.W.codeIn K cd_Holds_free "Holds.free" = true)
    (k_Holds_free : PySem.W.keepIn K (.ref f_Holds_free) = true)
    (e_Holds_free : dV_Holds_free = .none)
    (kv_Holds_free : kV_Holds_free = .ref KD_Holds_free)
    (kn_Holds_free_forget : PySem.W.nsIn K KD_Holds_free "forget" = some (some ku_Holds_free_forget))
    (kf_Holds_free_forget : ValF K ku_Holds_free_forget (.bl false))
    (a_Holds_called_off : PySem.W.findIn K (.ref C_Holds) "called_off" = some (some (.ref f_Holds_called_off)))
    (i_Holds_called_off : PySem.W.isFn K (.ref f_Holds_called_off) = true)
    (l_Holds_called_off : K.lookup f_Holds_called_off = some ⟨oc_Holds_called_off, od_Holds_called_off, .func (PySem.W.fnOf "called_off" "Holds.called_off" (defArgs s_Holds_called_off) (defBody s_Holds_called_off) (defScope s_Holds_called_off) dV_Holds_called_off kV_Holds_called_off dc_Holds_called_off pm_Holds_called_off an_Holds_called_off cd_Holds_called_off ct_Holds_called_off), sl_Holds_called_off⟩)
    (c_Holds_called_off : PySem.W.codeIn K cd_Holds_called_off "Holds.called_off" = true)
    (k_Holds_called_off : PySem.W.keepIn K (.ref f_Holds_called_off) = true)
    (e_Holds_called_off : dV_Holds_called_off = .none)
    (a_Holds_pledge : PySem.W.findIn K (.ref C_Holds) "pledge" = some (some (.ref f_Holds_pledge)))
    (i_Holds_pledge : PySem.W.isFn K (.ref f_Holds_pledge) = true)
    (l_Holds_pledge : K.lookup f_Holds_pledge = some ⟨oc_Holds_pledge, od_Holds_pledge, .func (PySem.W.fnOf "pledge" "Holds.pledge" (defArgs s_Holds_pledge) (defBody s_Holds_pledge) (defScope s_Holds_pledge) dV_Holds_pledge kV_Holds_pledge dc_Holds_pledge pm_Holds_pledge an_Holds_pledge cd_Holds_pledge ct_Holds_pledge), sl_Holds_pledge⟩)
    (c_Holds_pledge : PySem.W.codeIn K cd_Holds_pledge "Holds.pledge" = true)
    (k_Holds_pledge : PySem.W.keepIn K (.ref f_Holds_pledge) = true)
    (e_Holds_pledge : dV_Holds_pledge = .none)
    (a_Holds_call_off : PySem.W.findIn K (.ref C_Holds) "call_off" = some (some (.ref f_Holds_call_off)))
    (i_Holds_call_off : PySem.W.isFn K (.ref f_Holds_call_off) = true)
    (l_Holds_call_off : K.lookup f_Holds_call_off = some ⟨oc_Holds_call_off, od_Holds_call_off, .func (PySem.W.fnOf "call_off" "Holds.call_off" (defArgs s_Holds_call_off) (defBody s_Holds_call_off) (defScope s_Holds_call_off) dV_Holds_call_off kV_Holds_call_off dc_Holds_call_off pm_Holds_call_off an_Holds_call_off cd_Holds_call_off ct_Holds_call_off), sl_Holds_call_off⟩)
    (c_Holds_call_off : PySem.W.codeIn K cd_Holds_call_off "Holds.call_off" = true)
    (k_Holds_call_off : PySem.W.keepIn K (.ref f_Holds_call_off) = true)
    (e_Holds_call_off : dV_Holds_call_off = .none)
    (a_Holds_bars : PySem.W.findIn K (.ref C_Holds) "bars" = some (some (.ref f_Holds_bars)))
    (i_Holds_bars : PySem.W.isFn K (.ref f_Holds_bars) = true)
    (l_Holds_bars : K.lookup f_Holds_bars = some ⟨oc_Holds_bars, od_Holds_bars, .func (PySem.W.fnOf "bars" "Holds.bars" (defArgs s_Holds_bars) (defBody s_Holds_bars) (defScope s_Holds_bars) dV_Holds_bars kV_Holds_bars dc_Holds_bars pm_Holds_bars an_Holds_bars cd_Holds_bars ct_Holds_bars), sl_Holds_bars⟩)
    (c_Holds_bars : PySem.W.codeIn K cd_Holds_bars "Holds.bars" = true)
    (k_Holds_bars : PySem.W.keepIn K (.ref f_Holds_bars) = true)
    (e_Holds_bars : dV_Holds_bars = .none)
    (a_Holds_rank : PySem.W.findIn K (.ref C_Holds) "rank" = some (some (.ref f_Holds_rank)))
    (i_Holds_rank : PySem.W.isFn K (.ref f_Holds_rank) = true)
    (l_Holds_rank : K.lookup f_Holds_rank = some ⟨oc_Holds_rank, od_Holds_rank, .func (PySem.W.fnOf "rank" "Holds.rank" (defArgs s_Holds_rank) (defBody s_Holds_rank) (defScope s_Holds_rank) dV_Holds_rank kV_Holds_rank dc_Holds_rank pm_Holds_rank an_Holds_rank cd_Holds_rank ct_Holds_rank), sl_Holds_rank⟩)
    (c_Holds_rank : PySem.W.codeIn K cd_Holds_rank "Holds.rank" = true)
    (k_Holds_rank : PySem.W.keepIn K (.ref f_Holds_rank) = true)
    (e_Holds_rank : dV_Holds_rank = .none)
    (a_Holds_can_call_off : PySem.W.findIn K (.ref C_Holds) "can_call_off" = some (some (.ref f_Holds_can_call_off)))
    (i_Holds_can_call_off : PySem.W.isFn K (.ref f_Holds_can_call_off) = true)
    (l_Holds_can_call_off : K.lookup f_Holds_can_call_off = some ⟨oc_Holds_can_call_off, od_Holds_can_call_off, .func (PySem.W.fnOf "can_call_off" "Holds.can_call_off" (defArgs s_Holds_can_call_off) (defBody s_Holds_can_call_off) (defScope s_Holds_can_call_off) dV_Holds_can_call_off kV_Holds_can_call_off dc_Holds_can_call_off pm_Holds_can_call_off an_Holds_can_call_off cd_Holds_can_call_off ct_Holds_can_call_off), sl_Holds_can_call_off⟩)
    (c_Holds_can_call_off : PySem.W.codeIn K cd_Holds_can_call_off "Holds.can_call_off" = true)
    (k_Holds_can_call_off : PySem.W.keepIn K (.ref f_Holds_can_call_off) = true)
    (e_Holds_can_call_off : dV_Holds_can_call_off = .none)
    (a_Holds_ask : PySem.W.findIn K (.ref C_Holds) "ask" = some (some (.ref f_Holds_ask)))
    (i_Holds_ask : PySem.W.isFn K (.ref f_Holds_ask) = true)
    (l_Holds_ask : K.lookup f_Holds_ask = some ⟨oc_Holds_ask, od_Holds_ask, .func (PySem.W.fnOf "ask" "Holds.ask" (defArgs s_Holds_ask) (defBody s_Holds_ask) (defScope s_Holds_ask) dV_Holds_ask kV_Holds_ask dc_Holds_ask pm_Holds_ask an_Holds_ask cd_Holds_ask ct_Holds_ask), sl_Holds_ask⟩)
    (c_Holds_ask : PySem.W.codeIn K cd_Holds_ask "Holds.ask" = true)
    (k_Holds_ask : PySem.W.keepIn K (.ref f_Holds_ask) = true)
    (e_Holds_ask : dV_Holds_ask = .none)
    (kv_Holds_ask : kV_Holds_ask = .ref KD_Holds_ask)
    (kn_Holds_ask_age : PySem.W.nsIn K KD_Holds_ask "age" = some (some ku_Holds_ask_age))
    (kf_Holds_ask_age : ValF K ku_Holds_ask_age (.non))
    (a_law_round : PySem.W.nsIn K mainGlobals "_law_round" = some (some (.ref f_law_round)))
    (l_law_round : K.lookup f_law_round = some ⟨oc_law_round, od_law_round, .func (PySem.W.fnOf "_law_round" "_law_round" (defArgs s_law_round) (defBody s_law_round) (defScope s_law_round) dV_law_round kV_law_round dc_law_round pm_law_round an_law_round cd_law_round ct_law_round), sl_law_round⟩)
    (c_law_round : PySem.W.codeIn K cd_law_round "_law_round" = true)
    (k_law_round : PySem.W.keepIn K (.ref f_law_round) = true)
    (e_law_round : dV_law_round = .none)
    (a_Holds_waiting : PySem.W.findIn K (.ref C_Holds) "waiting" = some (some (.ref f_Holds_waiting)))
    (i_Holds_waiting : PySem.W.isFn K (.ref f_Holds_waiting) = true)
    (l_Holds_waiting : K.lookup f_Holds_waiting = some ⟨oc_Holds_waiting, od_Holds_waiting, .func (PySem.W.fnOf "waiting" "Holds.waiting" (defArgs s_Holds_waiting) (defBody s_Holds_waiting) (defScope s_Holds_waiting) dV_Holds_waiting kV_Holds_waiting dc_Holds_waiting pm_Holds_waiting an_Holds_waiting cd_Holds_waiting ct_Holds_waiting), sl_Holds_waiting⟩)
    (c_Holds_waiting : PySem.W.codeIn K cd_Holds_waiting "Holds.waiting" = true)
    (k_Holds_waiting : PySem.W.keepIn K (.ref f_Holds_waiting) = true)
    (e_Holds_waiting : dV_Holds_waiting = .none)
    (a_Holds_pledged : PySem.W.findIn K (.ref C_Holds) "pledged" = some (some (.ref f_Holds_pledged)))
    (i_Holds_pledged : PySem.W.isFn K (.ref f_Holds_pledged) = true)
    (l_Holds_pledged : K.lookup f_Holds_pledged = some ⟨oc_Holds_pledged, od_Holds_pledged, .func (PySem.W.fnOf "pledged" "Holds.pledged" (defArgs s_Holds_pledged) (defBody s_Holds_pledged) (defScope s_Holds_pledged) dV_Holds_pledged kV_Holds_pledged dc_Holds_pledged pm_Holds_pledged an_Holds_pledged cd_Holds_pledged ct_Holds_pledged), sl_Holds_pledged⟩)
    (c_Holds_pledged : PySem.W.codeIn K cd_Holds_pledged "Holds.pledged" = true)
    (k_Holds_pledged : PySem.W.keepIn K (.ref f_Holds_pledged) = true)
    (e_Holds_pledged : dV_Holds_pledged = .none)
    (a_Holds_of : PySem.W.findIn K (.ref C_Holds) "of" = some (some (.ref f_Holds_of)))
    (i_Holds_of : PySem.W.isFn K (.ref f_Holds_of) = true)
    (l_Holds_of : K.lookup f_Holds_of = some ⟨oc_Holds_of, od_Holds_of, .func (PySem.W.fnOf "of" "Holds.of" (defArgs s_Holds_of) (defBody s_Holds_of) (defScope s_Holds_of) dV_Holds_of kV_Holds_of dc_Holds_of pm_Holds_of an_Holds_of cd_Holds_of ct_Holds_of), sl_Holds_of⟩)
    (c_Holds_of : PySem.W.codeIn K cd_Holds_of "Holds.of" = true)
    (k_Holds_of : PySem.W.keepIn K (.ref f_Holds_of) = true)
    (e_Holds_of : dV_Holds_of = .none)
    (a_law : PySem.W.nsIn K mainGlobals "law" = some (some (.ref f_law)))
    (l_law : K.lookup f_law = some ⟨oc_law, od_law, .func (PySem.W.fnOf "law" "law" (defArgs s_law) (defBody s_law) (defScope s_law) dV_law kV_law dc_law pm_law an_law cd_law ct_law), sl_law⟩)
    (c_law : PySem.W.codeIn K cd_law "law" = true)
    (k_law : PySem.W.keepIn K (.ref f_law) = true)
    (e_law : dV_law = .none)
    : ∃ fd : FuncData, (∀ (s : Shared) (v : Value), BindsTo s fd ⟨[v], []⟩ [("_law_script", v)]) ∧ ∀ base : Heap, K.In base → base.Ns mainGlobals mg → FnG l.prog w K mg base 5 fa fd ["_law_script"] (lawSp K) := by
  have q0 : f_law = fa := by
    have q := (PySem.W.mg_of X G a_law).symm.trans hfa
    injection q with q; injection q
  subst q0
  subst e_law_bag
  subst e_law_out
  subst e_law_wishes
  subst e_Holds_init
  subst e_Holds_free
  subst kv_Holds_free
  subst e_Holds_called_off
  subst e_Holds_pledge
  subst e_Holds_call_off
  subst e_Holds_bars
  subst e_Holds_rank
  subst e_Holds_can_call_off
  subst e_Holds_ask
  subst kv_Holds_ask
  subst e_law_round
  subst e_Holds_waiting
  subst e_Holds_pledged
  subst e_Holds_of
  subst e_law
  subst e_XOff
  have cl_Holds : Cls K C_Holds := ⟨pg_Holds, hd_Holds, po_Holds, sa_Holds⟩
  let e : Env := { C_Holds := C_Holds, C_Off := C_Off, xm := fun c u b => PySem.W.exmOne K u c = some b, xf := XfOk K, ec := EcOk K, ok := AttrOk K, ic := IsiOk K }
  have gd : e.Good := ⟨trivial, ⟨cl_Holds, na_Holds_ages⟩, ⟨cl_Holds, na_Holds_asked⟩, ⟨cl_Holds, na_Holds_by_key⟩, ⟨cl_Holds, na_Holds_fast⟩, ⟨cl_Holds, na_Holds_lost⟩, exm_of es_Off ej_Off et_Off eu_Off_Off, ⟨⟨xga_Off, xgg_Off, es_Off, xhd_Off⟩, xno_Off_dealing⟩⟩
  obtain ⟨dvs_XOff, hdd_XOff, F_XOff⟩ := fun_nd xl_Off xc_Off xk_Off
  obtain ⟨dvs_law_bag, hdd_law_bag, F_law_bag⟩ := fun_nd l_law_bag c_law_bag k_law_bag
  obtain ⟨dvs_law_out, hdd_law_out, F_law_out⟩ := fun_nd l_law_out c_law_out k_law_out
  obtain ⟨dvs_law_wishes, hdd_law_wishes, F_law_wishes⟩ := fun_nd l_law_wishes c_law_wishes k_law_wishes
  obtain ⟨dvs_Holds_init, hdd_Holds_init, F_Holds_init⟩ := fun_nd l_Holds_init c_Holds_init k_Holds_init
  obtain ⟨dvs_Holds_free, kvs_Holds_free, hdd_Holds_free, hkl_Holds_free, hkd_Holds_free, F_Holds_free⟩ := fun_ndK l_Holds_free c_Holds_free k_Holds_free (.cons kn_Holds_free_forget kf_Holds_free_forget .nil)
  obtain ⟨dvs_Holds_called_off, hdd_Holds_called_off, F_Holds_called_off⟩ := fun_nd l_Holds_called_off c_Holds_called_off k_Holds_called_off
  obtain ⟨dvs_Holds_pledge, hdd_Holds_pledge, F_Holds_pledge⟩ := fun_nd l_Holds_pledge c_Holds_pledge k_Holds_pledge
  obtain ⟨dvs_Holds_call_off, hdd_Holds_call_off, F_Holds_call_off⟩ := fun_nd l_Holds_call_off c_Holds_call_off k_Holds_call_off
  obtain ⟨dvs_Holds_bars, hdd_Holds_bars, F_Holds_bars⟩ := fun_nd l_Holds_bars c_Holds_bars k_Holds_bars
  obtain ⟨dvs_Holds_rank, hdd_Holds_rank, F_Holds_rank⟩ := fun_nd l_Holds_rank c_Holds_rank k_Holds_rank
  obtain ⟨dvs_Holds_can_call_off, hdd_Holds_can_call_off, F_Holds_can_call_off⟩ := fun_nd l_Holds_can_call_off c_Holds_can_call_off k_Holds_can_call_off
  obtain ⟨dvs_Holds_ask, kvs_Holds_ask, hdd_Holds_ask, hkl_Holds_ask, hkd_Holds_ask, F_Holds_ask⟩ := fun_ndK l_Holds_ask c_Holds_ask k_Holds_ask (.cons kn_Holds_ask_age kf_Holds_ask_age .nil)
  obtain ⟨dvs_law_round, hdd_law_round, F_law_round⟩ := fun_nd l_law_round c_law_round k_law_round
  obtain ⟨dvs_Holds_waiting, hdd_Holds_waiting, F_Holds_waiting⟩ := fun_nd l_Holds_waiting c_Holds_waiting k_Holds_waiting
  obtain ⟨dvs_Holds_pledged, hdd_Holds_pledged, F_Holds_pledged⟩ := fun_nd l_Holds_pledged c_Holds_pledged k_Holds_pledged
  obtain ⟨dvs_Holds_of, hdd_Holds_of, F_Holds_of⟩ := fun_nd l_Holds_of c_Holds_of k_Holds_of
  obtain ⟨dvs_law, hdd_law, F_law⟩ := fun_nd l_law c_law k_law
  have T : Txt K mg e := ⟨fun _ _ h => h,
    fun _ _ _ h => h,
    fun _ _ _ h => h,
    fun _ _ h => h,
    fun _ _ _ h => h,
    PySem.W.mg_of X G a_Off,
    ⟨xin_Off, xov_Off, xhd_Off, xsa_Off, PySem.F.store_RuntimeError⟩,
    ⟨.inl ⟨"RuntimeError", PySem.W.mg_none_of X G z_RuntimeError, by decide +kernel, by decide, by kernel_rfl, by decide +kernel, xq3_RuntimeError⟩⟩,
    xno_Off_dealing,
    ⟨ek_Off, es_Off, et_Off⟩,
    ⟨f_XOff, _, dvs_XOff, hdd_XOff, F_XOff, ⟨xa_Off, xi_Off, xk_Off⟩⟩,
    PySem.W.mg_none_of X G z_len,
    PySem.W.mg_none_of X G z_list,
    PySem.W.mg_none_of X G z_max,
    PySem.W.mg_none_of X G z_min,
    PySem.W.mg_none_of X G z_range,
    PySem.W.mg_none_of X G z_sorted,
    t_WRITE.cf (PySem.W.mg_of X G a_WRITE),
    PySem.W.mg_of X G a_Holds,
    cl_Holds,
    ⟨mk_Holds, kc_Holds⟩,
    ⟨f_law_bag, _, dvs_law_bag, hdd_law_bag, F_law_bag, PySem.W.mg_of X G a_law_bag⟩,
    ⟨f_law_out, _, dvs_law_out, hdd_law_out, F_law_out, PySem.W.mg_of X G a_law_out⟩,
    ⟨f_law_wishes, _, dvs_law_wishes, hdd_law_wishes, F_law_wishes, PySem.W.mg_of X G a_law_wishes⟩,
    ⟨f_Holds_init, _, dvs_Holds_init, hdd_Holds_init, F_Holds_init, ⟨a_Holds_init, i_Holds_init, k_Holds_init⟩⟩,
    ⟨f_Holds_free, _, dvs_Holds_free, kvs_Holds_free, hdd_Holds_free, hkl_Holds_free, hkd_Holds_free, F_Holds_free, ⟨a_Holds_free, i_Holds_free, k_Holds_free⟩⟩,
    ⟨f_Holds_called_off, _, dvs_Holds_called_off, hdd_Holds_called_off, F_Holds_called_off, ⟨a_Holds_called_off, i_Holds_called_off, k_Holds_called_off⟩⟩,
    ⟨f_Holds_pledge, _, dvs_Holds_pledge, hdd_Holds_pledge, F_Holds_pledge, ⟨a_Holds_pledge, i_Holds_pledge, k_Holds_pledge⟩⟩,
    ⟨f_Holds_call_off, _, dvs_Holds_call_off, hdd_Holds_call_off, F_Holds_call_off, ⟨a_Holds_call_off, i_Holds_call_off, k_Holds_call_off⟩⟩,
    ⟨f_Holds_bars, _, dvs_Holds_bars, hdd_Holds_bars, F_Holds_bars, ⟨a_Holds_bars, i_Holds_bars, k_Holds_bars⟩⟩,
    ⟨f_Holds_rank, _, dvs_Holds_rank, hdd_Holds_rank, F_Holds_rank, ⟨a_Holds_rank, i_Holds_rank, k_Holds_rank⟩⟩,
    ⟨f_Holds_can_call_off, _, dvs_Holds_can_call_off, hdd_Holds_can_call_off, F_Holds_can_call_off, ⟨a_Holds_can_call_off, i_Holds_can_call_off, k_Holds_can_call_off⟩⟩,
    ⟨f_Holds_ask, _, dvs_Holds_ask, kvs_Holds_ask, hdd_Holds_ask, hkl_Holds_ask, hkd_Holds_ask, F_Holds_ask, ⟨a_Holds_ask, i_Holds_ask, k_Holds_ask⟩⟩,
    ⟨f_law_round, _, dvs_law_round, hdd_law_round, F_law_round, PySem.W.mg_of X G a_law_round⟩,
    ⟨f_Holds_waiting, _, dvs_Holds_waiting, hdd_Holds_waiting, F_Holds_waiting, ⟨a_Holds_waiting, i_Holds_waiting, k_Holds_waiting⟩⟩,
    ⟨f_Holds_pledged, _, dvs_Holds_pledged, hdd_Holds_pledged, F_Holds_pledged, ⟨a_Holds_pledged, i_Holds_pledged, k_Holds_pledged⟩⟩,
    ⟨f_Holds_of, _, dvs_Holds_of, hdd_Holds_of, F_Holds_of, ⟨a_Holds_of, i_Holds_of, k_Holds_of⟩⟩,
    ⟨f_law, _, dvs_law, hdd_law, F_law, PySem.W.mg_of X G a_law⟩⟩
  refine ⟨_, ?_, fun base _ _ => FnG.imp (ok_law (P := l.prog) (w := w) (base := base) T F_law) (law_lift (hmain e gd))⟩
  exact fun s v => .of_eq rfl
theorem walk {l : PySem.W.OpenLaw} {q : Program} {loose : List Str} {XP : (Str → Option Value) → Heap → Prop} {YP : World → Heap → Prop} {d : DefRec} {K : Params → PySem.W.Frag} (hn : l.most = some 63) (hdf : d.params.defaults = [])
    (hY : ∀ (w : World) (h : Heap), YP w h → (K w.params).In h)
    (F : ∀ (w : World) (mg : Str → Option Value) (fa : Addr) (h : Heap), (K w.params).In h → h.Ns mainGlobals mg → mg d.name = some (.ref fa) →
      ∃ fd : FuncData, (∀ (s : Shared) (u : Value), BindsTo s fd ⟨[u], []⟩ [("_law_script", u)]) ∧ ∀ base : Heap, (K w.params).In base → base.Ns mainGlobals mg → FnG l.prog w (K w.params) mg base 5 fa fd ["_law_script"] (lawSp (K w.params))) :
    PySem.W.WalkO q loose XP YP l.row.toRowW d [] (fun f vs => PySem.call f vs) :=
  walkG (k := 5) (x := "_law_script") (sp := fun w => lawSp (K w.params)) hn hdf ⟨⟨rfl, by decide, by decide⟩, rfl⟩ hY F (fun _ H a ns hl ho hS => ⟨a, ns, rfl, hl, ho, hS, fun _ => rfl⟩)
    fun _ _ _ _ _ ⟨_, _, _, _, _, _, _, _, _, _, _, _, z⟩ => z
end P
open PySem PySem.W PyProof.Rows
set_option maxRecDepth 100000 in
set_option maxHeartbeats 0 in
theorem PySem.Challenge.cw_stampedwait_k24_whole_who_asks_again_hol_holds : PySem.Challenge.rw_stampedwait_k24_whole_who_asks_again_hol.Holds := by
  w_on; o_law; k_head; (case hw => w_witness2)
  k_fill
  refine P.walk (l := PySem.Challenge.rw_stampedwait_k24_whole_who_asks_again_hol) rfl rfl (fun w h Y => PySem.W.kIn_of Y) ?F
  case F =>
    intro w mg fa h KX G hmg
    refine' P.all_mk KX G hmg P.main ?z_len ?z_list ?z_max ?z_min ?z_range ?z_sorted ?a_Holds ?pg_Holds ?hd_Holds ?po_Holds ?sa_Holds ?mk_Holds ?kc_Holds ?na_Holds_ages ?na_Holds_asked ?na_Holds_by_key ?na_Holds_fast ?na_Holds_lost ?a_Off ?ek_Off ?es_Off ?et_Off ?ej_Off ?eu_Off_Off ?xga_Off ?xgg_Off ?xhd_Off ?xno_Off_dealing ?xin_Off ?xov_Off ?xsa_Off ?xa_Off ?xi_Off ?xl_Off ?xc_Off ?xk_Off ?e_XOff ?z_RuntimeError ?xq3_RuntimeError ?a_WRITE ?t_WRITE ?a_law_bag ?l_law_bag ?c_law_bag ?k_law_bag ?e_law_bag ?a_law_out ?l_law_out ?c_law_out ?k_law_out ?e_law_out ?a_law_wishes ?l_law_wishes ?c_law_wishes ?k_law_wishes ?e_law_wishes ?a_Holds_init ?i_Holds_init ?l_Holds_init ?c_Holds_init ?k_Holds_init ?e_Holds_init ?a_Holds_free ?i_Holds_free ?l_Holds_free ?c_Holds_free ?k_Holds_free ?e_Holds_free ?kv_Holds_free ?kn_Holds_free_forget ?kf_Holds_free_forget ?a_Holds_called_off ?i_Holds_called_off ?l_Holds_called_off ?c_Holds_called_off ?k_Holds_called_off ?e_Holds_called_off ?a_Holds_pledge ?i_Holds_pledge ?l_Holds_pledge ?c_Holds_pledge ?k_Holds_pledge ?e_Holds_pledge ?a_Holds_call_off ?i_Holds_call_off ?l_Holds_call_off ?c_Holds_call_off ?k_Holds_call_off ?e_Holds_call_off ?a_Holds_bars ?i_Holds_bars ?l_Holds_bars ?c_Holds_bars ?k_Holds_bars ?e_Holds_bars ?a_Holds_rank ?i_Holds_rank ?l_Holds_rank ?c_Holds_rank ?k_Holds_rank ?e_Holds_rank ?a_Holds_can_call_off ?i_Holds_can_call_off ?l_Holds_can_call_off ?c_Holds_can_call_off ?k_Holds_can_call_off ?e_Holds_can_call_off ?a_Holds_ask ?i_Holds_ask ?l_Holds_ask ?c_Holds_ask ?k_Holds_ask ?e_Holds_ask ?kv_Holds_ask ?kn_Holds_ask_age ?kf_Holds_ask_age ?a_law_round ?l_law_round ?c_law_round ?k_law_round ?e_law_round ?a_Holds_waiting ?i_Holds_waiting ?l_Holds_waiting ?c_Holds_waiting ?k_Holds_waiting ?e_Holds_waiting ?a_Holds_pledged ?i_Holds_pledged ?l_Holds_pledged ?c_Holds_pledged ?k_Holds_pledged ?e_Holds_pledged ?a_Holds_of ?i_Holds_of ?l_Holds_of ?c_Holds_of ?k_Holds_of ?e_Holds_of ?a_law ?l_law ?c_law ?k_law ?e_law
    (case z_len => k_is)
    (case z_list => k_is)
    (case z_max => k_is)
    (case z_min => k_is)
    (case z_range => k_is)
    (case z_sorted => k_is)
    (case a_Holds => k_is)
    (case pg_Holds => k_is)
    (case hd_Holds => k_is)
    (case po_Holds => k_is)
    (case sa_Holds => k_is)
    (case mk_Holds => k_is)
    (case kc_Holds => k_is)
    (case na_Holds_ages => k_is)
    (case na_Holds_asked => k_is)
    (case na_Holds_by_key => k_is)
    (case na_Holds_fast => k_is)
    (case na_Holds_lost => k_is)
    (case a_Off => k_is)
    (case ek_Off => k_is)
    (case es_Off => k_is)
    (case et_Off => k_is)
    (case ej_Off => k_is)
    (case eu_Off_Off => first | rfl | k_is)
    (case xga_Off => k_is)
    (case xgg_Off => k_is)
    (case xhd_Off => k_is)
    (case xno_Off_dealing => k_is)
    (case xin_Off => first | k_is | k_exc | rfl)
    (case xov_Off => first | k_is | k_exc | rfl)
    (case xsa_Off => k_is)
    (case xa_Off => k_is)
    (case xi_Off => k_is)
    (case xl_Off => k_is)
    (case xc_Off => k_is)
    (case xk_Off => k_is)
    (case e_XOff => rfl)
    (case z_RuntimeError => k_is)
    (case xq3_RuntimeError => k_is)
    (case a_WRITE => k_is)
    (case t_WRITE => exact .str)
    (case a_law_bag => k_is)
    (case l_law_bag => k_is)
    (case c_law_bag => k_is)
    (case k_law_bag => k_is)
    (case e_law_bag => rfl)
    (case a_law_out => k_is)
    (case l_law_out => k_is)
    (case c_law_out => k_is)
    (case k_law_out => k_is)
    (case e_law_out => rfl)
    (case a_law_wishes => k_is)
    (case l_law_wishes => k_is)
    (case c_law_wishes => k_is)
    (case k_law_wishes => k_is)
    (case e_law_wishes => rfl)
    (case a_Holds_init => k_is)
    (case i_Holds_init => k_is)
    (case l_Holds_init => k_is)
    (case c_Holds_init => k_is)
    (case k_Holds_init => k_is)
    (case e_Holds_init => rfl)
    (case a_Holds_free => k_is)
    (case i_Holds_free => k_is)
    (case l_Holds_free => k_is)
    (case c_Holds_free => k_is)
    (case k_Holds_free => k_is)
    (case e_Holds_free => rfl)
    (case kv_Holds_free => rfl)
    (case kn_Holds_free_forget => k_is)
    (case kf_Holds_free_forget => exact .sca .bl)
    (case a_Holds_called_off => k_is)
    (case i_Holds_called_off => k_is)
    (case l_Holds_called_off => k_is)
    (case c_Holds_called_off => k_is)
    (case k_Holds_called_off => k_is)
    (case e_Holds_called_off => rfl)
    (case a_Holds_pledge => k_is)
    (case i_Holds_pledge => k_is)
    (case l_Holds_pledge => k_is)
    (case c_Holds_pledge => k_is)
    (case k_Holds_pledge => k_is)
    (case e_Holds_pledge => rfl)
    (case a_Holds_call_off => k_is)
    (case i_Holds_call_off => k_is)
    (case l_Holds_call_off => k_is)
    (case c_Holds_call_off => k_is)
    (case k_Holds_call_off => k_is)
    (case e_Holds_call_off => rfl)
    (case a_Holds_bars => k_is)
    (case i_Holds_bars => k_is)
    (case l_Holds_bars => k_is)
    (case c_Holds_bars => k_is)
    (case k_Holds_bars => k_is)
    (case e_Holds_bars => rfl)
    (case a_Holds_rank => k_is)
    (case i_Holds_rank => k_is)
    (case l_Holds_rank => k_is)
    (case c_Holds_rank => k_is)
    (case k_Holds_rank => k_is)
    (case e_Holds_rank => rfl)
    (case a_Holds_can_call_off => k_is)
    (case i_Holds_can_call_off => k_is)
    (case l_Holds_can_call_off => k_is)
    (case c_Holds_can_call_off => k_is)
    (case k_Holds_can_call_off => k_is)
    (case e_Holds_can_call_off => rfl)
    (case a_Holds_ask => k_is)
    (case i_Holds_ask => k_is)
    (case l_Holds_ask => k_is)
    (case c_Holds_ask => k_is)
    (case k_Holds_ask => k_is)
    (case e_Holds_ask => rfl)
    (case kv_Holds_ask => rfl)
    (case kn_Holds_ask_age => k_is)
    (case kf_Holds_ask_age => exact .sca .non)
    (case a_law_round => k_is)
    (case l_law_round => k_is)
    (case c_law_round => k_is)
    (case k_law_round => k_is)
    (case e_law_round => rfl)
    (case a_Holds_waiting => k_is)
    (case i_Holds_waiting => k_is)
    (case l_Holds_waiting => k_is)
    (case c_Holds_waiting => k_is)
    (case k_Holds_waiting => k_is)
    (case e_Holds_waiting => rfl)
    (case a_Holds_pledged => k_is)
    (case i_Holds_pledged => k_is)
    (case l_Holds_pledged => k_is)
    (case c_Holds_pledged => k_is)
    (case k_Holds_pledged => k_is)
    (case e_Holds_pledged => rfl)
    (case a_Holds_of => k_is)
    (case i_Holds_of => k_is)
    (case l_Holds_of => k_is)
    (case c_Holds_of => k_is)
    (case k_Holds_of => k_is)
    (case e_Holds_of => rfl)
    (case a_law => k_is)
    (case l_law => k_is)
    (case c_law => k_is)
    (case k_law => k_is)
    (case e_law => rfl)

