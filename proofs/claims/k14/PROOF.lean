import PyProof.Rows.All
import Wide.All
import OpenK.AllK
import Wide.FinOn
import PyProof.EqAt
import PyProof.EqKinds
import PyProof.TupleCall
import HandS.ForMost
import HandS.Exc
import HandS.TryOnly
import HandS.ExcOwn
import HandS.WordsExc
import HandS.Wide
import HandS.TupAny
import HandS.Flow
import HandS.IsInst
import HandS.TupLe
import HandS.Defaults
import HandS.CallSlots
import HandS.DictComp
import HandS.Iter
import HandS.OwnEq
import HandS.More
import HandS.Dict
import HandS.SetKeys
import PyProof.ReprRoads
import PyProof.CallFns
import HandS.RaiseMore
import PyProof.ExcClass
import PyProof.ExcBaseAll.IndexError
import PyProof.ExcBaseAll.LookupError
import PyProof.ExcBaseAll.RuntimeError
import PyProof.ExcBaseAll.ValueError
import PyProof.FactsTree
import KE.KExcInit
import HandS.ExcInit
import PyProof.Rows.FactsExc_KeyError
import KE.KExcIs
import HandS.ExcField
import HandS.Deep
import KE.DataFind
import PyProof.ReprText
import PyProof.FitsInt
import PyProof.StrLawsRepr
import KE.DataMinMax
import KE.DatumOrd
import HandS.Text
import HandS.Codes
import OpenK.KOps
import HandS.Records
import PyProof.CallType
import PyProof.Conv_bool
import HandS.MakeKwOnly
import PyProof.Rows.ListMulArg
import PySem.Challenge.RW_stampedwait_k14_a_shelf_refuses
set_option Elab.async false
set_option linter.all false
set_option maxRecDepth 100000
namespace DL
open PySem PySem.Spec L2
open PyProof.Rows hiding St

/-! ### data: tuples by value, mutable objects by address; kl: a list that never changes -/
inductive D where
  | non | bl (b : Bool) | int (i : Int) | str (x : Str) | ty (n : String) | ref (a : Addr) | tup (ds : List D) | kl (ds : List D) | kc (ds : List D) | exc (C : Addr) (ns : List Str) (ds : List D) | emp

inductive MO where
  | lst (xs : List D)
  | dK (kvs : List (Key × D))
  | dT (kvs : List (List Key × D))
  | ins (C : Addr) (fs : List (Str × D))
  | fz (ob : Obj) (w : HO) (u : MO)

abbrev HD := Addr → Option MO
def put (H : HD) (a : Addr) (o : MO) : HD := fun b => if b = a then some o else H b
theorem put_same {H : HD} {a : Addr} {o : MO} : put H a o a = some o := if_pos rfl
theorem put_ne {H : HD} {a b : Addr} {o : MO} (h : b ≠ a) : put H a o b = H b := if_neg h
theorem put_put {H : HD} {a : Addr} {o u : MO} : put (put H a o) a u = put H a u := by
  funext b; unfold put; split <;> rfl
theorem put_comm {H : HD} {a b : Addr} {o u : MO} (h : a ≠ b) : put (put H a o) b u = put (put H b u) a o := by
  funext c; unfold put
  by_cases h1 : c = a
  · subst h1; rw [if_neg h, if_pos rfl]
    simp
  · rw [if_neg h1]
    simp [h1]
theorem put_id {H : HD} {a : Addr} {o : MO} (h : H a = some o) : put H a o = H := by
  funext b; unfold put; split
  · rename_i e; rw [e, h]
  · rfl
/-- a part of a heap -/
def Le (H H' : HD) : Prop := ∀ a o, H a = some o → H' a = some o
theorem Le.refl (H : HD) : Le H H := fun _ _ h => h
theorem Le.trans {A B C : HD} (x : Le A B) (y : Le B C) : Le A C := fun a o h => y a o (x a o h)
theorem Le.no {H H' : HD} (x : Le H H') {a : Addr} (h : H' a = none) : H a = none := by
  cases q : H a with
  | none => rfl
  | some o => rw [x a o q] at h; cases h
theorem Le.putB {H H' : HD} (x : Le H H') (a : Addr) (o : MO) : Le (put H a o) (put H' a o) := fun b u h => by
  by_cases e : b = a
  · subst e; rw [put_same] at h ⊢; exact h
  · rw [put_ne e] at h ⊢; exact x b u h
theorem Le.newB {H : HD} {a : Addr} {o : MO} (h : H a = none) : Le H (put H a o) := fun b u e => by
  rw [put_ne (by rintro rfl; rw [h] at e; cases e)]; exact e

/-- an exception object that was caught -/
def ExV (C : Addr) (dd : Option Addr) (a : Addr) : HO := .ext fun h => ∃ (oe : Obj) (vs : Array Value), h.get? a = some oe ∧ Zc (.ref C) dd oe ∧ oe.data = .fields vs
/-- the object of an empty dict that never changes -/
def EmOb (ob : Obj) : Prop := ob.ExactDict ∧ ∃ ep, ob.data = .dict #[] ep
def EmV (ob : Obj) (a : Addr) : HO := .ext fun h => h.get? a = some ob
mutual
def Rp (K : PySem.W.Frag) (H : Hp) : D → V → Prop
  | .non, v => v = .non
  | .bl b, v => v = .bl b
  | .int i, v => v = .int i
  | .str x, v => v = .str x
  | .ty n, v => v = .ty n
  | .ref a, v => v = .ref a
  | .tup ds, v => ∃ a vs, v = .ref a ∧ SqT K H a vs ∧ Rps K H ds vs
  | .kl ds, v => ∃ a vs, v = .ref a ∧ (∃ o, H a = some (.frz o (.lst vs))) ∧ Rps K H ds vs
  | .kc ds, v => ∃ a vs, v = .ref a ∧ ((∃ o, H a = some (.frz o (.lst vs))) ∨ ∃ (o : Obj) (its : Array Value) (n : Nat), K.lookup a = some o ∧ o.cls = .type "list" ∧ o.dict = none ∧ o.data = .seq its n ∧ its.size ≤ sizeLine ∧ Vals vs its.toList) ∧ Rps K H ds vs
  | .exc C ns ds, v => ∃ a dd vs, v = .ref a ∧ H a = some (ExV C dd a) ∧ ns.length = ds.length ∧ ((dd = none ∧ ns = []) ∨ ∃ b, dd = some b ∧ H b = some (.xd (ns.zip vs))) ∧ Rps K H ds vs
  | .emp, v => ∃ a ob, v = .ref a ∧ (a == sysModules) = false ∧ H a = some (EmV ob a) ∧ EmOb ob
def Rps (K : PySem.W.Frag) (H : Hp) : List D → List V → Prop
  | [], vs => vs = []
  | d :: ds, vs => ∃ v r, vs = v :: r ∧ Rp K H d v ∧ Rps K H ds r
end

/-- names (keys) and values -/
def RKV {κ : Type} (K : PySem.W.Frag) (H : Hp) : List (κ × D) → List (κ × V) → Prop
  | [], l => l = []
  | p :: ps, l => ∃ v r, l = (p.1, v) :: r ∧ Rp K H p.2 v ∧ RKV K H ps r

def RO (K : PySem.W.Frag) (H : Hp) : MO → HO → Prop
  | .lst ds, o => ∃ vs, o = .lst vs ∧ Rps K H ds vs
  | .dK kvs, o => ∃ l, o = .dK l ∧ RKV K H kvs l
  | .dT kvs, o => ∃ l, o = .dT l ∧ RKV K H kvs l
  | .ins C fs, o => ∃ dx l, o = .ins C dx l ∧ RKV K H fs l
  | .fz ob w u, o => o = .frz ob w ∧ RO K H u w ∧ (∀ vs, w ≠ .lst vs) ∧ (∀ vs, w ≠ .tup vs)

def Sim (K : PySem.W.Frag) (G : HD) (H : Hp) : Prop := ∀ a o, G a = some o → ∃ o', H a = some o' ∧ RO K H o o'
/-- what is not of ours stays -/
def Ext (G : HD) (H : Hp) (G' : HD) (H' : Hp) : Prop := ∀ a o, G a = none → H a = some o → H' a = some o ∧ G' a = none

section
variable {K : PySem.W.Frag} {G G' G1 G2 : HD} {H H' H1 H2 : Hp}
theorem Sim.le (s : Sim K G H) (l : Le G' G) : Sim K G' H := fun a o e => s a o (l a o e)
theorem Sim.no (s : Sim K G H) {a : Addr} (h : H a = none) : G a = none := by
  cases q : G a with
  | none => rfl
  | some o => obtain ⟨o', e, _⟩ := s a o q; rw [h] at e; cases e
theorem Ext.refl : Ext G H G H := fun _ _ g h => ⟨h, g⟩
theorem Ext.trans (x : Ext G H G1 H1) (y : Ext G1 H1 G2 H2) : Ext G H G2 H2 := fun a o g h =>
  let ⟨h1, g1⟩ := x a o g h
  y a o g1 h1
theorem Ext.le (x : Ext G H G1 H1) (l : Le G2 G1) : Ext G H G2 H1 := fun a o g h =>
  let ⟨h1, g1⟩ := x a o g h
  ⟨h1, l.no g1⟩
theorem Ext.of_le (l : Le G' G) : Ext G H G' H := Ext.refl.le l

theorem Sim.tup (s : Sim K G H) {a : Addr} {vs : List V} (h : H a = some (.tup vs)) : G a = none := by
  cases q : G a with
  | none => rfl
  | some o =>
    obtain ⟨o', e, r⟩ := s a o q
    rw [h] at e; cases e
    cases o with
    | lst ds => obtain ⟨_, e, _⟩ := r; cases e
    | dK ds => obtain ⟨_, e, _⟩ := r; cases e
    | dT ds => obtain ⟨_, e, _⟩ := r; cases e
    | ins C fs => obtain ⟨_, _, e, _⟩ := r; cases e
    | fz ob w u => obtain ⟨e, _⟩ := r; cases e
theorem Sim.frzT (s : Sim K G H) {a : Addr} {ob : Obj} {vs : List V} (h : H a = some (.frz ob (.tup vs))) : G a = none := by
  cases q : G a with
  | none => rfl
  | some o =>
    obtain ⟨o', e, r⟩ := s a o q
    rw [h] at e; cases e
    cases o with
    | lst ds => obtain ⟨_, e, _⟩ := r; cases e
    | dK ds => obtain ⟨_, e, _⟩ := r; cases e
    | dT ds => obtain ⟨_, e, _⟩ := r; cases e
    | ins C fs => obtain ⟨_, _, e, _⟩ := r; cases e
    | fz ob w u => obtain ⟨e, _, _, z⟩ := r; cases e; exact (z _ rfl).elim
theorem Sim.frzL (s : Sim K G H) {a : Addr} {ob : Obj} {vs : List V} (h : H a = some (.frz ob (.lst vs))) : G a = none := by
  cases q : G a with
  | none => rfl
  | some o =>
    obtain ⟨o', e, r⟩ := s a o q
    rw [h] at e; cases e
    cases o with
    | lst ds => obtain ⟨_, e, _⟩ := r; cases e
    | dK ds => obtain ⟨_, e, _⟩ := r; cases e
    | dT ds => obtain ⟨_, e, _⟩ := r; cases e
    | ins C fs => obtain ⟨_, _, e, _⟩ := r; cases e
    | fz ob w u => obtain ⟨e, _, z, _⟩ := r; cases e; exact (z _ rfl).elim
theorem Sim.extN (s : Sim K G H) {a : Addr} {φ : Heap → Prop} (h : H a = some (.ext φ)) : G a = none := by
  cases q : G a with
  | none => rfl
  | some o =>
    obtain ⟨o', e, r⟩ := s a o q
    rw [h] at e; cases e
    cases o with
    | lst ds => obtain ⟨_, e, _⟩ := r; cases e
    | dK ds => obtain ⟨_, e, _⟩ := r; cases e
    | dT ds => obtain ⟨_, e, _⟩ := r; cases e
    | ins C fs => obtain ⟨_, _, e, _⟩ := r; cases e
    | fz ob w u => obtain ⟨e, _⟩ := r; cases e
theorem Sim.xdN (s : Sim K G H) {a : Addr} {l : List (Str × V)} (h : H a = some (.xd l)) : G a = none := by
  cases q : G a with
  | none => rfl
  | some o =>
    obtain ⟨o', e, r⟩ := s a o q
    rw [h] at e; cases e
    cases o with
    | lst ds => obtain ⟨_, e, _⟩ := r; cases e
    | dK ds => obtain ⟨_, e, _⟩ := r; cases e
    | dT ds => obtain ⟨_, e, _⟩ := r; cases e
    | ins C fs => obtain ⟨_, _, e, _⟩ := r; cases e
    | fz ob w u => obtain ⟨e, _⟩ := r; cases e
/-- the same of all but plain lists that are not of ours -/
def ExtL (G : HD) (H : Hp) (G' : HD) (H' : Hp) : Prop := ∀ a o, (∀ l, o ≠ HO.lst l) → G a = none → H a = some o → H' a = some o ∧ G' a = none
theorem Ext.l (x : Ext G H G1 H1) : ExtL G H G1 H1 := fun a o _ g h => x a o g h
theorem nl_tup {vs : List V} : ∀ l, HO.tup vs ≠ .lst l := fun _ z => nomatch z
theorem nl_frz {o : Obj} {u : HO} : ∀ l, HO.frz o u ≠ .lst l := fun _ z => nomatch z
theorem nl_ext {φ : Heap → Prop} : ∀ l, HO.ext φ ≠ .lst l := fun _ z => nomatch z
theorem nl_xd {m : List (Str × V)} : ∀ l, HO.xd m ≠ .lst l := fun _ z => nomatch z
theorem SqT.extL {a : Addr} {vs : List V} (s : Sim K G H) (x : ExtL G H G' H') (h : SqT K H a vs) : SqT K H' a vs := by
  rcases h with (h | ⟨o, h⟩) | h
  · exact .inl (.inl (x a _ nl_tup (s.tup h) h).1)
  · exact .inl (.inr ⟨o, (x a _ nl_frz (s.frzT h) h).1⟩)
  · exact .inr h
mutual
theorem Rp.extL (s : Sim K G H) (x : ExtL G H G' H') : ∀ (d : D) (v : V), Rp K H d v → Rp K H' d v
  | .non, _, h => h
  | .bl _, _, h => h
  | .int _, _, h => h
  | .str _, _, h => h
  | .ty _, _, h => h
  | .ref _, _, h => h
  | .tup ds, v, h => by
    obtain ⟨a, vs, e, t, r⟩ := h
    exact ⟨a, vs, e, SqT.extL s x t, Rps.extL s x ds vs r⟩
  | .kl ds, v, h => by
    obtain ⟨a, vs, e, ⟨o, t⟩, r⟩ := h
    exact ⟨a, vs, e, ⟨o, (x a _ nl_frz (s.frzL t) t).1⟩, Rps.extL s x ds vs r⟩
  | .kc ds, v, h => by
    obtain ⟨a, vs, e, t, r⟩ := h
    refine ⟨a, vs, e, ?_, Rps.extL s x ds vs r⟩
    rcases t with ⟨o, t⟩ | t
    · exact .inl ⟨o, (x a _ nl_frz (s.frzL t) t).1⟩
    · exact .inr t
  | .exc C ns ds, v, h => by
    obtain ⟨a, dd, vs, e, t, hl, q, r⟩ := h
    refine ⟨a, dd, vs, e, (x a _ nl_ext (s.extN t) t).1, hl, ?_, Rps.extL s x ds vs r⟩
    rcases q with q | ⟨b, q1, q2⟩
    · exact .inl q
    · exact .inr ⟨b, q1, (x b _ nl_xd (s.xdN q2) q2).1⟩
  | .emp, v, h => by
    obtain ⟨a, ob, e, m, t, q⟩ := h
    exact ⟨a, ob, e, m, (x a _ nl_ext (s.extN t) t).1, q⟩
theorem Rps.extL (s : Sim K G H) (x : ExtL G H G' H') : ∀ (ds : List D) (vs : List V), Rps K H ds vs → Rps K H' ds vs
  | [], _, h => h
  | d :: ds, vs, h => by
    obtain ⟨v, r, e, h1, h2⟩ := h
    exact ⟨v, r, e, Rp.extL s x d v h1, Rps.extL s x ds r h2⟩
end
theorem SqT.ext {a : Addr} {vs : List V} (s : Sim K G H) (x : Ext G H G' H') (h : SqT K H a vs) : SqT K H' a vs := by
  rcases h with (h | ⟨o, h⟩) | h
  · exact .inl (.inl (x a _ (s.tup h) h).1)
  · exact .inl (.inr ⟨o, (x a _ (s.frzT h) h).1⟩)
  · exact .inr h
mutual
theorem Rp.ext (s : Sim K G H) (x : Ext G H G' H') : ∀ (d : D) (v : V), Rp K H d v → Rp K H' d v
  | .non, _, h => h
  | .bl _, _, h => h
  | .int _, _, h => h
  | .str _, _, h => h
  | .ty _, _, h => h
  | .ref _, _, h => h
  | .tup ds, v, h => by
    obtain ⟨a, vs, e, t, r⟩ := h
    exact ⟨a, vs, e, SqT.ext s x t, Rps.ext s x ds vs r⟩
  | .kl ds, v, h => by
    obtain ⟨a, vs, e, ⟨o, t⟩, r⟩ := h
    exact ⟨a, vs, e, ⟨o, (x a _ (s.frzL t) t).1⟩, Rps.ext s x ds vs r⟩
  | .kc ds, v, h => by
    obtain ⟨a, vs, e, t, r⟩ := h
    refine ⟨a, vs, e, ?_, Rps.ext s x ds vs r⟩
    rcases t with ⟨o, t⟩ | t
    · exact .inl ⟨o, (x a _ (s.frzL t) t).1⟩
    · exact .inr t
  | .exc C ns ds, v, h => by
    obtain ⟨a, dd, vs, e, t, hl, q, r⟩ := h
    refine ⟨a, dd, vs, e, (x a _ (s.extN t) t).1, hl, ?_, Rps.ext s x ds vs r⟩
    rcases q with q | ⟨b, q1, q2⟩
    · exact .inl q
    · exact .inr ⟨b, q1, (x b _ (s.xdN q2) q2).1⟩
  | .emp, v, h => by
    obtain ⟨a, ob, e, m, t, q⟩ := h
    exact ⟨a, ob, e, m, (x a _ (s.extN t) t).1, q⟩
theorem Rps.ext (s : Sim K G H) (x : Ext G H G' H') : ∀ (ds : List D) (vs : List V), Rps K H ds vs → Rps K H' ds vs
  | [], _, h => h
  | d :: ds, vs, h => by
    obtain ⟨v, r, e, h1, h2⟩ := h
    exact ⟨v, r, e, Rp.ext s x d v h1, Rps.ext s x ds r h2⟩
end
theorem RKV.ext {κ : Type} (s : Sim K G H) (x : Ext G H G' H') : ∀ (l : List (κ × D)) (m : List (κ × V)), RKV K H l m → RKV K H' l m
  | [], _, h => h
  | p :: ps, m, h => by
    obtain ⟨v, r, e, h1, h2⟩ := h
    exact ⟨v, r, e, h1.ext s x _ _, RKV.ext s x ps r h2⟩
theorem RO.ext (s : Sim K G H) (x : Ext G H G' H') : ∀ (o : MO) (o' : HO), RO K H o o' → RO K H' o o'
  | .lst ds, _, h => let ⟨vs, e, r⟩ := h; ⟨vs, e, r.ext s x _ _⟩
  | .dK _, _, h => let ⟨vs, e, r⟩ := h; ⟨vs, e, r.ext s x _ _⟩
  | .dT _, _, h => let ⟨vs, e, r⟩ := h; ⟨vs, e, r.ext s x _ _⟩
  | .ins _ _, _, h => let ⟨dx, vs, e, r⟩ := h; ⟨dx, vs, e, r.ext s x _ _⟩
  | .fz ob w u, _, h => let ⟨e, r, z⟩ := h; ⟨e, RO.ext s x u w r, z⟩
/-- a new object that we do not name (a tuple ..) -/
theorem Ext.new {p : Addr} {o : HO} (h : H p = none) (g : G p = none) : Ext G H G (upd H p o) := fun a u ga e =>
  ⟨by rw [upd_ne (by rintro rfl; rw [h] at e; cases e)]; exact e, ga⟩
theorem Sim.newO {p : Addr} {o : HO} (s : Sim K G H) (h : H p = none) : Sim K G (upd H p o) := fun a u e => by
  obtain ⟨o', e1, r⟩ := s a u e
  have hn : a ≠ p := by rintro rfl; rw [h] at e1; cases e1
  exact ⟨o', by rw [upd_ne hn]; exact e1, r.ext s (Ext.new h (s.no h)) _ _⟩
/-- a new object of ours -/
theorem Ext.newM {p : Addr} {o : HO} {m : MO} (h : H p = none) : Ext G H (put G p m) (upd H p o) := fun a u ga e => by
  have hn : a ≠ p := by rintro rfl; rw [h] at e; cases e
  exact ⟨by rw [upd_ne hn]; exact e, by rw [put_ne hn]; exact ga⟩
theorem Sim.newM {p : Addr} {o : HO} {m : MO} (s : Sim K G H) (h : H p = none) (r : RO K H m o) : Sim K (put G p m) (upd H p o) := fun a u e => by
  by_cases hn : a = p
  · subst hn
    rw [put_same] at e; cases e
    exact ⟨o, upd_same, r.ext s (Ext.newM (m := m) (o := o) h) _ _⟩
  · rw [put_ne hn] at e
    obtain ⟨o', e1, r1⟩ := s a u e
    exact ⟨o', by rw [upd_ne hn]; exact e1, r1.ext s (Ext.newM (m := m) (o := o) h) _ _⟩
/-- an object of ours is written -/
theorem Ext.wr {p : Addr} {o : HO} {m m0 : MO} (g : G p = some m0) : Ext G H (put G p m) (upd H p o) := fun a u ga e => by
  have hn : a ≠ p := by rintro rfl; rw [g] at ga; cases ga
  exact ⟨by rw [upd_ne hn]; exact e, by rw [put_ne hn]; exact ga⟩
theorem Sim.wr {p : Addr} {o : HO} {m m0 : MO} (s : Sim K G H) (g : G p = some m0) (r : RO K H m o) : Sim K (put G p m) (upd H p o) := fun a u e => by
  by_cases hn : a = p
  · subst hn
    rw [put_same] at e; cases e
    exact ⟨o, upd_same, r.ext s (Ext.wr (m := m) (o := o) g) _ _⟩
  · rw [put_ne hn] at e
    obtain ⟨o', e1, r1⟩ := s a u e
    exact ⟨o', by rw [upd_ne hn]; exact e1, r1.ext s (Ext.wr (m := m) (o := o) g) _ _⟩
theorem Sim.lst (s : Sim K G H) {a : Addr} {ds : List D} (g : G a = some (.lst ds)) : ∃ vs, H a = some (.lst vs) ∧ Rps K H ds vs := by
  obtain ⟨o', e, vs, rfl, r⟩ := s a _ g
  exact ⟨vs, e, r⟩
theorem Sim.ins (s : Sim K G H) {a C : Addr} {fs : List (Str × D)} (g : G a = some (.ins C fs)) : ∃ dx l, H a = some (.ins C dx l) ∧ RKV K H fs l := by
  obtain ⟨o', e, dx, l, rfl, r⟩ := s a _ g
  exact ⟨dx, l, e, r⟩
theorem Sim.dK (s : Sim K G H) {a : Addr} {l : List (Key × D)} (g : G a = some (.dK l)) : ∃ m, H a = some (.dK m) ∧ RKV K H l m := by
  obtain ⟨o', e, vs, rfl, r⟩ := s a _ g
  exact ⟨vs, e, r⟩
theorem Sim.dT (s : Sim K G H) {a : Addr} {l : List (List Key × D)} (g : G a = some (.dT l)) : ∃ m, H a = some (.dT m) ∧ RKV K H l m := by
  obtain ⟨o', e, vs, rfl, r⟩ := s a _ g
  exact ⟨vs, e, r⟩

/-! lists -/
theorem Rps.length : ∀ {ds : List D} {vs : List V}, Rps K H ds vs → vs.length = ds.length
  | [], _, h => by cases h; rfl
  | d :: ds, _, h => by obtain ⟨v, r, rfl, _, h2⟩ := h; simp [Rps.length h2]
theorem Rps.cons {d : D} {ds : List D} {v : V} {vs : List V} (h : Rp K H d v) (t : Rps K H ds vs) : Rps K H (d :: ds) (v :: vs) := ⟨v, vs, rfl, h, t⟩
theorem Rps.nil : Rps K H [] [] := rfl
theorem Rps.get : ∀ {ds : List D} {vs : List V} {i : Nat} {d : D}, Rps K H ds vs → ds[i]? = some d → ∃ v, vs[i]? = some v ∧ Rp K H d v
  | [], _, _, _, _, e => by simp at e
  | d :: ds, _, 0, _, h, e => by obtain ⟨v, r, rfl, h1, _⟩ := h; cases e; exact ⟨v, rfl, h1⟩
  | d :: ds, _, i + 1, _, h, e => by obtain ⟨v, r, rfl, _, h2⟩ := h; exact Rps.get (i := i) h2 e
theorem Rps.app : ∀ {ds es : List D} {vs ws : List V}, Rps K H ds vs → Rps K H es ws → Rps K H (ds ++ es) (vs ++ ws)
  | [], _, _, _, h, k => by cases h; exact k
  | d :: ds, _, _, _, h, k => by obtain ⟨v, r, rfl, h1, h2⟩ := h; exact ⟨v, _, rfl, h1, Rps.app h2 k⟩
theorem Rps.set : ∀ {ds : List D} {vs : List V} {i : Nat} {d : D} {v : V}, Rps K H ds vs → Rp K H d v → Rps K H (ds.set i d) (vs.set i v)
  | [], _, _, _, _, h, _ => by cases h; exact rfl
  | d :: ds, _, 0, _, _, h, k => by obtain ⟨v, r, rfl, h1, h2⟩ := h; exact ⟨_, r, rfl, k, h2⟩
  | d :: ds, _, i + 1, _, _, h, k => by obtain ⟨v, r, rfl, h1, h2⟩ := h; exact ⟨v, _, rfl, h1, Rps.set (i := i) h2 k⟩
theorem Rps.take : ∀ {ds : List D} {vs : List V} (n : Nat), Rps K H ds vs → Rps K H (ds.take n) (vs.take n)
  | _, _, 0, _ => by simp; exact rfl
  | [], _, n + 1, h => by cases h; exact rfl
  | d :: ds, _, n + 1, h => by obtain ⟨v, r, rfl, h1, h2⟩ := h; exact ⟨v, _, rfl, h1, Rps.take n h2⟩
theorem Rps.drop : ∀ {ds : List D} {vs : List V} (n : Nat), Rps K H ds vs → Rps K H (ds.drop n) (vs.drop n)
  | _, _, 0, h => by simpa using h
  | [], _, n + 1, h => by cases h; exact rfl
  | d :: ds, _, n + 1, h => by obtain ⟨v, r, rfl, h1, h2⟩ := h; exact Rps.drop n h2
theorem Rps.uncons {d : D} {ds : List D} {vs : List V} (h : Rps K H (d :: ds) vs) : ∃ v r, vs = v :: r ∧ Rp K H d v ∧ Rps K H ds r := h
theorem Rps.ints : ∀ {ns : List Int} {vs : List V}, Rps K H (ns.map D.int) vs → vs = ns.map V.int
  | [], _, h => h
  | n :: ns, _, h => by obtain ⟨v, r, rfl, h1, h2⟩ := h; cases h1; rw [Rps.ints h2]; rfl
theorem Rps.ofInts : ∀ (ns : List Int), Rps K H (ns.map D.int) (ns.map V.int)
  | [] => rfl
  | n :: ns => ⟨_, _, rfl, rfl, Rps.ofInts ns⟩
theorem Rps.bls : ∀ {ns : List Bool} {vs : List V}, Rps K H (ns.map D.bl) vs → vs = ns.map V.bl
  | [], _, h => h
  | n :: ns, _, h => by obtain ⟨v, r, rfl, h1, h2⟩ := h; cases h1; rw [Rps.bls h2]; rfl
/-! names and values -/
theorem RKV.length {κ : Type} : ∀ {l : List (κ × D)} {m : List (κ × V)}, RKV K H l m → m.length = l.length
  | [], _, h => by cases h; rfl
  | p :: l, _, h => by obtain ⟨v, r, rfl, _, h2⟩ := h; simp [RKV.length h2]
theorem RKV.keys {κ : Type} : ∀ {l : List (κ × D)} {m : List (κ × V)}, RKV K H l m → m.map (·.1) = l.map (·.1)
  | [], _, h => by cases h; rfl
  | p :: l, _, h => by obtain ⟨v, r, rfl, _, h2⟩ := h; simp [RKV.keys h2]
theorem RKV.lookup {f : Str} : ∀ {l : List (Str × D)} {m : List (Str × V)} {d : D}, RKV K H l m → l.lookup f = some d → ∃ v, m.lookup f = some v ∧ Rp K H d v
  | [], _, _, _, e => by simp at e
  | (n, d) :: l, _, _, h, e => by
    obtain ⟨v, r, rfl, h1, h2⟩ := h
    rw [List.lookup_cons] at e ⊢
    show ∃ w, (match f == n with | true => some v | false => List.lookup f r) = some w ∧ _
    cases q : f == n with
    | true => rw [q] at e; cases e; exact ⟨v, rfl, h1⟩
    | false => rw [q] at e; exact RKV.lookup h2 e
theorem RKV.lookup_none {f : Str} : ∀ {l : List (Str × D)} {m : List (Str × V)}, RKV K H l m → l.lookup f = none → m.lookup f = none
  | [], _, h, _ => by cases h; rfl
  | (n, d) :: l, _, h, e => by
    obtain ⟨v, r, rfl, h1, h2⟩ := h
    rw [List.lookup_cons] at e ⊢
    show (match f == n with | true => some v | false => List.lookup f r) = none
    cases q : f == n with
    | true => rw [q] at e; cases e
    | false => rw [q] at e; exact RKV.lookup_none h2 e
end
/-- a field is stored -/
def putD (f : Str) (d : D) : List (Str × D) → List (Str × D)
  | [] => [(f, d)]
  | (n, e) :: r => if n = f then (n, d) :: r else (n, e) :: putD f d r
end DL

namespace DL
open PySem PySem.Spec L2
open PyProof.Rows hiding St

/-! ### readings over data -/
abbrev DSt := List (Option D)
abbrev Post := D → HD → Prop
abbrev DX := Value → List (Str × D) → HD → Prop
abbrev DW := Value → List (Str × D) → DSt → HD → Prop
abbrev TD := DW → DSt → HD → Post → Prop
abbrev TDT := DW → DSt → HD → (Bool → HD → Prop) → Prop
abbrev TDA := DW → DSt → HD → (List D → HD → Prop) → Prop
structure DEnds where
  nx : DSt → HD → Prop
  rt : Post
  bk : DSt → HD → Prop := fun _ _ => False
  ct : DSt → HD → Prop := fun _ _ => False
abbrev TDS := DW → DEnds → DSt → HD → Prop

def RpS (K : PySem.W.Frag) (H : Hp) : DSt → St → Prop
  | [], l => l = []
  | o :: r, l => ∃ w t, l = w :: t ∧ (∀ d, o = some d → ∃ v, w = some v ∧ Rp K H d v) ∧ RpS K H r t
/-- an exception's own fields -/
def XF (K : PySem.W.Frag) (H : Hp) (fs : List (Str × D)) : Option Addr → Prop
  | none => fs = []
  | some a => ∃ l, H a = some (.xd l) ∧ RKV K H fs l
def liftQ (K : PySem.W.Frag) (G : HD) (H : Hp) (Q : Post) : VK := fun v H' => ∃ d G', Rp K H' d v ∧ Sim K G' H' ∧ Ext G H G' H' ∧ Q d G'
def liftB (K : PySem.W.Frag) (G : HD) (H : Hp) (Q : Bool → HD → Prop) : Bool → Hp → Prop := fun b H' => ∃ G', Sim K G' H' ∧ Ext G H G' H' ∧ Q b G'
def liftA (K : PySem.W.Frag) (G : HD) (H : Hp) (Q : List D → HD → Prop) : List V → Hp → Prop := fun vs H' => ∃ ds G', Rps K H' ds vs ∧ Sim K G' H' ∧ Ext G H G' H' ∧ Q ds G'
def liftN (K : PySem.W.Frag) (G : HD) (H : Hp) (Q : DSt → HD → Prop) : St → Hp → Prop := fun t H' => ∃ σ G', RpS K H' σ t ∧ Sim K G' H' ∧ Ext G H G' H' ∧ Q σ G'
def liftW (K : PySem.W.Frag) (G : HD) (H : Hp) (W : DW) : WX := fun c dd t H' => ∃ σ fs G', RpS K H' σ t ∧ XF K H' fs dd ∧ Sim K G' H' ∧ Ext G H G' H' ∧ W c fs σ G'
def liftX (K : PySem.W.Frag) (G : HD) (H : Hp) (E : DX) : XK := fun c dd H' => ∃ fs G', XF K H' fs dd ∧ Sim K G' H' ∧ Ext G H G' H' ∧ E c fs G'
def liftD (K : PySem.W.Frag) (G : HD) (H : Hp) (D : DEnds) : Ends := { nx := liftN K G H D.nx, rt := liftQ K G H D.rt, bk := liftN K G H D.bk, ct := liftN K G H D.ct }

section
variable {K : PySem.W.Frag} {G G' G1 G2 : HD} {H H' H1 H2 : Hp}
theorem RpS.ext (s : Sim K G H) (x : Ext G H G' H') : ∀ (σ : DSt) (t : St), RpS K H σ t → RpS K H' σ t
  | [], _, h => h
  | o :: r, _, h => by
    obtain ⟨w, t, rfl, h1, h2⟩ := h
    refine ⟨w, t, rfl, fun d e => ?_, RpS.ext s x r t h2⟩
    obtain ⟨v, e1, e2⟩ := h1 d e
    exact ⟨v, e1, e2.ext s x _ _⟩
theorem RpS.get : ∀ {σ : DSt} {t : St} {i : Nat} {d : D}, RpS K H σ t → σ[i]? = some (some d) → ∃ v, t[i]? = some (some v) ∧ Rp K H d v
  | [], _, _, _, _, e => by simp at e
  | o :: r, _, 0, d, h, e => by
    obtain ⟨w, t, rfl, h1, _⟩ := h
    have e' : o = some d := by simpa using e
    obtain ⟨v, rfl, r1⟩ := h1 d e'
    exact ⟨v, rfl, r1⟩
  | o :: r, _, i + 1, d, h, e => by
    obtain ⟨w, t, rfl, _, h2⟩ := h
    exact RpS.get (i := i) h2 (by simpa using e)
theorem RpS.set : ∀ {σ : DSt} {t : St} {i : Nat} {d : D} {v : V}, RpS K H σ t → Rp K H d v → RpS K H (σ.set i (some d)) (t.set i (some v))
  | [], _, _, _, _, h, _ => by cases h; exact rfl
  | o :: r, _, 0, d, v, h, k => by
    obtain ⟨w, t, rfl, _, h2⟩ := h
    exact ⟨_, t, rfl, fun e q => ⟨v, rfl, by cases q; exact k⟩, h2⟩
  | o :: r, _, i + 1, d, v, h, k => by
    obtain ⟨w, t, rfl, h1, h2⟩ := h
    exact ⟨w, _, rfl, h1, RpS.set (i := i) h2 k⟩
theorem RpS.drop1 : ∀ {σ : DSt} {t : St} {i : Nat} {w : Option V}, RpS K H σ t → RpS K H (σ.set i none) (t.set i w)
  | [], _, _, _, h => by cases h; exact rfl
  | o :: r, _, 0, _, h => by
    obtain ⟨w, t, rfl, _, h2⟩ := h
    exact ⟨_, t, rfl, (fun e q => by cases q), h2⟩
  | o :: r, _, i + 1, _, h => by
    obtain ⟨w, t, rfl, h1, h2⟩ := h
    exact ⟨w, _, rfl, h1, RpS.drop1 (i := i) h2⟩
theorem RpS.start : ∀ {ds : List D} {vs : List V} (n : Nat), Rps K H ds vs → RpS K H (ds.map some ++ List.replicate n none) (vs.map some ++ List.replicate n none)
  | [], _, 0, h => by cases h; exact rfl
  | [], _, n + 1, h => by
    have ih := RpS.start (ds := []) n h
    cases h
    exact ⟨none, _, rfl, (fun _ q => nomatch q), ih⟩
  | d :: ds, _, n, h => by
    obtain ⟨v, r, rfl, h1, h2⟩ := h
    exact ⟨some v, _, rfl, (fun e q => ⟨v, rfl, by cases q; exact h1⟩), RpS.start n h2⟩

theorem liftQ.of {Q : Post} {d : D} {v : V} (r : Rp K H' d v) (s : Sim K G' H') (x : Ext G H G' H') (q : Q d G') : liftQ K G H Q v H' := ⟨d, G', r, s, x, q⟩
theorem liftQ.up {Q : Post} {v : V} (x : Ext G H G1 H1) (h : liftQ K G1 H1 Q v H2) : liftQ K G H Q v H2 := by
  obtain ⟨d, G', r, s, y, q⟩ := h
  exact ⟨d, G', r, s, x.trans y, q⟩
theorem liftB.up {Q : Bool → HD → Prop} {v : Bool} (x : Ext G H G1 H1) (h : liftB K G1 H1 Q v H2) : liftB K G H Q v H2 := by
  obtain ⟨G', s, y, q⟩ := h
  exact ⟨G', s, x.trans y, q⟩
theorem liftA.up {Q : List D → HD → Prop} {v : List V} (x : Ext G H G1 H1) (h : liftA K G1 H1 Q v H2) : liftA K G H Q v H2 := by
  obtain ⟨d, G', r, s, y, q⟩ := h
  exact ⟨d, G', r, s, x.trans y, q⟩
theorem liftN.up {Q : DSt → HD → Prop} {t : St} (x : Ext G H G1 H1) (h : liftN K G1 H1 Q t H2) : liftN K G H Q t H2 := by
  obtain ⟨d, G', r, s, y, q⟩ := h
  exact ⟨d, G', r, s, x.trans y, q⟩
theorem liftW.up {W : DW} {c : Value} {dd : Option Addr} {t : St} (x : Ext G H G1 H1) (h : liftW K G1 H1 W c dd t H2) : liftW K G H W c dd t H2 := by
  obtain ⟨σ, fs, G', r, f, s, y, q⟩ := h
  exact ⟨σ, fs, G', r, f, s, x.trans y, q⟩
theorem liftX.up {W : DX} {c : Value} {dd : Option Addr} (x : Ext G H G1 H1) (h : liftX K G1 H1 W c dd H2) : liftX K G H W c dd H2 := by
  obtain ⟨fs, G', f, s, y, q⟩ := h
  exact ⟨fs, G', f, s, x.trans y, q⟩
end

/-! ### what an expression, a statement is worth, by the model itself -/
section
variable (X : Cx)
def semE (e : Expr) : TE := fun σ H Q => ∀ (pins : List (Addr × Obj)) (s : Shared), Inv X pins σ H s → wpAny (model X.prog X.w) X.A (eval e X.env) (EP X pins σ Q) X.xe s
def semT (e : Expr) : TT := fun σ H Q => ∀ (pins : List (Addr × Obj)) (s : Shared), Inv X pins σ H s → wpAny (model X.prog X.w) X.A (isTrue e X.env (eval e X.env)) (TP X pins σ Q) X.xe s
def semTw (e : Expr) : TT := fun σ H Q => ∀ (wh : Sem Value) (pins : List (Addr × Obj)) (s : Shared), Inv X pins σ H s → wpAny (model X.prog X.w) X.A (isTrue e X.env wh) (TP X pins σ Q) X.xe s
def semA (es : List Expr) : TA := fun σ H Q => ∀ (pos : Pos) (pins : List (Addr × Obj)) (s : Shared), Inv X pins σ H s → wpAny (model X.prog X.w) X.A (spliced (backTo pos (starEach es X.env))) (AP X pins σ Q) X.xe s
def semS (st : Stmt) : TS := fun D σ H => ∀ (pins : List (Addr × Obj)) (s : Shared), Inv X pins σ H s → wpAny (model X.prog X.w) X.A (exec st X.env) (SP X pins D) X.xe s
def semSs (st : List Stmt) : TS := fun D σ H => ∀ (pins : List (Addr × Obj)) (s : Shared), Inv X pins σ H s → wpAny (model X.prog X.w) X.A (execs st X.env) (SP X pins D) X.xe s
end
section
variable {X : Cx} {e : Expr} {st : Stmt} {sts : List Stmt} {es : List Expr} {σ : St} {H : Hp}
theorem peSem : PE X e (semE X e) := ⟨fun pins s _ _ _ I h => h pins s I⟩
theorem ptSem : PT X e (semT X e) := ⟨fun pins s _ _ _ I h => h pins s I⟩
theorem pwSem : PW X e (semTw X e) := ⟨fun wh pins s _ _ _ I h => h wh pins s I⟩
theorem paSem : PA X es (semA X es) := ⟨fun pos pins s _ _ _ I h => h pos pins s I⟩
theorem psSem : PS X st (semS X st) := ⟨fun pins s _ _ _ I h => h pins s I⟩
theorem pssSem : PSs X sts (semSs X sts) := ⟨fun pins s _ _ _ I h => h pins s I⟩
theorem semE.of {t : TE} {Q : VK} (p : PE X e t) (h : t σ H Q) : semE X e σ H Q := fun pins s I => p.run pins s σ H Q I h
theorem semT.of {t : TT} {Q : Bool → Hp → Prop} (p : PT X e t) (h : t σ H Q) : semT X e σ H Q := fun pins s I => p.run pins s σ H Q I h
theorem semTw.of {t : TT} {Q : Bool → Hp → Prop} (p : PW X e t) (h : t σ H Q) : semTw X e σ H Q := fun wh pins s I => p.run wh pins s σ H Q I h
theorem semA.of {t : TA} {Q : List V → Hp → Prop} (p : PA X es t) (h : t σ H Q) : semA X es σ H Q := fun pos pins s I => p.run pos pins s σ H Q I h
theorem semS.of {t : TS} {D : Ends} (p : PS X st t) (h : t D σ H) : semS X st D σ H := fun pins s I => p.run pins s σ H D I h
theorem semSs.of {t : TS} {D : Ends} (p : PSs X sts t) (h : t D σ H) : semSs X sts D σ H := fun pins s I => p.run pins s σ H D I h
theorem semE.imp {Q Q' : VK} (h : semE X e σ H Q) (q : ∀ v H', Q v H' → Q' v H') : semE X e σ H Q' := fun pins s I =>
  thn (h pins s I) fun _ _ ⟨v, H', I', r, z⟩ => ⟨v, H', I', r, q v H' z⟩
theorem semT.imp {Q Q' : Bool → Hp → Prop} (h : semT X e σ H Q) (q : ∀ v H', Q v H' → Q' v H') : semT X e σ H Q' := fun pins s I =>
  thn (h pins s I) fun b _ ⟨H', I', z⟩ => ⟨H', I', q b H' z⟩
theorem semTw.imp {Q Q' : Bool → Hp → Prop} (h : semTw X e σ H Q) (q : ∀ v H', Q v H' → Q' v H') : semTw X e σ H Q' := fun wh pins s I =>
  thn (h wh pins s I) fun b _ ⟨H', I', z⟩ => ⟨H', I', q b H' z⟩
theorem semA.imp {Q Q' : List V → Hp → Prop} (h : semA X es σ H Q) (q : ∀ v H', Q v H' → Q' v H') : semA X es σ H Q' := fun pos pins s I =>
  thn (h pos pins s I) fun _ _ ⟨v, H', I', r, z⟩ => ⟨v, H', I', r, q v H' z⟩
/-- ends that are implied -/
structure EndsLe (D D' : Ends) : Prop where
  nx : ∀ t H', D.nx t H' → D'.nx t H'
  rt : ∀ v H', D.rt v H' → D'.rt v H'
  bk : ∀ t H', D.bk t H' → D'.bk t H'
  ct : ∀ t H', D.ct t H' → D'.ct t H'
theorem spLe {pins : List (Addr × Obj)} {D D' : Ends} (l : EndsLe D D') (f : Flow) (s' : Shared) (h : SP X pins D f s') : SP X pins D' f s' := by
  cases f with
  | next => obtain ⟨a, b, c, d⟩ := h; exact ⟨a, b, c, l.nx _ _ d⟩
  | brk => obtain ⟨a, b, c, d⟩ := h; exact ⟨a, b, c, l.bk _ _ d⟩
  | cont => obtain ⟨a, b, c, d⟩ := h; exact ⟨a, b, c, l.ct _ _ d⟩
  | ret u => obtain ⟨v, a, b, c, r, d⟩ := h; exact ⟨v, a, b, c, r, l.rt _ _ d⟩
theorem semS.imp {D D' : Ends} (h : semS X st D σ H) (l : EndsLe D D') : semS X st D' σ H := fun pins s I => thn (h pins s I) (spLe l)
theorem semSs.imp {D D' : Ends} (h : semSs X sts D σ H) (l : EndsLe D D') : semSs X sts D' σ H := fun pins s I => thn (h pins s I) (spLe l)
end

/-! ### the judgements -/
structure SR (X : Cx) (G : HD) (H : Hp) (σ : DSt) (t : St) (W : DW) : Prop where
  sim : Sim X.K G H
  slots : RpS X.K H σ t
  takes : Takes X (liftW X.K G H W)
section
variable {X : Cx} {G G1 : HD} {H H1 : Hp} {σ : DSt} {t : St} {W : DW}
theorem SR.ext (r : SR X G H σ t W) (s : Sim X.K G1 H1) (x : Ext G H G1 H1) : SR X G1 H1 σ t W :=
  ⟨s, r.slots.ext r.sim x _ _, r.takes.imp fun _ _ _ _ h => h.up x⟩
theorem SR.slot (r : SR X G H σ t W) {σ' : DSt} {t' : St} (h : RpS X.K H σ' t') : SR X G H σ' t' W := ⟨r.sim, h, r.takes⟩
end
structure DE (X : Cx) (e : Expr) (t : TD) : Prop where
  run : ∀ (G : HD) (H : Hp) (σ : DSt) (τ : St) (W : DW) (Q : Post), SR X G H σ τ W → t W σ G Q → semE X e τ H (liftQ X.K G H Q)
structure DT (X : Cx) (e : Expr) (t : TDT) : Prop where
  run : ∀ (G : HD) (H : Hp) (σ : DSt) (τ : St) (W : DW) (Q : Bool → HD → Prop), SR X G H σ τ W → t W σ G Q → semT X e τ H (liftB X.K G H Q)
structure DTw (X : Cx) (e : Expr) (t : TDT) : Prop where
  run : ∀ (G : HD) (H : Hp) (σ : DSt) (τ : St) (W : DW) (Q : Bool → HD → Prop), SR X G H σ τ W → t W σ G Q → semTw X e τ H (liftB X.K G H Q)
structure DA (X : Cx) (es : List Expr) (t : TDA) : Prop where
  run : ∀ (G : HD) (H : Hp) (σ : DSt) (τ : St) (W : DW) (Q : List D → HD → Prop), SR X G H σ τ W → t W σ G Q → semA X es τ H (liftA X.K G H Q)
structure DS (X : Cx) (st : Stmt) (t : TDS) : Prop where
  run : ∀ (G : HD) (H : Hp) (σ : DSt) (τ : St) (W : DW) (D : DEnds), SR X G H σ τ W → t W D σ G → semS X st (liftD X.K G H D) τ H
structure DSs (X : Cx) (st : List Stmt) (t : TDS) : Prop where
  run : ∀ (G : HD) (H : Hp) (σ : DSt) (τ : St) (W : DW) (D : DEnds), SR X G H σ τ W → t W D σ G → semSs X st (liftD X.K G H D) τ H

section
variable {X : Cx} {a b e : Expr} {ta tb : TD} {es : List Expr} {ts : TDA}
/-- then: the next expression, in the state behind the first -/
theorem DE.then (h : DE X a ta) {G : HD} {H : Hp} {σ : DSt} {τ : St} {W : DW} {R : D → HD → Prop} {Q : VK} (r : SR X G H σ τ W) (q : ta W σ G R)
    (k : ∀ d v G1 H1, SR X G1 H1 σ τ W → Ext G H G1 H1 → Rp X.K H1 d v → R d G1 → Q v H1) : semE X a τ H Q :=
  (h.run G H σ τ W R r q).imp fun v H1 ⟨d, G1, r1, s1, x1, q1⟩ => k d v G1 H1 (r.ext s1 x1) x1 r1 q1
theorem DT.then {t : TDT} (h : DT X a t) {G : HD} {H : Hp} {σ : DSt} {τ : St} {W : DW} {R : Bool → HD → Prop} {Q : Bool → Hp → Prop} (r : SR X G H σ τ W) (q : t W σ G R)
    (k : ∀ d G1 H1, SR X G1 H1 σ τ W → Ext G H G1 H1 → R d G1 → Q d H1) : semT X a τ H Q :=
  (h.run G H σ τ W R r q).imp fun v H1 ⟨G1, s1, x1, q1⟩ => k v G1 H1 (r.ext s1 x1) x1 q1
theorem DTw.then {t : TDT} (h : DTw X a t) {G : HD} {H : Hp} {σ : DSt} {τ : St} {W : DW} {R : Bool → HD → Prop} {Q : Bool → Hp → Prop} (r : SR X G H σ τ W) (q : t W σ G R)
    (k : ∀ d G1 H1, SR X G1 H1 σ τ W → Ext G H G1 H1 → R d G1 → Q d H1) : semTw X a τ H Q :=
  (h.run G H σ τ W R r q).imp fun v H1 ⟨G1, s1, x1, q1⟩ => k v G1 H1 (r.ext s1 x1) x1 q1
theorem DA.then (h : DA X es ts) {G : HD} {H : Hp} {σ : DSt} {τ : St} {W : DW} {R : List D → HD → Prop} {Q : List V → Hp → Prop} (r : SR X G H σ τ W) (q : ts W σ G R)
    (k : ∀ ds vs G1 H1, SR X G1 H1 σ τ W → Ext G H G1 H1 → Rps X.K H1 ds vs → R ds G1 → Q vs H1) : semA X es τ H Q :=
  (h.run G H σ τ W R r q).imp fun v H1 ⟨d, G1, r1, s1, x1, q1⟩ => k d v G1 H1 (r.ext s1 x1) x1 r1 q1

/-! ### names, constants -/
def dVar (i : Nat) : TD := fun _ σ G Q => match σ[i]? with
  | some (some d) => Q d G
  | _ => False
def dC (d : D) : TD := fun _ _ G Q => Q d G
theorem de_var {i : Nat} {x : Str} {pos : Pos} (p : PE X (.Name x pos) (tVar i)) : DE X (.Name x pos) (dVar i) := ⟨fun G H σ τ W Q r h => by
  refine semE.of p ?_
  unfold dVar at h
  split at h
  · rename_i d e
    obtain ⟨v, e1, r1⟩ := r.slots.get e
    exact ⟨v, e1, .of r1 r.sim .refl h⟩
  · exact h.elim⟩
/-- a slot -/
theorem dv (i : Nat) {x : Str} {pos : Pos} (hN : X.N[i]? = some x := by rfl) (hv : Vis X.env.scope x := by first | exact Or.inl rfl | exact Or.inr (Or.inl rfl) | exact Or.inr (Or.inr rfl)) (hd : (x == ("__debug__" : Str)) = false := by decide)
    (hcd : (x == ("__classdict__" : Str)) = false := by decide) : DE X (.Name x pos) (dVar i) := de_var (pe_var hN hv hd hcd)
theorem de_const {v : V} {d : D} (p : PE X e (tC v)) (h : ∀ K H, Rp K H d v) : DE X e (dC d) := ⟨fun G H σ τ W Q r q => semE.of p (.of (h _ _) r.sim .refl q)⟩
theorem de_int {i j pos} : DE X (.Constant (.int i) j pos) (dC (.int i)) := de_const pe_int fun _ _ => rfl
theorem de_bl {i j pos} : DE X (.Constant (.bool i) j pos) (dC (.bl i)) := de_const pe_bl fun _ _ => rfl
theorem de_non {j pos} : DE X (.Constant .none j pos) (dC .non) := de_const pe_non fun _ _ => rfl
theorem de_str {i j pos} : DE X (.Constant (.str i) j pos) (dC (.str i)) := de_const pe_str fun _ _ => rfl
/-- a constant of the module -/
theorem de_glob {x : Str} {d : D} {v : V} {u : Value} {pos : Pos} (hg : Gl X x) (hm : X.mg x = some u) (r : RelV v u) (h : ∀ H, Rp X.K H d v) (hd : (x == ("__debug__" : Str)) = false := by decide) : DE X (.Name x pos) (dC d) :=
  ⟨fun G H σ τ W Q r' q => semE.of (pe_glob hg hm r hd) (.of (h _) r'.sim .refl q)⟩
/-- a built-in type by its name -/
theorem de_bty {x : Str} {n : String} {pos : Pos} (hg : Gl X x) (hm : X.mg x = none) (hv : bootBuiltins x = some (.type n)) (hn : x ≠ "__name__" := by decide) (hd : (x == ("__debug__" : Str)) = false := by decide) : DE X (.Name x pos) (dC (.ty n)) :=
  ⟨fun G H σ τ W Q r' q => semE.of (pe_bltn (v := .ty n) hg hm hv rfl hn hd) (.of (d := .ty n) (show Rp X.K H (.ty n) (.ty n) from rfl) r'.sim .refl q)⟩

/-! ### operators by values -/
/-- a reading of values over data -/
def OpD (K : PySem.W.Frag) (r : R2) (rd : D → D → HD → Post → Prop) : Prop :=
  ∀ (G : HD) (H : Hp) (d e : D) (x y : V) (Q : Post) (Q' : VK), Sim K G H → Rp K H d x → Rp K H e y → (∀ v H', liftQ K G H Q v H' → Q' v H') → rd d e G Q → r x y H Q'
def dOp (rd : D → D → HD → Post → Prop) (ta tb : TD) : TD := fun W σ G Q => ta W σ G fun d G1 => tb W σ G1 fun e G2 => rd d e G2 Q
theorem de_two {r : R2} {rd : D → D → HD → Post → Prop} (hd : OpD X.K r rd) (p : PE X e (tOp r (semE X a) (semE X b))) (ha : DE X a ta) (hb : DE X b tb) : DE X e (dOp rd ta tb) :=
  ⟨fun G H σ τ W Q r0 h => semE.of p (ha.then r0 h fun d x G1 H1 r1 x1 k1 q1 => hb.then r1 q1 fun d2 y G2 H2 r2 x2 k2 q2 =>
    hd G2 H2 d d2 x y Q _ r2.sim (k1.ext r1.sim x2 _ _) k2 (fun _ _ z => z.up (x1.trans x2)) q2)⟩
theorem de_op {op : Operator} {r : R2} {rd : D → D → HD → Post → Prop} {pos : Pos} (ho : OpR X (binaryOp op) r) (hd : OpD X.K r rd) (ha : DE X a ta) (hb : DE X b tb) : DE X (.BinOp a op b pos) (dOp rd ta tb) :=
  de_two hd (pe_op ho peSem peSem) ha hb
theorem de_cmp {op : CmpOp} {r : R2} {rd : D → D → HD → Post → Prop} {pos : Pos} (ho : OpR X (compareOp op) r) (hd : OpD X.K r rd) (ha : DE X a ta) (hb : DE X b tb) (hm : behindInMarks op b = false) : DE X (.Compare a [op] [b] pos) (dOp rd ta tb) :=
  de_two hd (pe_cmpR ho peSem peSem hm) ha hb
theorem de_ix {r : R2} {rd : D → D → HD → Post → Prop} {pos : Pos} (ho : IxR X r) (hd : OpD X.K r rd) (ha : DE X a ta) (hb : DE X b tb) (hs : PlainIx b) : DE X (.Subscript a b pos) (dOp rd ta tb) :=
  de_two hd (pe_ix ho peSem peSem hs) ha hb
def dTest (t : TD) : TDT := fun W σ G Q => t W σ G fun d G1 => match d with
  | .bl k => Q k G1
  | _ => False
theorem dt_cmp {op : CmpOp} {r : R2} {rd : D → D → HD → Post → Prop} {pos : Pos} (ho : OpR X (compareOp op) r) (hd : OpD X.K r rd) (ha : DE X a ta) (hb : DE X b tb) (hm : behindInMarks op b = false) : DT X (.Compare a [op] [b] pos) (dTest (dOp rd ta tb)) :=
  ⟨fun G H σ τ W Q r0 h => semT.of (pt_cmpR ho peSem peSem hm) (ha.then r0 h fun d x G1 H1 r1 x1 k1 q1 => hb.then r1 q1 fun d2 y G2 H2 r2 x2 k2 q2 =>
    hd G2 H2 d d2 x y _ _ r2.sim (k1.ext r1.sim x2 _ _) k2 (fun v H' ⟨d3, G3, k3, s3, x3, q3⟩ => by
      cases d3 with
      | bl k => exact ⟨k, k3, G3, s3, (x1.trans x2).trans x3, q3⟩
      | _ => exact q3.elim) q2)⟩
theorem OpD.or {K : PySem.W.Frag} {r r' : R2} {rd : D → D → HD → Post → Prop} {rd' : D → D → HD → Post → Prop} (h : OpD K r rd) (h' : OpD K r' rd') :
    OpD K (fun x y H Q => r x y H Q ∨ r' x y H Q) (fun d e G Q => rd d e G Q ∨ rd' d e G Q) := fun G H d e x y Q Q' s k1 k2 f q => q.elim (fun z => .inl (h G H d e x y Q Q' s k1 k2 f z)) fun z => .inr (h' G H d e x y Q Q' s k1 k2 f z)
end
end DL

namespace DL
open PySem PySem.Spec L2
open PyProof.Rows hiding St

section
variable {K : PySem.W.Frag} {G : HD} {H : Hp}
/-- a list that is read: one of ours, or one that never changes -/
def asL (G : HD) : D → Option (List D)
  | .kl ds => some ds
  | .kc ds => some ds
  | .ref a => match G a with
    | some (.lst ds) => some ds
    | _ => none
  | _ => none
def asQ (G : HD) : D → Option (List D)
  | .tup ds => some ds
  | d => asL G d
theorem Rp.lst (s : Sim K G H) {d : D} {v : V} {ds : List D} (r : Rp K H d v) (h : asL G d = some ds) : ∃ a vs, v = .ref a ∧ SqL K H a vs ∧ Rps K H ds vs := by
  cases d with
  | kl es =>
    cases h
    obtain ⟨a, vs, rfl, ⟨o, t⟩, q⟩ := r
    exact ⟨a, vs, rfl, .inl (.inr ⟨o, t⟩), q⟩
  | kc es =>
    cases h
    obtain ⟨a, vs, rfl, t, q⟩ := r
    refine ⟨a, vs, rfl, ?_, q⟩
    rcases t with ⟨o, t⟩ | t
    · exact .inl (.inr ⟨o, t⟩)
    · exact .inr t
  | exc _ _ _ => cases h
  | emp => cases h
  | ref a =>
    cases (show v = .ref a from r)
    simp only [asL] at h
    split at h
    · rename_i es e
      cases h
      obtain ⟨vs, e1, r1⟩ := s.lst e
      exact ⟨a, vs, rfl, .of e1, r1⟩
    · cases h
  | non => cases h
  | bl _ => cases h
  | int _ => cases h
  | str _ => cases h
  | ty _ => cases h
  | tup _ => cases h
theorem Rp.seq (s : Sim K G H) {d : D} {v : V} {ds : List D} (r : Rp K H d v) (h : asQ G d = some ds) : ∃ a vs, v = .ref a ∧ (SqL K H a vs ∨ SqT K H a vs) ∧ Rps K H ds vs := by
  by_cases z : ∃ es, d = .tup es
  · obtain ⟨es, rfl⟩ := z
    cases h
    obtain ⟨a, vs, rfl, t, q⟩ := r
    exact ⟨a, vs, rfl, .inr t, q⟩
  · have h' : asL G d = some ds := by
      cases d with
      | tup es => exact (z ⟨es, rfl⟩).elim
      | _ => exact h
    obtain ⟨a, vs, e, t, q⟩ := r.lst s h'
    exact ⟨a, vs, e, .inl t, q⟩
end
/-- a new list -/
def newL (G : HD) (ds : List D) (Q : Post) : Prop := ∀ p, G p = none → Q (.ref p) (put G p (.lst ds))
theorem newL.fin {K : PySem.W.Frag} {G : HD} {H : Hp} {ds : List D} {vs : List V} {Q : Post} {Q' : VK} (s : Sim K G H) (r : Rps K H ds vs) (f : ∀ v H', liftQ K G H Q v H' → Q' v H') (q : newL G ds Q) :
    ∀ p, H p = none → Q' (.ref p) (upd H p (.lst vs)) := fun p hp =>
  f _ _ (.of (d := .ref p) rfl (s.newM (m := .lst ds) hp ⟨vs, rfl, r⟩) (.newM hp) (q p (s.no hp)))
theorem newT.fin {K : PySem.W.Frag} {G : HD} {H : Hp} {ds : List D} {vs : List V} {Q : Post} {Q' : VK} (s : Sim K G H) (r : Rps K H ds vs) (f : ∀ v H', liftQ K G H Q v H' → Q' v H') (q : Q (.tup ds) G) :
    ∀ p, H p = none → Q' (.ref p) (upd H p (.tup vs)) := fun p hp =>
  f _ _ (.of (d := .tup ds) ⟨p, vs, rfl, .of upd_same, r.ext s (Ext.new hp (s.no hp)) _ _⟩ (s.newO hp) (.new hp (s.no hp)) q)

/-! ### + - * // % ** -/
def dAdd : D → D → HD → Post → Prop := fun d e G Q => match d, e with
  | .int i, .int j => Q (.int (i + j)) G
  | .str x, .str y => x.length + y.length ≤ sizeLine ∧ Q (.str (x ++ y)) G
  | .tup xs, .tup ys => xs.length + ys.length ≤ sizeLine ∧ Q (.tup (xs ++ ys)) G
  | .ref a, .ref b => match G a, G b with
    | some (.lst xs), some (.lst ys) => xs.length + ys.length ≤ sizeLine ∧ newL G (xs ++ ys) Q
    | _, _ => False
  | _, _ => False
def rAddU (K : PySem.W.Frag) : R2 := fun x y H Q => rI0 (fun i j => .int (i + j)) x y H Q ∨ (∃ i j, x = .str i ∧ y = .str j ∧ i.length + j.length ≤ sizeLine ∧ Q (.str (i ++ j)) H) ∨ rCatA K x y H Q ∨ rCat x y H Q
theorem od_add (K : PySem.W.Frag) : OpD K (rAddU K) dAdd := fun G H d e x y Q Q' s k1 k2 f q => by
  unfold dAdd at q
  split at q
  · cases k1; cases k2
    exact .inl ⟨_, _, rfl, rfl, f _ _ (.of (d := .int _) rfl s .refl q)⟩
  · cases k1; cases k2
    exact .inr (.inl ⟨_, _, rfl, rfl, q.1, f _ _ (.of (d := .str _) rfl s .refl q.2)⟩)
  · rename_i xs ys
    obtain ⟨a, vs, rfl, t1, r1⟩ := id k1
    obtain ⟨b, ws, rfl, t2, r2⟩ := id k2
    refine .inr (.inr (.inl ⟨a, b, vs, ws, rfl, rfl, t1, t2, by rw [r1.length, r2.length]; exact q.1, fun e => ?_, fun _ e => ?_, fun _ _ => newT.fin s (r1.app r2) f q.2⟩))
    · subst e
      have e1 : xs = [] := List.eq_nil_of_length_eq_zero (by rw [← r1.length]; rfl)
      subst e1
      exact f _ _ (.of (d := .tup ys) k2 s .refl q.2)
    · subst e
      have e1 : ys = [] := List.eq_nil_of_length_eq_zero (by rw [← r2.length]; rfl)
      subst e1
      exact f _ _ (.of (d := .tup xs) k1 s .refl (by simpa using q.2))
  · split at q
    · rename_i xs ys e1 e2
      cases k1; cases k2
      obtain ⟨vs, g1, r1⟩ := s.lst e1
      obtain ⟨ws, g2, r2⟩ := s.lst e2
      exact .inr (.inr (.inr ⟨_, _, vs, ws, rfl, rfl, g1, g2, by rw [r1.length, r2.length]; exact q.1, newL.fin s (r1.app r2) f q.2⟩))
    · exact q.elim
  · exact q.elim
def dSub : D → D → HD → Post → Prop := fun d e G Q => match d, e with
  | .int i, .int j => Q (.int (i - j)) G
  | _, _ => False
theorem od_int {K : PySem.W.Frag} {C : Int → Int → Prop} {g : Int → Int → V} {gd : Int → Int → D} (hg : ∀ i j K H, Rp K H (gd i j) (g i j)) :
    OpD K (rI C g) (fun d e G Q => match d, e with | .int i, .int j => C i j ∧ Q (gd i j) G | _, _ => False) := fun G H d e x y Q Q' s k1 k2 f q => by
  dsimp only at q
  split at q
  · cases k1; cases k2
    exact ⟨_, _, rfl, rfl, q.1, f _ _ (.of (hg _ _ _ _) s .refl q.2)⟩
  · exact q.elim
theorem od_int0 {K : PySem.W.Frag} {g : Int → Int → V} {gd : Int → Int → D} (hg : ∀ i j K H, Rp K H (gd i j) (g i j)) :
    OpD K (rI0 g) (fun d e G Q => match d, e with | .int i, .int j => Q (gd i j) G | _, _ => False) := fun G H d e x y Q Q' s k1 k2 f q => by
  dsimp only at q
  split at q
  · cases k1; cases k2
    exact ⟨_, _, rfl, rfl, f _ _ (.of (hg _ _ _ _) s .refl q)⟩
  · exact q.elim
theorem od_sub (K : PySem.W.Frag) : OpD K (rI0 fun i j => .int (i - j)) dSub := od_int0 (gd := fun i j => .int (i - j)) fun _ _ _ _ => rfl
def MulOk (i j : Int) : Prop := CMul i j ∨ CMulW i j
def dMul : D → D → HD → Post → Prop := fun d e G Q => match d, e with
  | .int i, .int j => MulOk i j ∧ Q (.int (i * j)) G
  | _, _ => False
def rMulU : R2 := fun x y H Q => rI CMul (fun i j => .int (i * j)) x y H Q ∨ rI CMulW (fun i j => .int (i * j)) x y H Q
theorem od_mul (K : PySem.W.Frag) : OpD K rMulU dMul := fun G H d e x y Q Q' s k1 k2 f q => by
  unfold dMul at q
  split at q
  · cases k1; cases k2
    exact q.1.elim (fun z => .inl ⟨_, _, rfl, rfl, z, f _ _ (.of (d := .int _) rfl s .refl q.2)⟩) fun z => .inr ⟨_, _, rfl, rfl, z, f _ _ (.of (d := .int _) rfl s .refl q.2)⟩
  · exact q.elim
def dDiv : D → D → HD → Post → Prop := fun d e G Q => match d, e with
  | .int i, .int j => CDivW i j ∧ Q (.int (i / j)) G
  | _, _ => False
theorem od_div (K : PySem.W.Frag) : OpD K (rI CDivW fun i j => .int (i / j)) dDiv := od_int (gd := fun i j => .int (i / j)) fun _ _ _ _ => rfl
def dMod : D → D → HD → Post → Prop := fun d e G Q => match d, e with
  | .int i, .int j => 0 < j ∧ Q (.int (i % j)) G
  | _, _ => False
theorem od_mod (K : PySem.W.Frag) : OpD K (rI (fun _ j => 0 < j) fun i j => .int (i % j)) dMod := od_int (gd := fun i j => .int (i % j)) fun _ _ _ _ => rfl
def dPow : D → D → HD → Post → Prop := fun d e G Q => match d, e with
  | .int i, .int j => CPow i j ∧ Q (.int (i ^ j.toNat)) G
  | _, _ => False
theorem od_pow (K : PySem.W.Frag) : OpD K (rI CPow fun i j => .int (i ^ j.toNat)) dPow := od_int (gd := fun i j => .int (i ^ j.toNat)) fun _ _ _ _ => rfl
section
variable {X : Cx} {a b : Expr} {ta tb : TD} {pos : Pos}
theorem de_add (ha : DE X a ta) (hb : DE X b tb) : DE X (.BinOp a .Add b pos) (dOp dAdd ta tb) := de_op (op_add.or (op_add_str.or (op_catA.or op_cat))) (od_add X.K) ha hb
theorem de_sub (ha : DE X a ta) (hb : DE X b tb) : DE X (.BinOp a .Sub b pos) (dOp dSub ta tb) := de_op op_sub (od_sub X.K) ha hb
theorem de_mul (ha : DE X a ta) (hb : DE X b tb) : DE X (.BinOp a .Mult b pos) (dOp dMul ta tb) := de_op (op_mul.or op_mulW) (od_mul X.K) ha hb
theorem de_div (ha : DE X a ta) (hb : DE X b tb) : DE X (.BinOp a .FloorDiv b pos) (dOp dDiv ta tb) := de_op op_fdivW (od_div X.K) ha hb
theorem de_mod (ha : DE X a ta) (hb : DE X b tb) : DE X (.BinOp a .Mod b pos) (dOp dMod ta tb) := de_op op_mod (od_mod X.K) ha hb
theorem de_pow (ha : DE X a ta) (hb : DE X b tb) : DE X (.BinOp a .Pow b pos) (dOp dPow ta tb) := de_op op_pow (od_pow X.K) ha hb
end

/-! ### comparisons -/
def dCmpI (p : Int → Int → Bool) : D → D → HD → Post → Prop := fun d e G Q => match d, e with
  | .int i, .int j => Q (.bl (p i j)) G
  | _, _ => False
theorem od_cmpI (K : PySem.W.Frag) (p : Int → Int → Bool) : OpD K (rI0 fun i j => .bl (p i j)) (dCmpI p) := od_int0 (gd := fun i j => .bl (p i j)) fun _ _ _ _ => rfl
def isNon : D → Bool
  | .non => true
  | _ => false
theorem isNon_of {K : PySem.W.Frag} {H : Hp} {d : D} {v : V} (r : Rp K H d v) : decide (v = .non) = isNon d := by
  cases d with
  | non => cases r; rfl
  | bl _ => cases r; rfl
  | int _ => cases r; rfl
  | str _ => cases r; rfl
  | ty _ => cases r; rfl
  | ref _ => cases r; rfl
  | tup _ => obtain ⟨_, _, rfl, _⟩ := r; rfl
  | kl _ => obtain ⟨_, _, rfl, _⟩ := r; rfl
  | kc _ => obtain ⟨_, _, rfl, _⟩ := r; rfl
  | exc _ _ _ => obtain ⟨_, _, _, rfl, _⟩ := r; rfl
  | emp => obtain ⟨_, _, rfl, _⟩ := r; rfl
def dIsN (neg : Bool) : D → D → HD → Post → Prop := fun d e G Q => match e with
  | .non => Q (.bl (if neg then !isNon d else isNon d)) G
  | _ => False
theorem od_isN (K : PySem.W.Frag) : OpD K (fun x y H Q => y = .non ∧ Q (.bl (decide (x = .non))) H) (dIsN false) := fun G H d e x y Q Q' s k1 k2 f q => by
  unfold dIsN at q
  split at q
  · cases k2
    refine ⟨rfl, f _ _ (.of (d := .bl (isNon d)) ?_ s .refl q)⟩
    rw [isNon_of k1]; exact rfl
  · exact q.elim
theorem od_notN (K : PySem.W.Frag) : OpD K (fun x y H Q => y = .non ∧ Q (.bl (!decide (x = .non))) H) (dIsN true) := fun G H d e x y Q Q' s k1 k2 f q => by
  unfold dIsN at q
  split at q
  · cases k2
    refine ⟨rfl, f _ _ (.of (d := .bl (!isNon d)) ?_ s .refl q)⟩
    rw [isNon_of k1]; exact rfl
  · exact q.elim

/-! == and != of data -/
/-- data by value, as the library's PyData; fuel: its depth -/
def pyD : Nat → HD → D → Option PyData
  | 0, _, _ => none
  | n + 1, G, d => match d with
    | .non => some .none
    | .bl b => some (.bool b)
    | .int i => some (.int i)
    | .str x => if PyData.strOk x = true then some (.str x) else none
    | .tup ds => (ds.mapM (pyD n G)).map .tuple
    | .kl ds => (ds.mapM (pyD n G)).map .list
    | .kc ds => (ds.mapM (pyD n G)).map .list
    | .exc _ _ _ => none
    | .emp => none
    | .ref a => match G a with
      | some (.lst ds) => (ds.mapM (pyD n G)).map .list
      | _ => none
    | .ty _ => none
section
variable {K : PySem.W.Frag} {G : HD} {H : Hp}
theorem mapM_cons_some {α β : Type} {f : α → Option β} {a : α} {l : List α} {ys : List β} (h : (a :: l).mapM f = some ys) : ∃ y zs, f a = some y ∧ l.mapM f = some zs ∧ ys = y :: zs := by
  rw [List.mapM_cons] at h
  cases e : f a with
  | none => rw [e] at h; cases h
  | some y =>
    rw [e] at h
    cases e2 : l.mapM f with
    | none => rw [e2] at h; cases h
    | some zs => rw [e2] at h; cases h; exact ⟨y, zs, rfl, rfl, rfl⟩
theorem pyDs_dp {n : Nat} (s : Sim K G H) (ih : ∀ (d : D) (v : V) (p : PyData), pyD n G d = some p → Rp K H d v → Dp K H v p ∧ p.canLay0 = true ∧ p.depth ≤ n) :
    ∀ (ds : List D) (vs : List V) (ps : List PyData), ds.mapM (pyD n G) = some ps → Rps K H ds vs → DpAll K H vs ps ∧ PyData.canLayAll0 ps = true ∧ PyData.depthAll ps ≤ n
  | [], vs, ps, h, r => by
    cases r
    simp only [List.mapM_nil, Option.pure_def, Option.some.injEq] at h
    subst h
    exact ⟨.nil, by simp only [PyData.canLayAll0], by simp only [PyData.depthAll]; exact Nat.zero_le _⟩
  | d :: ds, vs, ps, h, r => by
    obtain ⟨y, zs, e1, e2, rfl⟩ := mapM_cons_some h
    obtain ⟨v, r', rfl, h1, h2⟩ := r
    obtain ⟨a1, a2, a3⟩ := ih d v y e1 h1
    obtain ⟨b1, b2, b3⟩ := pyDs_dp s ih ds r' zs e2 h2
    refine ⟨.cons a1 b1, by simp only [PyData.canLayAll0, a2, b2, Bool.and_self], ?_⟩
    simp only [PyData.depthAll]
    omega
theorem pyD_dp (s : Sim K G H) : ∀ (n : Nat) (d : D) (v : V) (p : PyData), pyD n G d = some p → Rp K H d v → Dp K H v p ∧ p.canLay0 = true ∧ p.depth ≤ n
  | 0, _, _, _, h, _ => by cases h
  | n + 1, d, v, p, h, r => by
    cases d with
    | non => cases h; cases r; exact ⟨.non, by simp only [PyData.canLay0], by simp only [PyData.depth]; omega⟩
    | bl b => cases h; cases r; exact ⟨.bl b, by simp only [PyData.canLay0], by simp only [PyData.depth]; omega⟩
    | int i => cases h; cases r; exact ⟨.int i, by simp only [PyData.canLay0], by simp only [PyData.depth]; omega⟩
    | str x =>
      unfold pyD at h
      simp only at h
      split at h
      · rename_i hx
        cases h; cases r; exact ⟨.str x, by simp only [PyData.canLay0, hx], by simp only [PyData.depth]; omega⟩
      · cases h
    | ty _ => cases h
    | tup ds =>
      unfold pyD at h
      simp only [Option.map_eq_some_iff] at h
      obtain ⟨ps, e, rfl⟩ := h
      obtain ⟨a, vs, rfl, t, r2⟩ := r
      obtain ⟨x1, x2, x3⟩ := pyDs_dp s (pyD_dp s n) ds vs ps e r2
      exact ⟨.tup t x1, by simp only [PyData.canLay0, x2], by simp only [PyData.depth]; omega⟩
    | kl ds =>
      have r0 := r
      unfold pyD at h
      simp only [Option.map_eq_some_iff] at h
      obtain ⟨ps, e, rfl⟩ := h
      obtain ⟨a, vs, rfl, t, r2⟩ := Rp.lst (ds := ds) s r rfl
      obtain ⟨x1, x2, x3⟩ := pyDs_dp s (pyD_dp s n) ds vs ps e r2
      exact ⟨.lst t x1, by simp only [PyData.canLay0, x2], by simp only [PyData.depth]; omega⟩
    | kc ds =>
      have r0 := r
      unfold pyD at h
      simp only [Option.map_eq_some_iff] at h
      obtain ⟨ps, e, rfl⟩ := h
      obtain ⟨a, vs, rfl, t, r2⟩ := Rp.lst (ds := ds) s r rfl
      obtain ⟨x1, x2, x3⟩ := pyDs_dp s (pyD_dp s n) ds vs ps e r2
      exact ⟨.lst t x1, by simp only [PyData.canLay0, x2], by simp only [PyData.depth]; omega⟩
    | exc _ _ _ => cases h
    | emp => cases h
    | ref a =>
      unfold pyD at h
      simp only at h
      split at h
      · rename_i ds eg
        simp only [Option.map_eq_some_iff] at h
        obtain ⟨ps, e, rfl⟩ := h
        cases r
        obtain ⟨vs, e1, r2⟩ := s.lst eg
        obtain ⟨x1, x2, x3⟩ := pyDs_dp s (pyD_dp s n) ds vs ps e r2
        exact ⟨.lst (.of e1) x1, by simp only [PyData.canLay0, x2], by simp only [PyData.depth]; omega⟩
      · cases h
theorem pyD_shaped {n : Nat} (s : Sim K G H) {d : D} {v : V} {p : PyData} (h : pyD n G d = some p) (hn : n ≤ 64) (r : Rp K H d v) : Dp K H v p ∧ SeqAt.shaped p = true := by
  obtain ⟨a, b, c⟩ := pyD_dp s n d v p h r
  exact ⟨a, by unfold SeqAt.shaped; rw [b, decide_eq_true (Nat.le_trans c hn)]; rfl⟩
end
/-- the answer of == -/
def eqO (G : HD) (d e : D) : Option Bool := match pyD 9 G d, pyD 9 G e with
  | some p, some q => some (PyData.eqv p q)
  | _, _ => none
def dEq (neg : Bool) : D → D → HD → Post → Prop := fun d e G Q => match eqO G d e with
  | some b => Q (.bl (if neg then !b else b)) G
  | none => False
theorem eqO_some {G : HD} {d e : D} {b : Bool} (h : eqO G d e = some b) : ∃ p q, pyD 9 G d = some p ∧ pyD 9 G e = some q ∧ b = PyData.eqv p q := by
  unfold eqO at h
  split at h
  · rename_i p q e1 e2
    cases h
    exact ⟨p, q, e1, e2, rfl⟩
  · cases h
theorem od_eq (K : PySem.W.Frag) : OpD K (rEqD K) (dEq false) := fun G H d e x y Q Q' s k1 k2 f q => by
  unfold dEq at q
  split at q
  · rename_i b hb
    obtain ⟨p1, p2, e1, e2, rfl⟩ := eqO_some hb
    obtain ⟨a1, a2⟩ := pyD_shaped s e1 (by decide) k1
    obtain ⟨b1, b2⟩ := pyD_shaped s e2 (by decide) k2
    exact ⟨p1, p2, a1, b1, a2, b2, f _ _ (.of (d := .bl _) rfl s .refl q)⟩
  · exact q.elim
theorem od_ne (K : PySem.W.Frag) : OpD K (rNeD K) (dEq true) := fun G H d e x y Q Q' s k1 k2 f q => by
  unfold dEq at q
  split at q
  · rename_i b hb
    obtain ⟨p1, p2, e1, e2, rfl⟩ := eqO_some hb
    obtain ⟨a1, a2⟩ := pyD_shaped s e1 (by decide) k1
    obtain ⟨b1, b2⟩ := pyD_shaped s e2 (by decide) k2
    exact ⟨p1, p2, a1, b1, a2, b2, f _ _ (.of (d := .bl _) rfl s .refl q)⟩
  · exact q.elim

/-! ### items -/
theorem ixN_len {n m : Nat} (h : n = m) (i : Int) : ixN n i = ixN m i := by rw [h]
theorem Rps.at {K : PySem.W.Frag} {H : Hp} {ds : List D} {vs : List V} {i : Int} {d : D} (r : Rps K H ds vs) (h : atI ds i = some d) : ∃ v, atI vs i = some v ∧ Rp K H d v := by
  unfold atI at h ⊢
  rw [r.length]
  cases e : ixN ds.length i with
  | none => rw [e] at h; cases h
  | some j => rw [e] at h; exact r.get h
def dIx : D → D → HD → Post → Prop := fun d e G Q => match e with
  | .int i => match d with
    | .str z => z.length ≤ sizeLine ∧ match atI z.cps.toList i with
      | some c => Q (.str ⟨#[c]⟩) G
      | none => False
    | _ => match asQ G d with
      | some ds => match atI ds i with
        | some v => Q v G
        | none => False
      | none => False
  | _ => False
theorem od_ix (K : PySem.W.Frag) : OpD K (rIx K) dIx := fun G H d e x y Q Q' s k1 k2 f q => by
  unfold dIx at q
  split at q
  · cases k2
    split at q
    · obtain ⟨hz, q⟩ := q
      split at q
      · rename_i c hc
        cases k1
        exact .inr (.inr ⟨_, _, c, rfl, rfl, hz, hc, f _ _ (.of (d := .str _) rfl s .refl q)⟩)
      · exact q.elim
    · split at q
      · rename_i ds hd
        split at q
        · rename_i v hv
          obtain ⟨a, vs, rfl, t, r⟩ := k1.seq s hd
          obtain ⟨v', h1, h2⟩ := r.at hv
          rcases t with t | t
          · exact .inl ⟨a, vs, _, v', rfl, rfl, t, h1, f _ _ (.of h2 s .refl q)⟩
          · exact .inr (.inl ⟨a, vs, _, v', rfl, rfl, t, h1, f _ _ (.of h2 s .refl q)⟩)
        · exact q.elim
      · exact q.elim
  · exact q.elim
section
variable {X : Cx} {a b : Expr} {ta tb : TD} {pos : Pos}
theorem de_item (ha : DE X a ta) (hb : DE X b tb) (hs : PlainIx b := by intro _ _; rfl) : DE X (.Subscript a b pos) (dOp dIx ta tb) := de_ix ix_seq (od_ix X.K) ha hb hs
end
end DL

namespace DL
open PySem PySem.Spec L2
open PyProof.Rows hiding St

/-! ### argument lists, displays -/
section
variable {X : Cx} {a b e : Expr} {ta tb : TD} {es : List Expr} {ts : TDA} {pos : Pos}
def dNil : TDA := fun _ _ G Q => Q [] G
def dCons (ta : TD) (tr : TDA) : TDA := fun W σ G Q => ta W σ G fun d G1 => tr W σ G1 fun ds G2 => Q (d :: ds) G2
theorem da_nil : DA X [] dNil := ⟨fun G H σ τ W Q r q => semA.of pa_nil ⟨[], G, rfl, r.sim, .refl, q⟩⟩
theorem da_cons (ha : DE X e ta) (hr : DA X es ts) (hs : starEach (e :: es) X.env = (false, eval e X.env) :: starEach es X.env := by rfl) : DA X (e :: es) (dCons ta ts) :=
  ⟨fun G H σ τ W Q r0 h => semA.of (pa_cons peSem paSem hs) (ha.then r0 h fun d v G1 H1 r1 x1 k1 q1 => hr.then r1 q1 fun ds vs G2 H2 r2 x2 k2 q2 =>
    ⟨d :: ds, G2, .cons (k1.ext r1.sim x2 _ _) k2, r2.sim, x1.trans x2, q2⟩)⟩
def dTup (ts : TDA) : TD := fun W σ G Q => ts W σ G fun ds G1 => ds.length ≤ 1000 ∧ Q (.tup ds) G1
def dLst (ts : TDA) : TD := fun W σ G Q => ts W σ G fun ds G1 => ds.length ≤ 1000 ∧ newL G1 ds Q
theorem le1000 {n : Nat} (h : n ≤ 1000) : n ≤ sizeLine := Nat.le_of_lt (small1000 h)
theorem de_tup {x1} (h : DA X es ts) : DE X (.Tuple es x1 pos) (dTup ts) :=
  ⟨fun G H σ τ W Q r0 q => semE.of (pe_tup paSem) (h.then r0 q fun ds vs G1 H1 r1 x1 k1 q1 => ⟨by rw [k1.length]; exact le1000 q1.1, newT.fin r1.sim k1 (fun _ _ z => z.up x1) q1.2⟩)⟩
theorem de_lst (h : DA X es ts) : DE X (.List es pos) (dLst ts) :=
  ⟨fun G H σ τ W Q r0 q => semE.of (pe_lst paSem) (h.then r0 q fun ds vs G1 H1 r1 x1 k1 q1 => ⟨by rw [k1.length]; exact le1000 q1.1, newL.fin r1.sim k1 (fun _ _ z => z.up x1) q1.2⟩)⟩

/-! ### truth -/
def truD (G : HD) : D → Option Bool
  | .non => some false
  | .bl b => some b
  | .int i => some (i != 0)
  | .str x => if x.length ≤ sizeLine then some ((x.length : Int) != 0) else none
  | .tup ds => some (!ds.isEmpty)
  | .kl ds => some (!ds.isEmpty)
  | .kc ds => some (!ds.isEmpty)
  | .exc _ _ _ => none
  | .emp => none
  | .ref a => match G a with
    | some (.lst ds) => some (!ds.isEmpty)
    | some (.dK l) => some (!l.isEmpty)
    | _ => none
  | .ty _ => none
theorem isEmpty_eq {α β : Type} {l : List α} {m : List β} (h : m.length = l.length) : m.isEmpty = l.isEmpty := by
  cases l <;> cases m <;> first | rfl | (simp at h)
theorem truD_ok {K : PySem.W.Frag} {G : HD} {H : Hp} {d : D} {v : V} {b : Bool} (s : Sim K G H) (r : Rp K H d v) (h : truD G d = some b) : TruV K v H b := by
  cases d with
  | non => cases r; cases h; exact rfl
  | bl c => cases r; cases h; exact rfl
  | int i => cases r; cases h; exact rfl
  | str x =>
    cases r
    simp only [truD] at h
    split at h
    · rename_i z; cases h; exact ⟨z, rfl⟩
    · cases h
  | ty _ => cases h
  | tup ds =>
    obtain ⟨a, vs, rfl, t, r2⟩ := r
    cases h
    exact .inr (.inl ⟨vs, t, by rw [isEmpty_eq r2.length]⟩)
  | kl ds =>
    obtain ⟨a, vs, rfl, t, r2⟩ := Rp.lst (ds := ds) s r rfl
    cases h
    exact .inl ⟨vs, t, by rw [isEmpty_eq r2.length]⟩
  | kc ds =>
    obtain ⟨a, vs, rfl, t, r2⟩ := Rp.lst (ds := ds) s r rfl
    cases h
    exact .inl ⟨vs, t, by rw [isEmpty_eq r2.length]⟩
  | exc _ _ _ => cases h
  | emp => cases h
  | ref a =>
    cases r
    simp only [truD] at h
    split at h
    · rename_i ds e
      cases h
      obtain ⟨vs, e1, r1⟩ := s.lst e
      exact .inl ⟨vs, .of e1, by rw [isEmpty_eq r1.length]⟩
    · rename_i l e
      cases h
      obtain ⟨m, e1, r1⟩ := s.dK e
      exact .inr (.inr ⟨m, e1, by rw [isEmpty_eq r1.length]⟩)
    · cases h
def dTru (t : TD) : TDT := fun W σ G Q => t W σ G fun d G1 => match truD G1 d with
  | some b => Q b G1
  | none => False
theorem dt_tru (ha : DE X a ta) (he : ∀ whole, isTrue a X.env whole = (do let v ← whole; standAt a.pos; holding [v] (truthy v)) := by intro _; rfl) : DT X a (dTru ta) :=
  ⟨fun G H σ τ W Q r0 h => semT.of (pt_truth peSem he) (ha.then r0 h fun d v G1 H1 r1 x1 k1 q1 => by
    try dsimp only at q1
    split at q1
    · rename_i b e
      exact ⟨b, truD_ok r1.sim k1 e, G1, r1.sim, x1, q1⟩
    · exact q1.elim)⟩
def dAnd (t u : TDT) : TDT := fun W σ G Q => t W σ G fun c G1 => if c = true then u W σ G1 Q else Q false G1
def dOr (t u : TDT) : TDT := fun W σ G Q => t W σ G fun c G1 => if c = true then Q true G1 else u W σ G1 Q
def dNot (t : TDT) : TDT := fun W σ G Q => t W σ G fun c G1 => Q (!c) G1
variable {t u : TDT} {rest : List Expr}
theorem dtw_and1 (h : DT X a t) : DTw X (.BoolOp .And [a] pos) t := ⟨fun G H σ τ W Q r q => semTw.of (pw_and1 ptSem) (h.run G H σ τ W Q r q)⟩
theorem dtw_or1 (h : DT X a t) : DTw X (.BoolOp .Or [a] pos) t := ⟨fun G H σ τ W Q r q => semTw.of (pw_or1 ptSem) (h.run G H σ τ W Q r q)⟩
theorem dtw_and (h : DT X a t) (k : DTw X (.BoolOp .And (b :: rest) pos) u) : DTw X (.BoolOp .And (a :: b :: rest) pos) (dAnd t u) :=
  ⟨fun G H σ τ W Q r q => semTw.of (pw_and ptSem pwSem) (h.then r q fun c G1 H1 r1 x1 q1 => by
    cases c with
    | true => exact (k.run G1 H1 σ τ W Q r1 q1).imp fun _ _ z => z.up x1
    | false => exact ⟨G1, r1.sim, x1, q1⟩)⟩
theorem dtw_or (h : DT X a t) (k : DTw X (.BoolOp .Or (b :: rest) pos) u) : DTw X (.BoolOp .Or (a :: b :: rest) pos) (dOr t u) :=
  ⟨fun G H σ τ W Q r q => semTw.of (pw_or ptSem pwSem) (h.then r q fun c G1 H1 r1 x1 q1 => by
    cases c with
    | false => exact (k.run G1 H1 σ τ W Q r1 q1).imp fun _ _ z => z.up x1
    | true => exact ⟨G1, r1.sim, x1, q1⟩)⟩
theorem dt_w (h : DTw X a t) : DT X a t := ⟨fun G H σ τ W Q r q => semT.of pwSem.pt (h.run G H σ τ W Q r q)⟩
theorem dt_not (h : DT X a t) : DT X (.UnaryOp .Not a pos) (dNot t) := ⟨fun G H σ τ W Q r q => semT.of (pt_not ptSem) (h.run G H σ τ W (fun c G' => Q (!c) G') r q)⟩
/-- and, or, not as values -/
def dAndV (ta tb : TD) : TD := fun W σ G Q => ta W σ G fun d G1 => match truD G1 d with
  | some b => if b = true then tb W σ G1 Q else Q d G1
  | none => False
def dOrV (ta tb : TD) : TD := fun W σ G Q => ta W σ G fun d G1 => match truD G1 d with
  | some b => if b = true then Q d G1 else tb W σ G1 Q
  | none => False
def dNotV (ta : TD) : TD := fun W σ G Q => ta W σ G fun d G1 => match truD G1 d with
  | some b => Q (.bl (!b)) G1
  | none => False
theorem de_one {op} (h : DE X a ta) : DE X (.BoolOp op [a] pos) ta := ⟨fun G H σ τ W Q r q => semE.of (pe_one peSem) (h.run G H σ τ W Q r q)⟩
theorem de_and (h : DE X a ta) (k : DE X (.BoolOp .And (b :: rest) pos) tb) : DE X (.BoolOp .And (a :: b :: rest) pos) (dAndV ta tb) :=
  ⟨fun G H σ τ W Q r q => semE.of (pe_andT peSem peSem) (h.then r q fun d v G1 H1 r1 x1 k1 q1 => by
    try dsimp only at q1
    split at q1
    · rename_i c e
      refine ⟨c, truD_ok r1.sim k1 e, ?_⟩
      cases c with
      | true => exact (k.run G1 H1 σ τ W Q r1 q1).imp fun _ _ z => z.up x1
      | false => exact .of k1 r1.sim x1 q1
    · exact q1.elim)⟩
theorem de_or (h : DE X a ta) (k : DE X (.BoolOp .Or (b :: rest) pos) tb) : DE X (.BoolOp .Or (a :: b :: rest) pos) (dOrV ta tb) :=
  ⟨fun G H σ τ W Q r q => semE.of (pe_orT peSem peSem) (h.then r q fun d v G1 H1 r1 x1 k1 q1 => by
    try dsimp only at q1
    split at q1
    · rename_i c e
      refine ⟨c, truD_ok r1.sim k1 e, ?_⟩
      cases c with
      | false => exact (k.run G1 H1 σ τ W Q r1 q1).imp fun _ _ z => z.up x1
      | true => exact .of k1 r1.sim x1 q1
    · exact q1.elim)⟩
theorem de_not (h : DE X a ta) : DE X (.UnaryOp .Not a pos) (dNotV ta) :=
  ⟨fun G H σ τ W Q r q => semE.of (pe_notT peSem) (h.then r q fun d v G1 H1 r1 x1 k1 q1 => by
    try dsimp only at q1
    split at q1
    · rename_i c e
      exact ⟨c, truD_ok r1.sim k1 e, .of (d := .bl (!c)) rfl r1.sim x1 q1⟩
    · exact q1.elim)⟩
def dIf (t : TDT) (ta tb : TD) : TD := fun W σ G Q => t W σ G fun c G1 => if c = true then ta W σ G1 Q else tb W σ G1 Q
theorem de_ifExp {c : Expr} (hc : DT X c t) (ha : DE X a ta) (hb : DE X b tb) : DE X (.IfExp c a b pos) (dIf t ta tb) :=
  ⟨fun G H σ τ W Q r q => semE.of (pe_ifExp ptSem peSem peSem) (hc.then r q fun c G1 H1 r1 x1 q1 => by
    cases c with
    | true => exact (ha.run G1 H1 σ τ W Q r1 q1).imp fun _ _ z => z.up x1
    | false => exact (hb.run G1 H1 σ τ W Q r1 q1).imp fun _ _ z => z.up x1)⟩
def dNeg : D → HD → Post → Prop := fun d G Q => match d with
  | .int i => Q (.int (-i)) G
  | _ => False
def dUn (rd : D → HD → Post → Prop) (ta : TD) : TD := fun W σ G Q => ta W σ G fun d G1 => rd d G1 Q
theorem de_neg (ha : DE X a ta) : DE X (.UnaryOp .USub a pos) (dUn dNeg ta) :=
  ⟨fun G H σ τ W Q r q => semE.of (pe_un un_neg peSem) (ha.then r q fun d v G1 H1 r1 x1 k1 q1 => by
    unfold dNeg at q1
    split at q1
    · cases k1; exact ⟨_, rfl, .of (d := .int _) rfl r1.sim x1 q1⟩
    · exact q1.elim)⟩
/-- a < b < c -/
def dChain (rd rd' : D → D → HD → Post → Prop) (ta tb tc : TD) : TD := fun W σ G Q => ta W σ G fun d G1 => tb W σ G1 fun e G2 => rd d e G2 fun z G3 => match z with
  | .bl true => tc W σ G3 fun f G4 => rd' e f G4 fun y G5 => match y with
    | .bl k => Q (.bl k) G5
    | _ => False
  | .bl false => Q (.bl false) G3
  | _ => False
end
end DL

namespace DL
open PySem PySem.Spec L2
open PyProof.Rows hiding St

/-! ### comparisons by their rules -/
/-- an operator of two values and its reading over data -/
def CmpR (X : Cx) (op : CmpOp) (rd : D → D → HD → Post → Prop) : Prop := ∃ r, OpR X (compareOp op) r ∧ OpD X.K r rd
def asInts : List D → Option (List Int)
  | [] => some []
  | .int i :: r => (asInts r).map (i :: ·)
  | _ :: _ => none
theorem asInts_eq : ∀ {ds : List D} {ns : List Int}, asInts ds = some ns → ds = ns.map D.int
  | [], _, h => by cases h; rfl
  | .int i :: r, ns, h => by
    simp only [asInts, Option.map_eq_some_iff] at h
    obtain ⟨ms, e, rfl⟩ := h
    rw [asInts_eq e]; rfl
  | .non :: _, _, h => by cases h
  | .bl _ :: _, _, h => by cases h
  | .str _ :: _, _, h => by cases h
  | .ty _ :: _, _, h => by cases h
  | .ref _ :: _, _, h => by cases h
  | .tup _ :: _, _, h => by cases h
  | .kl _ :: _, _, h => by cases h
  | .kc _ :: _, _, h => by cases h
  | .exc _ _ _ :: _, _, h => by cases h
  | .emp :: _, _, h => by cases h
theorem asInts_map : ∀ ns : List Int, asInts (ns.map D.int) = some ns
  | [] => rfl
  | n :: ns => by show (asInts (ns.map D.int)).map (n :: ·) = _; rw [asInts_map ns]; rfl
def dLtD : D → D → HD → Post → Prop := fun d e G Q => match d, e with
  | .int i, .int j => Q (.bl (decide (i < j))) G
  | .str x, .str y => Q (.bl (decide (x.cps.toList < y.cps.toList))) G
  | .tup xs, .tup ys => match asInts xs, asInts ys with
    | some ns, some ms => Q (.bl (HT.lexLt ns ms)) G
    | _, _ => False
  | _, _ => False
theorem c_lt {X : Cx} (hu : X.A.units + 64 < cLine) : CmpR X .Lt dLtD := ⟨_, op_lt.or (op_lt_str.or (op_ltT (Nat.lt_of_le_of_lt (Nat.le_add_right _ _) hu))), fun G H d e x y Q Q' s k1 k2 f q => by
  unfold dLtD at q
  split at q
  · cases k1; cases k2
    exact .inl ⟨_, _, rfl, rfl, f _ _ (.of (d := .bl _) rfl s .refl q)⟩
  · cases k1; cases k2
    exact .inr (.inl ⟨_, _, rfl, rfl, f _ _ (.of (d := .bl _) rfl s .refl q)⟩)
  · split at q
    · rename_i ns ms e1 e2
      obtain rfl := asInts_eq e1
      obtain rfl := asInts_eq e2
      obtain ⟨a, vs, rfl, t1, r1⟩ := k1
      obtain ⟨b, ws, rfl, t2, r2⟩ := k2
      obtain rfl := r1.ints
      obtain rfl := r2.ints
      exact .inr (.inr ⟨a, b, ns, ms, rfl, rfl, t1, t2, f _ _ (.of (d := .bl _) rfl s .refl q)⟩)
    · exact q.elim
  · exact q.elim⟩
theorem c_le {X : Cx} (hu : X.A.units + 64 < cLine) : CmpR X .LtE (dCmpI fun i j => decide (i ≤ j)) := ⟨_, op_le, od_cmpI X.K _⟩
theorem c_gt {X : Cx} (hu : X.A.units + 64 < cLine) : CmpR X .Gt (dCmpI fun i j => decide (j < i)) := ⟨_, op_gt, od_cmpI X.K _⟩
theorem c_ge {X : Cx} (hu : X.A.units + 64 < cLine) : CmpR X .GtE (dCmpI fun i j => decide (j ≤ i)) := ⟨_, op_ge, od_cmpI X.K _⟩
theorem c_eq {X : Cx} (hu : X.A.units + 64 < cLine) : CmpR X .Eq (dEq false) := ⟨_, op_eqD hu, od_eq X.K⟩
theorem c_ne {X : Cx} (hu : X.A.units + 64 < cLine) : CmpR X .NotEq (dEq true) := ⟨_, op_neD hu, od_ne X.K⟩
theorem c_is {X : Cx} (hu : X.A.units + 64 < cLine) : CmpR X .Is (dIsN false) := ⟨_, op_isN, od_isN X.K⟩
theorem c_isnot {X : Cx} (hu : X.A.units + 64 < cLine) : CmpR X .IsNot (dIsN true) := ⟨_, op_notN, od_notN X.K⟩
section
variable {X : Cx} {a b e c : Expr} {ta tb tc : TD} {pos : Pos} {op op' : CmpOp} {rd rd' : D → D → HD → Post → Prop}
theorem de_c1 (h : CmpR X op rd) (ha : DE X a ta) (hb : DE X b tb) (hm : behindInMarks op b = false := by first | exact nobehind _ (by decide) (by decide) | rfl) : DE X (.Compare a [op] [b] pos) (dOp rd ta tb) :=
  let ⟨_, h1, h2⟩ := h; de_cmp h1 h2 ha hb hm
theorem dt_c1 (h : CmpR X op rd) (ha : DE X a ta) (hb : DE X b tb) (hm : behindInMarks op b = false := by first | exact nobehind _ (by decide) (by decide) | rfl) : DT X (.Compare a [op] [b] pos) (dTest (dOp rd ta tb)) :=
  let ⟨_, h1, h2⟩ := h; dt_cmp h1 h2 ha hb hm
/-! chains: the rest of one, behind its first value -/
structure DCh (X : Cx) (ops : List CmpOp) (rs : List Expr) (t : D → TD) : Prop where
  val : ∀ (pos : Pos) (pins : List (Addr × Obj)) (s : Shared) (G : HD) (H : Hp) (σ : DSt) (τ : St) (W : DW) (Q : Post) (d : D) (x : V) (v : Value), SR X G H σ τ W → Inv X pins τ H s → Rp X.K H d x → RelV x v → t d W σ G Q →
    wpAny (model X.prog X.w) X.A (compareChain pos v ops (evalEach rs X.env)) (EP X pins τ (liftQ X.K G H Q)) X.xe s
  test : ∀ (pos : Pos) (pins : List (Addr × Obj)) (s : Shared) (G : HD) (H : Hp) (σ : DSt) (τ : St) (W : DW) (Q : Bool → HD → Prop) (d : D) (x : V) (v : Value), SR X G H σ τ W → Inv X pins τ H s → Rp X.K H d x → RelV x v →
    t d W σ G (fun z G1 => match z with | .bl k => Q k G1 | _ => False) → wpAny (model X.prog X.w) X.A (testChain pos v ops (evalEach rs X.env)) (TP X pins τ (liftB X.K G H Q)) X.xe s
def dLast (rd : D → D → HD → Post → Prop) (tb : TD) : D → TD := fun d W σ G Q => tb W σ G fun e G1 => rd d e G1 fun z G2 => match z with
  | .bl k => Q (.bl k) G2
  | _ => False
def dLink (rd : D → D → HD → Post → Prop) (tb : TD) (t : D → TD) : D → TD := fun d W σ G Q => tb W σ G fun e G1 => rd d e G1 fun z G2 => match z with
  | .bl k => if k = true then t e W σ G2 Q else Q (.bl false) G2
  | _ => False
theorem dch_last (h : CmpR X op rd) (hb : DE X b tb) : DCh X [op] [b] (dLast rd tb) := by
  obtain ⟨r, h1, h2⟩ := h
  refine ⟨fun pos pins s G H σ τ W Q d x v r0 I k0 l0 q => ?_, fun pos pins s G H σ τ W Q d x v r0 I k0 l0 q => ?_⟩
  · show wpAny _ _ (compareChain pos v [op] [eval b X.env]) _ _ _
    refine chain_last (thn ((hb.then (Q := fun y H1 => r x y H1 (liftQ X.K G H Q)) r0 q fun e y G1 H1 r1 x1 k1 q1 => ?_) pins s I) fun u s1 ⟨y, H1, I1, l1, q1⟩ => h1 pins s1 τ H1 x y v u _ I1 l0 l1 q1)
    refine h2 G1 H1 d e x y _ _ r1.sim (k0.ext r0.sim x1 _ _) k1 (fun w H2 ⟨z, G2, k2, s2, x2, q2⟩ => ?_) q1
    cases z with
    | bl k => exact ⟨.bl k, G2, k2, s2, x1.trans x2, q2⟩
    | _ => exact q2.elim
  · show wpAny _ _ (testChain pos v [op] [eval b X.env]) _ _ _
    refine test_last (thn ((hb.then (Q := fun y H1 => r x y H1 (fun w H2 => ∃ k, w = .bl k ∧ liftB X.K G H Q k H2)) r0 q fun e y G1 H1 r1 x1 k1 q1 => ?_) pins s I) fun u s1 ⟨y, H1, I1, l1, q1⟩ =>
      thn (h1 pins s1 τ H1 x y v u _ I1 l0 l1 q1) fun c s2 ⟨w, H2, I2, l2, k, ew, q2⟩ => ?_)
    · refine h2 G1 H1 d e x y _ _ r1.sim (k0.ext r0.sim x1 _ _) k1 (fun w H2 ⟨z, G2, k2, s2, x2, q2⟩ => ?_) q1
      cases z with
      | bl k => exact ⟨k, k2, G2, s2, x1.trans x2, q2⟩
      | _ => exact q2.elim
    · subst ew; cases l2
      exact wpAny_truthy_bool ⟨H2, I2, q2⟩
theorem dch_link {ops : List CmpOp} {rs : List Expr} {t : D → TD} (h : CmpR X op rd) (hb : DE X b tb) (hc : DCh X (op' :: ops) (c :: rs) t) : DCh X (op :: op' :: ops) (b :: c :: rs) (dLink rd tb t) := by
  obtain ⟨r, h1, h2⟩ := h
  refine ⟨fun pos pins s G H σ τ W Q d x v r0 I k0 l0 q => ?_, fun pos pins s G H σ τ W Q d x v r0 I k0 l0 q => ?_⟩
  · show wpAny _ _ (compareChain pos v (op :: op' :: ops) (eval b X.env :: eval c X.env :: evalEach rs X.env)) _ _ _
    refine chain_link (thn ((hb.run G H σ τ W _ r0 q) pins s I) fun u s1 ⟨y, H1, I1, l1, e, G1, k1, sm1, x1, q1⟩ => ?_)
    have r1 := r0.ext sm1 x1
    refine thn (h1 pins s1 τ H1 x y v u (fun w H2 => ∃ k G2, w = .bl k ∧ Sim X.K G2 H2 ∧ Ext G1 H1 G2 H2 ∧ if k = true then t e W σ G2 Q else Q (.bl false) G2) I1 l0 l1
      (h2 G1 H1 d e x y _ _ sm1 (k0.ext r0.sim x1 _ _) k1 (fun w H2 ⟨z, G2, k2, s2, x2, q2⟩ => ?_) q1)) fun cv s2 ⟨w, H2, I2, l2, k, G2, ew, sm2, x2, q2⟩ => ?_
    · subst ew; cases l2
      refine wpAny_truthy_bool ?_
      cases k with
      | false => exact ite_ff ⟨.bl false, H2, I2, rfl, .of (d := .bl false) rfl sm2 (x1.trans x2) q2⟩
      | true => exact ite_tt (thn (hc.val pos pins s2 G2 H2 σ τ W Q e y u (r1.ext sm2 x2) I2 (k1.ext sm1 x2 _ _) l1 q2) fun _ _ ⟨v3, H3, I3, l3, q3⟩ => ⟨v3, H3, I3, l3, q3.up (x1.trans x2)⟩)
    · cases z with
      | bl k => exact ⟨k, G2, k2, s2, x2, q2⟩
      | _ => exact q2.elim
  · show wpAny _ _ (testChain pos v (op :: op' :: ops) (eval b X.env :: eval c X.env :: evalEach rs X.env)) _ _ _
    refine test_link (thn ((hb.run G H σ τ W _ r0 q) pins s I) fun u s1 ⟨y, H1, I1, l1, e, G1, k1, sm1, x1, q1⟩ => ?_)
    have r1 := r0.ext sm1 x1
    refine thn (h1 pins s1 τ H1 x y v u (fun w H2 => ∃ k G2, w = .bl k ∧ Sim X.K G2 H2 ∧ Ext G1 H1 G2 H2 ∧ if k = true then t e W σ G2 (fun z G1 => match z with | .bl k => Q k G1 | _ => False) else Q false G2) I1 l0 l1
      (h2 G1 H1 d e x y _ _ sm1 (k0.ext r0.sim x1 _ _) k1 (fun w H2 ⟨z, G2, k2, s2, x2, q2⟩ => ?_) q1)) fun cv s2 ⟨w, H2, I2, l2, k, G2, ew, sm2, x2, q2⟩ => ?_
    · subst ew; cases l2
      refine wpAny_truthy_bool ?_
      cases k with
      | false => exact ite_ff ⟨H2, I2, G2, sm2, x1.trans x2, q2⟩
      | true => exact ite_tt (thn (hc.test pos pins s2 G2 H2 σ τ W Q e y u (r1.ext sm2 x2) I2 (k1.ext sm1 x2 _ _) l1 q2) fun _ _ ⟨H3, I3, q3⟩ => ⟨H3, I3, q3.up (x1.trans x2)⟩)
    · cases z with
      | bl k => exact ⟨k, G2, k2, s2, x2, q2⟩
      | _ => exact q2.elim
def dChn (ta : TD) (t : D → TD) : TD := fun W σ G Q => ta W σ G fun d G1 => t d W σ G1 Q
def dChnT (ta : TD) (t : D → TD) : TDT := fun W σ G Q => ta W σ G fun d G1 => t d W σ G1 fun z G2 => match z with
  | .bl k => Q k G2
  | _ => False
theorem de_chain {ops : List CmpOp} {rs : List Expr} {t : D → TD} (ha : DE X a ta) (h : DCh X (op :: op' :: ops) (b :: c :: rs) t) (hm : lastMarks (op :: op' :: ops) (b :: c :: rs) = false := by with_unfolding_all rfl) :
    DE X (.Compare a (op :: op' :: ops) (b :: c :: rs) pos) (dChn ta t) := ⟨fun G H σ τ W Q r0 q pins s I => by
  refine Compare_chain (thn ((ha.run G H σ τ W _ r0 q) pins s I) fun u s1 ⟨y, H1, I1, l1, d, G1, k1, sm1, x1, q1⟩ => ?_) hm
  exact thn (h.val pos pins s1 G1 H1 σ τ W Q d y u (r0.ext sm1 x1) I1 k1 l1 q1) fun _ _ ⟨v3, H3, I3, l3, q3⟩ => ⟨v3, H3, I3, l3, q3.up x1⟩⟩
theorem dt_chain {ops : List CmpOp} {rs : List Expr} {t : D → TD} (ha : DE X a ta) (h : DCh X (op :: op' :: ops) (b :: c :: rs) t) (hm : lastMarks (op :: op' :: ops) (b :: c :: rs) = false := by with_unfolding_all rfl) :
    DT X (.Compare a (op :: op' :: ops) (b :: c :: rs) pos) (dChnT ta t) := ⟨fun G H σ τ W Q r0 q pins s I => by
  refine isTrue_chain (thn ((ha.run G H σ τ W _ r0 q) pins s I) fun u s1 ⟨y, H1, I1, l1, d, G1, k1, sm1, x1, q1⟩ => ?_) hm
  exact thn (h.test pos pins s1 G1 H1 σ τ W Q d y u (r0.ext sm1 x1) I1 k1 l1 q1) fun _ _ ⟨H3, I3, q3⟩ => ⟨H3, I3, q3.up x1⟩⟩
end

/-! ### statements -/
section
variable {X : Cx} {a b e : Expr} {ta tb : TD} {pos : Pos} {st : Stmt} {sts ss1 ss2 : List Stmt} {t u : TDS}
def sNext : TDS := fun _ D σ G => D.nx σ G
def sSeq (t u : TDS) : TDS := fun W D σ G => t W { D with nx := fun σ' G' => u W D σ' G' } σ G
theorem dss_nil : DSs X [] sNext := ⟨fun G H σ τ W D r q => semSs.of pss_nil ⟨σ, G, r.slots, r.sim, .refl, q⟩⟩
theorem endsUp {K : PySem.W.Frag} {G G1 : HD} {H H1 : Hp} {D : DEnds} (x : Ext G H G1 H1) : EndsLe (liftD K G1 H1 D) (liftD K G H D) := ⟨fun _ _ h => h.up x, fun _ _ h => h.up x, fun _ _ h => h.up x, fun _ _ h => h.up x⟩
theorem dss_cons (h : DS X st t) (k : DSs X sts u) : DSs X (st :: sts) (sSeq t u) := ⟨fun G H σ τ W D r q => semSs.of (pss_cons psSem pssSem)
  ((h.run G H σ τ W _ r q).imp ⟨fun τ' H' ⟨σ', G', k1, s1, x1, q1⟩ => (k.run G' H' σ' τ' W D ⟨s1, k1, r.takes.imp fun _ _ _ _ z => z.up x1⟩ q1).imp (endsUp x1), fun _ _ z => z, fun _ _ z => z, fun _ _ z => z⟩)⟩
theorem dss_one (h : DS X st t) : DSs X [st] t := ⟨fun G H σ τ W D r q => semSs.of (pss_one psSem) (h.run G H σ τ W D r q)⟩
theorem ds_pass : DS X (.Pass pos) sNext := ⟨fun G H σ τ W D r q => semS.of ps_pass ⟨σ, G, r.slots, r.sim, .refl, q⟩⟩
def sBrk : TDS := fun _ D σ G => D.bk σ G
def sCont : TDS := fun _ D σ G => D.ct σ G
theorem ds_break : DS X (.Break pos) sBrk := ⟨fun G H σ τ W D r q => semS.of ps_break ⟨σ, G, r.slots, r.sim, .refl, q⟩⟩
theorem ds_continue : DS X (.Continue pos) sCont := ⟨fun G H σ τ W D r q => semS.of ps_continue ⟨σ, G, r.slots, r.sim, .refl, q⟩⟩
def sNever : TDS := fun _ _ _ _ => False
theorem ds_never : DS X st sNever := ⟨fun _ _ _ _ _ _ _ q => q.elim⟩
def sDrop (te : TD) : TDS := fun W D σ G => te W σ G fun _ G1 => D.nx σ G1
theorem ds_expr (he : DE X e ta) (hs : swapsWith e none pos.line X.env = pure false := by rfl) : DS X (.Expr e pos) (sDrop ta) :=
  ⟨fun G H σ τ W D r q => semS.of (ps_expr peSem hs) (he.then r q fun d v G1 H1 r1 x1 k1 q1 => ⟨σ, G1, r1.slots, r1.sim, x1, q1⟩)⟩
def sRet (te : TD) : TDS := fun W D σ G => te W σ G D.rt
theorem ds_ret (he : DE X e ta) : DS X (.Return (some e) pos) (sRet ta) := ⟨fun G H σ τ W D r q => semS.of (ps_ret peSem) (he.run G H σ τ W D.rt r q)⟩
def sRetN : TDS := fun _ D _ G => D.rt .non G
theorem ds_retN : DS X (.Return none pos) sRetN := ⟨fun G H σ τ W D r q => semS.of ps_retN (show liftQ X.K G H D.rt .non H from .of (d := .non) rfl r.sim .refl q)⟩
def sIf (c : TDT) (t u : TDS) : TDS := fun W D σ G => c W σ G fun b G1 => if b = true then t W D σ G1 else u W D σ G1
theorem ds_if {c : Expr} {tc : TDT} (hc : DT X c tc) (h1 : DSs X ss1 t) (h2 : DSs X ss2 u) : DS X (.If c ss1 ss2 pos) (sIf tc t u) :=
  ⟨fun G H σ τ W D r q => semS.of (ps_if ptSem pssSem pssSem) (hc.then r q fun b G1 H1 r1 x1 q1 => by
    cases b with
    | true => exact (h1.run G1 H1 σ τ W D r1 q1).imp (endsUp x1)
    | false => exact (h2.run G1 H1 σ τ W D r1 q1).imp (endsUp x1))⟩
/-! targets: a name, or names of a tuple -/
def sSet (i : Nat) (te : TD) : TDS := fun W D σ G => te W σ G fun d G1 => D.nx (σ.set i (some d)) G1
theorem ds_set {i : Nat} {x : Str} {pos' : Pos} (he : DE X e ta) (hN : X.N.Nodup) (hi : X.N[i]? = some x := by rfl) (hx : Loc X.env.scope x := by first | exact Or.inl rfl | exact Or.inr rfl) (hs : swapsWith e (some (.Name x pos')) pos.line X.env = pure false := by rfl) (hf : X.fn x = true ∨ X.env.scope.names.lookup x = some .local := by first | exact .inl rfl | exact .inr rfl | assumption) :
    DS X (.Assign [.Name x pos'] e pos) (sSet i ta) :=
  ⟨fun G H σ τ W D r q => semS.of (ps_set hN hi hx peSem hs hf) (he.then r q fun d v G1 H1 r1 x1 k1 q1 => ⟨_, G1, r1.slots.set k1, r1.sim, x1, q1⟩)⟩
def setAll : List Nat → List D → DSt → DSt
  | i :: is, d :: ds, σ => setAll is ds (σ.set i (some d))
  | _, _, σ => σ
def sUnp (is : List Nat) (te : TD) : TDS := fun W D σ G => te W σ G fun d G1 => match d with
  | .tup ds => ds.length = is.length ∧ D.nx (setAll is ds σ) G1
  | _ => False
/-- the names of a tuple target, by their slots -/
inductive Slots (X : Cx) : List Expr → List Nat → TGs → Prop where
  | nil : Slots X [] [] gNil
  | cons {x : Str} {pos : Pos} {i : Nat} {es : List Expr} {is : List Nat} {g : TGs} (h : PG X (.Name x pos) (gName i)) (r : Slots X es is g) (hs : (assignEach (.Name x pos :: es) X.env).map (·.2) = assign (.Name x pos) X.env :: (assignEach es X.env).map (·.2)) : Slots X (.Name x pos :: es) (i :: is) (gCons (gName i) g)
theorem Slots.pgs {es : List Expr} {is : List Nat} {g : TGs} (s : Slots X es is g) : PGs X es g := by
  induction s with
  | nil => exact pgs_nil
  | cons h _ hs ih => exact pgs_cons h ih hs
theorem Slots.run {es : List Expr} {is : List Nat} {g : TGs} (s : Slots X es is g) {K : PySem.W.Frag} {H : Hp} {Q : St → Hp → Prop} : ∀ {ds : List D} {vs : List V} {σ : DSt} {τ : St}, Rps K H ds vs → ds.length = is.length → RpS K H σ τ → (∀ τ', RpS K H (setAll is ds σ) τ' → Q τ' H) → g vs τ H Q := by
  induction s with
  | nil =>
    intro ds vs σ τ r hl k q
    have e : ds = [] := List.eq_nil_of_length_eq_zero hl
    subst e
    cases r
    exact ⟨rfl, q τ k⟩
  | cons h _ hs ih =>
    intro ds vs σ τ r hl k q
    cases ds with
    | nil => cases hl
    | cons d ds =>
      obtain ⟨v, vr, rfl, r1, r2⟩ := r
      exact ⟨v, vr, rfl, ih r2 (Nat.succ.inj hl) (k.set r1) q⟩
theorem Slots.one (hN : X.N.Nodup) {x : Str} {pos : Pos} (i : Nat) {es : List Expr} {is : List Nat} {g : TGs} (r : Slots X es is g) (hi : X.N[i]? = some x := by rfl) (hx : Loc X.env.scope x := by first | exact Or.inl rfl | exact Or.inr rfl) (hf : X.fn x = true ∨ X.env.scope.names.lookup x = some .local := by first | exact .inl rfl | exact .inr rfl | assumption)
    (hs : (assignEach (.Name x pos :: es) X.env).map (·.2) = assign (.Name x pos) X.env :: (assignEach es X.env).map (·.2) := by rfl) : Slots X (.Name x pos :: es) (i :: is) (gCons (gName i) g) := .cons (pg_name hN hi hx hf) r hs
theorem ds_unp {es : List Expr} {is : List Nat} {g : TGs} {k : Nat} {pos' : Pos} (he : DE X e ta) (hc : X.calm = true) (s : Slots X es is g) (hn : (assignEach es X.env).length = is.length := by rfl) (hst : (assignEach es X.env).findIdx? (·.1) = none := by rfl)
    (hs : swapsWithSole [.Tuple es k pos'] e pos.line X.env = pure false := by rfl) (hw : swappedStores [.Tuple es k pos'] e X.env = pure none := by rfl) (h1 : (assignEach [.Tuple es k pos'] X.env).map (·.2) = [assign (.Tuple es k pos') X.env] := by rfl) :
    DS X (.Assign [.Tuple es k pos'] e pos) (sUnp is ta) :=
  ⟨fun G H σ τ W D r q => semS.of (ps_asg peSem (pg_tup hc s.pgs hn hst) hs hw h1) (he.then r q fun d v G1 H1 r1 x1 k1 q1 => by
    try dsimp only at q1
    split at q1
    · rename_i ds
      obtain ⟨a, vs, rfl, t, rr⟩ := k1
      exact ⟨a, vs, rfl, t, rr.length.trans q1.1, s.run rr q1.1 r1.slots fun τ' z => ⟨_, G1, z, r1.sim, x1, q1.2⟩⟩
    · exact q1.elim)⟩
/-- a, b = x, y -/
def sPar (i j : Nat) (ts : TDA) : TDS := fun W D σ G => ts W σ G fun ds G1 => match ds with
  | [d, e] => D.nx ((σ.set i (some d)).set j (some e)) G1
  | _ => False
theorem ds_par {i j : Nat} {ts : TDA} {st : Stmt} (p : PS X st (tPar i j (semA X [a, b]))) (h : DA X [a, b] ts) : DS X st (sPar i j ts) :=
  ⟨fun G H σ τ W D r q => semS.of p (h.then r q fun ds vs G1 H1 r1 x1 k1 q1 => by
    try dsimp only at q1
    split at q1
    · rename_i d e
      obtain ⟨v, r', rfl, a1, a2⟩ := k1
      obtain ⟨w, r'', rfl, b1, b2⟩ := a2
      cases b2
      exact ⟨v, w, rfl, _, G1, (r1.slots.set a1).set b1, r1.sim, x1, q1⟩
    · exact q1.elim)⟩
end
end DL

namespace DL
open PySem PySem.Spec L2
open PyProof.Rows hiding St

/-! ### fields -/
def AttrOk (K : PySem.W.Frag) (C : Addr) (f : Str) : Prop := Cls K C ∧ NoAttr K C f
section
variable {X : Cx} {a b e o : Expr} {ta tb : TD} {pos pos' : Pos} {f : Str} {ok : Addr → Str → Prop}
def dFld (ok : Addr → Str → Prop) (f : Str) (ta : TD) : TD := fun W σ G Q => ta W σ G fun d G1 => match d with
  | .ref a => match G1 a with
    | some (.ins C fs) => ok C f ∧ match fs.lookup f with
      | some v => Q v G1
      | none => False
    | _ => False
  | _ => False
theorem de_fld (hok : ∀ C f, ok C f → AttrOk X.K C f) (ha : DE X e ta) (hb : attributeBase e f X.env (eval e X.env) = eval e X.env := by rfl) : DE X (.Attribute e f pos) (dFld ok f ta) :=
  ⟨fun G H σ τ W Q r q => semE.of (pe_fld peSem hb) (ha.then r q fun d v G1 H1 r1 x1 k1 q1 => by
    try dsimp only at q1
    split at q1
    · rename_i p
      cases k1
      split at q1
      · rename_i C fs eg
        obtain ⟨h1, q1⟩ := q1
        split at q1
        · rename_i w ew
          obtain ⟨dx, l, el, rl⟩ := r1.sim.ins eg
          obtain ⟨z, e1, e2⟩ := rl.lookup ew
          obtain ⟨c1, c2⟩ := hok _ _ h1
          exact ⟨p, C, dx, l, z, rfl, el, c1, c2, e1, .of e2 r1.sim x1 q1⟩
        · exact q1.elim
      · exact q1.elim
    · exact q1.elim)⟩
theorem RKV.put {K : PySem.W.Frag} {H : Hp} {f : Str} {d : D} {v : V} (k : Rp K H d v) : ∀ {l : List (Str × D)} {m : List (Str × V)}, RKV K H l m → RKV K H (putD f d l) (putF f v m)
  | [], _, h => by cases h; exact ⟨v, [], rfl, k, rfl⟩
  | (n, e) :: l, _, h => by
    obtain ⟨w, r, rfl, h1, h2⟩ := h
    show RKV K H (if n = f then (n, d) :: l else (n, e) :: putD f d l) (if n = f then (n, v) :: r else (n, w) :: putF f v r)
    by_cases z : n = f
    · rw [if_pos z, if_pos z]; exact ⟨v, r, rfl, k, h2⟩
    · rw [if_neg z, if_neg z]; exact ⟨w, _, rfl, h1, RKV.put k h2⟩
def sFldD (ok : Addr → Str → Prop) (f : Str) (to tv : TD) : TDS := fun W D σ G => tv W σ G fun v G1 => to W σ G1 fun d G2 => match d with
  | .ref a => match G2 a with
    | some (.ins C fs) => ok C f ∧ fs.length < 1000 ∧ D.nx σ (put G2 a (.ins C (putD f v fs)))
    | _ => False
  | _ => False
theorem ds_fld (hok : ∀ C f, ok C f → AttrOk X.K C f) (ha : DE X o ta) (hv : DE X e tb) (hs : swapsWith e (some (.Attribute o f pos')) pos.line X.env = pure false := by rfl) : DS X (.Assign [.Attribute o f pos'] e pos) (sFldD ok f ta tb) :=
  ⟨fun G H σ τ W D r q => semS.of (ps_fld peSem peSem hs) (hv.then r q fun v y G1 H1 r1 x1 k1 q1 => ha.then r1 q1 fun d x G2 H2 r2 x2 k2 q2 => by
    try dsimp only at q2
    split at q2
    · rename_i p
      cases k2
      split at q2
      · rename_i C fs eg
        obtain ⟨h1, h2, q2⟩ := q2
        obtain ⟨dx, l, el, rl⟩ := r2.sim.ins eg
        obtain ⟨c1, c2⟩ := hok _ _ h1
        have sm := r2.sim.wr (m := .ins C (putD f v fs)) (o := .ins C dx (putF f y l)) eg ⟨dx, _, rfl, RKV.put (k1.ext r1.sim x2 _ _) rl⟩
        have xx : Ext G2 H2 (put G2 p (.ins C (putD f v fs))) (upd H2 p (.ins C dx (putF f y l))) := .wr eg
        exact ⟨p, C, dx, l, rfl, el, c1, c2, by rw [rl.length]; exact h2, σ, _, r2.slots.ext r2.sim xx _ _, sm, (x1.trans x2).trans xx, q2⟩
      · exact q2.elim
    · exact q2.elim)⟩
/-- o.f += e, ints -/
def sFldAug (ok : Addr → Str → Prop) (f : Str) (to tv : TD) : TDS := fun W D σ G => to W σ G fun d G1 => match d with
  | .ref a => match G1 a with
    | some (.ins C fs) => ok C f ∧ match fs.lookup f with
      | some (.int i) => tv W σ G1 fun v G2 => match v with
        | .int j => match G2 a with
          | some (.ins C2 fs2) => C2 = C ∧ fs2.length < 1000 ∧ D.nx σ (put G2 a (.ins C2 (putD f (.int (i + j)) fs2)))
          | _ => False
        | _ => False
      | _ => False
    | _ => False
  | _ => False
end

/-! ### defs: promises over data -/
abbrev SpD := List D → HD → Post → DX → Prop
/-- what may be forgotten at a def's end -/
def fg (Q : Post) : Post := fun d G => ∃ G0, Le G0 G ∧ Q d G0
def fgX (E : DX) : DX := fun c fs G => ∃ G0, Le G0 G ∧ E c fs G0
def liftSp (K : PySem.W.Frag) (n : Nat) (sp : SpD) : Sp := fun vs H Q E => vs.length = n ∧ ∃ ds G Qd Ed, Rps K H ds vs ∧ Sim K G H ∧ sp ds G Qd Ed ∧ (∀ v H', liftQ K G H Qd v H' → Q v H') ∧ (∀ c dd H', liftX K G H Ed c dd H' → E c dd H')
/-- a def's body, read from its arguments -/
def wpf (n m : Nat) (t : TDS) : SpD := fun ds G Q E => ds.length = n ∧ t (fun c fs _ G' => fgX E c fs G') { nx := fun _ G' => fg Q .non G', rt := fg Q } (ds.map some ++ List.replicate m none) G
/-- room for k calls, and no repr under way -/
structure RoomG (k : Nat) (A : Around) : Prop extends Room k A where
  gd : A.guards = some []
theorem RoomG.mono {j k : Nat} {A : Around} (r : RoomG k A) (h : j ≤ k) : RoomG j A := ⟨r.toRoom.mono h, r.gd⟩
theorem RoomG.units {k : Nat} {A : Around} (r : RoomG k A) : A.units + 64 < cLine := r.toRoom.units
theorem RoomG.deeper {k : Nat} {A : Around} (r : RoomG (k + 1) A) (env : Env) : RoomG k (A.deeper env) := ⟨r.toRoom.deeper env, r.gd⟩
theorem RoomG.in1 {k : Nat} {A : Around} (r : RoomG (k + 1) A) : RoomG k A.in1 := ⟨r.toRoom.in1, r.gd⟩
theorem RoomG.make {k : Nat} {A : Around} (r : RoomG (k + 1) A) (C : Addr) (us : List Value) (kw : List (Str × Value)) : RoomG k (A.under (.builtin "type.__call__" ⟨.ref C :: us, kw⟩)) :=
  ⟨r.toRoom.make C us kw, by have := r.gd; first | exact this | simpa [Around.under, guardIds] using this⟩
/-- a def's promise, kept where no repr is under way -/
structure FnG (P : Program) (w : World) (K : PySem.W.Frag) (mg : Str → Option Value) (base : Heap) (k : Nat) (f : Addr) (fd : FuncData) (ps : List Str) (sp : Sp) : Prop where
  len : ∀ vs H Q E, sp vs H Q E → vs.length = ps.length
  run : ∀ (A : Around) (outer : List Env) (s : Shared) (H : Hp) (args : Args) (us : List Value) (vs : List V) (Q : VK) (E : XK), RoomG k A → Env0 P w K mg base A outer s H →
    BindsTo s fd args (ps.zip us) → Vals vs us → sp vs H Q E → codeAny (model P w) A (.call (.ref f) args) (CR (L2.CX P w) outer P w H s Q E) s
section
variable {P : Program} {w : World} {K : PySem.W.Frag} {mg : Str → Option Value} {base : Heap} {k : Nat} {f : Addr} {fd : FuncData} {ps : List Str} {sp sp' : Sp}
theorem FnG.imp (F : FnG P w K mg base k f fd ps sp) (i : ∀ vs H Q E, sp' vs H Q E → sp vs H Q E) : FnG P w K mg base k f fd ps sp' :=
  ⟨fun _ _ _ _ q => F.len _ _ _ _ (i _ _ _ _ q), fun A o s H args us vs Q E r e b v q => F.run A o s H args us vs Q E r e b v (i _ _ _ _ q)⟩
theorem FnG.mono {j : Nat} (F : FnG P w K mg base k f fd ps sp) (h : k ≤ j) : FnG P w K mg base j f fd ps sp :=
  ⟨F.len, fun A o s H args us vs Q E r => F.run A o s H args us vs Q E (r.mono h)⟩
theorem fnG_of {N : List Str} {x qual : Str} {pa : Arguments} {bd : List Stmt} {sc : Scope} {dvs : List V} {kws : List (Str × V)} (F : L2.FunD K x qual pa bd sc dvs kws f fd) (S : FnScope N ps sc) (len : ∀ vs H Q E, sp vs H Q E → vs.length = ps.length)
    (hb : ∀ (cdv : Value) (A : Around) (outer : List Env) (s : Shared) (H : Hp) (vs : List V) (Q : VK) (E : XK), RoomG k (A.deeper (envOfC qual sc s.heap.objs.size f cdv)) → sp vs H Q E →
      ∃ t, PSs (cxOf (L2.CX P w) P w K mg base N qual sc f cdv A outer s H E) bd t ∧ t { nx := fun _ H' => Q .non H', rt := Q } (L2.start N vs) H) : FnG P w K mg base (k + 1) f fd ps sp := by
  obtain ⟨oc, od, dV, kV, doc, pm, an, cdv, ct, osl, rfl, lk, hcd, hD, hK⟩ := F.ex
  refine ⟨len, ?_⟩
  intro A outer s H args us vs Q E room e0 bind rv hsp
  have stay : ∀ b o, base.get? b = some o → s.heap.get? b = some o := fun b o e => (e0.bs b o e).1
  have kin := e0.mod.kin.keeps stay
  have par : ∀ z ∈ ps.zip us, sc.names.lookup z.1 = some .local ∨ (sc.names.lookup z.1 = some .cell ∧ ((cellsFrom (s.heap.objs.size + 1) sc.names []).lookup z.1).isSome = true) := by
    intro z hz
    exact (S.par z.1 (List.of_mem_zip (a := z.1) (b := z.2) hz).1).imp id fun q => ⟨q, PySem.W.cellsFrom_some _ _ _ (.inl q)⟩
  refine codeAny_call_function room.toRoom.depth (kin _ _ lk) rfl S.co S.gen rfl (PySem.W.codeRec_of kin hcd) (bind _ _ _ _ (wpAny_newFunctionEnv_cells S.kind par fun env ee s1 fresh => ?_))
  subst ee
  obtain ⟨t, pt, q⟩ := hb cdv A outer s H vs Q E (room.deeper _) hsp
  have inv := inv_start (CX := L2.CX P w) (E := E) (N := N) S room.hd e0 (len _ _ _ _ hsp) rv fresh
  refine ⟨(e0.mod.nolimit.keeps stay).keeps fresh.toInCall.keep, codeAny_func (wpAny_mono (pt.run [] s1 (L2.start N vs) H _ inv q) (fun fl s2 h => ?_) fun _ _ z => z)⟩
  match fl, h with
  | .ret u, ⟨v, _, H2, J, r2, q2⟩ => exact ⟨v, H2, J.os, J.bare, J.base, J.hok, r2, q2⟩
  | .next, ⟨_, H2, J, q2⟩ => exact ⟨V.non, H2, J.os, J.bare, J.base, J.hok, rfl, q2⟩
  | .brk, ⟨_, _, _, z⟩ => exact z.elim
  | .cont, ⟨_, _, _, z⟩ => exact z.elim
end
abbrev FnK (P : Program) (w : World) (K : PySem.W.Frag) (mg : Str → Option Value) (base : Heap) (k : Nat) (f : Addr) (fd : FuncData) (ps : List Str) (sp : SpD) : Prop := FnG P w K mg base k f fd ps (liftSp K ps.length sp)
theorem FnK.imp {P : Program} {w : World} {K : PySem.W.Frag} {mg : Str → Option Value} {base : Heap} {k : Nat} {f : Addr} {fd : FuncData} {ps : List Str} {sp sp' : SpD} (h : FnK P w K mg base k f fd ps sp) (i : ∀ ds G Q E, sp' ds G Q E → sp ds G Q E) : FnK P w K mg base k f fd ps sp' :=
  FnG.imp h fun vs H Q E ⟨l, ds, G, Qd, Ed, r, s, q, z1, z2⟩ => ⟨l, ds, G, Qd, Ed, r, s, i _ _ _ _ q, z1, z2⟩
section
variable {P : Program} {w : World} {K : PySem.W.Frag} {mg : Str → Option Value} {base : Heap} {x qual : Str} {params : Arguments} {body : List Stmt} {scope : Scope} {dvs : List V} {kws : List (Str × V)} {f : Addr} {fd : FuncData}
/-- a def: its body's reading is its promise -/
theorem fnd {N ps : List Str} {k n m : Nat} {t : TDS} (F : L2.FunD K x qual params body scope dvs kws f fd) (S : FnScope N ps scope) (hn : ps.length = n) (hm : N.length - n = m)
    (hb : ∀ (cdv : Value) (A : Around) (outer : List Env) (s : Shared) (H : Hp) (E : XK), RoomG k (A.deeper (envOfC qual scope s.heap.objs.size f cdv)) → DSs (cxOf (L2.CX P w) P w K mg base N qual scope f cdv A outer s H E) body t) : FnK P w K mg base (k + 1) f fd ps (wpf n m t) := by
  subst hn hm
  refine fnG_of F S (fun vs H Q E h => h.1) fun cdv A outer s H vs Q E hr h => ?_
  obtain ⟨hl, ds, G, Qd, Ed, rr, sm, ⟨hl2, q⟩, z1, z2⟩ := h
  refine ⟨semSs _ body, pssSem, ?_⟩
  have tk : Takes (cxOf (L2.CX P w) P w K mg base N qual scope f cdv A outer s H E) (fun c d _ H' => E c d H') := takes_of rfl rfl rfl rfl
  have st : RpS K H (ds.map some ++ List.replicate (N.length - ps.length) none) (L2.start N vs) := by
    unfold L2.start
    rw [hl]
    exact RpS.start _ rr
  refine ((hb cdv A outer s H E hr).run G H _ _ _ _ ⟨sm, st, tk.imp fun c dd τ H' hw => ?_⟩ q).imp ⟨fun τ' H' hh => ?_, fun v H' hh => ?_, fun _ _ hh => ?_, fun _ _ hh => ?_⟩
  · obtain ⟨σ', fs, G', k1, xf, s1, x1, G0, l0, q0⟩ := hw
    exact z2 c dd H' ⟨fs, G0, xf, s1.le l0, x1.le l0, q0⟩
  · obtain ⟨σ', G', k1, s1, x1, G0, l0, q0⟩ := hh
    exact z1 _ _ ⟨.non, G0, rfl, s1.le l0, x1.le l0, q0⟩
  · obtain ⟨d, G', k1, s1, x1, G0, l0, q0⟩ := hh
    exact z1 _ _ ⟨d, G0, k1, s1.le l0, x1.le l0, q0⟩
  · obtain ⟨_, _, _, _, _, q0⟩ := hh
    exact q0.elim
  · obtain ⟨_, _, _, _, _, q0⟩ := hh
    exact q0.elim
end

/-! ### calls of them -/
section
variable {X : Cx} {k n : Nat} {f C : Addr} {fd : FuncData} {ps ks : List Str} {sp : SpD} {x m : Str} {p pos apos : Pos} {e o : Expr} {es : List Expr} {ta : TD} {ts tk : TDA} {dvs : List V} {dds : List D} {ds : List Value}
/-- the exceptions of a callee, wished for here -/
theorem passK {G : HD} {H : Hp} {σ : DSt} {τ : St} {W : DW} (r : SR X G H σ τ W) : PassesAt (L2.CX X.prog X.w) X τ (liftX X.K G H fun c fs G' => W c fs σ G') := fun pins H0 s e s' I c =>
  r.takes e s' (XE.of_call I (W := liftW X.K G H W) (fun c dd H' ⟨fs, G', xf, s1, x1, q⟩ => ⟨σ, fs, G', r.slots.ext r.sim x1 _ _, xf, s1, x1, q⟩) c)
/-- the callee runs -/
theorem runK {pins : List (Addr × Obj)} {s : Shared} {G : HD} {H : Hp} {σ : DSt} {τ : St} {W : DW} {Q : Post} {us : List Value} {vs : List V} {es : List D} {args : Args} (F : FnK X.prog X.w X.K X.mg X.base k f fd ps sp) (hr : RoomG k X.A) (hb : BindsTo s fd args (ps.zip us))
    (r : SR X G H σ τ W) (I : Inv X pins τ H s) (rv : Vals vs us) (rd : Rps X.K H es vs) (hl : vs.length = ps.length) (h : sp es G Q fun c fs G' => W c fs σ G') :
    codeAny (model X.prog X.w) X.A (.call (.ref f) args) (fun z s' => match z with | .ok (.ret u) => EP X pins τ (liftQ X.K G H Q) u s' | .ok _ => False | .error e => X.xe e s') s := by
  refine codeAny_mono (F.run X.A X.stack s H args us vs (liftQ X.K G H Q) (liftX X.K G H fun c fs G' => W c fs σ G') hr I.env0 hb rv ⟨hl, es, G, Q, _, rd, r.sim, h, fun _ _ z => z, fun _ _ _ z => z⟩) fun z s' hq => ?_
  cases z with
  | error e => exact passK r pins H s e s' I hq
  | ok fl =>
    cases fl with
    | ret u => exact I.after hq
    | next => exact False.elim hq
    | brk => exact False.elim hq
    | cont => exact False.elim hq
def dCall (sp : SpD) (dds : List D) (ts : TDA) : TD := fun W σ G Q => ts W σ G fun ds G1 => sp (ds ++ dds) G1 Q fun c fs G' => W c fs σ G'
/-- what is bound beside the written arguments: values of the written part -/
structure Dfl (K : PySem.W.Frag) (dds : List D) (dvs : List V) : Prop where
  rel : ∀ H, Rps K H dds dvs
theorem Dfl.nil {K : PySem.W.Frag} : Dfl K [] [] := ⟨fun _ => rfl⟩
theorem runC {pins : List (Addr × Obj)} {s : Shared} {G : HD} {H : Hp} {σ : DSt} {τ : St} {W : DW} {Q : Post} {us : List Value} {vs : List V} {es : List D} (F : FnK X.prog X.w X.K X.mg X.base k f fd ps sp) (hr : RoomG k X.A) (hb : Binds X.K fd ps ds) (hd : Vals dvs ds) (hdd : Dfl X.K dds dvs)
    (r : SR X G H σ τ W) (I : Inv X pins τ H s) (rv : Vals vs us) (rd : Rps X.K H es vs) (hl : es.length + dds.length = ps.length) (h : sp (es ++ dds) G Q fun c fs G' => W c fs σ G') : wpAny (model X.prog X.w) X.A (call (.ref f) us) (EP X pins τ (liftQ X.K G H Q)) X.xe s := by
  have r2 := rv.append hd
  have r3 : Rps X.K H (es ++ dds) (vs ++ dvs) := rd.app (hdd.rel H)
  have l3 : (vs ++ dvs).length = ps.length := by rw [r3.length, List.length_append, hl]
  exact wpAny_call (codeAny_mono (runK F hr (hb s us I.kIn (by rw [← r2.length]; exact l3)) r I r2 r3 l3 h) fun z s' hq => by
    cases z with
    | error e => exact hq
    | ok fl => cases fl <;> first | exact hq | exact False.elim hq)
theorem de_call (F : FnK X.prog X.w X.K X.mg X.base k f fd ps sp) (hr : RoomG k X.A) (hm : X.mg x = some (.ref f)) (hk : PySem.W.keepIn X.K (.ref f) = true) (hb : Binds X.K fd ps ds) (hd : Vals dvs ds) (hdd : Dfl X.K dds dvs) (ha : DA X (e :: es) ts)
    (hl : ∀ ds G E Q, sp ds G E Q → ds.length = ps.length) (hg : Gl X x := by rfl) (hdb : (x == ("__debug__" : Str)) = false := by decide) (he : starEach (e :: es) X.env = (false, eval e X.env) :: starEach es X.env := by rfl) (hpl : (backTo pos (starEach es X.env)).any (·.1) = false := by rfl) :
    DE X (.Call (.Name x p) (e :: es) [] pos) (dCall sp dds ts) := ⟨fun G H σ τ W Q r q pins s I => by
  refine wpAny_Call_Name_kw (ld_glob I hg hm ?_ hdb)
  refine PySem.W.callWith_K (h₀ := X.base) I.ok.mod.kin hk (thn ((ha.run G H σ τ W _ r q) pos pins s I) fun us s1 ⟨vs, H1, I1, rv, es', G1, k1, sm1, x1, q1⟩ => ⟨I1.kIn, ?_⟩) he hpl
  exact thn (runC F hr hb hd hdd (r.ext sm1 x1) I1 rv k1 (by have := hl _ _ _ _ q1; rwa [List.length_append] at this) q1) fun _ _ ⟨v, H2, I2, l2, q2⟩ => ⟨v, H2, I2, l2, q2.up x1⟩⟩
theorem de_call0 (F : FnK X.prog X.w X.K X.mg X.base k f fd ps sp) (hr : RoomG k X.A) (hm : X.mg x = some (.ref f)) (hk : PySem.W.keepIn X.K (.ref f) = true) (hb : Binds X.K fd ps ds) (hd : Vals dvs ds) (hdd : Dfl X.K dds dvs)
    (hl : ∀ ds G E Q, sp ds G E Q → ds.length = ps.length) (hg : Gl X x := by rfl) (hdb : (x == ("__debug__" : Str)) = false := by decide) :
    DE X (.Call (.Name x p) [] [] pos) (dCall sp dds dNil) := ⟨fun G H σ τ W Q r q pins s I => by
  refine wpAny_Call_Name_kw (ld_glob I hg hm ?_ hdb)
  exact PySem.W.callWith_K0 I.kIn hk (runC (us := []) (vs := []) (es := []) F hr hb hd hdd r I .nil rfl (by have := hl _ _ _ _ q; rwa [List.length_append] at this) q)⟩
theorem wpf_len {n m : Nat} {t : TDS} : ∀ ds G E Q, wpf n m t ds G E Q → ds.length = n := fun _ _ _ _ h => h.1

/-! ### methods -/
/-- a method of the class at C, by its promise -/
structure MethK (X : Cx) (k : Nat) (m : Str) (C : Addr) (sp : SpD) (dds : List D) : Prop where
  ex : ∃ (f : Addr) (fd : FuncData) (ps : List Str) (dvs : List V) (ds : List Value), Cls X.K C ∧ Meth X.K C m f ∧ FnK X.prog X.w X.K X.mg X.base k f fd ps sp ∧ Binds X.K fd ps ds ∧ Vals dvs ds ∧ Dfl X.K dds dvs ∧ ∀ ds G E Q, sp ds G E Q → ds.length = ps.length
/-- o.m(..): tab: the classes that may have it -/
def dMeth (tab : List (Addr × SpD)) (m : Str) (dds : List D) (ta : TD) (ts : TDA) : TD := fun W σ G Q => ta W σ G fun d G1 => match d with
  | .ref a => match G1 a with
    | some (.ins C fs) => fs.lookup m = none ∧ ∃ q ∈ tab, q.1 = C ∧ ts W σ G1 fun ds G2 => q.2 (.ref a :: (ds ++ dds)) G2 Q fun c fs G' => W c fs σ G'
    | _ => False
  | _ => False
theorem de_meth {tab : List (Addr × SpD)} {pl : Sem Bool} (hr : RoomG k X.A) (ht : ∀ q ∈ tab, MethK X k m q.1 q.2 dds) (ho : DE X o ta) (ha : DA X (e :: es) ts)
    (hst : starEach (e :: es) X.env = (false, eval e X.env) :: starEach es X.env := by rfl) (hpl : (backTo pos (starEach es X.env)).any (·.1) = false := by rfl)
    (hc : eval (.Call (.Attribute o m apos) (e :: es) [] pos) X.env = (do
      let ov ← eval o X.env
      standAt apos.atName
      let (f, first) ← holding [ov] (getMethod ov m pl)
      callWith pos f first (backTo pos (starEach (e :: es) X.env)) (backToKw pos (keywordEach [] X.env))) := by rfl) :
    DE X (.Call (.Attribute o m apos) (e :: es) [] pos) (dMeth tab m dds ta ts) := ⟨fun G H σ τ W Q r q pins s I => by
  refine PySem.W.methodCall_KW (pl := pl) (thn ((ho.run G H σ τ W _ r q) pins s I) fun u s1 ⟨x, H1, I1, rx, d, G1, k1, sm1, x1, q1⟩ => ?_) hc
  try dsimp only at q1
  split at q1
  · rename_i a
    cases k1; cases rx
    split at q1
    · rename_i C fs eg
      obtain ⟨hno, ⟨C', sp'⟩, hmem, rfl, q1⟩ := q1
      obtain ⟨f, fd, ps, dvs, dsv, hcl, hme, F, hb, hd, hdd, hl⟩ := (ht _ hmem).ex
      obtain ⟨dx, l, el, rl⟩ := sm1.ins eg
      have r1 := r.ext sm1 x1
      refine getmeth_ok I1 el hcl hme (rl.lookup_none hno) ?_
      refine PySem.W.callWith_K (first := [.ref a]) (h₀ := X.base) I.ok.mod.kin hme.kp (thn ((ha.run G1 H1 σ τ W _ r1 q1) pos pins s1 I1) fun us s2 ⟨vs, H2, I2, rv, es', G2, k2, sm2, x2, q2⟩ => ⟨I2.kIn, ?_⟩) hst hpl
      exact thn (runC (us := .ref a :: us) (vs := .ref a :: vs) (es := .ref a :: es') F hr hb hd hdd (r1.ext sm2 x2) I2 (.cons rfl rv) (.cons rfl k2) (by have := hl _ _ _ _ q2; simpa [Nat.add_assoc, Nat.add_comm, Nat.add_left_comm] using this) q2)
        fun _ _ ⟨v, H3, I3, l3, q3⟩ => ⟨v, H3, I3, l3, q3.up (x1.trans x2)⟩
    · exact q1.elim
  · exact q1.elim⟩
theorem de_meth0 {tab : List (Addr × SpD)} {pl : Sem Bool} (hr : RoomG k X.A) (ht : ∀ q ∈ tab, MethK X k m q.1 q.2 dds) (ho : DE X o ta)
    (hc : eval (.Call (.Attribute o m apos) [] [] pos) X.env = (do
      let ov ← eval o X.env
      standAt apos.atName
      let (f, first) ← holding [ov] (getMethod ov m pl)
      callWith pos f first (backTo pos (starEach [] X.env)) (backToKw pos (keywordEach [] X.env))) := by rfl) :
    DE X (.Call (.Attribute o m apos) [] [] pos) (dMeth tab m dds ta dNil) := ⟨fun G H σ τ W Q r q pins s I => by
  refine PySem.W.methodCall_KW (pl := pl) (thn ((ho.run G H σ τ W _ r q) pins s I) fun u s1 ⟨x, H1, I1, rx, d, G1, k1, sm1, x1, q1⟩ => ?_) hc
  try dsimp only at q1
  split at q1
  · rename_i a
    cases k1; cases rx
    split at q1
    · rename_i C fs eg
      obtain ⟨hno, ⟨C', sp'⟩, hmem, rfl, q1⟩ := q1
      obtain ⟨f, fd, ps, dvs, dsv, hcl, hme, F, hb, hd, hdd, hl⟩ := (ht _ hmem).ex
      obtain ⟨dx, l, el, rl⟩ := sm1.ins eg
      have r1 := r.ext sm1 x1
      refine getmeth_ok I1 el hcl hme (rl.lookup_none hno) ?_
      exact PySem.W.callWith_K0 (first := [.ref a]) I1.kIn hme.kp (thn (runC (us := [.ref a]) (vs := [.ref a]) (es := [.ref a]) F hr hb hd hdd r1 I1 (.cons rfl .nil) (.cons rfl .nil) (by have := hl _ _ _ _ q1; simpa [Nat.add_comm] using this) q1)
        fun _ _ ⟨v, H3, I3, l3, q3⟩ => ⟨v, H3, I3, l3, q3.up x1⟩)
    · exact q1.elim
  · exact q1.elim⟩

/-! ### a new instance -/
def dMake (C : Addr) (sp : SpD) (dds : List D) (ts : TDA) : TD := fun W σ G Q => ts W σ G fun ds G1 => ∀ p, G1 p = none → sp (.ref p :: (ds ++ dds)) (put G1 p (.ins C [])) (fun d G2 => match d with | .non => Q (.ref p) G2 | _ => False) fun c fs G' => W c fs σ G'
theorem runM {pins : List (Addr × Obj)} {s : Shared} {G : HD} {H : Hp} {σ : DSt} {τ : St} {W : DW} {Q : Post} {us : List Value} {vs : List V} {es : List D} (M : Mk X.K C f) (F : FnK X.prog X.w X.K X.mg X.base k f fd ps sp) (hr : RoomG (k + 1) X.A) (hb : Binds X.K fd ps ds) (hd : Vals dvs ds) (hdd : Dfl X.K dds dvs)
    (r : SR X G H σ τ W) (I : Inv X pins τ H s) (rv : Vals vs us) (rd : Rps X.K H es vs) (hl : ∀ ds G E Q, sp ds G E Q → ds.length = ps.length)
    (h : ∀ p, G p = none → sp (.ref p :: (es ++ dds)) (put G p (.ins C [])) (fun d G2 => match d with | .non => Q (.ref p) G2 | _ => False) fun c fs G' => W c fs σ G') : wpAny (model X.prog X.w) X.A (call (.ref C) us) (EP X pins τ (liftQ X.K G H Q)) X.xe s := by
  have f1 : H s.heap.objs.size = none := I.hok.fresh (Nat.le_refl _)
  have f2 : H (s.heap.objs.size + 1) = none := I.hok.fresh (Nat.le_succ _)
  have ne : s.heap.objs.size + 1 ≠ s.heap.objs.size := Nat.succ_ne_self _
  have hq := h (s.heap.objs.size + 1) (r.sim.no f2)
  have hl' := hl _ _ _ _ hq
  have I2 := Inv.made (C := C) I
  have sm1 : Sim X.K G (upd H s.heap.objs.size (.own (s.heap.objs.size + 1))) := r.sim.newO f1
  have x1 : Ext G H G (upd H s.heap.objs.size (.own (s.heap.objs.size + 1))) := .new f1 (r.sim.no f1)
  have f3 : upd H s.heap.objs.size (.own (s.heap.objs.size + 1)) (s.heap.objs.size + 1) = none := by rw [upd_ne ne]; exact f2
  have sm2 := sm1.newM (m := .ins C []) (o := .ins C s.heap.objs.size []) f3 ⟨_, _, rfl, rfl⟩
  have x2 : Ext G _ (put G (s.heap.objs.size + 1) (.ins C [])) (upd (upd H s.heap.objs.size (.own (s.heap.objs.size + 1))) (s.heap.objs.size + 1) (.ins C s.heap.objs.size [])) := .newM (m := .ins C []) f3
  have xx := x1.trans x2
  have r2 : Vals (V.ref (s.heap.objs.size + 1) :: (vs ++ dvs)) (Value.ref (s.heap.objs.size + 1) :: (us ++ ds)) := .cons rfl (rv.append hd)
  have r3 : Rps X.K _ (.ref (s.heap.objs.size + 1) :: (es ++ dds)) (V.ref (s.heap.objs.size + 1) :: (vs ++ dvs)) := .cons rfl ((rd.ext r.sim xx _ _).app (hdd.rel _))
  have l3 : (V.ref (s.heap.objs.size + 1) :: (vs ++ dvs)).length = ps.length := by rw [r3.length]; exact hl'
  have l4 : (Value.ref (s.heap.objs.size + 1) :: us ++ ds).length = ps.length := by rw [List.cons_append, ← r2.length]; exact l3
  have sr2 := r.ext sm2 xx
  refine wpAny_call (make_map (f := f) I.kIn M.makes M.init (beq_iff_eq.mp M.fn) (codeAny_mono (F.run _ X.stack _ _ ⟨Value.ref (s.heap.objs.size + 1) :: us, []⟩ (Value.ref (s.heap.objs.size + 1) :: (us ++ ds)) _
    (fun v H' => v = .non ∧ liftQ X.K G H Q (.ref (s.heap.objs.size + 1)) H') (liftX X.K G H fun c fs G' => W c fs σ G') (hr.make C us []) (I2.env0.make C us []) (hb _ (Value.ref (s.heap.objs.size + 1) :: us) I2.kIn l4) r2
    ⟨l3, _, _, _, _, r3, sm2, hq, fun v H' ⟨d, G', k1, s1, y1, q1⟩ => ?_, fun c dd H' z => z.up xx⟩) fun z s' hz => ?_))
  · cases d with
    | non => exact ⟨k1, .of (d := .ref _) rfl s1 (xx.trans y1) q1⟩
    | _ => exact q1.elim
  · cases z with
    | error e => exact passK r pins _ _ e s' I2 hz
    | ok fl =>
      cases fl with
      | ret u =>
        obtain ⟨v, H', I3, rv3, ev, q3⟩ := I2.after hz
        subst ev
        exact ⟨rv3, ⟨V.ref (s.heap.objs.size + 1), H', I3, rfl, q3⟩⟩
      | next => exact False.elim hz
      | brk => exact False.elim hz
      | cont => exact False.elim hz
end
end DL

namespace DL
open PySem PySem.Spec L2
open PyProof.Rows hiding St

section
variable {X : Cx} {k n : Nat} {f C : Addr} {fd : FuncData} {ps ks : List Str} {sp : SpD} {x m : Str} {p pos apos : Pos} {e o : Expr} {es : List Expr} {ta : TD} {ts tk : TDA} {dvs : List V} {dds : List D} {ds : List Value}
theorem de_make (M : Mk X.K C f) (F : FnK X.prog X.w X.K X.mg X.base k f fd ps sp) (hr : RoomG (k + 1) X.A) (hm : X.mg x = some (.ref C)) (hb : Binds X.K fd ps ds) (hd : Vals dvs ds) (hdd : Dfl X.K dds dvs) (ha : DA X (e :: es) ts)
    (hl : ∀ ds G E Q, sp ds G E Q → ds.length = ps.length) (hg : Gl X x := by rfl) (hdb : (x == ("__debug__" : Str)) = false := by decide) (he : starEach (e :: es) X.env = (false, eval e X.env) :: starEach es X.env := by rfl) (hpl : (backTo pos (starEach es X.env)).any (·.1) = false := by rfl) :
    DE X (.Call (.Name x p) (e :: es) [] pos) (dMake C sp dds ts) := ⟨fun G H σ τ W Q r q pins s I => by
  refine wpAny_Call_Name_kw (ld_glob I hg hm ?_ hdb)
  refine PySem.W.callWith_K (h₀ := X.base) I.ok.mod.kin M.kp (thn ((ha.run G H σ τ W _ r q) pos pins s I) fun us s1 ⟨vs, H1, I1, rv, es', G1, k1, sm1, x1, q1⟩ => ⟨I1.kIn, ?_⟩) he hpl
  exact thn (runM M F hr hb hd hdd (r.ext sm1 x1) I1 rv k1 hl q1) fun _ _ ⟨v, H2, I2, l2, q2⟩ => ⟨v, H2, I2, l2, q2.up x1⟩⟩
theorem de_make0 (M : Mk X.K C f) (F : FnK X.prog X.w X.K X.mg X.base k f fd ps sp) (hr : RoomG (k + 1) X.A) (hm : X.mg x = some (.ref C)) (hb : Binds X.K fd ps ds) (hd : Vals dvs ds) (hdd : Dfl X.K dds dvs)
    (hl : ∀ ds G E Q, sp ds G E Q → ds.length = ps.length) (hg : Gl X x := by rfl) (hdb : (x == ("__debug__" : Str)) = false := by decide) :
    DE X (.Call (.Name x p) [] [] pos) (dMake C sp dds dNil) := ⟨fun G H σ τ W Q r q pins s I => by
  refine wpAny_Call_Name_kw (ld_glob I hg hm ?_ hdb)
  exact PySem.W.callWith_K0 I.kIn M.kp (runM (us := []) (vs := []) (es := []) M F hr hb hd hdd r I .nil rfl hl q)⟩
end

/-! ### what a loop walks: items that stand fixed, while ok holds -/
structure ItD where
  xs : List D
  ok : HD → Prop
structure ItRel (K : PySem.W.Frag) (G1 : HD) (H1 : Hp) (I : ItD) (J : It) : Prop where
  go : ∀ i G H, Sim K G H → ExtL G1 H1 G H → I.ok G → i < I.xs.length → J.go i H
  yld : ∀ i G H x H', Sim K G H → ExtL G1 H1 G H → I.ok G → i < I.xs.length → J.yld i H x H' → ∃ d, I.xs[i]? = some d ∧ Rp K H' d x ∧ Sim K G H' ∧ Ext G H G H'
  stop : ∀ i G H, Sim K G H → ExtL G1 H1 G H → I.ok G → I.xs.length ≤ i → J.stop i H
abbrev TDI := DW → DSt → HD → (ItD → HD → Prop) → Prop
structure DI (X : Cx) (tg iter : Expr) (wi : TI) (ti : TDI) : Prop where
  pi : PI X tg iter wi
  run : ∀ (G : HD) (H : Hp) (σ : DSt) (τ : St) (W : DW) (R : ItD → HD → Prop) (R' : It → Hp → Prop), SR X G H σ τ W → ti W σ G R →
    (∀ I J G1 H1, Sim X.K G1 H1 → Ext G H G1 H1 → ItRel X.K G1 H1 I J → R I G1 → R' J H1) → wi τ H R'
section
variable {X : Cx} {tg l a b : Expr} {tl ta tb : TD} {pos p : Pos}
/-- a list or a tuple -/
def iSeq (K : PySem.W.Frag) (te : TE) : TI := fun σ H R => te σ H fun x H1 => ∃ a, x = .ref a ∧ ((∃ xs, SqL K H1 a xs ∧ R (Itl K a) H1) ∨ ∃ xs, SqT K H1 a xs ∧ R (Itt K a) H1)
theorem pi_seq {te : TE} (he : PE X l te) : PI X tg l (iSeq X.K te) := by
  refine ⟨fun pins s0 σ H R J h => thn (he.run pins s0 σ H _ J h) fun v s1 hv => ?_⟩
  obtain ⟨x, H1, I1, r1, a, rfl, q1⟩ := hv
  cases r1
  rcases q1 with ⟨xs, hq, q⟩ | ⟨xs, hq, q⟩
  · obtain ⟨its, rv, pl, hz⟩ := I1.list hq
    refine wpAny_pyIter_list pl.isList ⟨s1.heap.objs.size, [s1.heap.objs.size], _, _, H1, rfl, I1.kept (t' := s1.toks) fun b o ho => Heap.get?_push_of_some _ ho, turn_list a _, ⟨_, Heap.get?_push_size _ rfl, rfl, rfl⟩, fun b hb => ?_, q⟩
    obtain rfl : b = s1.heap.objs.size := by simpa using hb
    exact I1.fpOk (Nat.le_refl _) (I1.hok.fresh (Nat.le_refl _))
  · obtain ⟨its, rv, pl, hz⟩ := I1.tuple hq
    refine wpAny_pyIter_tuple (show s1.heap.IsTuple a its.toArray from pl) ⟨s1.heap.objs.size, [s1.heap.objs.size], _, _, H1, rfl, I1.kept (t' := s1.toks) fun b o ho => Heap.get?_push_of_some _ ho, turn_tuple a _, ⟨_, Heap.get?_push_size _ rfl, rfl, rfl⟩, fun b hb => ?_, q⟩
    obtain rfl : b = s1.heap.objs.size := by simpa using hb
    exact I1.fpOk (Nat.le_refl _) (I1.hok.fresh (Nat.le_refl _))
def jSeq (tl : TD) : TDI := fun W σ G R => tl W σ G fun d G1 => match d with
  | .tup ds => R ⟨ds, fun _ => True⟩ G1
  | .kl ds => R ⟨ds, fun _ => True⟩ G1
  | .kc ds => R ⟨ds, fun _ => True⟩ G1
  | .ref a => match G1 a with
    | some (.lst ds) => R ⟨ds, fun G => G a = some (.lst ds)⟩ G1
    | _ => False
  | _ => False
theorem di_seq (hl : DE X l tl) : DI X tg l (iSeq X.K (semE X l)) (jSeq tl) :=
  ⟨pi_seq peSem, fun G H σ τ W R R' r q fin => hl.then r q fun d v G1 H1 r1 x1 k1 q1 => by
    try dsimp only at q1
    split at q1
    · rename_i ds
      obtain ⟨a, vs, rfl, t, rr⟩ := k1
      refine ⟨a, rfl, .inr ⟨vs, t, fin _ _ G1 H1 r1.sim x1 ⟨fun i G2 H2 s2 x2 _ hi => ?_, fun i G2 H2 x H3 s2 x2 _ hi hy => ?_, fun i G2 H2 s2 x2 _ hi => ?_⟩ q1⟩⟩
      · exact ⟨vs, vs[i]'(by rw [rr.length]; exact hi), SqT.extL r1.sim x2 t, by simp⟩
      · obtain ⟨rfl, hy⟩ := hy
        have e1 := hy vs (SqT.extL r1.sim x2 t)
        obtain ⟨v', e2, e3⟩ := rr.get (i := i) (d := ds[i]) (by simp)
        rw [e1] at e2; cases e2
        exact ⟨ds[i], by simp, e3.extL r1.sim x2 _ _, s2, .refl⟩
      · exact ⟨vs, SqT.extL r1.sim x2 t, by rw [rr.length]; exact hi⟩
    · rename_i ds
      obtain ⟨a, vs, rfl, ⟨o, t⟩, rr⟩ := id k1
      have sq : ∀ {G2 H2}, ExtL G1 H1 G2 H2 → SqL X.K H2 a vs := fun {G2 H2} x2 => by
        exact .inl (.inr ⟨o, (x2 a _ nl_frz (r1.sim.frzL t) t).1⟩)
      refine ⟨a, rfl, .inl ⟨vs, sq Ext.refl.l, fin _ _ G1 H1 r1.sim x1 ⟨fun i G2 H2 s2 x2 _ hi => ?_, fun i G2 H2 x H3 s2 x2 _ hi hy => ?_, fun i G2 H2 s2 x2 _ hi => ?_⟩ q1⟩⟩
      · exact ⟨vs, vs[i]'(by rw [rr.length]; exact hi), sq x2, by simp⟩
      · obtain ⟨rfl, hy⟩ := hy
        have e1 := hy vs (sq x2)
        obtain ⟨v', e2, e3⟩ := rr.get (i := i) (d := ds[i]) (by simp)
        rw [e1] at e2; cases e2
        exact ⟨ds[i], by simp, e3.extL r1.sim x2 _ _, s2, .refl⟩
      · exact ⟨vs, sq x2, by rw [rr.length]; exact hi⟩
    · rename_i ds
      obtain ⟨a, vs, rfl, t, rr⟩ := id k1
      have sq : ∀ {G2 H2}, ExtL G1 H1 G2 H2 → SqL X.K H2 a vs := fun {G2 H2} x2 => by
        rcases t with ⟨o, t⟩ | t
        · exact .inl (.inr ⟨o, (x2 a _ nl_frz (r1.sim.frzL t) t).1⟩)
        · exact .inr t
      refine ⟨a, rfl, .inl ⟨vs, sq Ext.refl.l, fin _ _ G1 H1 r1.sim x1 ⟨fun i G2 H2 s2 x2 _ hi => ?_, fun i G2 H2 x H3 s2 x2 _ hi hy => ?_, fun i G2 H2 s2 x2 _ hi => ?_⟩ q1⟩⟩
      · exact ⟨vs, vs[i]'(by rw [rr.length]; exact hi), sq x2, by simp⟩
      · obtain ⟨rfl, hy⟩ := hy
        have e1 := hy vs (sq x2)
        obtain ⟨v', e2, e3⟩ := rr.get (i := i) (d := ds[i]) (by simp)
        rw [e1] at e2; cases e2
        exact ⟨ds[i], by simp, e3.extL r1.sim x2 _ _, s2, .refl⟩
      · exact ⟨vs, sq x2, by rw [rr.length]; exact hi⟩
    · rename_i a
      cases k1
      split at q1
      · rename_i ds eg
        obtain ⟨vs, e1, rr⟩ := r1.sim.lst eg
        refine ⟨a, rfl, .inl ⟨vs, .of e1, fin _ _ G1 H1 r1.sim x1 ⟨fun i G2 H2 s2 x2 hok hi => ?_, fun i G2 H2 x H3 s2 x2 hok hi hy => ?_, fun i G2 H2 s2 x2 hok hi => ?_⟩ q1⟩⟩
        · obtain ⟨ws, e2, r2⟩ := s2.lst hok
          exact ⟨ws, ws[i]'(by rw [r2.length]; exact hi), .of e2, by simp⟩
        · obtain ⟨ws, e2, r2⟩ := s2.lst hok
          obtain ⟨rfl, hy⟩ := hy
          have e3 := hy ws (.of e2)
          obtain ⟨v', e4, e5⟩ := r2.get (i := i) (d := ds[i]) (by simp)
          rw [e3] at e4; cases e4
          exact ⟨ds[i], by simp, e5, s2, .refl⟩
        · obtain ⟨ws, e2, r2⟩ := s2.lst hok
          exact ⟨ws, .of e2, by rw [r2.length]; exact hi⟩
      · exact q1.elim
    · exact q1.elim⟩
end

/-! ### range -/
section
variable {X : Cx} {tg a b : Expr} {ts : TDA} {pos p : Pos}
def intsD (lo : Int) (n : Nat) : List D := (List.range n).map fun i => .int (lo + (i : Nat))
theorem ints_get {lo : Int} {n i : Nat} (h : i < n) : (intsD lo n)[i]? = some (.int (lo + (i : Nat))) := by
  unfold intsD
  rw [List.getElem?_map, List.getElem?_range h]; rfl
theorem ints_len {lo : Int} {n : Nat} : (intsD lo n).length = n := by unfold intsD; rw [List.length_map, List.length_range]
theorem itr_rel {K : PySem.W.Frag} {G1 : HD} {H1 : Hp} (lo : Int) (n : Nat) : ItRel K G1 H1 ⟨intsD lo n, fun _ => True⟩ (Itr lo n) :=
  ⟨fun i G H s x _ hi => by rw [ints_len] at hi; exact hi, fun i G H x H' s _ _ hi hy => by
    obtain ⟨rfl, rfl⟩ := hy
    rw [ints_len] at hi
    exact ⟨_, ints_get hi, rfl, s, .refl⟩, fun i G H s x _ hi => by rw [ints_len] at hi; exact hi⟩
def jRng1 (ts : TDA) : TDI := fun W σ G R => ts W σ G fun ds G1 => match ds with
  | [.int j] => j < 2 ^ 62 ∧ -(2 ^ 62) ≤ j ∧ R ⟨intsD 0 j.toNat, fun _ => True⟩ G1
  | _ => False
theorem di_range1 (hm : X.mg "range" = none) (ha : DA X [a] ts) (hg : Gl X "range" := by rfl) (hs : starEach [a] X.env = [(false, eval a X.env)] := by rfl) : DI X tg (.Call (.Name "range" p) [a] [] pos) (iRng1 (semA X [a])) (jRng1 ts) :=
  ⟨pi_range1 hg hm paSem hs, fun G H σ τ W R R' r q fin => ha.then r q fun ds vs G1 H1 r1 x1 k1 q1 => by
    try dsimp only at q1
    split at q1
    · rename_i j
      obtain ⟨v, t, rfl, h1, h2⟩ := k1
      cases h1; cases h2
      exact ⟨j, rfl, q1.2.1, q1.1, fin _ _ G1 H1 r1.sim x1 (itr_rel 0 j.toNat) q1.2.2⟩
    · exact q1.elim⟩
def jRng2 (ts : TDA) : TDI := fun W σ G R => ts W σ G fun ds G1 => match ds with
  | [.int i, .int j] => (-(2 ^ 62) ≤ i ∧ i < 2 ^ 62 ∧ -(2 ^ 62) ≤ j ∧ j < 2 ^ 62) ∧ R ⟨intsD i (j - i).toNat, fun _ => True⟩ G1
  | _ => False
theorem di_range2 (hm : X.mg "range" = none) (ha : DA X [a, b] ts) (hg : Gl X "range" := by rfl) (hs : starEach [a, b] X.env = [(false, eval a X.env), (false, eval b X.env)] := by rfl) (hs2 : starEach [b] X.env = [(false, eval b X.env)] := by rfl) : DI X tg (.Call (.Name "range" p) [a, b] [] pos) (iRng2 (semA X [a, b])) (jRng2 ts) :=
  ⟨pi_range2 hg hm paSem hs hs2, fun G H σ τ W R R' r q fin => ha.then r q fun ds vs G1 H1 r1 x1 k1 q1 => by
    try dsimp only at q1
    split at q1
    · rename_i i j
      obtain ⟨v, t, rfl, h1, v2, t2, rfl, h2, h3⟩ := k1
      cases h1; cases h2; cases h3
      exact ⟨i, j, rfl, q1.1, fin _ _ G1 H1 r1.sim x1 (itr_rel i (j - i).toNat) q1.2⟩
    · exact q1.elim⟩
end

/-! ### targets of loops -/
inductive Tgt where
  | one (i : Nat) | many (is : List Nat)
def Tgt.slots : Tgt → List Nat
  | .one i => [i]
  | .many is => is
def Tgt.put : Tgt → D → DSt → (DSt → Prop) → Prop
  | .one i, d, σ, k => k (σ.set i (some d))
  | .many is, d, σ, k => match d with
    | .tup ds => ds.length = is.length ∧ k (setAll is ds σ)
    | _ => False
theorem wipe_at {τ : L2.St} {j : Nat} : ∀ {vs : List Nat}, (wipe τ vs)[j]? = if j ∈ vs then (if j < τ.length then some none else none) else τ[j]?
  | [] => by simp [wipe]
  | v :: vs => by
    unfold wipe
    by_cases h : v = j
    · subst h
      by_cases hl : v < τ.length
      · rw [List.getElem?_set_self (by rw [wipe_length]; exact hl)]; simp [hl]
      · rw [List.getElem?_eq_none (by rw [List.length_set, wipe_length]; omega)]; simp [hl]
    · rw [List.getElem?_set_ne h, wipe_at (vs := vs)]
      have : (j ∈ v :: vs) ↔ j ∈ vs := by simp [Ne.symm h]
      simp only [this]
theorem wipe_set {τ : L2.St} {i : Nat} {w : Option V} {vs : List Nat} (h : i ∈ vs) : wipe (τ.set i w) vs = wipe τ vs := by
  apply List.ext_getElem?
  intro j
  rw [wipe_at, wipe_at, List.length_set]
  by_cases e : i = j
  · subst e; rw [if_pos h, if_pos h]
  · rw [List.getElem?_set_ne e]
theorem wipe_wipe {τ : L2.St} {vs : List Nat} : wipe (wipe τ vs) vs = wipe τ vs := by
  apply List.ext_getElem?
  intro j
  rw [wipe_at, wipe_length, wipe_at]
  by_cases e : j ∈ vs
  · rw [if_pos e, if_pos e]
  · simp only [if_neg e]
structure TgRun (K : PySem.W.Frag) (t : Tgt) (g : TG) : Prop where
  run : ∀ (H : Hp) (σ : DSt) (τ : L2.St) (d : D) (v : V) (k : DSt → Prop) (Q : L2.St → Hp → Prop), RpS K H σ τ → Rp K H d v → t.put d σ k → (∀ σ' τ', RpS K H σ' τ' → k σ' → (∀ vs, (∀ i ∈ t.slots, i ∈ vs) → wipe τ' vs = wipe τ vs) → Q τ' H) → g v τ H Q
structure TgOk (X : Cx) (tg : Expr) (t : Tgt) (g : TG) : Prop where
  pg : PG X tg g
  rn : TgRun X.K t g
theorem tr_one {K : PySem.W.Frag} {i : Nat} : TgRun K (.one i) (gName i) := ⟨fun H σ τ d v k Q r rd hk q => q _ _ (r.set rd) hk fun vs h => wipe_set (h i (by simp [Tgt.slots]))⟩
section
variable {X : Cx} {pos : Pos}
theorem tg_one {x : Str} (hN : X.N.Nodup) (i : Nat) (hi : X.N[i]? = some x := by rfl) (hx : Loc X.env.scope x := by first | exact Or.inl rfl | exact Or.inr rfl) (hf : X.fn x = true ∨ X.env.scope.names.lookup x = some .local := by first | exact .inl rfl | exact .inr rfl | assumption) : TgOk X (.Name x pos) (.one i) (gName i) :=
  ⟨pg_name hN hi hx hf, tr_one⟩
theorem Slots.run2 {es : List Expr} {is : List Nat} {g : TGs} (s : Slots X es is g) {K : PySem.W.Frag} {H : Hp} {Q : L2.St → Hp → Prop} : ∀ {ds : List D} {vs : List V} {σ : DSt} {τ : L2.St}, Rps K H ds vs → ds.length = is.length → RpS K H σ τ → (∀ τ', RpS K H (setAll is ds σ) τ' → (∀ ws, (∀ i ∈ is, i ∈ ws) → wipe τ' ws = wipe τ ws) → Q τ' H) → g vs τ H Q := by
  induction s with
  | nil =>
    intro ds vs σ τ r hl k q
    obtain rfl : ds = [] := List.eq_nil_of_length_eq_zero hl
    cases r
    exact ⟨rfl, q τ k fun _ _ => rfl⟩
  | cons h _ hs ih =>
    intro ds vs σ τ r hl k q
    cases ds with
    | nil => cases hl
    | cons d ds =>
      obtain ⟨v, vr, rfl, r1, r2⟩ := r
      exact ⟨v, vr, rfl, ih r2 (Nat.succ.inj hl) (k.set r1) fun τ' k' hw => q τ' k' fun ws hi => (hw ws fun i hm => hi i (List.mem_cons_of_mem _ hm)).trans (wipe_set (hi _ List.mem_cons_self))⟩
theorem tg_many {es : List Expr} {is : List Nat} {g : TGs} {kk : Nat} (hc : X.calm = true) (s : Slots X es is g) (hn : (assignEach es X.env).length = is.length := by rfl) (hst : (assignEach es X.env).findIdx? (·.1) = none := by rfl) : TgOk X (.Tuple es kk pos) (.many is) (gTup X.K is.length g) :=
  ⟨pg_tup hc s.pgs hn hst, ⟨fun H σ τ d v k Q r rd hk q => by
    simp only [Tgt.put] at hk
    split at hk
    · obtain ⟨a, vs, rfl, t, rr⟩ := rd
      exact ⟨a, vs, rfl, t, rr.length.trans hk.1, s.run2 rr hk.1 r fun τ' k' hw => q _ τ' k' hk.2 hw⟩
    · exact hk.elim⟩⟩
end

/-! ### for -/
def forD (ok : HD → Prop) (step : D → (DSt → HD → Prop) → DSt → HD → Prop) (fin : DSt → HD → Prop) : List D → DSt → HD → Prop
  | [] => fun σ G => ∃ G0, Le G0 G ∧ ok G0 ∧ fin σ G0
  | x :: xs => fun σ G => ∃ G0, Le G0 G ∧ ok G0 ∧ step x (forD ok step fin xs) σ G0
def sFor (ti : TDI) (t : Tgt) (tb : TDS) : TDS := fun W D σ G => ti W σ G fun I G1 => forD I.ok (fun d k σ' G' => t.put d σ' fun σ2 => tb W { D with nx := k, ct := k, bk := D.nx } σ2 G') D.nx I.xs σ G1
theorem drop_get {α : Type} {l : List α} {i : Nat} {x : α} (h : l[i]? = some x) : l.drop i = x :: l.drop (i + 1) := by
  obtain ⟨h1, h2⟩ := List.getElem?_eq_some_iff.mp h
  rw [← h2]
  exact List.drop_eq_getElem_cons h1
theorem ds_for {X : Cx} {tg iter : Expr} {body : List Stmt} {wi : TI} {ti : TDI} {t : Tgt} {g : TG} {tb : TDS} {pos : Pos} (hp : PassesOwn (model X.prog X.w) X.A X.env X.xe) (hc : X.calm = true) (hi : DI X tg iter wi ti) (hg : TgOk X tg t g) (hb : DSs X body tb)
    (hs : ∀ x, foldedSetIterable iter X.env x = pure x := by intro _; rfl) : DS X (.For tg iter body [] pos) (sFor ti t tb) := ⟨fun G H σ τ W D r q => semS.of (ps_for hp hc hi.pi hg.pg pssSem hs) (hi.run G H σ τ W _ _ r q fun I J G1 H1 s1 x1 rel q1 => by
  have r1 := r.ext s1 x1
  refine ⟨fun i m τ' H' => ∃ σ' G', RpS X.K H' σ' τ' ∧ Sim X.K G' H' ∧ Ext G1 H1 G' H' ∧ m = I.xs.length - i ∧ i ≤ I.xs.length ∧ forD I.ok (fun d k σ' G' => t.put d σ' fun σ2 => tb W { D with nx := k, ct := k, bk := D.nx } σ2 G') D.nx (I.xs.drop i) σ' G',
    ⟨_, σ, G1, r1.slots, s1, .refl, rfl, Nat.zero_le _, by rw [List.drop_zero]; exact q1⟩, ?_⟩
  rintro i m τ' H' ⟨σ', G', k', s', x', rfl, hle, q'⟩
  by_cases hlt : i < I.xs.length
  · have hx : I.xs[i]? = some I.xs[i] := by simp [hlt]
    rw [drop_get hx] at q'
    obtain ⟨G0, l0, ok0, q0⟩ := q'
    have s0 := s'.le l0
    have x0 : Ext G1 H1 G0 H' := x'.le l0
    refine .inr ⟨rel.go i G0 H' s0 x0.l ok0 hlt, fun τ2 H2 => ∃ σ2 G2, RpS X.K H2 σ2 τ2 ∧ Sim X.K G2 H2 ∧ Ext G1 H1 G2 H2 ∧ forD I.ok (fun d k σ' G' => t.put d σ' fun σ2 => tb W { D with nx := k, ct := k, bk := D.nx } σ2 G') D.nx (I.xs.drop (i + 1)) σ2 G2,
      fun τ2 H2 ⟨σ2, G2, a1, a2, a3, a4⟩ => ⟨_, by omega, σ2, G2, a1, a2, a3, rfl, hlt, a4⟩, fun v H2 hy => ?_⟩
    obtain ⟨d, e1, e2, e3, e4⟩ := rel.yld i G0 H' v H2 s0 x0.l ok0 hlt hy
    rw [hx] at e1; cases e1
    refine hg.rn.run H2 σ' τ' _ v _ _ (k'.ext s0 e4 _ _) e2 q0 fun σ2 τ2 k2 q2 _ => ?_
    have x2 := x0.trans e4
    have rr : SR X G0 H2 σ2 τ2 W := ⟨e3, k2, r1.takes.imp fun _ _ _ _ z => z.up x2⟩
    exact (hb.run G0 H2 σ2 τ2 W _ rr q2).imp ⟨fun τ3 H3 ⟨σ3, G3, b1, b2, b3, b4⟩ => ⟨σ3, G3, b1, b2, x2.trans b3, b4⟩, fun v H3 z => z.up (x1.trans x2), fun τ3 H3 z => z.up (x1.trans x2), fun τ3 H3 ⟨σ3, G3, b1, b2, b3, b4⟩ => ⟨σ3, G3, b1, b2, x2.trans b3, b4⟩⟩
  · have e : I.xs.drop i = [] := List.drop_eq_nil_of_le (by omega)
    rw [e] at q'
    obtain ⟨G0, l0, ok0, q0⟩ := q'
    exact .inl ⟨rel.stop i G0 H' (s'.le l0) (x'.le l0).l ok0 (by omega), σ', G0, k', s'.le l0, (x1.trans x').le l0, q0⟩)⟩

/-! ### while -/
def whD (test : DSt → HD → (Bool → HD → Prop) → Prop) (body : (DSt → HD → Prop) → DSt → HD → Prop) (fin : DSt → HD → Prop) : Nat → DSt → HD → Prop
  | 0 => fun _ _ => False
  | n + 1 => fun σ G => ∃ G0, Le G0 G ∧ test σ G0 fun b G1 => if b = true then body (whD test body fin n) σ G1 else fin σ G1
def sWhile (tc : TDT) (tb : TDS) : TDS := fun W D σ G => ∃ n, whD (fun σ' G' k => tc W σ' G' k) (fun k σ' G' => tb W { D with nx := k, ct := k, bk := D.nx } σ' G') D.nx n σ G
theorem ds_while {X : Cx} {c : Expr} {body : List Stmt} {tc : TDT} {tb : TDS} {pos : Pos} (hp : PassesOwn (model X.prog X.w) X.A X.env X.xe) (hc : DT X c tc) (hb : DSs X body tb) : DS X (.While c body [] pos) (sWhile tc tb) := ⟨fun G H σ τ W D r q => semS.of (ps_while hp ptSem pssSem) (by
  obtain ⟨n, q⟩ := q
  refine ⟨fun m τ' H' => ∃ σ' G', RpS X.K H' σ' τ' ∧ Sim X.K G' H' ∧ Ext G H G' H' ∧ whD (fun σ' G' k => tc W σ' G' k) (fun k σ' G' => tb W { D with nx := k, ct := k, bk := D.nx } σ' G') D.nx m σ' G', ⟨n, σ, G, r.slots, r.sim, .refl, q⟩, ?_⟩
  rintro m τ' H' ⟨σ', G', k', s', x', q'⟩
  cases m with
  | zero => exact q'.elim
  | succ m =>
    obtain ⟨G0, l0, q0⟩ := q'
    have x0 : Ext G H G0 H' := x'.le l0
    have r0 : SR X G0 H' σ' τ' W := ⟨s'.le l0, k', r.takes.imp fun _ _ _ _ z => z.up x0⟩
    refine hc.then r0 q0 fun b G1 H1 r1 x1 q1 => ?_
    have x2 := x0.trans x1
    cases b with
    | true =>
      refine ⟨fun τ2 H2 => ∃ σ2 G2, RpS X.K H2 σ2 τ2 ∧ Sim X.K G2 H2 ∧ Ext G H G2 H2 ∧ whD (fun σ' G' k => tc W σ' G' k) (fun k σ' G' => tb W { D with nx := k, ct := k, bk := D.nx } σ' G') D.nx m σ2 G2, fun τ2 H2 h2 => ⟨m, Nat.lt_succ_self _, h2⟩, ?_⟩
      exact (hb.run G1 H1 σ' τ' W _ r1 q1).imp ⟨fun τ3 H3 ⟨σ3, G3, b1, b2, b3, b4⟩ => ⟨σ3, G3, b1, b2, x2.trans b3, b4⟩, fun v H3 z => z.up x2, fun τ3 H3 z => z.up x2, fun τ3 H3 ⟨σ3, G3, b1, b2, b3, b4⟩ => ⟨σ3, G3, b1, b2, x2.trans b3, b4⟩⟩
    | false => exact ⟨σ', G1, r1.slots, r1.sim, x2, q1⟩)⟩
end DL

namespace DL
open PySem PySem.Spec L2
open PyProof.Rows hiding St

/-! ### list comprehensions -/
section
variable (X : Cx)
def semTs (ifs : List Expr) : TT := fun σ H Q => ∀ (pins : List (Addr × Obj)) (s : Shared), Inv X pins σ H s →
  wpAny (model X.prog X.w) X.A (forIn ifs true fun c r => if r = true then do let ok ← isTrue c X.env (eval c X.env); pure (ForInStep.yield ok) else pure (ForInStep.yield r)) (TP X pins σ Q) X.xe s
end
theorem ptsSem {X : Cx} {ifs : List Expr} : PTs X ifs (semTs X ifs) := ⟨fun pins s _ _ _ I h => h pins s I⟩
/-- a clause's tests -/
structure DTs (X : Cx) (ifs : List Expr) (t : TDT) : Prop where
  run : ∀ (G : HD) (H : Hp) (σ : DSt) (τ : L2.St) (W : DW) (Q : Bool → HD → Prop), SR X G H σ τ W → t W σ G Q → semTs X ifs τ H (liftB X.K G H Q)
def dYes : TDT := fun _ _ G Q => Q true G
section
variable {X : Cx} {c : Expr} {cs : List Expr} {t u : TDT}
theorem dts_nil : DTs X [] dYes := ⟨fun G H σ τ W Q r q pins s I => pts_nil.run pins s τ H _ I ⟨G, r.sim, .refl, q⟩⟩
theorem tests_skip {env : Env} {prog : Program} {w : World} {A : Around} {Q : Bool → Shared → Prop} {E : Value → Shared → Prop} {s : Shared} : ∀ {ifs : List Expr}, Q false s →
    wpAny (model prog w) A (forIn ifs false fun c r => if r = true then do let ok ← isTrue c env (eval c env); pure (ForInStep.yield ok) else pure (ForInStep.yield r)) Q E s
  | [], h => wpAny_pure h
  | c :: cs, h => by
    simp only [List.forIn_cons, Bool.false_eq_true, if_false]
    exact wpAny_bind (wpAny_pure (tests_skip (ifs := cs) h))
theorem dts_cons (h : DT X c t) (k : DTs X cs u) : DTs X (c :: cs) (dAnd t u) := ⟨fun G H σ τ W Q r q pins s I => by
  simp only [List.forIn_cons, if_true]
  refine wpAny_bind (wpAny_bind (thn ((h.run G H σ τ W _ r q) pins s I) fun b s1 ⟨H1, I1, G1, sm1, x1, q1⟩ => wpAny_pure ?_))
  cases b with
  | true => exact thn (k.run G1 H1 σ τ W Q (r.ext sm1 x1) q1 pins s1 I1) fun b2 s2 ⟨H2, I2, z⟩ => ⟨H2, I2, z.up x1⟩
  | false => exact tests_skip ⟨H1, I1, G1, sm1, x1, q1⟩⟩
theorem dts_one (h : DT X c t) : DTs X [c] t := ⟨fun G H σ τ W Q r q pins s I => (pts_one ptSem).run pins s τ H _ I (h.run G H σ τ W Q r q)⟩
end

section
variable {K : PySem.W.Frag} {G : HD} {H : Hp}
/-- a list that is not of ours grows -/
theorem SqT.aside {p : Addr} {l : List V} {o' : HO} (hp : H p = some (.lst l)) {a : Addr} {vs : List V} (h : SqT K H a vs) : SqT K (upd H p o') a vs := by
  rcases h with (h | ⟨o, h⟩) | h
  · exact .inl (.inl (by rw [upd_ne (by rintro rfl; rw [hp] at h; cases h)]; exact h))
  · exact .inl (.inr ⟨o, by rw [upd_ne (by rintro rfl; rw [hp] at h; cases h)]; exact h⟩)
  · exact .inr h
mutual
theorem Rp.aside {p : Addr} {l : List V} {o' : HO} (hp : H p = some (.lst l)) : ∀ (d : D) (v : V), Rp K H d v → Rp K (upd H p o') d v
  | .non, _, h => h
  | .bl _, _, h => h
  | .int _, _, h => h
  | .str _, _, h => h
  | .ty _, _, h => h
  | .ref _, _, h => h
  | .tup ds, v, h => by
    obtain ⟨a, vs, e, t, r⟩ := h
    exact ⟨a, vs, e, SqT.aside hp t, Rps.aside hp ds vs r⟩
  | .kl ds, v, h => by
    obtain ⟨a, vs, e, ⟨o, t⟩, r⟩ := h
    exact ⟨a, vs, e, ⟨o, by rw [upd_ne (by rintro rfl; rw [hp] at t; cases t)]; exact t⟩, Rps.aside hp ds vs r⟩
  | .kc ds, v, h => by
    obtain ⟨a, vs, e, t, r⟩ := h
    refine ⟨a, vs, e, ?_, Rps.aside hp ds vs r⟩
    rcases t with ⟨o, t⟩ | t
    · exact .inl ⟨o, by rw [upd_ne (by rintro rfl; rw [hp] at t; cases t)]; exact t⟩
    · exact .inr t
  | .exc C ns ds, v, h => by
    obtain ⟨a, dd, vs, e, t, hl, q, r⟩ := h
    refine ⟨a, dd, vs, e, by rw [upd_ne (by rintro rfl; rw [hp] at t; cases t)]; exact t, hl, ?_, Rps.aside hp ds vs r⟩
    rcases q with q | ⟨b, q1, q2⟩
    · exact .inl q
    · exact .inr ⟨b, q1, by rw [upd_ne (by rintro rfl; rw [hp] at q2; cases q2)]; exact q2⟩
  | .emp, v, h => by
    obtain ⟨a, ob, e, m, t, q⟩ := h
    exact ⟨a, ob, e, m, by rw [upd_ne (by rintro rfl; rw [hp] at t; cases t)]; exact t, q⟩
theorem Rps.aside {p : Addr} {l : List V} {o' : HO} (hp : H p = some (.lst l)) : ∀ (ds : List D) (vs : List V), Rps K H ds vs → Rps K (upd H p o') ds vs
  | [], _, h => h
  | d :: ds, vs, h => by
    obtain ⟨v, r, e, h1, h2⟩ := h
    exact ⟨v, r, e, Rp.aside hp d v h1, Rps.aside hp ds r h2⟩
end
theorem RKV.aside {κ : Type} {p : Addr} {l : List V} {o1 : HO} (hp : H p = some (.lst l)) : ∀ (a : List (κ × D)) (m : List (κ × V)), RKV K H a m → RKV K (upd H p o1) a m
  | [], _, h => h
  | q :: a, m, h => by
    obtain ⟨v, r, e, h1, h2⟩ := h
    exact ⟨v, r, e, h1.aside hp _ _, RKV.aside hp a r h2⟩
theorem RO.aside {p : Addr} {l : List V} {o1 : HO} (hp : H p = some (.lst l)) : ∀ (o : MO) (o' : HO), RO K H o o' → RO K (upd H p o1) o o'
  | .lst ds, _, h => let ⟨vs, e, r⟩ := h; ⟨vs, e, r.aside hp _ _⟩
  | .dK _, _, h => let ⟨vs, e, r⟩ := h; ⟨vs, e, r.aside hp _ _⟩
  | .dT _, _, h => let ⟨vs, e, r⟩ := h; ⟨vs, e, r.aside hp _ _⟩
  | .ins _ _, _, h => let ⟨dx, vs, e, r⟩ := h; ⟨dx, vs, e, r.aside hp _ _⟩
  | .fz ob w u, _, h => let ⟨e, r, z⟩ := h; ⟨e, RO.aside hp u w r, z⟩
theorem Sim.aside (s : Sim K G H) {p : Addr} {l : List V} {o1 : HO} (hp : H p = some (.lst l)) (hg : G p = none) : Sim K G (upd H p o1) := fun a o e => by
  obtain ⟨o', e1, r⟩ := s a o e
  have hn : a ≠ p := by rintro rfl; rw [hg] at e; cases e
  exact ⟨o', by rw [upd_ne hn]; exact e1, r.aside hp _ _⟩
theorem RpS.aside {p : Addr} {l : List V} {o1 : HO} (hp : H p = some (.lst l)) : ∀ (σ : DSt) (t : L2.St), RpS K H σ t → RpS K (upd H p o1) σ t
  | [], _, h => h
  | o :: r, _, h => by
    obtain ⟨w, t, rfl, h1, h2⟩ := h
    refine ⟨w, t, rfl, fun d e => ?_, RpS.aside hp r t h2⟩
    obtain ⟨v, e1, e2⟩ := h1 d e
    exact ⟨v, e1, e2.aside hp _ _⟩
end
def dwipe (σ : DSt) : List Nat → DSt
  | [] => σ
  | v :: vs => (dwipe σ vs).set v none
theorem RpS.wipe {K : PySem.W.Frag} {H : Hp} {σ : DSt} {τ : L2.St} (h : RpS K H σ τ) : ∀ vs : List Nat, RpS K H (dwipe σ vs) (L2.wipe τ vs)
  | [] => h
  | v :: vs => (RpS.wipe h vs).drop1
abbrev W0 : DW := fun _ _ _ _ => False
def lcD (ok : HD → Prop) (step : D → (D → HD → Prop) → (HD → Prop) → HD → Prop) (fin : List D → HD → Prop) : List D → List D → HD → Prop
  | [], acc => fun G => ∃ G0, Le G0 G ∧ ok G0 ∧ fin acc G0
  | x :: xs, acc => fun G => ∃ G0, Le G0 G ∧ ok G0 ∧ step x (fun y G' => lcD ok step fin xs (acc ++ [y]) G') (fun G' => lcD ok step fin xs acc G') G0
def dLcG (fin : List D → HD → Prop) (ti : TDI) (t : Tgt) (dt : TDT) (te : TD) (vs : List Nat) (W : DW) (σ : DSt) (G : HD) : Prop := ti W σ G fun I G1 => I.xs.length ≤ 1000000 ∧
  lcD I.ok (fun d ky kn G' => t.put d (dwipe σ vs) fun σ2 => dt W0 σ2 G' fun b G2 => if b = true then te W0 σ2 G2 ky else kn G2) fin I.xs [] G1
def dLc (ti : TDI) (t : Tgt) (dt : TDT) (te : TD) (vs : List Nat) : TD := fun W σ G Q => dLcG (fun acc G2 => newL G2 acc Q) ti t dt te vs W σ G
/-- the same, the list by value -/
def dLcV (ti : TDI) (t : Tgt) (dt : TDT) (te : TD) (vs : List Nat) : TD := fun W σ G Q => dLcG (fun acc G2 => Q (.kl acc) G2) ti t dt te vs W σ G
section
variable {X : Cx} {elt tg iter : Expr} {ifs : List Expr} {scope : Scope} {own : List (Str × Nat)} {pos : Pos} {wi : TI} {ti : TDI} {t : Tgt} {g : TG} {dt : TDT} {te : TD}
theorem million {n : Nat} (h : n ≤ 1000000) : n ≤ sizeLine := by rw [sizeLine_eq]; omega
/-- the loop of a block, shown once for values and for stores -/
theorem lc_run (hi : DI X tg iter wi ti) (hg : TgRun X.K t g)
    (hsl : ∀ i ∈ t.slots, i ∈ own.map (·.2))
    {tt : TT} {teV : TE}
    (htt : ∀ (G : HD) (H : Hp) (σ : DSt) (τ : L2.St) (Q : Bool → HD → Prop) (Q' : Bool → Hp → Prop), Sim X.K G H → RpS X.K H σ τ → dt W0 σ G Q → (∀ b H', liftB X.K G H Q b H' → Q' b H') → tt τ H Q')
    (hte : ∀ (G : HD) (H : Hp) (σ : DSt) (τ : L2.St) (Q : Post) (Q' : VK), Sim X.K G H → RpS X.K H σ τ → te W0 σ G Q → (∀ v H', liftQ X.K G H Q v H' → Q' v H') → teV τ H Q')
    {G : HD} {H : Hp} {σ : DSt} {τ : L2.St} {W : DW} {F : List D → HD → Prop} {Q' : VK} (r : SR X G H σ τ W) (q : dLcG F ti t dt te (own.map (·.2)) W σ G)
    (fin : ∀ D0 acc accV G0 H', (∀ a o, G a = none → H a = some o → a ≠ D0) → Sim X.K G0 H' → Ext G H G0 H' → H' D0 = some (.lst accV) → G0 D0 = none → Rps X.K H' acc accV → F acc G0 → Q' (.ref D0) H') : tLc wi g tt teV (own.map (·.2)) τ H Q' := by
  refine hi.run G H σ τ W _ _ r q fun I J G1 H1 s1 x1 rel q1 D0 hD => ?_
  obtain ⟨hz, q1⟩ := q1
  have r1 := r.ext s1 x1
  have n0 := s1.no hD
  refine ⟨fun i m H' => ∃ G' acc accV, H' D0 = some (.lst accV) ∧ G' D0 = none ∧ Rps X.K H' acc accV ∧ acc.length ≤ i ∧ Sim X.K G' H' ∧ Ext G1 H1 G' H' ∧ m = I.xs.length - i ∧ i ≤ I.xs.length ∧
      lcD I.ok (fun d ky kn G' => t.put d (dwipe σ (own.map (·.2))) fun σ2 => dt W0 σ2 G' fun b G2 => if b = true then te W0 σ2 G2 ky else kn G2) F (I.xs.drop i) acc G',
    ⟨_, G1, [], [], upd_same, n0, rfl, Nat.zero_le _, s1.newO hD, .new hD n0, rfl, Nat.zero_le _, by rw [List.drop_zero]; exact q1⟩, ?_⟩
  rintro i m H' ⟨G', acc, accV, hl, hn, ra, hle0, s', x', rfl, hle, q'⟩
  by_cases hlt : i < I.xs.length
  · have hx : I.xs[i]? = some I.xs[i] := by simp [hlt]
    rw [drop_get hx] at q'
    obtain ⟨G0, l0, ok0, q0⟩ := q'
    have s0 := s'.le l0
    have x0 : Ext G1 H1 G0 H' := x'.le l0
    have e0 : Ext G' H' G0 H' := .of_le l0
    refine .inr ⟨rel.go i G0 H' s0 x0.l ok0 hlt, fun H2 => ∃ G2 acc2 accV2, H2 D0 = some (.lst accV2) ∧ G2 D0 = none ∧ Rps X.K H2 acc2 accV2 ∧ acc2.length ≤ i + 1 ∧ Sim X.K G2 H2 ∧ Ext G1 H1 G2 H2 ∧
        lcD I.ok (fun d ky kn G' => t.put d (dwipe σ (own.map (·.2))) fun σ2 => dt W0 σ2 G' fun b G2 => if b = true then te W0 σ2 G2 ky else kn G2) F (I.xs.drop (i + 1)) acc2 G2,
      fun H2 ⟨G2, a2, v2, b1, b2, b3, b4, b5, b6, b7⟩ => ⟨_, by omega, G2, a2, v2, b1, b2, b3, b4, b5, b6, rfl, hlt, b7⟩, fun v H2 hy => ?_⟩
    obtain ⟨d, e1, e2, e3, e4⟩ := rel.yld i G0 H' v H2 s0 x0.l ok0 hlt hy
    rw [hx] at e1; cases e1
    have x2 := x0.trans e4
    have slots2 : RpS X.K H2 (dwipe σ (own.map (·.2))) (L2.wipe τ (own.map (·.2))) := (r1.slots.ext s1 x2 _ _).wipe _
    refine hg.run H2 _ _ _ v _ _ slots2 e2 q0 fun σ2 τ2 k2 q2 hw => ⟨(hw _ hsl).trans wipe_wipe, ?_⟩
    have n1 : G0 D0 = none := l0.no hn
    obtain ⟨hl2, n2⟩ := e4 D0 _ n1 hl
    have ra2 : Rps X.K H2 acc accV := ra.ext s' (e0.trans e4) _ _
    refine htt G0 H2 σ2 τ2 _ _ e3 k2 q2 fun b H3 ⟨G3, s3, x3, q3⟩ => ?_
    obtain ⟨hl3, n3⟩ := x3 D0 _ n2 hl2
    have ra3 : Rps X.K H3 acc accV := ra2.ext e3 x3 _ _
    cases b with
    | true =>
      refine hte G3 H3 σ2 τ2 _ _ s3 (k2.ext e3 x3 _ _) q3 fun y H4 ⟨dy, G4, ry, s4, x4, q4⟩ => ?_
      obtain ⟨hl4, n4⟩ := x4 D0 _ n3 hl3
      have ra4 : Rps X.K H4 acc accV := ra3.ext s3 x4 _ _
      refine ⟨accV, hl4, ?_, G4, acc ++ [dy], accV ++ [y], upd_same, n4, (ra4.app (.cons ry .nil)).aside hl4 _ _, by simp; omega, s4.aside hl4 n4, fun a o ga ha => ?_, q4⟩
      · rw [ra4.length]
        have := million hz
        omega
      · obtain ⟨h5, g5⟩ := ((x2.trans x3).trans x4) a o ga ha
        have hne : a ≠ D0 := by rintro rfl; rw [hD] at ha; cases ha
        exact ⟨by rw [upd_ne hne]; exact h5, g5⟩
    | false => exact ⟨G3, acc, accV, hl3, n3, ra3, by omega, s3, x2.trans x3, q3⟩
  · have e : I.xs.drop i = [] := List.drop_eq_nil_of_le (by omega)
    rw [e] at q'
    obtain ⟨G0, l0, ok0, q0⟩ := q'
    have s0 := s'.le l0
    have n1 : G0 D0 = none := l0.no hn
    have h0 : ∀ a o, G a = none → H a = some o → a ≠ D0 := fun a o ga ha e => by
      obtain ⟨h6, _⟩ := x1 a o ga ha
      rw [e, hD] at h6; cases h6
    exact .inl ⟨rel.stop i G0 H' s0 (x'.le l0).l ok0 (by omega), fin D0 acc accV G0 H' h0 s0 (x1.trans (x'.le l0)) hl n1 (ra.ext s' (.of_le l0) _ _) q0⟩

end

theorem finL {K : PySem.W.Frag} {G : HD} {H : Hp} {Q : Post} {Q' : VK} (f : ∀ v H', liftQ K G H Q v H' → Q' v H') : ∀ D0 acc accV G0 H', (∀ a o, G a = none → H a = some o → a ≠ D0) → Sim K G0 H' → Ext G H G0 H' → H' D0 = some (.lst accV) → G0 D0 = none → Rps K H' acc accV → newL G0 acc Q → Q' (.ref D0) H' :=
  fun D0 acc accV G0 H' h0 s0 x0 hl n1 ra q0 => f _ _ ⟨.ref D0, put G0 D0 (.lst acc), rfl, fun a o ea => by
      by_cases ha : a = D0
      · subst ha
        rw [put_same] at ea; cases ea
        exact ⟨_, hl, _, rfl, ra⟩
      · rw [put_ne ha] at ea
        exact s0 a o ea, fun a o ga ha => by
      obtain ⟨h5, g5⟩ := x0 a o ga ha
      exact ⟨h5, by rw [put_ne (h0 a o ga ha)]; exact g5⟩, q0 D0 n1⟩
/-- what a new list may still become: a value that never changes -/
def liftF (K : PySem.W.Frag) (G : HD) (H : Hp) (Q : Post) : VK := fun v H' => liftQ K G H Q v H' ∨ ∃ p vs, v = .ref p ∧ H' p = some (.lst vs) ∧ ∀ ob, liftQ K G H Q (.ref p) (upd H' p (.frz ob (.lst vs)))
theorem liftF.of {K : PySem.W.Frag} {G G' : HD} {H H' : Hp} {Q : Post} {d : D} {v : V} (r : Rp K H' d v) (s : Sim K G' H') (x : Ext G H G' H') (q : Q d G') : liftF K G H Q v H' := .inl ⟨d, G', r, s, x, q⟩
theorem liftF.up {K : PySem.W.Frag} {G G1 : HD} {H H1 H2 : Hp} {Q : Post} {v : V} (x : Ext G H G1 H1) (h : liftF K G1 H1 Q v H2) : liftF K G H Q v H2 :=
  h.elim (fun z => .inl (z.up x)) fun ⟨p, vs, e, hp, q⟩ => .inr ⟨p, vs, e, hp, fun ob => (q ob).up x⟩
theorem semE.frz {X : Cx} {e : Expr} {τ : L2.St} {G : HD} {H H0 : Hp} {Q : Post} (h : semE X e τ H (liftF X.K G H0 Q)) : semE X e τ H (liftQ X.K G H0 Q) := fun pins s I =>
  thn (h pins s I) fun u s1 ⟨v, H1, I1, r, q⟩ => by
    rcases q with q | ⟨p, vs, rfl, hp, q⟩
    · exact ⟨v, H1, I1, r, q⟩
    · obtain ⟨od, I2⟩ := I1.lock hp trivial
      exact ⟨.ref p, _, I2, r, q od⟩
theorem finV {K : PySem.W.Frag} {G : HD} {H : Hp} {Q : Post} {Q' : VK} (f : ∀ v H', liftF K G H Q v H' → Q' v H') : ∀ D0 acc accV G0 H', (∀ a o, G a = none → H a = some o → a ≠ D0) → Sim K G0 H' → Ext G H G0 H' → H' D0 = some (.lst accV) → G0 D0 = none → Rps K H' acc accV → Q (.kl acc) G0 → Q' (.ref D0) H' :=
  fun D0 acc accV G0 H' h0 s0 x0 hl n1 ra q0 => f _ _ (.inr ⟨D0, accV, rfl, hl, fun ob => ⟨.kl acc, G0, ⟨D0, accV, rfl, ⟨ob, upd_same⟩, ra.aside hl _ _⟩, s0.aside hl n1, fun a o ga ha => by
      obtain ⟨h5, g5⟩ := x0 a o ga ha
      exact ⟨by rw [upd_ne (h0 a o ga ha)]; exact h5, g5⟩, q0⟩⟩)
theorem newV.fin {K : PySem.W.Frag} {G : HD} {H : Hp} {ds : List D} {vs : List V} {Q : Post} {Q' : VK} (s : Sim K G H) (r : Rps K H ds vs) (f : ∀ v H', liftF K G H Q v H' → Q' v H') (q : Q (.kl ds) G) :
    ∀ p, H p = none → Q' (.ref p) (upd H p (.lst vs)) := fun p hp => f _ _ (.inr ⟨p, vs, rfl, upd_same, fun ob => by
  rw [upd_upd]
  exact .of (d := .kl ds) ⟨p, vs, rfl, ⟨ob, upd_same⟩, r.ext s (Ext.new hp (s.no hp)) _ _⟩ (s.newO hp) (.new hp (s.no hp)) q⟩)
def gOf : List Nat → TGs
  | [] => gNil
  | i :: is => gCons (gName i) (gOf is)
theorem gOf_run {K : PySem.W.Frag} {H : Hp} {Q : L2.St → Hp → Prop} : ∀ {is : List Nat} {ds : List D} {vs : List V} {σ : DSt} {τ : L2.St}, Rps K H ds vs → ds.length = is.length → RpS K H σ τ → (∀ τ', RpS K H (setAll is ds σ) τ' → (∀ ws, (∀ i ∈ is, i ∈ ws) → L2.wipe τ' ws = L2.wipe τ ws) → Q τ' H) → gOf is vs τ H Q
  | [], ds, vs, σ, τ, r, hl, k, q => by
    obtain rfl : ds = [] := List.eq_nil_of_length_eq_zero hl
    cases r
    exact ⟨rfl, q τ k fun _ _ => rfl⟩
  | i :: is, [], vs, σ, τ, r, hl, k, q => by cases hl
  | i :: is, d :: ds, vs, σ, τ, r, hl, k, q => by
    obtain ⟨v, vr, rfl, r1, r2⟩ := r
    exact ⟨v, vr, rfl, gOf_run r2 (Nat.succ.inj hl) (k.set r1) fun τ' k' hw => q τ' k' fun ws hi => (hw ws fun j hm => hi j (List.mem_cons_of_mem _ hm)).trans (wipe_set (hi _ List.mem_cons_self))⟩
theorem tr_many {K : PySem.W.Frag} {is : List Nat} : TgRun K (.many is) (gTup K is.length (gOf is)) := ⟨fun H σ τ d v k Q r rd hk q => by
  simp only [Tgt.put] at hk
  split at hk
  · obtain ⟨a, vs, rfl, t, rr⟩ := rd
    exact ⟨a, vs, rfl, t, rr.length.trans hk.1, gOf_run rr hk.1 r fun τ' k' hw => q _ τ' k' hk.2 hw⟩
  · exact hk.elim⟩
theorem takes_w0 {X : Cx} {G : HD} {H : Hp} : Takes X (liftW X.K G H W0) := fun _ _ ⟨_, _, _, _, _, _, _, _, _, _, _, _, _, _, _, _, ⟨_, _, _, _, _, _, _, z⟩⟩ => z.elim
section
variable {X : Cx} {elt tg iter : Expr} {ifs : List Expr} {scope : Scope} {own : List (Str × Nat)} {pos : Pos} {wi : TI} {ti : TDI} {t : Tgt} {g : TG} {dt : TDT} {te : TD}
/-- the block's context -/
abbrev BlkDE (X : Cx) (scope : Scope) (e : Expr) (te : TD) : Prop := ∀ (s : Shared) (H : Hp) (C : Addr) (cl : List (Str × Addr)) (fp : List Addr), DE (X.blk s H scope (compEnvC scope cl C X.env) fp) e te
abbrev BlkDTs (X : Cx) (scope : Scope) (es : List Expr) (dt : TDT) : Prop := ∀ (s : Shared) (H : Hp) (C : Addr) (cl : List (Str × Addr)) (fp : List Addr), DTs (X.blk s H scope (compEnvC scope cl C X.env) fp) es dt
abbrev BlkPG (X : Cx) (scope : Scope) (e : Expr) (g : TG) : Prop := ∀ (s : Shared) (H : Hp) (C : Addr) (cl : List (Str × Addr)) (fp : List Addr), PG (X.blk s H scope (compEnvC scope cl C X.env) fp) e g
def blkT (X : Cx) (scope : Scope) (ifs : List Expr) : TT := fun τ H Q => ∀ (s : Shared) (H0 : Hp) (C : Addr) (cl : List (Str × Addr)) (fp : List Addr), semTs (X.blk s H0 scope (compEnvC scope cl C X.env) fp) ifs τ H Q
def blkE (X : Cx) (scope : Scope) (e : Expr) : TE := fun τ H Q => ∀ (s : Shared) (H0 : Hp) (C : Addr) (cl : List (Str × Addr)) (fp : List Addr), semE (X.blk s H0 scope (compEnvC scope cl C X.env) fp) e τ H Q
theorem blk_pts (s : Shared) (H : Hp) (C : Addr) (cl : List (Str × Addr)) (fp : List Addr) : PTs (X.blk s H scope (compEnvC scope cl C X.env) fp) ifs (blkT X scope ifs) := ⟨fun pins s1 _ _ _ I h => h s H C cl fp pins s1 I⟩
theorem blk_pe (s : Shared) (H : Hp) (C : Addr) (cl : List (Str × Addr)) (fp : List Addr) : PE (X.blk s H scope (compEnvC scope cl C X.env) fp) elt (blkE X scope elt) := ⟨fun pins s1 _ _ _ I h => h s H C cl fp pins s1 I⟩
theorem lc_sem (hi : DI X tg iter wi ti) (hgr : TgRun X.K t g) (hsl : ∀ i ∈ t.slots, i ∈ own.map (·.2)) (ht : BlkDTs X scope ifs dt) (he : BlkDE X scope elt te) {G : HD} {H : Hp} {σ : DSt} {τ : L2.St} {W : DW} {F : List D → HD → Prop} (r : SR X G H σ τ W) (q : dLcG F ti t dt te (own.map (·.2)) W σ G)
    {Q' : VK} (fin : ∀ D0 acc accV G0 H', (∀ a o, G a = none → H a = some o → a ≠ D0) → Sim X.K G0 H' → Ext G H G0 H' → H' D0 = some (.lst accV) → G0 D0 = none → Rps X.K H' acc accV → F acc G0 → Q' (.ref D0) H') : tLc wi g (blkT X scope ifs) (blkE X scope elt) (own.map (·.2)) τ H Q' :=
  lc_run hi hgr hsl (fun G H σ τ Q Q' s k q f s0 H0 C cl fp pins s1 I => thn ((ht s0 H0 C cl fp).run G H σ τ W0 Q ⟨s, k, takes_w0⟩ q pins s1 I) fun b s2 ⟨H2, I2, z⟩ => ⟨H2, I2, f b H2 z⟩)
    (fun G H σ τ Q Q' s k q f s0 H0 C cl fp => ((he s0 H0 C cl fp).run G H σ τ W0 Q ⟨s, k, takes_w0⟩ q).imp f) r q fin
theorem de_lc (hc : X.calm = true) (hN : X.N.Nodup) (hi : DI X tg iter wi ti) (ok : BlkOk X.N X.env.scope scope own) (hg : BlkPG X scope tg g) (hgr : TgRun X.K t g) (hsl : ∀ i ∈ t.slots, i ∈ own.map (·.2)) (ht : BlkDTs X scope ifs dt) (he : BlkDE X scope elt te)
    (hs : ∀ x, foldedSetIterable iter X.env x = pure x := by intro _; rfl) : DE X (.ListComp elt [⟨tg, iter, ifs, 0⟩] scope pos) (dLc ti t dt te (own.map (·.2))) :=
  ⟨fun G H σ τ W Q r q => semE.of (pe_lc hc hN hi.pi ok hg blk_pts blk_pe hs) (lc_sem hi hgr hsl ht he r q (finL fun _ _ z => z))⟩
theorem de_lcV (hc : X.calm = true) (hN : X.N.Nodup) (hi : DI X tg iter wi ti) (ok : BlkOk X.N X.env.scope scope own) (hg : BlkPG X scope tg g) (hgr : TgRun X.K t g) (hsl : ∀ i ∈ t.slots, i ∈ own.map (·.2)) (ht : BlkDTs X scope ifs dt) (he : BlkDE X scope elt te)
    (hs : ∀ x, foldedSetIterable iter X.env x = pure x := by intro _; rfl) : DE X (.ListComp elt [⟨tg, iter, ifs, 0⟩] scope pos) (dLcV ti t dt te (own.map (·.2))) :=
  ⟨fun G H σ τ W Q r q => semE.frz (semE.of (pe_lc hc hN hi.pi ok hg blk_pts blk_pe hs) (lc_sem hi hgr hsl ht he r q (finV fun _ _ z => z)))⟩
theorem ds_setLc {i : Nat} {y : Str} {py spos : Pos} (hc : X.calm = true) (hN : X.N.Nodup) (hy : X.N[i]? = some y) (hyl : X.env.scope.names.lookup y = some .local) (hsw : swapsWith (.ListComp elt [⟨tg, iter, ifs, 0⟩] scope pos) (some (.Name y py)) spos.line X.env = pure true)
    (hi : DI X tg iter wi ti) (ok : BlkOk X.N X.env.scope scope own) (hg : BlkPG X scope tg g) (hgr : TgRun X.K t g) (hsl : ∀ i ∈ t.slots, i ∈ own.map (·.2)) (ht : BlkDTs X scope ifs dt) (he : BlkDE X scope elt te)
    (hs : ∀ x, foldedSetIterable iter X.env x = pure x := by intro _; rfl) : DS X (.Assign [.Name y py] (.ListComp elt [⟨tg, iter, ifs, 0⟩] scope pos) spos) (sSet i (dLc ti t dt te (own.map (·.2)))) :=
  ⟨fun G H σ τ W D r q => semS.of (ps_setLc hc hN hy hyl hsw hi.pi ok hg blk_pts blk_pe hs) (lc_sem hi hgr hsl ht he r q (finL (K := X.K) (G := G) (H := H) (Q := fun d G1 => D.nx (σ.set i (some d)) G1) (Q' := fun v H' => gName i v τ H' (liftN X.K G H D.nx)) fun v H' ⟨d, G', k, s, x, q'⟩ => ⟨_, G', (r.slots.ext r.sim x _ _).set k, s, x, q'⟩))⟩
/-- .. at the end of a statement -/
def liftNF (K : PySem.W.Frag) (G : HD) (H : Hp) (Q : DSt → HD → Prop) : L2.St → Hp → Prop := fun t H' => liftN K G H Q t H' ∨ ∃ p vs, H' p = some (.lst vs) ∧ ∀ ob, liftN K G H Q t (upd H' p (.frz ob (.lst vs)))
theorem semS.frz {st : Stmt} {G : HD} {τ : L2.St} {H : Hp} {D : DEnds} (h : semS X st { liftD X.K G H D with nx := liftNF X.K G H D.nx } τ H) : semS X st (liftD X.K G H D) τ H := fun pins s I =>
  thn (h pins s I) fun f s1 q => by
    cases f with
    | next =>
      obtain ⟨τ1, H1, I1, q⟩ := q
      rcases q with q | ⟨p, vs, hp, q⟩
      · exact ⟨τ1, H1, I1, q⟩
      · obtain ⟨od, I2⟩ := I1.lock hp trivial
        exact ⟨τ1, _, I2, q od⟩
    | brk => exact q
    | cont => exact q
    | ret u => exact q
theorem ds_setLcV {i : Nat} {y : Str} {py spos : Pos} (hc : X.calm = true) (hN : X.N.Nodup) (hy : X.N[i]? = some y) (hyl : X.env.scope.names.lookup y = some .local) (hsw : swapsWith (.ListComp elt [⟨tg, iter, ifs, 0⟩] scope pos) (some (.Name y py)) spos.line X.env = pure true)
    (hi : DI X tg iter wi ti) (ok : BlkOk X.N X.env.scope scope own) (hg : BlkPG X scope tg g) (hgr : TgRun X.K t g) (hsl : ∀ i ∈ t.slots, i ∈ own.map (·.2)) (ht : BlkDTs X scope ifs dt) (he : BlkDE X scope elt te)
    (hs : ∀ x, foldedSetIterable iter X.env x = pure x := by intro _; rfl) : DS X (.Assign [.Name y py] (.ListComp elt [⟨tg, iter, ifs, 0⟩] scope pos) spos) (sSet i (dLcV ti t dt te (own.map (·.2)))) :=
  ⟨fun G H σ τ W D r q => semS.frz (semS.of (ps_setLc hc hN hy hyl hsw hi.pi ok hg blk_pts blk_pe hs) (lc_sem hi hgr hsl ht he r q (finV (K := X.K) (G := G) (H := H) (Q := fun d G1 => D.nx (σ.set i (some d)) G1) (Q' := fun v H' => gName i v τ H' (liftNF X.K G H D.nx)) fun v H' z => by
    rcases z with ⟨d, G', k, s, x, q'⟩ | ⟨p, vs, rfl, hp, z⟩
    · exact .inl ⟨_, G', (r.slots.ext r.sim x _ _).set k, s, x, q'⟩
    · exact .inr ⟨p, vs, hp, fun ob => by
        obtain ⟨d, G', k, s, x, q'⟩ := z ob
        exact ⟨_, G', (r.slots.ext r.sim x _ _).set k, s, x, q'⟩⟩)))⟩
end
end DL

namespace DL
open PySem PySem.Spec L2
open PyProof.Rows hiding St

/-! ### calls of built-ins -/
def CallD (K : PySem.W.Frag) (r : List V → Hp → VK → Prop) (rd : List D → HD → Post → Prop) : Prop :=
  ∀ (G : HD) (H : Hp) (ds : List D) (vs : List V) (Q : Post) (Q' : VK), Sim K G H → Rps K H ds vs → (∀ v H', liftQ K G H Q v H' → Q' v H') → rd ds G Q → r vs H Q'
theorem CallR.or {X : Cx} {f : Value} {r r' : List V → Hp → VK → Prop} (h : CallR X f r) (h' : CallR X f r') : CallR X f (fun xs H Q => r xs H Q ∨ r' xs H Q) := by
  intro pins s σ H xs us Q I rv q
  exact q.elim (h pins s σ H xs us Q I rv) (h' pins s σ H xs us Q I rv)
def dCB (rd : List D → HD → Post → Prop) (ts : TDA) : TD := fun W σ G Q => ts W σ G fun ds G1 => rd ds G1 Q
section
variable {X : Cx} {x : Str} {p pos : Pos} {e : Expr} {es : List Expr} {ts : TDA} {id T : String} {r : List V → Hp → VK → Prop} {rd : List D → HD → Post → Prop}
theorem de_cb (hc : CallR X (.builtin id) r) (hd : CallD X.K r rd) (hm : X.mg x = none) (hv : bootBuiltins x = some (.builtin id)) (ha : DA X (e :: es) ts) (hg : Gl X x := by rfl) (hn : x ≠ "__name__" := by decide) (hdb : (x == ("__debug__" : Str)) = false := by decide)
    (he : starEach (e :: es) X.env = (false, eval e X.env) :: starEach es X.env := by rfl) (hpl : (backTo pos (starEach es X.env)).any (·.1) = false := by rfl) : DE X (.Call (.Name x p) (e :: es) [] pos) (dCB rd ts) :=
  ⟨fun G H σ τ W Q r0 q => semE.of (pe_callB hc hg hm hv paSem hn hdb he hpl) (ha.then r0 q fun ds vs G1 H1 r1 x1 k1 q1 => hd G1 H1 ds vs Q _ r1.sim k1 (fun _ _ z => z.up x1) q1)⟩
theorem de_ct (hc : CallR X (.type T) r) (hd : CallD X.K r rd) (hm : X.mg x = none) (hv : bootBuiltins x = some (.type T)) (ha : DA X (e :: es) ts) (hg : Gl X x := by rfl) (hn : x ≠ "__name__" := by decide) (hdb : (x == ("__debug__" : Str)) = false := by decide)
    (he : starEach (e :: es) X.env = (false, eval e X.env) :: starEach es X.env := by rfl) (hpl : (backTo pos (starEach es X.env)).any (·.1) = false := by rfl) : DE X (.Call (.Name x p) (e :: es) [] pos) (dCB rd ts) :=
  ⟨fun G H σ τ W Q r0 q => semE.of (pe_callTy hc hg hm hv paSem hn hdb he hpl) (ha.then r0 q fun ds vs G1 H1 r1 x1 k1 q1 => hd G1 H1 ds vs Q _ r1.sim k1 (fun _ _ z => z.up x1) q1)⟩
end
theorem one_of {K : PySem.W.Frag} {H : Hp} {d : D} {vs : List V} (h : Rps K H [d] vs) : ∃ v, vs = [v] ∧ Rp K H d v := by
  obtain ⟨v, r, rfl, h1, h2⟩ := h
  cases h2
  exact ⟨v, rfl, h1⟩
theorem two_of {K : PySem.W.Frag} {H : Hp} {d e : D} {vs : List V} (h : Rps K H [d, e] vs) : ∃ v w, vs = [v, w] ∧ Rp K H d v ∧ Rp K H e w := by
  obtain ⟨v, r, rfl, h1, h2⟩ := h
  obtain ⟨w, rfl, h3⟩ := one_of h2
  exact ⟨v, w, rfl, h1, h3⟩

def lenD (G : HD) : D → Option Nat
  | .str x => if x.length ≤ sizeLine then some x.length else none
  | .tup ds => some ds.length
  | .kl ds => some ds.length
  | .kc ds => some ds.length
  | .ref a => match G a with
    | some (.lst ds) => some ds.length
    | some (.dK l) => some l.length
    | _ => none
  | _ => none
def rLen : List D → HD → Post → Prop := fun ds G Q => match ds with
  | [d] => match lenD G d with
    | some n => Q (.int n) G
    | none => False
  | _ => False
theorem cd_len (K : PySem.W.Frag) : CallD K (fun xs H Q => (∃ x n, xs = [x] ∧ LenV K x H n ∧ Q (.int n) H) ∨ (∃ a kvs, xs = [V.ref a] ∧ H a = some (.dK kvs) ∧ Q (.int kvs.length) H)) rLen := fun G H ds vs Q Q' s k f q => by
  unfold rLen at q
  split at q
  · rename_i d
    obtain ⟨v, rfl, kd⟩ := one_of k
    split at q
    · rename_i n hn
      have fin : Q' (.int n) H := f _ _ (.of (d := .int n) rfl s .refl q)
      cases d with
      | str x =>
        cases kd
        simp only [lenD] at hn
        split at hn
        · rename_i z; cases hn; exact .inl ⟨_, _, rfl, ⟨z, rfl⟩, fin⟩
        · cases hn
      | tup es =>
        obtain ⟨a, ws, rfl, t, r⟩ := kd
        cases hn
        exact .inl ⟨_, _, rfl, .inr ⟨ws, t, r.length.symm⟩, fin⟩
      | kl es =>
        obtain ⟨a, ws, rfl, t, r⟩ := Rp.lst (ds := es) s kd rfl
        cases hn
        exact .inl ⟨_, _, rfl, .inl ⟨ws, t, r.length.symm⟩, fin⟩
      | kc es =>
        obtain ⟨a, ws, rfl, t, r⟩ := Rp.lst (ds := es) s kd rfl
        cases hn
        exact .inl ⟨_, _, rfl, .inl ⟨ws, t, r.length.symm⟩, fin⟩
      | exc _ _ _ => cases hn
      | emp => cases hn
      | ref a =>
        cases kd
        simp only [lenD] at hn
        split at hn
        · rename_i es eg
          cases hn
          obtain ⟨ws, e1, r⟩ := s.lst eg
          exact .inl ⟨_, _, rfl, .inl ⟨ws, .of e1, r.length.symm⟩, fin⟩
        · rename_i l eg
          cases hn
          obtain ⟨m, e1, r⟩ := s.dK eg
          exact .inr ⟨a, m, rfl, e1, by rw [r.length]; exact fin⟩
        · cases hn
      | non => cases hn
      | bl _ => cases hn
      | int _ => cases hn
      | ty _ => cases hn
    · exact q.elim
  · exact q.elim
/-- max, min of two ints -/
def rMax2 : List D → HD → Post → Prop := fun ds G Q => match ds with
  | [.int i, .int j] => Q (.int (if j > i then j else i)) G
  | [d] => match asL G d with
    | some es => match asInts es with
      | some ns => 0 < ns.length ∧ ∀ m, m ∈ ns → (∀ y, y ∈ ns → y ≤ m) → Q (.int m) G
      | none => False
    | none => False
  | _ => False
def rMin2 : List D → HD → Post → Prop := fun ds G Q => match ds with
  | [.int i, .int j] => Q (.int (if j < i then j else i)) G
  | [d] => match asL G d with
    | some es => match asInts es with
      | some ns => 0 < ns.length ∧ ∀ m, m ∈ ns → (∀ y, y ∈ ns → m ≤ y) → Q (.int m) G
      | none => False
    | none => False
  | _ => False
theorem intsL {K : PySem.W.Frag} {G : HD} {H : Hp} {d : D} {v : V} {es : List D} {ns : List Int} (s : Sim K G H) (k : Rp K H d v) (h : asL G d = some es) (h2 : asInts es = some ns) : ∃ a, v = .ref a ∧ SqL K H a (ns.map V.int) := by
  obtain ⟨a, vs, rfl, t, r⟩ := k.lst s h
  obtain rfl := asInts_eq h2
  obtain rfl := r.ints
  exact ⟨a, rfl, t⟩
theorem cd_max (K : PySem.W.Frag) : CallD K (fun xs H Q => (∃ i j, xs = [.int i, .int j] ∧ Q (.int (if j > i then j else i)) H) ∨ L2.rMax K xs H Q) rMax2 := fun G H ds vs Q Q' s k f q => by
  unfold rMax2 at q
  split at q
  · obtain ⟨v, w, rfl, h1, h2⟩ := two_of k
    cases h1; cases h2
    exact .inl ⟨_, _, rfl, f _ _ (.of (d := .int _) rfl s .refl q)⟩
  · obtain ⟨v, rfl, kd⟩ := one_of k
    split at q
    · rename_i es e1
      split at q
      · rename_i ns e2
        obtain ⟨a, rfl, t⟩ := intsL s kd e1 e2
        exact .inr ⟨a, ns, rfl, t, q.1, fun m h1 h2 => f _ _ (.of (d := .int m) rfl s .refl (q.2 m h1 h2))⟩
      · exact q.elim
    · exact q.elim
  · exact q.elim
theorem cd_min (K : PySem.W.Frag) : CallD K (fun xs H Q => (∃ i j, xs = [.int i, .int j] ∧ Q (.int (if j < i then j else i)) H) ∨ L2.rMin K xs H Q) rMin2 := fun G H ds vs Q Q' s k f q => by
  unfold rMin2 at q
  split at q
  · obtain ⟨v, w, rfl, h1, h2⟩ := two_of k
    cases h1; cases h2
    exact .inl ⟨_, _, rfl, f _ _ (.of (d := .int _) rfl s .refl q)⟩
  · obtain ⟨v, rfl, kd⟩ := one_of k
    split at q
    · rename_i es e1
      split at q
      · rename_i ns e2
        obtain ⟨a, rfl, t⟩ := intsL s kd e1 e2
        exact .inr ⟨a, ns, rfl, t, q.1, fun m h1 h2 => f _ _ (.of (d := .int m) rfl s .refl (q.2 m h1 h2))⟩
      · exact q.elim
    · exact q.elim
  · exact q.elim
def rSumD : List D → HD → Post → Prop := fun ds G Q => match ds with
  | [d] => match asL G d with
    | some es => match asInts es with
      | some ns => Q (.int ns.sum) G
      | none => False
    | none => False
  | _ => False
theorem cd_sum (K : PySem.W.Frag) : CallD K (L2.rSum K) rSumD := fun G H ds vs Q Q' s k f q => by
  unfold rSumD at q
  split at q
  · obtain ⟨v, rfl, kd⟩ := one_of k
    split at q
    · rename_i es e1
      split at q
      · rename_i ns e2
        obtain ⟨a, rfl, t⟩ := intsL s kd e1 e2
        exact ⟨a, ns, rfl, t, f _ _ (.of (d := .int _) rfl s .refl q)⟩
      · exact q.elim
    · exact q.elim
  · exact q.elim
def rAbs : List D → HD → Post → Prop := fun ds G Q => match ds with
  | [.int i] => Q (.int (if i < 0 then -i else i)) G
  | _ => False
theorem cd_abs (K : PySem.W.Frag) : CallD K (fun xs H Q => ∃ i, xs = [.int i] ∧ Q (.int (if i < 0 then -i else i)) H) rAbs := fun G H ds vs Q Q' s k f q => by
  unfold rAbs at q
  split at q
  · obtain ⟨v, rfl, kd⟩ := one_of k
    cases kd
    exact ⟨_, rfl, f _ _ (.of (d := .int _) rfl s .refl q)⟩
  · exact q.elim
def rInt : List D → HD → Post → Prop := fun ds G Q => match ds with
  | [.int i] => Q (.int i) G
  | [.bl b] => Q (.int (if b then 1 else 0)) G
  | _ => False
theorem cd_int (K : PySem.W.Frag) : CallD K (fun xs H Q => (∃ i, xs = [.int i] ∧ Q (.int i) H) ∨ ∃ k, xs = [.bl k] ∧ Q (.int (if k then 1 else 0)) H) rInt := fun G H ds vs Q Q' s k f q => by
  unfold rInt at q
  split at q
  · obtain ⟨v, rfl, kd⟩ := one_of k
    cases kd
    exact .inl ⟨_, rfl, f _ _ (.of (d := .int _) rfl s .refl q)⟩
  · obtain ⟨v, rfl, kd⟩ := one_of k
    cases kd
    exact .inr ⟨_, rfl, f _ _ (.of (d := .int _) rfl s .refl q)⟩
  · exact q.elim
/-- list(x), tuple(x) of a list, a tuple -/
def rList : List D → HD → Post → Prop := fun ds G Q => match ds with
  | [d] => match asQ G d with
    | some es => newL G es Q
    | none => False
  | _ => False
theorem cd_list (K : PySem.W.Frag) : CallD K (fun xs H Q => ∃ p ys, xs = [.ref p] ∧ (SqL K H p ys ∨ SqT K H p ys) ∧ ∀ l, H l = none → Q (.ref l) (upd H l (.lst ys))) rList := fun G H ds vs Q Q' s k f q => by
  unfold rList at q
  split at q
  · obtain ⟨v, rfl, kd⟩ := one_of k
    split at q
    · rename_i es e1
      obtain ⟨a, ws, rfl, t, r⟩ := kd.seq s e1
      exact ⟨a, ws, rfl, t, newL.fin s r f q⟩
    · exact q.elim
  · exact q.elim
def rTuple : List D → HD → Post → Prop := fun ds G Q => match ds with
  | [d] => match asQ G d with
    | some es => Q (.tup es) G
    | none => False
  | _ => False
theorem cd_tuple (K : PySem.W.Frag) : CallD K (fun xs H Q => ∃ p ys, xs = [.ref p] ∧ ((SqL K H p ys ∧ ∀ l, H l = none → Q (.ref l) (upd H l (.tup ys))) ∨ (SqT K H p ys ∧ Q (.ref p) H))) rTuple := fun G H ds vs Q Q' s k f q => by
  unfold rTuple at q
  split at q
  · obtain ⟨v, rfl, kd⟩ := one_of k
    split at q
    · rename_i es e1
      obtain ⟨a, ws, rfl, t, r⟩ := kd.seq s e1
      rcases t with t | t
      · exact ⟨a, ws, rfl, .inl ⟨t, newT.fin s r f q⟩⟩
      · exact ⟨a, ws, rfl, .inr ⟨t, f _ _ (.of (d := .tup es) ⟨a, ws, rfl, t, r⟩ s .refl q)⟩⟩
    · exact q.elim
  · exact q.elim
def asBls : List D → Option (List Bool)
  | [] => some []
  | .bl i :: r => (asBls r).map (i :: ·)
  | _ :: _ => none
theorem asBls_eq : ∀ {ds : List D} {ns : List Bool}, asBls ds = some ns → ds = ns.map D.bl
  | [], _, h => by cases h; rfl
  | .bl i :: r, ns, h => by
    simp only [asBls, Option.map_eq_some_iff] at h
    obtain ⟨ms, e, rfl⟩ := h
    rw [asBls_eq e]; rfl
  | .non :: _, _, h => by cases h
  | .int _ :: _, _, h => by cases h
  | .str _ :: _, _, h => by cases h
  | .ty _ :: _, _, h => by cases h
  | .ref _ :: _, _, h => by cases h
  | .tup _ :: _, _, h => by cases h
  | .kl _ :: _, _, h => by cases h
  | .kc _ :: _, _, h => by cases h
  | .exc _ _ _ :: _, _, h => by cases h
  | .emp :: _, _, h => by cases h
theorem asBls_map : ∀ ns : List Bool, asBls (ns.map D.bl) = some ns
  | [] => rfl
  | n :: ns => by show (asBls (ns.map D.bl)).map (n :: ·) = _; rw [asBls_map ns]; rfl
def rAllD (p : List Bool → Bool) : List D → HD → Post → Prop := fun ds G Q => match ds with
  | [d] => match asL G d with
    | some es => match asBls es with
      | some bs => Q (.bl (p bs)) G
      | none => False
    | none => False
  | _ => False
theorem cd_all (K : PySem.W.Frag) : CallD K (L2.rAll K) (rAllD fun bs => bs.all id) := fun G H ds vs Q Q' s k f q => by
  unfold rAllD at q
  split at q
  · obtain ⟨v, rfl, kd⟩ := one_of k
    split at q
    · rename_i es e1
      split at q
      · rename_i ns e2
        obtain ⟨a, vs, rfl, t, r⟩ := kd.lst s e1
        obtain rfl := asBls_eq e2
        obtain rfl := r.bls
        exact ⟨a, ns, rfl, t, f _ _ (.of (d := .bl _) rfl s .refl q)⟩
      · exact q.elim
    · exact q.elim
  · exact q.elim

/-! isinstance -/
/-- a datum's type: a built-in one by its name, or an own class -/
def tyD (G : HD) : D → Option (String ⊕ Addr)
  | .non => some (.inl "NoneType")
  | .bl _ => some (.inl "bool")
  | .int _ => some (.inl "int")
  | .str _ => some (.inl "str")
  | .tup _ => some (.inl "tuple")
  | .kl _ => some (.inl "list")
  | .kc _ => some (.inl "list")
  | .exc _ _ _ => none
  | .emp => none
  | .ty _ => none
  | .ref a => match G a with
    | some (.lst _) => some (.inl "list")
    | some (.dK _) => some (.inl "dict")
    | some (.dT _) => some (.inl "dict")
    | some (.ins C _) => some (.inr C)
    | _ => none
def tyV2 : String ⊕ Addr → Value
  | .inl n => .type n
  | .inr C => .ref C
/-- isinstance between built-in types -/
def isiB (a b : String) : Option Bool :=
  if a ∈ ["NoneType", "bool", "int", "str", "tuple", "list", "dict"] ∧ b ∈ ["bool", "int", "str", "tuple", "list", "dict"] then some (a == b || (a == "bool" && b == "int")) else none
theorem isiB_ok {a b : String} {r : Bool} (h : isiB a b = some r) : kitB a b = some r := by
  unfold isiB at h
  split at h
  · rename_i z
    obtain ⟨z1, z2⟩ := z
    cases h
    simp only [List.mem_cons, List.not_mem_nil, or_false] at z1 z2
    rcases z1 with rfl | rfl | rfl | rfl | rfl | rfl | rfl <;> rcases z2 with rfl | rfl | rfl | rfl | rfl | rfl <;> decide +kernel
  · cases h
/-- what an own class must have, to be asked for -/
def InsOk (K : PySem.W.Frag) (C : Addr) : Prop := Cls K C ∧ PySem.W.findIn K (.ref C) "__class__" = some (some (.builtin "object.__class__")) ∧
  PySem.W.specialIn K (.builtin "object.__class__") "__get__" = some (some (.builtin "getset_descriptor.__get__")) ∧ PySem.W.takesIn K (.builtin "object.__class__") = some true ∧ PySem.W.mroIn K C (.type "object") = some true
def InsO (K : PySem.W.Frag) : String ⊕ Addr → Prop
  | .inl _ => True
  | .inr C => InsOk K C
/-- ic a c b: a thing of the type a is (b) an instance of c -/
def IsiOk (K : PySem.W.Frag) (a c : String ⊕ Addr) (b : Bool) : Prop := InsO K a ∧ PySem.W.kitOne K (tyV2 a) (tyV2 c) = some b
def rIsiD (ic : String ⊕ Addr → String ⊕ Addr → Bool → Prop) : List D → HD → Post → Prop := fun ds G Q => match ds with
  | [d, .ty n] => match tyD G d with
    | some (.inl a) => match isiB a n with
      | some b => Q (.bl b) G
      | none => False
    | some (.inr C) => ∃ b, ic (.inr C) (.inl n) b ∧ Q (.bl b) G
    | none => False
  | [d, .ref c] => match tyD G d with
    | some t => ∃ b, ic t (.inr c) b ∧ Q (.bl b) G
    | none => False
  | _ => False
theorem tyD_ok {K : PySem.W.Frag} {G : HD} {H : Hp} {d : D} {v : V} {t : String ⊕ Addr} (s : Sim K G H) (k : Rp K H d v) (h : tyD G d = some t) (hi : InsO K t) : TyX K H v (tyV2 t) := by
  cases d with
  | non => cases h; cases k; exact .base .non
  | bl b => cases h; cases k; exact .base (.bl b)
  | int b => cases h; cases k; exact .base (.int b)
  | str b => cases h; cases k; exact .base (.str b)
  | ty _ => cases h
  | tup ds =>
    cases h
    obtain ⟨a, vs, rfl, t, r⟩ := k
    rcases t with (t | ⟨o, t⟩) | ⟨o, its, n, t1, t2, _⟩
    · exact .base (.tup t)
    · exact .fTuple t
    · exact .kTuple t1 t2
  | kl ds =>
    cases h
    obtain ⟨a, vs, rfl, ⟨o, t⟩, r⟩ := k
    exact .base (.frz t)
  | kc ds =>
    cases h
    obtain ⟨a, vs, rfl, t, r⟩ := k
    rcases t with ⟨o, t⟩ | ⟨o, its, n, t1, t2, _⟩
    · exact .base (.frz t)
    · exact .kList t1 t2
  | exc _ _ _ => cases h
  | emp => cases h
  | ref a =>
    cases k
    simp only [tyD] at h
    split at h
    · rename_i ds e
      cases h
      obtain ⟨vs, e1, _⟩ := s.lst e
      exact .base (.lst e1)
    · rename_i ds e
      cases h
      obtain ⟨vs, e1, _⟩ := s.dK e
      exact .base (.dK e1)
    · rename_i ds e
      cases h
      obtain ⟨vs, e1, _⟩ := s.dT e
      exact .base (.dT e1)
    · rename_i C fs e
      cases h
      obtain ⟨dx, l, e1, _⟩ := s.ins e
      obtain ⟨h1, h2, h3, h4, h5⟩ := hi
      exact .base (.ins e1 h1 h2 h3 h4 h5)
    · cases h
theorem cd_isi {K : PySem.W.Frag} {ic : String ⊕ Addr → String ⊕ Addr → Bool → Prop} (hic : ∀ a c b, ic a c b → IsiOk K a c b) : CallD K (rIsi K) (rIsiD ic) := fun G H ds vs Q Q' s k f q => by
  unfold rIsiD at q
  split at q
  · rename_i d n
    obtain ⟨v, w, rfl, h1, h2⟩ := two_of k
    cases h2
    split at q
    · rename_i a e
      split at q
      · rename_i b hb
        exact ⟨v, .ty n, _, _, b, rfl, .ty n, tyD_ok s h1 e trivial, kit_ty (isiB_ok hb), f _ _ (.of (d := .bl b) rfl s .refl q)⟩
      · exact q.elim
    · rename_i C e
      obtain ⟨b, hb, q⟩ := q
      obtain ⟨z1, z2⟩ := hic _ _ _ hb
      exact ⟨v, .ty n, _, _, b, rfl, .ty n, tyD_ok s h1 e z1, z2, f _ _ (.of (d := .bl b) rfl s .refl q)⟩
    · exact q.elim
  · rename_i d c
    obtain ⟨v, w, rfl, h1, h2⟩ := two_of k
    cases h2
    split at q
    · rename_i t e
      obtain ⟨b, hb, q⟩ := q
      obtain ⟨z1, z2⟩ := hic _ _ _ hb
      exact ⟨v, .ref c, _, _, b, rfl, .own c, tyD_ok s h1 e z1, z2, f _ _ (.of (d := .bl b) rfl s .refl q)⟩
    · exact q.elim
  · exact q.elim

/-! o[i] = e, a list -/
def rSetD : D → D → D → HD → (HD → Prop) → Prop := fun o i v G Q => match o, i with
  | .ref a, .int k => match G a with
    | some (.lst xs) => match ixN xs.length k with
      | some j => Q (put G a (.lst (xs.set j v)))
      | none => False
    | _ => False
  | _, _ => False
def sSub (to ti te : TD) (rd : D → D → D → HD → (HD → Prop) → Prop) : TDS := fun W D σ G => te W σ G fun v G1 => to W σ G1 fun o G2 => ti W σ G2 fun i G3 => rd o i v G3 fun G4 => D.nx σ G4
section
variable {X : Cx} {o i e : Expr} {to ti te : TD} {pos pos' : Pos}
def SetD (K : PySem.W.Frag) (r : TSet) (rd : D → D → D → HD → (HD → Prop) → Prop) : Prop :=
  ∀ (G : HD) (H : Hp) (o i v : D) (x y z : V) (Q : HD → Prop) (Q' : Hp → Prop), Sim K G H → Rp K H o x → Rp K H i y → Rp K H v z → (∀ G' H', Sim K G' H' → Ext G H G' H' → Q G' → Q' H') → rd o i v G Q → r x y z H Q'
theorem sd_list (K : PySem.W.Frag) : SetD K rSetL rSetD := fun G H o i v x y z Q Q' s k1 k2 k3 f q => by
  unfold rSetD at q
  split at q
  · rename_i a k
    cases k1; cases k2
    split at q
    · rename_i xs e
      split at q
      · rename_i j hj
        obtain ⟨vs, e1, r⟩ := s.lst e
        exact ⟨a, vs, k, j, rfl, rfl, e1, by rw [r.length]; exact hj, f _ _ (s.wr (m := .lst (xs.set j v)) (o := .lst (vs.set j z)) e ⟨_, rfl, r.set k3⟩) (.wr e) q⟩
      · exact q.elim
    · exact q.elim
  · exact q.elim
theorem ds_sub {r : TSet} {rd : D → D → D → HD → (HD → Prop) → Prop} (hp : PSet X r) (hd : SetD X.K r rd) (ho : DE X o to) (hi : DE X i ti) (he : DE X e te)
    (ha : ∀ v, assign (.Subscript o i pos') X.env v = (do
      let ov ← holding [v] (eval o X.env)
      let iv ← holding [v, ov] (eval i X.env)
      standAt pos'
      holding [v, ov, iv] (setItem ov iv v)
      release [v, ov, iv] []) := by intro _; rfl)
    (hs : swapsWithSole [.Subscript o i pos'] e pos.line X.env = pure false := by rfl) (hw : swappedStores [.Subscript o i pos'] e X.env = pure none := by rfl) (h1 : (assignEach [.Subscript o i pos'] X.env).map (·.2) = [assign (.Subscript o i pos') X.env] := by rfl) :
    DS X (.Assign [.Subscript o i pos'] e pos) (sSub to ti te rd) :=
  ⟨fun G H σ τ W D r0 q => semS.of (ps_asg peSem (pg_sub peSem peSem hp ha) hs hw h1) (he.then r0 q fun v z G1 H1 r1 x1 k1 q1 => ho.then r1 q1 fun d x G2 H2 r2 x2 k2 q2 => hi.then r2 q2 fun c y G3 H3 r3 x3 k3 q3 =>
    hd G3 H3 d c v x y z _ _ r3.sim (k2.ext r2.sim x3 _ _) k3 (k1.ext r1.sim (x2.trans x3) _ _) (fun G4 H4 s4 x4 q4 => ⟨σ, G4, r3.slots.ext r3.sim x4 _ _, s4, ((x1.trans x2).trans x3).trans x4, q4⟩) q3)⟩
end

/-! x += e, o.f += e -/
def dCmpA (g : Int → Int → Int) : D → D → HD → Post → Prop := fun d e G Q => match d, e with
  | .int i, .int j => Q (.int (g i j)) G
  | _, _ => False
theorem od_ipI (K : PySem.W.Frag) (g : Int → Int → Int) : OpD K (ipI g) (dCmpA g) := fun G H d e x y Q Q' s k1 k2 f q => by
  unfold dCmpA at q
  split at q
  · cases k1; cases k2
    exact ⟨_, _, rfl, rfl, f _ _ (.of (d := .int _) rfl s .refl q)⟩
  · exact q.elim
def sFldG (ok : Addr → Str → Prop) (f : Str) (g : Int → Int → Int) (to tv : TD) : TDS := fun W D σ G => to W σ G fun d G1 => match d with
  | .ref a => match G1 a with
    | some (.ins C fs) => ok C f ∧ match fs.lookup f with
      | some (.int i) => tv W σ G1 fun v G2 => match v with
        | .int j => match G2 a with
          | some (.ins C2 fs2) => C2 = C ∧ fs2.length < 1000 ∧ D.nx σ (put G2 a (.ins C2 (putD f (.int (g i j)) fs2)))
          | _ => False
        | _ => False
      | _ => False
    | _ => False
  | _ => False
def sAug (i : Nat) (rd : D → D → HD → Post → Prop) (te : TD) : TDS := fun W D σ G => match σ[i]? with
  | some (some d) => te W σ G fun e G1 => rd d e G1 fun z G2 => D.nx (σ.set i (some z)) G2
  | _ => False
section
variable {X : Cx} {e o : Expr} {te to : TD} {pos pos' : Pos}
theorem ds_aug {i : Nat} {x : Str} {op : Operator} {r : TIp} {rd : D → D → HD → Post → Prop} (hp : PIp X op r) (hd : OpD X.K r rd) (he : DE X e te) (hN : X.N.Nodup) (hi : X.N[i]? = some x := by rfl) (hx : Loc X.env.scope x := by first | exact Or.inl rfl | exact Or.inr rfl) (hf : X.fn x = true ∨ X.env.scope.names.lookup x = some .local := by first | exact .inl rfl | exact .inr rfl | assumption) :
    DS X (.AugAssign (.Name x pos') op e pos) (sAug i rd te) :=
  ⟨fun G H σ τ W D r0 q => semS.of (ps_aug hN hi hx peSem hp hf) (by
    unfold sAug at q
    split at q
    · rename_i d ed
      obtain ⟨v, e1, k0⟩ := r0.slots.get ed
      exact ⟨v, e1, he.then r0 q fun c y G1 H1 r1 x1 k1 q1 => hd G1 H1 d c v y _ _ r1.sim (k0.ext r0.sim x1 _ _) k1 (fun w H2 ⟨z, G2, k2, s2, x2, q2⟩ => ⟨_, G2, (r1.slots.ext r1.sim x2 _ _).set k2, s2, x1.trans x2, q2⟩) q1⟩
    · exact q.elim)⟩
theorem ds_augAdd {i : Nat} {x : Str} (he : DE X e te) (hN : X.N.Nodup) (hi : X.N[i]? = some x := by rfl) (hx : Loc X.env.scope x := by first | exact Or.inl rfl | exact Or.inr rfl) (hf : X.fn x = true ∨ X.env.scope.names.lookup x = some .local := by first | exact .inl rfl | exact .inr rfl | assumption) :
    DS X (.AugAssign (.Name x pos') .Add e pos) (sAug i (dCmpA fun i j => i + j) te) := ds_aug ip_add (od_ipI X.K _) he hN hi hx hf
theorem ds_augSub {i : Nat} {x : Str} (he : DE X e te) (hN : X.N.Nodup) (hi : X.N[i]? = some x := by rfl) (hx : Loc X.env.scope x := by first | exact Or.inl rfl | exact Or.inr rfl) (hf : X.fn x = true ∨ X.env.scope.names.lookup x = some .local := by first | exact .inl rfl | exact .inr rfl | assumption) :
    DS X (.AugAssign (.Name x pos') .Sub e pos) (sAug i (dCmpA fun i j => i - j) te) := ds_aug ip_sub (od_ipI X.K _) he hN hi hx hf
theorem ds_fldaug {op : Operator} {f : Str} {ok : Addr → Str → Prop} {g : Int → Int → Int} (hok : ∀ C f, ok C f → AttrOk X.K C f) (hop : InOp X op (fun x y H Q => ∃ i j, x = .int i ∧ y = .int j ∧ Q (.int (g i j)) H)) (ho : DE X o to) (he : DE X e te) :
    DS X (.AugAssign (.Attribute o f pos') op e pos) (sFldG ok f g to te) :=
  ⟨fun G H σ τ W D r0 q => semS.of (ps_fldaug peSem peSem hop) (ho.then r0 q fun d x G1 H1 r1 x1 k1 q1 => by
    try dsimp only at q1
    split at q1
    · rename_i a
      cases k1
      split at q1
      · rename_i C fs eg
        obtain ⟨h1, q1⟩ := q1
        split at q1
        · rename_i i ei
          obtain ⟨dx, l, el, rl⟩ := r1.sim.ins eg
          obtain ⟨z, e1, e2⟩ := rl.lookup ei
          cases e2
          obtain ⟨c1, c2⟩ := hok _ _ h1
          refine ⟨a, C, dx, l, _, rfl, el, c1, c2, e1, he.then r1 q1 fun v y G2 H2 r2 x2 k2 q2 => ?_⟩
          try dsimp only at q2
          split at q2
          · rename_i j
            cases k2
            split at q2
            · rename_i C2 fs2 eg2
              obtain ⟨rfl, h3, q2⟩ := q2
              obtain ⟨dx2, l2, el2, rl2⟩ := r2.sim.ins eg2
              have sm := r2.sim.wr (m := .ins C2 (putD f (.int (g i j)) fs2)) (o := .ins C2 dx2 (putF f (.int (g i j)) l2)) eg2 ⟨dx2, _, rfl, RKV.put (d := .int (g i j)) (v := .int (g i j)) rfl rl2⟩
              have xx : Ext G2 H2 (put G2 a (.ins C2 (putD f (.int (g i j)) fs2))) (upd H2 a (.ins C2 dx2 (putF f (.int (g i j)) l2))) := .wr eg2
              exact ⟨i, j, rfl, rfl, dx2, l2, el2, by rw [rl2.length]; exact h3, σ, _, r2.slots.ext r2.sim xx _ _, sm, (x1.trans x2).trans xx, q2⟩
            · exact q2.elim
          · exact q2.elim
        · exact q1.elim
      · exact q1.elim
    · exact q1.elim)⟩
end
end DL

namespace DL
open PySem PySem.Spec L2
open PyProof.Rows hiding St

/-! ### bundles: a def of the module, a method, a class to be made, as callers want them -/
structure DefK (P : Program) (w : World) (K : PySem.W.Frag) (mg : Str → Option Value) (base : Heap) (k : Nat) (x : Str) (sp : SpD) (dds : List D) : Prop where
  ex : ∃ (f : Addr) (fd : FuncData) (ps : List Str) (dvs : List V) (ds : List Value), FnK P w K mg base k f fd ps sp ∧ mg x = some (.ref f) ∧ PySem.W.keepIn K (.ref f) = true ∧ Binds K fd ps ds ∧ Vals dvs ds ∧ Dfl K dds dvs ∧ ∀ ds G E Q, sp ds G E Q → ds.length = ps.length
structure MetK (P : Program) (w : World) (K : PySem.W.Frag) (mg : Str → Option Value) (base : Heap) (k : Nat) (m : Str) (C : Addr) (sp : SpD) (dds : List D) : Prop where
  ex : ∃ (f : Addr) (fd : FuncData) (ps : List Str) (dvs : List V) (ds : List Value), Cls K C ∧ Meth K C m f ∧ FnK P w K mg base k f fd ps sp ∧ Binds K fd ps ds ∧ Vals dvs ds ∧ Dfl K dds dvs ∧ ∀ ds G E Q, sp ds G E Q → ds.length = ps.length
structure MakK (P : Program) (w : World) (K : PySem.W.Frag) (mg : Str → Option Value) (base : Heap) (k : Nat) (x : Str) (C : Addr) (sp : SpD) (dds : List D) : Prop where
  ex : ∃ (f : Addr) (fd : FuncData) (ps : List Str) (dvs : List V) (ds : List Value), Mk K C f ∧ FnK P w K mg base k f fd ps sp ∧ mg x = some (.ref C) ∧ Binds K fd ps ds ∧ Vals dvs ds ∧ Dfl K dds dvs ∧ ∀ ds G E Q, sp ds G E Q → ds.length = ps.length
section
variable {X : Cx} {k j : Nat} {C : Addr} {sp : SpD} {x m : Str} {p pos apos : Pos} {e o : Expr} {es : List Expr} {ta : TD} {ts : TDA} {dds : List D}
theorem dk_call (F : DefK X.prog X.w X.K X.mg X.base k x sp dds) (hr : RoomG j X.A) (ha : DA X (e :: es) ts) (hj : k ≤ j := by decide) (hg : Gl X x := by rfl) (hdb : (x == ("__debug__" : Str)) = false := by decide) (he : starEach (e :: es) X.env = (false, eval e X.env) :: starEach es X.env := by rfl) (hpl : (backTo pos (starEach es X.env)).any (·.1) = false := by rfl) :
    DE X (.Call (.Name x p) (e :: es) [] pos) (dCall sp dds ts) := by
  obtain ⟨f, fd, ps, dvs, ds, h1, h2, h3, h4, h5, h6, h7⟩ := F.ex
  exact de_call h1 (hr.mono hj) h2 h3 h4 h5 h6 ha h7 hg hdb he hpl
theorem dk_call0 (F : DefK X.prog X.w X.K X.mg X.base k x sp dds) (hr : RoomG j X.A) (hj : k ≤ j := by decide) (hg : Gl X x := by rfl) (hdb : (x == ("__debug__" : Str)) = false := by decide) :
    DE X (.Call (.Name x p) [] [] pos) (dCall sp dds dNil) := by
  obtain ⟨f, fd, ps, dvs, ds, h1, h2, h3, h4, h5, h6, h7⟩ := F.ex
  exact de_call0 h1 (hr.mono hj) h2 h3 h4 h5 h6 h7 hg hdb
theorem dk_make (F : MakK X.prog X.w X.K X.mg X.base k x C sp dds) (hr : RoomG j X.A) (ha : DA X (e :: es) ts) (hj : k + 1 ≤ j := by decide) (hg : Gl X x := by rfl) (hdb : (x == ("__debug__" : Str)) = false := by decide) (he : starEach (e :: es) X.env = (false, eval e X.env) :: starEach es X.env := by rfl) (hpl : (backTo pos (starEach es X.env)).any (·.1) = false := by rfl) :
    DE X (.Call (.Name x p) (e :: es) [] pos) (dMake C sp dds ts) := by
  obtain ⟨f, fd, ps, dvs, ds, h1, h2, h3, h4, h5, h6, h7⟩ := F.ex
  exact de_make h1 h2 (hr.mono hj) h3 h4 h5 h6 ha h7 hg hdb he hpl
theorem dk_make0 (F : MakK X.prog X.w X.K X.mg X.base k x C sp dds) (hr : RoomG j X.A) (hj : k + 1 ≤ j := by decide) (hg : Gl X x := by rfl) (hdb : (x == ("__debug__" : Str)) = false := by decide) :
    DE X (.Call (.Name x p) [] [] pos) (dMake C sp dds dNil) := by
  obtain ⟨f, fd, ps, dvs, ds, h1, h2, h3, h4, h5, h6, h7⟩ := F.ex
  exact de_make0 h1 h2 (hr.mono hj) h3 h4 h5 h6 h7 hg hdb
theorem MetK.to {q : Addr × SpD} (F : MetK X.prog X.w X.K X.mg X.base k m q.1 q.2 dds) (hj : k ≤ j) : MethK X j m q.1 q.2 dds := by
  obtain ⟨f, fd, ps, dvs, ds, h1, h2, h3, h4, h5, h6, h7⟩ := F.ex
  exact ⟨f, fd, ps, dvs, ds, h1, h2, h3.mono hj, h4, h5, h6, h7⟩
/-- the classes that have the method -/
inductive Mets (X : Cx) (j : Nat) (m : Str) (dds : List D) : List (Addr × SpD) → Prop where
  | nil : Mets X j m dds []
  | cons {q : Addr × SpD} {l : List (Addr × SpD)} (h : MethK X j m q.1 q.2 dds) (t : Mets X j m dds l) : Mets X j m dds (q :: l)
theorem Mets.all {l : List (Addr × SpD)} (h : Mets X j m dds l) : ∀ q ∈ l, MethK X j m q.1 q.2 dds := by
  induction h with
  | nil => intro q hq; cases hq
  | cons h _ ih =>
    intro q hq
    rcases List.mem_cons.mp hq with rfl | hq
    · exact h
    · exact ih q hq
theorem mets1 (F : MetK X.prog X.w X.K X.mg X.base k m C sp dds) (hj : k ≤ j := by decide) : Mets X j m dds [(C, sp)] := .cons (F.to hj) .nil
theorem metsC {l : List (Addr × SpD)} (F : MetK X.prog X.w X.K X.mg X.base k m C sp dds) (t : Mets X j m dds l) (hj : k ≤ j := by decide) : Mets X j m dds ((C, sp) :: l) := .cons (F.to hj) t
end

/-! ### built-ins in short -/
section
variable {X : Cx} {p pos : Pos} {e : Expr} {es : List Expr} {ts : TDA}
theorem bc_len (hm : X.mg "len" = none) (ha : DA X [e] ts) (hg : Gl X "len" := by rfl) (he : starEach [e] X.env = (false, eval e X.env) :: starEach [] X.env := by rfl) : DE X (.Call (.Name "len" p) [e] [] pos) (dCB rLen ts) := de_cb (CallR.or call_len call_lenD) (cd_len X.K) hm boot_len ha hg (by decide) (by decide) he (by rfl)
theorem bc_max (hc : X.calm = true) (hm : X.mg "max" = none) (ha : DA X (e :: es) ts) (hg : Gl X "max" := by rfl) (he : starEach (e :: es) X.env = (false, eval e X.env) :: starEach es X.env := by rfl) (hpl : (backTo pos (starEach es X.env)).any (·.1) = false := by rfl) : DE X (.Call (.Name "max" p) (e :: es) [] pos) (dCB rMax2 ts) := de_cb (CallR.or (call_max2 hc) (cr_max hc)) (cd_max X.K) hm boot_max ha hg (by decide) (by decide) he hpl
theorem bc_min (hc : X.calm = true) (hm : X.mg "min" = none) (ha : DA X (e :: es) ts) (hg : Gl X "min" := by rfl) (he : starEach (e :: es) X.env = (false, eval e X.env) :: starEach es X.env := by rfl) (hpl : (backTo pos (starEach es X.env)).any (·.1) = false := by rfl) : DE X (.Call (.Name "min" p) (e :: es) [] pos) (dCB rMin2 ts) := de_cb (CallR.or (call_min2 hc) (cr_min hc)) (cd_min X.K) hm boot_min ha hg (by decide) (by decide) he hpl
theorem bc_sum (hc : X.calm = true) (hm : X.mg "sum" = none) (ha : DA X [e] ts) (hg : Gl X "sum" := by rfl) (he : starEach [e] X.env = (false, eval e X.env) :: starEach [] X.env := by rfl) : DE X (.Call (.Name "sum" p) [e] [] pos) (dCB rSumD ts) := de_cb (cr_sum hc) (cd_sum X.K) hm boot_sum ha hg (by decide) (by decide) he (by rfl)
theorem bc_abs (hm : X.mg "abs" = none) (ha : DA X [e] ts) (hg : Gl X "abs" := by rfl) (he : starEach [e] X.env = (false, eval e X.env) :: starEach [] X.env := by rfl) : DE X (.Call (.Name "abs" p) [e] [] pos) (dCB rAbs ts) := de_cb call_abs (cd_abs X.K) hm (by decide +kernel) ha hg (by decide) (by decide) he (by rfl)
theorem bc_all (hc : X.calm = true) (hm : X.mg "all" = none) (ha : DA X [e] ts) (hg : Gl X "all" := by rfl) (he : starEach [e] X.env = (false, eval e X.env) :: starEach [] X.env := by rfl) : DE X (.Call (.Name "all" p) [e] [] pos) (dCB (rAllD fun bs => bs.all id) ts) := de_cb (cr_all hc) (cd_all X.K) hm boot_all ha hg (by decide) (by decide) he (by rfl)
theorem bc_int (hm : X.mg "int" = none) (ha : DA X [e] ts) (hg : Gl X "int" := by rfl) (he : starEach [e] X.env = (false, eval e X.env) :: starEach [] X.env := by rfl) : DE X (.Call (.Name "int" p) [e] [] pos) (dCB rInt ts) := de_ct call_int1 (cd_int X.K) hm (by decide +kernel) ha hg (by decide) (by decide) he (by rfl)
theorem bc_list (hm : X.mg "list" = none) (ha : DA X [e] ts) (hg : Gl X "list" := by rfl) (he : starEach [e] X.env = (false, eval e X.env) :: starEach [] X.env := by rfl) : DE X (.Call (.Name "list" p) [e] [] pos) (dCB rList ts) := de_ct call_list_of (cd_list X.K) hm (by decide +kernel) ha hg (by decide) (by decide) he (by rfl)
theorem bc_tuple (hm : X.mg "tuple" = none) (ha : DA X [e] ts) (hg : Gl X "tuple" := by rfl) (he : starEach [e] X.env = (false, eval e X.env) :: starEach [] X.env := by rfl) : DE X (.Call (.Name "tuple" p) [e] [] pos) (dCB rTuple ts) := de_ct call_tuple_of (cd_tuple X.K) hm (by decide +kernel) ha hg (by decide) (by decide) he (by rfl)
theorem bc_isi {ic : String ⊕ Addr → String ⊕ Addr → Bool → Prop} (hic : ∀ a c b, ic a c b → IsiOk X.K a c b) (hm : X.mg "isinstance" = none) (ha : DA X (e :: es) ts) (hg : Gl X "isinstance" := by rfl) (he : starEach (e :: es) X.env = (false, eval e X.env) :: starEach es X.env := by rfl) (hpl : (backTo pos (starEach es X.env)).any (·.1) = false := by rfl) :
    DE X (.Call (.Name "isinstance" p) (e :: es) [] pos) (dCB (rIsiD ic) ts) := de_cb call_isi (cd_isi hic) hm boot_isinstance ha hg (by decide) (by decide) he hpl
end

/-! ### slices -/
abbrev TDO := DW → DSt → HD → (Option Int → HD → Prop) → Prop
section
variable (X : Cx)
def semO (e : Option Expr) : TO := fun σ H Q => ∀ (pins : List (Addr × Obj)) (s : Shared), Inv X pins σ H s → wpAny (model X.prog X.w) X.A (evalPart e X.env) (fun u s' => ∃ o H', Inv X pins σ H' s' ∧ IsPart u o ∧ Q o H') X.xe s
end
structure DO (X : Cx) (e : Option Expr) (t : TDO) : Prop where
  run : ∀ (G : HD) (H : Hp) (σ : DSt) (τ : L2.St) (W : DW) (R : Option Int → HD → Prop) (Q : Option Int → Hp → Prop), SR X G H σ τ W → t W σ G R → (∀ o G1 H1, SR X G1 H1 σ τ W → Ext G H G1 H1 → R o G1 → Q o H1) → semO X e τ H Q
def oNone : TDO := fun _ _ G Q => Q none G
def oSome (te : TD) : TDO := fun W σ G Q => te W σ G fun d G1 => match d with
  | .int i => Q (some i) G1
  | _ => False
def cutD (xs : List D) (lo hi : Option Int) : List D := (xs.drop (HT.sIx xs.length 0 lo)).take (HT.sIx xs.length xs.length hi - HT.sIx xs.length 0 lo)
def rSliceD : D → Option Int → Option Int → HD → Post → Prop := fun d lo hi G Q => match d with
  | .tup xs => Q (.tup (cutD xs lo hi)) G
  | .str z => z.length ≤ sizeLine ∧ Q (.str (cutS z lo hi)) G
  | d => match asL G d with
    | some xs => newL G (cutD xs lo hi) Q
    | none => False
def dSlice (te : TD) (tl th : TDO) : TD := fun W σ G Q => te W σ G fun d G1 => tl W σ G1 fun lo G2 => th W σ G2 fun hi G3 => rSliceD d lo hi G3 Q
theorem Rps.cut {K : PySem.W.Frag} {H : Hp} {ds : List D} {vs : List V} (r : Rps K H ds vs) (lo hi : Option Int) : Rps K H (cutD ds lo hi) (cutV vs lo hi) := by
  unfold cutD cutV
  rw [r.length]
  exact (r.drop _).take _
section
variable {X : Cx} {e : Expr} {te : TD} {lo hi : Option Expr} {tl th : TDO} {p2 pos : Pos}
theorem do_none : DO X none oNone := ⟨fun G H σ τ W R Q r q f pins s I => po_none.run pins s τ H Q I (f _ _ _ r .refl q)⟩
theorem do_some (h : DE X e te) : DO X (some e) (oSome te) := ⟨fun G H σ τ W R Q r q f pins s I => (po_some peSem).run pins s τ H Q I (h.then r q fun d v G1 H1 r1 x1 k1 q1 => by
  try dsimp only at q1
  split at q1
  · cases k1; exact ⟨_, rfl, f _ _ _ r1 x1 q1⟩
  · exact q1.elim)⟩
theorem poSem {e : Option Expr} : PO X e (semO X e) := ⟨fun pins s _ _ _ I h => h pins s I⟩
def rSlU (K : PySem.W.Frag) : V → Option Int → Option Int → Hp → VK → Prop := fun x lo hi H Q => rSlL K x lo hi H Q ∨ rSlA K x lo hi H Q ∨ rSlS x lo hi H Q
theorem de_slice (he : DE X e te) (hl : DO X lo tl) (hh : DO X hi th) : DE X (.Subscript e (.Slice lo hi none p2) pos) (dSlice te tl th) :=
  ⟨fun G H σ τ W Q r q => semE.of (pe_slice (r := rSlU X.K) (sl_list.or (sl_tupA.or sl_str)) peSem poSem poSem) (he.then r q fun d x G1 H1 r1 x1 k1 q1 => hl.run G1 H1 σ τ W _ _ r1 q1 fun l G2 H2 r2 x2 q2 => hh.run G2 H2 σ τ W _ _ r2 q2 fun h G3 H3 r3 x3 q3 => by
    have k3 := k1.ext r1.sim (x2.trans x3) _ _
    have xx := (x1.trans x2).trans x3
    unfold rSliceD at q3
    split at q3
    · obtain ⟨a, vs, rfl, t, rr⟩ := id k3
      refine .inr (.inl ⟨a, vs, rfl, t, fun hw => ?_, fun _ => newT.fin r3.sim (rr.cut l h) (fun _ _ z => z.up xx) q3⟩)
      rename_i xs
      have e1 : cutD xs l h = xs := by
        unfold cutD
        rw [rr.length] at hw
        rw [hw.1, hw.2]
        simp
      rw [e1] at q3
      exact .of (d := .tup xs) k3 r3.sim xx q3
    · cases k3
      exact .inr (.inr ⟨_, rfl, q3.1, .of (d := .str _) rfl r3.sim xx q3.2⟩)
    · split at q3
      · rename_i xs e1
        obtain ⟨a, vs, rfl, t, rr⟩ := k3.lst r3.sim e1
        exact .inl ⟨a, vs, rfl, t, newL.fin r3.sim (rr.cut l h) (fun _ _ z => z.up xx) q3⟩
      · exact q3.elim)⟩
end

/-! ### the law's own call -/
/-- the law's promise: a script of at most 63 ints is handed in, True comes out -/
def lawSp (K : PySem.W.Frag) : Sp := fun vs H Q _ => ∃ (a : Addr) (ns : List Int), vs = [.ref a] ∧ ns.length ≤ 63 ∧ Only H ∧ SqL K H a (ns.map V.int) ∧ ∀ H', Q (.bl true) H'
theorem law_lift {K : PySem.W.Frag} {sp : SpD} (h : ∀ ns : List Int, ns.length ≤ 63 → sp [.kc (ns.map D.int)] (fun _ => none) (fun d _ => d = .bl true) fun _ _ _ => False) : ∀ vs H Q E, lawSp K vs H Q E → liftSp K 1 sp vs H Q E := fun vs H Q E ⟨a, ns, e, hl, ho, hs, q⟩ => by
  subst e
  refine ⟨rfl, [.kc (ns.map D.int)], fun _ => none, _, _, ⟨_, _, rfl, ⟨a, ns.map V.int, rfl, ?_, Rps.ofInts ns⟩, rfl⟩, (fun a o e => by cases e), h ns hl, fun v H' ⟨d, G', k, _, _, e⟩ => ?_, fun c dd H' ⟨_, _, _, _, _, z⟩ => z.elim⟩
  · rcases hs with (hs | ⟨o, hs⟩) | hs
    · rcases ho a with z | ⟨o, xs, z⟩
      · rw [z] at hs; cases hs
      · rw [z] at hs; cases hs
    · exact .inl ⟨o, hs⟩
    · exact .inr hs
  · subst e
    cases k
    exact q H'
end DL

namespace DL
open PySem PySem.Spec L2
open PyProof.Rows hiding St
/-! ### what the top holds, told by values -/
inductive ScaF : Value → D → Prop where
  | non : ScaF .none .non
  | bl {b : Bool} : ScaF (.bool b) (.bl b)
  | int {i : Int} {t : Tok} : ScaF (.int i t) (.int i)
  | str {x : Str} {t : Tok} : ScaF (.str x t) (.str x)
inductive ScasF : List Value → List D → Prop where
  | nil : ScasF [] []
  | cons {u : Value} {d : D} {us : List Value} {ds : List D} (h : ScaF u d) (t : ScasF us ds) : ScasF (u :: us) (d :: ds)
theorem ScaF.to {K : PySem.W.Frag} {u : Value} {d : D} (h : ScaF u d) : ∃ v, RelV v u ∧ ∀ H, Rp K H d v := by
  cases h with
  | non => exact ⟨.non, rfl, fun _ => rfl⟩
  | bl => exact ⟨.bl _, rfl, fun _ => rfl⟩
  | int => exact ⟨.int _, ⟨_, rfl⟩, fun _ => rfl⟩
  | str => exact ⟨.str _, ⟨_, rfl⟩, fun _ => rfl⟩
theorem ScasF.to {K : PySem.W.Frag} {us : List Value} {ds : List D} (h : ScasF us ds) : ∃ vs, Vals vs us ∧ ∀ H, Rps K H ds vs := by
  induction h with
  | nil => exact ⟨[], .nil, fun _ => rfl⟩
  | cons h _ ih =>
    obtain ⟨v, r, p⟩ := h.to (K := K)
    obtain ⟨vs, rs, ps⟩ := ih
    exact ⟨v :: vs, .cons r rs, fun H => ⟨v, vs, rfl, p H, ps H⟩⟩
def ConstF (K : PySem.W.Frag) (mg : Str → Option Value) (x : Str) (d : D) : Prop := ∃ (v : V) (u : Value), mg x = some u ∧ RelV v u ∧ ∀ H, Rp K H d v
theorem ScaF.cf {K : PySem.W.Frag} {mg : Str → Option Value} {x : Str} {u : Value} {d : D} (h : ScaF u d) (m : mg x = some u) : ConstF K mg x d :=
  let ⟨v, r, p⟩ := h.to (K := K)
  ⟨v, u, m, r, p⟩
theorem ConstF.de {X : Cx} {x : Str} {d : D} {pos : Pos} (h : ConstF X.K X.mg x d) (hg : Gl X x) (hd : (x == ("__debug__" : Str)) = false := by decide) : DE X (.Name x pos) (dC d) :=
  let ⟨_, _, m, r, p⟩ := h
  de_glob hg m r p hd
/-- a tuple of the top -/
structure TupF (K : PySem.W.Frag) (o : Obj) (ds : List D) : Prop where
  ex : ∃ (its : Array Value) (n : Nat), o.cls = .type "tuple" ∧ o.data = .seq its n ∧ its.size ≤ sizeLine ∧ ScasF its.toList ds
theorem TupF.rp {K : PySem.W.Frag} {o : Obj} {ds : List D} {a : Addr} (h : TupF K o ds) (l : K.lookup a = some o) : ∀ H, Rp K H (.tup ds) (.ref a) := fun H =>
  let ⟨its, n, h1, h2, h3, h4⟩ := h.ex
  let ⟨vs, r, p⟩ := h4.to (K := K)
  ⟨a, vs, rfl, .inr ⟨o, its, n, l, h1, h2, h3, r⟩, p H⟩
inductive ValF (K : PySem.W.Frag) : Value → D → Prop where
  | sca {u : Value} {d : D} (h : ScaF u d) : ValF K u d
  | tup {a : Addr} {o : Obj} {ds : List D} (l : K.lookup a = some o) (t : TupF K o ds) : ValF K (.ref a) (.tup ds)
inductive ValsF (K : PySem.W.Frag) : List Value → List D → Prop where
  | nil : ValsF K [] []
  | cons {u : Value} {d : D} {us : List Value} {ds : List D} (h : ValF K u d) (t : ValsF K us ds) : ValsF K (u :: us) (d :: ds)
theorem ValF.to {K : PySem.W.Frag} {u : Value} {d : D} (h : ValF K u d) : ∃ v, RelV v u ∧ ∀ H, Rp K H d v := by
  cases h with
  | sca h => exact h.to
  | tup l t => exact ⟨.ref _, rfl, t.rp l⟩
theorem ValsF.to {K : PySem.W.Frag} {us : List Value} {ds : List D} (h : ValsF K us ds) : ∃ vs, Vals vs us ∧ ∀ H, Rps K H ds vs := by
  induction h with
  | nil => exact ⟨[], .nil, fun _ => rfl⟩
  | cons h _ ih =>
    obtain ⟨v, r, p⟩ := h.to
    obtain ⟨vs, rs, ps⟩ := ih
    exact ⟨v :: vs, .cons r rs, fun H => ⟨v, vs, rfl, p H, ps H⟩⟩
/-- a def of the top, a method -/
def DefF (K : PySem.W.Frag) (mg : Str → Option Value) (x : Str) (st : Stmt) (dds : List D) : Prop := ∃ (f : Addr) (fd : FuncData) (dvs : List V), Dfl K dds dvs ∧ L2.FunD K x x (defArgs st) (defBody st) (defScope st) dvs [] f fd ∧ mg x = some (.ref f)
def MetF (K : PySem.W.Frag) (C : Addr) (m qual : Str) (st : Stmt) (dds : List D) : Prop := ∃ (f : Addr) (fd : FuncData) (dvs : List V), Dfl K dds dvs ∧ L2.FunD K m qual (defArgs st) (defBody st) (defScope st) dvs [] f fd ∧ Meth K C m f
theorem Dfl.drop {K : PySem.W.Frag} {dds : List D} {dvs : List V} (h : Dfl K dds dvs) (j : Nat) : Dfl K (dds.drop j) (dvs.drop j) := ⟨fun H => (h.rel H).drop j⟩
section
variable {K : PySem.W.Frag} {x qual : Str} {pa : Arguments} {bd : List Stmt} {sc : Scope} {f T : Addr} {oc kV dc pm cd ct : Value} {od an : Option Addr} {sl : Array (Option Value)} {o : Obj} {ds : List D}
theorem fun_nd (l : K.lookup f = some ⟨oc, od, .func (PySem.W.fnOf x qual pa bd sc .none kV dc pm an cd ct), sl⟩) (c : PySem.W.codeIn K cd qual = true) (k : PySem.W.keepIn K (.ref f) = true) :
    ∃ dvs : List V, Dfl K [] dvs ∧ L2.FunD K x qual pa bd sc dvs [] f (PySem.W.fnOf x qual pa bd sc .none kV dc pm an cd ct) :=
  ⟨[], .nil, ⟨⟨oc, od, .none, kV, dc, pm, an, cd, ct, sl, rfl, l, c, .inl ⟨rfl, rfl⟩, .inl rfl⟩, k⟩⟩
/-- a def's defaults -/
structure DflF (K : PySem.W.Frag) (o : Obj) (ds : List D) : Prop where mk0 ::
  ex : ∃ (its : List Value) (n : Nat), o.data = .seq its.toArray n ∧ ValsF K its ds ∧ ds ≠ []
theorem DflF.mk (h : DflF K o ds) (m : K.lookup T = some o) (l : K.lookup f = some ⟨oc, od, .func (PySem.W.fnOf x qual pa bd sc (.ref T) kV dc pm an cd ct), sl⟩) (c : PySem.W.codeIn K cd qual = true) (k : PySem.W.keepIn K (.ref f) = true) :
    ∃ dvs : List V, Dfl K ds dvs ∧ L2.FunD K x qual pa bd sc dvs [] f (PySem.W.fnOf x qual pa bd sc (.ref T) kV dc pm an cd ct) := by
  obtain ⟨its, n, h1, h2, h3⟩ := h.ex
  obtain ⟨vs, r, p⟩ := h2.to
  refine ⟨vs, ⟨p⟩, ⟨⟨oc, od, .ref T, kV, dc, pm, an, cd, ct, sl, rfl, l, c, .inr ⟨?_, T, o, its, n, rfl, m, h1, r⟩, .inl rfl⟩, k⟩⟩
  rintro rfl
  have := (p (fun _ => none)).length
  cases ds with
  | nil => exact h3 rfl
  | cons _ _ => cases this
end
end DL

namespace DL
open PySem PySem.Spec L2
open PyProof.Rows hiding St
/-! ### for the plain laws -/
theorem fg_in {Q : Post} {d : D} {G : HD} (h : Q d G) : fg Q d G := ⟨G, Le.refl _, h⟩
theorem fg_le {Q : Post} {d : D} {G G0 : HD} (l : Le G0 G) (h : Q d G0) : fg Q d G := ⟨G0, l, h⟩
theorem newL_in {G : HD} {ds : List D} {Q : Post} (h : ∀ (p : Addr) (G' : HD), G p = none → G' = put G p (.lst ds) → G' p = some (.lst ds) → Le G G' → (∀ b, b ≠ p → G' b = G b) → Q (.ref p) G') : newL G ds Q :=
  fun p hp => h p _ hp rfl put_same (Le.newB hp) fun _ hb => put_ne hb
theorem ne_of {G : HD} {a p : Addr} {o : MO} (h : G a = some o) (hp : G p = none) : a ≠ p := by rintro rfl; rw [h] at hp; cases hp
/-- a loop keeps I -/
theorem forD_inv {ok : HD → Prop} {step : D → (DSt → HD → Prop) → DSt → HD → Prop} {fin : DSt → HD → Prop} (I : List D → DSt → HD → Prop) (hok : ∀ l σ G, I l σ G → ok G)
    (hs : ∀ x l k σ G, I (x :: l) σ G → (∀ σ' G', I l σ' G' → k σ' G') → step x k σ G) (hf : ∀ σ G, I [] σ G → fin σ G) : ∀ (l : List D) (σ : DSt) (G : HD), I l σ G → forD ok step fin l σ G
  | [], σ, G, h => ⟨G, Le.refl _, hok _ _ _ h, hf _ _ h⟩
  | x :: l, σ, G, h => ⟨G, Le.refl _, hok _ _ _ h, hs x l _ σ G h fun σ' G' h' => forD_inv I hok hs hf l σ' G' h'⟩
/-- a loop over n ints from lo -/
theorem forR_inv {ok : HD → Prop} {step : D → (DSt → HD → Prop) → DSt → HD → Prop} {fin : DSt → HD → Prop} (I : Nat → DSt → HD → Prop) {lo : Int} {n : Nat} (hok : ∀ G, ok G)
    (hs : ∀ i k σ G, i < n → I i σ G → (∀ σ' G', I (i + 1) σ' G' → k σ' G') → step (.int (lo + (i : Nat))) k σ G) (hf : ∀ σ G, I n σ G → fin σ G) {σ : DSt} {G : HD} (h : I 0 σ G) : forD ok step fin (intsD lo n) σ G := by
  refine forD_inv (fun l σ G => ∃ i, i ≤ n ∧ l = (intsD lo n).drop i ∧ I i σ G) (fun _ _ G _ => hok G) (fun x l k σ G ⟨i, hi, e, h⟩ hk => ?_) (fun σ G ⟨i, hi, e, h⟩ => ?_) _ _ _ ⟨0, Nat.zero_le _, rfl, h⟩
  · by_cases hin : i < n
    · rw [drop_get (ints_get hin)] at e
      injection e with e1 e2
      subst e1
      exact hs i k σ G hin h fun σ' G' h' => hk σ' G' ⟨i + 1, hin, e2, h'⟩
    · rw [List.drop_eq_nil_of_le (by rw [ints_len]; omega)] at e; cases e
  · have : i = n := by
      have := congrArg List.length e
      rw [List.length_drop, ints_len] at this
      simp at this; omega
    subst this; exact hf _ _ h
/-- a loop with a measure -/
theorem whD_inv {test : DSt → HD → (Bool → HD → Prop) → Prop} {body : (DSt → HD → Prop) → DSt → HD → Prop} {fin : DSt → HD → Prop} (I : Nat → DSt → HD → Prop)
    (hs : ∀ n k σ G, I n σ G → (∀ m σ' G', m < n → I m σ' G' → k σ' G') → test σ G fun b G1 => if b = true then body k σ G1 else fin σ G1) : ∀ (n m : Nat), m ≤ n → ∀ (σ : DSt) (G : HD), I m σ G → whD test body fin (n + 1) σ G
  | 0, m, hm, σ, G, h => ⟨G, Le.refl _, hs m _ σ G h fun m' _ _ h1 _ => absurd h1 (by omega)⟩
  | n + 1, m, hm, σ, G, h => ⟨G, Le.refl _, hs m _ σ G h fun m' σ' G' h1 h2 => whD_inv I hs n m' (by omega) σ' G' h2⟩
theorem wh_in {test : DSt → HD → (Bool → HD → Prop) → Prop} {body : (DSt → HD → Prop) → DSt → HD → Prop} {fin : DSt → HD → Prop} (I : Nat → DSt → HD → Prop)
    (hs : ∀ n k σ G, I n σ G → (∀ m σ' G', m < n → I m σ' G' → k σ' G') → test σ G fun b G1 => if b = true then body k σ G1 else fin σ G1) {n : Nat} {σ : DSt} {G : HD} (h : I n σ G) : ∃ N, whD test body fin N σ G :=
  ⟨n + 1, whD_inv I hs n n (Nat.le_refl _) σ G h⟩
theorem ixN_nat {n k : Nat} (h : k < n) : ixN n (k : Int) = some k := by
  unfold ixN
  rw [if_pos (by omega), if_pos (by omega)]; rfl
theorem ixN_of {n : Nat} {i : Int} (h0 : 0 ≤ i) (h : i < n) : ixN n i = some i.toNat := by
  obtain ⟨k, rfl⟩ := Int.eq_ofNat_of_zero_le h0
  exact ixN_nat (by omega)
theorem atI_nat {α : Type} {l : List α} {k : Nat} {x : α} (h : l[k]? = some x) : atI l (k : Int) = some x := by
  unfold atI
  rw [ixN_nat (List.getElem?_eq_some_iff.mp h).1]; exact h
theorem atI_of {α : Type} {l : List α} {i : Int} (h0 : 0 ≤ i) : atI l i = l[i.toNat]? := by
  obtain ⟨k, rfl⟩ := Int.eq_ofNat_of_zero_le h0
  cases h : l[((k : Int)).toNat]? with
  | some x => exact atI_nat h
  | none =>
    unfold atI
    rw [show ixN l.length (k : Int) = none from by
      unfold ixN
      have := List.getElem?_eq_none_iff.mp h
      rw [if_pos (by omega), if_neg (by omega)]]
    rfl
theorem atI0 {α : Type} {x : α} {l : List α} : atI (x :: l) 0 = some x := atI_nat (k := 0) rfl
theorem atI1 {α : Type} {x y : α} {l : List α} : atI (x :: y :: l) 1 = some y := atI_nat (k := 1) rfl
theorem atI2 {α : Type} {x y z : α} {l : List α} : atI (x :: y :: z :: l) 2 = some z := atI_nat (k := 2) rfl
theorem atI3 {α : Type} {x y z u : α} {l : List α} : atI (x :: y :: z :: u :: l) 3 = some u := atI_nat (k := 3) rfl
theorem atI4 {α : Type} {x y z u v : α} {l : List α} : atI (x :: y :: z :: u :: v :: l) 4 = some v := atI_nat (k := 4) rfl
theorem ixN3a : ixN 3 0 = some 0 := rfl
theorem ixN3b : ixN 3 1 = some 1 := rfl
theorem ixN3c : ixN 3 2 = some 2 := rfl
theorem pick {α : Type} {l : List α} {r : Int} (h0 : 0 ≤ r) (h1 : r < l.length) : ∃ x, x ∈ l ∧ atI l r = some x := by
  rw [atI_of h0]
  have : r.toNat < l.length := by omega
  exact ⟨l[r.toNat], List.getElem_mem _, List.getElem?_eq_getElem _⟩
theorem eqO_int {G : HD} {i j : Int} : eqO G (.int i) (.int j) = some (decide (i = j)) := by
  simp only [eqO, pyD]
  congr 1
/-! sizes -/
theorem mul_ok {i j : Int} {a b : Nat} (ha : i.natAbs < 2 ^ a) (hb : j.natAbs < 2 ^ b) (h0 : 0 < a) (h1 : 0 < b) (h : a + b ≤ 1000000) : MulOk i j := .inr (wide_mul ha hb h0 h1 h)
theorem mul_l {i j : Int} (h1 : -(2 ^ 64) < i) (h2 : i < 2 ^ 64) : MulOk i j := .inl (.inl ⟨h1, h2⟩)
theorem mul_r {i j : Int} (h1 : -(2 ^ 64) < j) (h2 : j < 2 ^ 64) : MulOk i j := .inl (.inr ⟨h1, h2⟩)
theorem div_s {i j : Int} (h : 0 < j) (h1 : j < 2 ^ 64) : CDivW i j := wide_div (b := 64) h (by omega) (by omega) (by omega)
theorem abs_mul_lt {i j : Int} {a b : Nat} (ha : i.natAbs < 2 ^ a) (hb : j.natAbs < 2 ^ b) : (i * j).natAbs < 2 ^ (a + b) := by
  rw [Int.natAbs_mul, Nat.pow_add]
  exact Nat.mul_lt_mul'' ha hb
end DL

namespace DL
open PySem PySem.Spec L2
open PyProof.Rows hiding St
/-! ### readings at known data (for simp) -/
section
variable {G : HD} {Q : Post} {i j : Int} {a : Addr} {ds xs ys : List D} {b : Bool} {x y : Str} {d : D} {p : Int → Int → Bool} {W : DW} {σ : DSt} {E : DEnds}
def optP (o : Option D) (G : HD) (Q : Post) : Prop := match o with
  | some v => Q v G
  | none => False
theorem r_opt {v : D} : optP (some v) G Q = Q v G := propext ⟨fun h => h, fun h => h⟩
def pickD (o : Option (List D)) (i : Int) (G : HD) (Q : Post) : Prop := match o with
  | some ds => optP (atI ds i) G Q
  | none => False
theorem r_pick : pickD (some ds) i G Q = optP (atI ds i) G Q := propext ⟨fun h => h, fun h => h⟩
theorem r_add : dAdd (.int i) (.int j) G Q = Q (.int (i + j)) G := propext ⟨fun h => h, fun h => h⟩
theorem r_addS : dAdd (.str x) (.str y) G Q = (x.length + y.length ≤ sizeLine ∧ Q (.str (x ++ y)) G) := propext ⟨fun h => h, fun h => h⟩
theorem r_addT : dAdd (.tup xs) (.tup ys) G Q = (xs.length + ys.length ≤ sizeLine ∧ Q (.tup (xs ++ ys)) G) := propext ⟨fun h => h, fun h => h⟩
def addL (u v : Option MO) (G : HD) (Q : Post) : Prop := match u, v with
  | some (.lst xs), some (.lst ys) => xs.length + ys.length ≤ sizeLine ∧ newL G (xs ++ ys) Q
  | _, _ => False
theorem r_addR {c : Addr} : dAdd (.ref a) (.ref c) G Q = addL (G a) (G c) G Q := propext ⟨fun h => h, fun h => h⟩
theorem r_addL : addL (some (.lst xs)) (some (.lst ys)) G Q = (xs.length + ys.length ≤ sizeLine ∧ newL G (xs ++ ys) Q) := propext ⟨fun h => h, fun h => h⟩
theorem r_sub : dSub (.int i) (.int j) G Q = Q (.int (i - j)) G := propext ⟨fun h => h, fun h => h⟩
theorem r_mul : dMul (.int i) (.int j) G Q = (MulOk i j ∧ Q (.int (i * j)) G) := propext ⟨fun h => h, fun h => h⟩
theorem r_div : dDiv (.int i) (.int j) G Q = (CDivW i j ∧ Q (.int (i / j)) G) := propext ⟨fun h => h, fun h => h⟩
theorem r_mod : dMod (.int i) (.int j) G Q = (0 < j ∧ Q (.int (i % j)) G) := propext ⟨fun h => h, fun h => h⟩
theorem r_pow : dPow (.int i) (.int j) G Q = (CPow i j ∧ Q (.int (i ^ j.toNat)) G) := propext ⟨fun h => h, fun h => h⟩
theorem r_cmp : dCmpI p (.int i) (.int j) G Q = Q (.bl (p i j)) G := propext ⟨fun h => h, fun h => h⟩
theorem r_lt : dLtD (.int i) (.int j) G Q = Q (.bl (decide (i < j))) G := propext ⟨fun h => h, fun h => h⟩
theorem r_ltT : dLtD (.tup xs) (.tup ys) G Q = (match asInts xs, asInts ys with | some ns, some ms => Q (.bl (HT.lexLt ns ms)) G | _, _ => False) := propext ⟨fun h => h, fun h => h⟩
theorem r_neg : dNeg (.int i) G Q = Q (.int (-i)) G := propext ⟨fun h => h, fun h => h⟩
theorem r_isN {n : Bool} : dIsN n d .non G Q = Q (.bl (if n then !isNon d else isNon d)) G := propext ⟨fun h => h, fun h => h⟩
theorem r_isNr : isNon (.ref a) = false := rfl
theorem r_isNi : isNon (.int i) = false := rfl
theorem r_isNn : isNon .non = true := rfl
theorem r_isNt : isNon (.tup xs) = false := rfl
theorem r_eqI {n : Bool} : dEq n (.int i) (.int j) G Q = Q (.bl (if n then !decide (i = j) else decide (i = j))) G := by simp only [dEq, eqO_int]
theorem r_ixP : (match asQ G d with | some ds => (match atI ds i with | some v => Q v G | none => False) | none => False) = pickD (asQ G d) i G Q := propext ⟨fun h => h, fun h => h⟩
theorem r_ixT : dIx (.tup xs) (.int i) G Q = pickD (some xs) i G Q := r_ixP (d := .tup xs)
theorem r_ixK : dIx (.kl xs) (.int i) G Q = pickD (some xs) i G Q := r_ixP (d := .kl xs)
theorem r_ixC : dIx (.kc xs) (.int i) G Q = pickD (some xs) i G Q := r_ixP (d := .kc xs)
def lstOf : Option MO → Option (List D)
  | some (.lst ds) => some ds
  | _ => none
theorem r_lstOf : lstOf (some (.lst xs)) = some xs := rfl
theorem asL_ref : asL G (.ref a) = lstOf (G a) := by
  simp only [asL]; unfold lstOf; cases G a with
  | none => rfl
  | some o => cases o <;> rfl
theorem r_ixR : dIx (.ref a) (.int i) G Q = pickD (lstOf (G a)) i G Q := (r_ixP (d := .ref a)).trans (by rw [show asQ G (.ref a) = asL G (.ref a) from rfl, asL_ref])
theorem r_truB : truD G (.bl b) = some b := rfl
theorem r_truI : truD G (.int i) = some (i != 0) := rfl
theorem r_truT : truD G (.tup xs) = some (!xs.isEmpty) := rfl
theorem r_truN : truD G .non = some false := rfl
def truO : Option MO → Option Bool
  | some (.lst ds) => some (!ds.isEmpty)
  | some (.dK l) => some (!l.isEmpty)
  | _ => none
theorem r_truR : truD G (.ref a) = truO (G a) := by
  simp only [truD]; unfold truO; cases G a with
  | none => rfl
  | some o => cases o <;> rfl
theorem r_truL : truO (some (.lst xs)) = some (!xs.isEmpty) := rfl
theorem r_max : rMax2 [.int i, .int j] G Q = Q (.int (if j > i then j else i)) G := propext ⟨fun h => h, fun h => h⟩
theorem r_min : rMin2 [.int i, .int j] G Q = Q (.int (if j < i then j else i)) G := propext ⟨fun h => h, fun h => h⟩
theorem r_intB : rInt [.bl b] G Q = Q (.int (if b then 1 else 0)) G := propext ⟨fun h => h, fun h => h⟩
theorem r_intI : rInt [.int i] G Q = Q (.int i) G := propext ⟨fun h => h, fun h => h⟩
theorem r_abs : rAbs [.int i] G Q = Q (.int (if i < 0 then -i else i)) G := propext ⟨fun h => h, fun h => h⟩
theorem r_lenT : rLen [.tup xs] G Q = Q (.int xs.length) G := propext ⟨fun h => h, fun h => h⟩
theorem r_lenK : rLen [.kl xs] G Q = Q (.int xs.length) G := propext ⟨fun h => h, fun h => h⟩
theorem r_lenC : rLen [.kc xs] G Q = Q (.int xs.length) G := propext ⟨fun h => h, fun h => h⟩
def lenO : Option MO → Option Nat
  | some (.lst ds) => some ds.length
  | some (.dK l) => some l.length
  | _ => none
def lenP (o : Option Nat) (G : HD) (Q : Post) : Prop := match o with
  | some n => Q (.int n) G
  | none => False
theorem r_lenR : rLen [.ref a] G Q = lenP (lenO (G a)) G Q := by
  simp only [rLen, lenD]; unfold lenP lenO; cases G a with
  | none => rfl
  | some o => cases o <;> rfl
theorem r_lenL : lenP (lenO (some (.lst xs))) G Q = Q (.int xs.length) G := propext ⟨fun h => h, fun h => h⟩
def natP (o : Option Nat) (Q : Nat → Prop) : Prop := match o with
  | some n => Q n
  | none => False
theorem r_nat {Q : Nat → Prop} {n : Nat} : natP (some n) Q = Q n := propext ⟨fun h => h, fun h => h⟩
def setP (o : Option MO) (a : Addr) (i : Int) (v : D) (G : HD) (Q : HD → Prop) : Prop := match o with
  | some (.lst xs) => natP (ixN xs.length i) fun j => Q (put G a (.lst (xs.set j v)))
  | _ => False
theorem r_set {Q : HD → Prop} {v : D} : rSetD (.ref a) (.int i) v G Q = setP (G a) a i v G Q := propext ⟨fun h => h, fun h => h⟩
theorem r_setL {Q : HD → Prop} {v : D} : setP (some (.lst xs)) a i v G Q = natP (ixN xs.length i) fun j => Q (put G a (.lst (xs.set j v))) := propext ⟨fun h => h, fun h => h⟩
theorem r_unp {is : List Nat} {k : DSt → HD → Prop} (h : ds.length = is.length) : (match (D.tup ds) with | .tup ds => ds.length = is.length ∧ k (setAll is ds σ) G | _ => False) = k (setAll is ds σ) G := propext ⟨fun q => q.2, fun q => ⟨h, q⟩⟩
theorem r_isI {ic : String ⊕ Addr → String ⊕ Addr → Bool → Prop} : rIsiD ic [.int i, .ty "int"] G Q = Q (.bl true) G := propext ⟨fun h => h, fun h => h⟩
theorem r_isB {ic : String ⊕ Addr → String ⊕ Addr → Bool → Prop} : rIsiD ic [.int i, .ty "bool"] G Q = Q (.bl false) G := propext ⟨fun h => h, fun h => h⟩
theorem r_isT {ic : String ⊕ Addr → String ⊕ Addr → Bool → Prop} : rIsiD ic [.tup xs, .ty "tuple"] G Q = Q (.bl true) G := propext ⟨fun h => h, fun h => h⟩
theorem r_jT {tl : TD} : True := trivial
end
section
variable {G : HD} {Q : Post} {a : Addr} {ds : List D} {lo hi : Option Int}
theorem r_sliT : rSliceD (.tup ds) lo hi G Q = Q (.tup (cutD ds lo hi)) G := propext ⟨fun h => h, fun h => h⟩
theorem r_sliK : rSliceD (.kl ds) lo hi G Q = newL G (cutD ds lo hi) Q := propext ⟨fun h => h, fun h => h⟩
theorem r_sliC : rSliceD (.kc ds) lo hi G Q = newL G (cutD ds lo hi) Q := propext ⟨fun h => h, fun h => h⟩
def sliP (o : Option (List D)) (lo hi : Option Int) (G : HD) (Q : Post) : Prop := match o with
  | some xs => newL G (cutD xs lo hi) Q
  | none => False
theorem r_sliR : rSliceD (.ref a) lo hi G Q = sliP (lstOf (G a)) lo hi G Q := by
  rw [← asL_ref]; rfl
theorem r_sliL : sliP (some ds) lo hi G Q = newL G (cutD ds lo hi) Q := propext ⟨fun h => h, fun h => h⟩
end
/-- an instance at a -/
def fldP (o : Option MO) (ok : Addr → Str → Prop) (f : Str) (G : HD) (Q : Post) : Prop := match o with
  | some (.ins C fs) => ok C f ∧ optP (fs.lookup f) G Q
  | _ => False
def fldD (ok : Addr → Str → Prop) (f : Str) (d : D) (G : HD) (Q : Post) : Prop := match d with
  | .ref a => fldP (G a) ok f G Q
  | _ => False
section
variable {G : HD} {Q : Post} {a C : Addr} {ok : Addr → Str → Prop} {f m : Str} {fs : List (Str × D)} {v : D}
theorem r_fld {ta : TD} {W : DW} {σ : DSt} : dFld ok f ta W σ G Q = ta W σ G fun d G1 => fldD ok f d G1 Q := propext ⟨fun h => h, fun h => h⟩
theorem r_fldR : fldD ok f (.ref a) G Q = fldP (G a) ok f G Q := propext ⟨fun h => h, fun h => h⟩
theorem r_fldI : fldP (some (.ins C fs)) ok f G Q = (ok C f ∧ optP (fs.lookup f) G Q) := propext ⟨fun h => h, fun h => h⟩
end
/-- the store of a field -/
def sfdP (o : Option MO) (ok : Addr → Str → Prop) (f : Str) (a : Addr) (v : D) (G : HD) (Q : HD → Prop) : Prop := match o with
  | some (.ins C fs) => ok C f ∧ fs.length < 1000 ∧ Q (put G a (.ins C (putD f v fs)))
  | _ => False
def sfdD (ok : Addr → Str → Prop) (f : Str) (d v : D) (G : HD) (Q : HD → Prop) : Prop := match d with
  | .ref a => sfdP (G a) ok f a v G Q
  | _ => False
section
variable {G : HD} {Q : HD → Prop} {a C : Addr} {ok : Addr → Str → Prop} {f m : Str} {fs : List (Str × D)} {v : D}
theorem r_sfd {to tv : TD} {W : DW} {D : DEnds} {σ : DSt} : sFldD ok f to tv W D σ G = tv W σ G fun v G1 => to W σ G1 fun d G2 => sfdD ok f d v G2 fun G3 => D.nx σ G3 := propext ⟨fun h => h, fun h => h⟩
theorem r_sfdR : sfdD ok f (.ref a) v G Q = sfdP (G a) ok f a v G Q := propext ⟨fun h => h, fun h => h⟩
theorem r_sfdI : sfdP (some (.ins C fs)) ok f a v G Q = (ok C f ∧ fs.length < 1000 ∧ Q (put G a (.ins C (putD f v fs)))) := propext ⟨fun h => h, fun h => h⟩
end
/-- a method's call -/
def metP (o : Option MO) (tab : List (Addr × SpD)) (m : Str) (k : SpD → Prop) : Prop := match o with
  | some (.ins C fs) => fs.lookup m = none ∧ ∃ q ∈ tab, q.1 = C ∧ k q.2
  | _ => False
def metD (tab : List (Addr × SpD)) (m : Str) (d : D) (G : HD) (k : SpD → Prop) : Prop := match d with
  | .ref a => metP (G a) tab m k
  | _ => False
section
variable {G : HD} {Q : Post} {a C : Addr} {m : Str} {tab : List (Addr × SpD)} {dds : List D} {fs : List (Str × D)} {k : SpD → Prop} {sp : SpD}
theorem r_met {ta : TD} {ts : TDA} {W : DW} {σ : DSt} : dMeth tab m dds ta ts W σ G Q = ta W σ G fun d G1 => metD tab m d G1 fun sp => ts W σ G1 fun ds G2 => sp (d :: (ds ++ dds)) G2 Q fun c fs G' => W c fs σ G' := by
  unfold dMeth
  congr 1
  funext d G1
  cases d <;> rfl
theorem r_metR : metD tab m (.ref a) G k = metP (G a) tab m k := propext ⟨fun h => h, fun h => h⟩
theorem r_metI : metP (some (.ins C fs)) tab m k = (fs.lookup m = none ∧ ∃ q ∈ tab, q.1 = C ∧ k q.2) := propext ⟨fun h => h, fun h => h⟩
theorem r_met1 : metP (some (.ins C fs)) [(C, sp)] m k = (fs.lookup m = none ∧ k sp) := by
  rw [r_metI]
  apply propext; constructor
  · rintro ⟨h, q, hq, h1, h2⟩
    rw [List.mem_singleton] at hq; subst hq; exact ⟨h, h2⟩
  · rintro ⟨h, h2⟩; exact ⟨h, _, List.mem_singleton.mpr rfl, rfl, h2⟩
end
/-- a field changed by +=, -= -/
def augP (ok : Addr → Str → Prop) (f : Str) (g : Int → Int → Int) (d : D) (tv : HD → Post → Prop) (G1 : HD) (k : HD → Prop) : Prop := match d with
  | .ref a => match G1 a with
    | some (.ins C fs) => ok C f ∧ match fs.lookup f with
      | some (.int i) => tv G1 fun v G2 => match v with
        | .int j => match G2 a with
          | some (.ins C2 fs2) => C2 = C ∧ fs2.length < 1000 ∧ k (put G2 a (.ins C2 (putD f (.int (g i j)) fs2)))
          | _ => False
        | _ => False
      | _ => False
    | _ => False
  | _ => False
/-! ### readings' own choices, behind names -/
def varP (o : Option (Option D)) (G : HD) (Q : Post) : Prop := match o with
  | some (some d) => Q d G
  | _ => False
def blP (d : D) (k : Bool → Prop) : Prop := match d with
  | .bl b => k b
  | _ => False
def boolP (o : Option Bool) (k : Bool → Prop) : Prop := match o with
  | some b => k b
  | none => False
def unpP (d : D) (n : Nat) (k : List D → Prop) : Prop := match d with
  | .tup ds => ds.length = n ∧ k ds
  | _ => False
def parP (ds : List D) (k : D → D → Prop) : Prop := match ds with
  | [d, e] => k d e
  | _ => False
section
variable {G : HD} {Q : Post} {W : DW} {σ : DSt} {i j : Nat} {d : D} {b : Bool} {k : Bool → Prop} {D : DEnds} {ta tb : TD} {rd : DL.D → DL.D → HD → Post → Prop} {QB : Bool → HD → Prop} {t : DL.D → TD} {ts : TDA}
theorem r_var : dVar i W σ G Q = varP σ[i]? G Q := propext ⟨fun h => h, fun h => h⟩
theorem r_varS : varP (some (some d)) G Q = Q d G := propext ⟨fun h => h, fun h => h⟩
theorem r_blP : blP (.bl b) k = k b := propext ⟨fun h => h, fun h => h⟩
theorem r_boolP : boolP (some b) k = k b := propext ⟨fun h => h, fun h => h⟩
theorem r_unpP {n : Nat} {ds : List DL.D} {k : List DL.D → Prop} : unpP (.tup ds) n k = (ds.length = n ∧ k ds) := propext ⟨fun h => h, fun h => h⟩
theorem r_parP {e : DL.D} {k : DL.D → DL.D → Prop} : parP [d, e] k = k d e := propext ⟨fun h => h, fun h => h⟩
theorem r_test : dTest ta W σ G QB = ta W σ G fun d G1 => blP d fun b => QB b G1 := propext ⟨fun h => h, fun h => h⟩
theorem r_tru : dTru ta W σ G QB = ta W σ G fun d G1 => boolP (truD G1 d) fun b => QB b G1 := propext ⟨fun h => h, fun h => h⟩
theorem r_andV : dAndV ta tb W σ G Q = ta W σ G fun d G1 => boolP (truD G1 d) fun b => if b = true then tb W σ G1 Q else Q d G1 := propext ⟨fun h => h, fun h => h⟩
theorem r_orV : dOrV ta tb W σ G Q = ta W σ G fun d G1 => boolP (truD G1 d) fun b => if b = true then Q d G1 else tb W σ G1 Q := propext ⟨fun h => h, fun h => h⟩
theorem r_notV : dNotV ta W σ G Q = ta W σ G fun d G1 => boolP (truD G1 d) fun b => Q (.bl (!b)) G1 := propext ⟨fun h => h, fun h => h⟩
theorem r_last : dLast rd tb d W σ G Q = tb W σ G fun e G1 => rd d e G1 fun z G2 => blP z fun b => Q (.bl b) G2 := propext ⟨fun h => h, fun h => h⟩
theorem r_link : dLink rd tb t d W σ G Q = tb W σ G fun e G1 => rd d e G1 fun z G2 => blP z fun b => if b = true then t e W σ G2 Q else Q (.bl false) G2 := propext ⟨fun h => h, fun h => h⟩
theorem r_chn : dChn ta t W σ G Q = ta W σ G fun d G1 => t d W σ G1 Q := propext ⟨fun h => h, fun h => h⟩
theorem r_chnT : dChnT ta t W σ G QB = ta W σ G fun d G1 => t d W σ G1 fun z G2 => blP z fun b => QB b G2 := propext ⟨fun h => h, fun h => h⟩
theorem r_unp' {is : List Nat} : sUnp is ta W D σ G = ta W σ G fun d G1 => unpP d is.length fun ds => D.nx (setAll is ds σ) G1 := propext ⟨fun h => h, fun h => h⟩
theorem r_par : sPar i j ts W D σ G = ts W σ G fun ds G1 => parP ds fun d e => D.nx ((σ.set i (some d)).set j (some e)) G1 := by
  unfold sPar
  congr 1
theorem r_set0 : setAll [] [] σ = σ := rfl
theorem r_set1 {is : List Nat} {ds : List DL.D} : setAll (i :: is) (d :: ds) σ = setAll is ds (σ.set i (some d)) := rfl
/-! the frames of statements and values -/
theorem q_seq {t u : TDS} : sSeq t u W D σ G = t W { D with nx := fun σ' G' => u W D σ' G' } σ G := propext ⟨fun h => h, fun h => h⟩
theorem q_set : sSet i ta W D σ G = ta W σ G fun d G1 => D.nx (σ.set i (some d)) G1 := propext ⟨fun h => h, fun h => h⟩
theorem q_ret : sRet ta W D σ G = ta W σ G D.rt := propext ⟨fun h => h, fun h => h⟩
theorem q_retN : sRetN W D σ G = D.rt .non G := propext ⟨fun h => h, fun h => h⟩
theorem q_drop : sDrop ta W D σ G = ta W σ G fun _ G1 => D.nx σ G1 := propext ⟨fun h => h, fun h => h⟩
theorem q_if {c : TDT} {t u : TDS} : sIf c t u W D σ G = c W σ G fun b G1 => if b = true then t W D σ G1 else u W D σ G1 := propext ⟨fun h => h, fun h => h⟩
theorem q_next : sNext W D σ G = D.nx σ G := propext ⟨fun h => h, fun h => h⟩
theorem q_brk : sBrk W D σ G = D.bk σ G := propext ⟨fun h => h, fun h => h⟩
theorem q_cont : sCont W D σ G = D.ct σ G := propext ⟨fun h => h, fun h => h⟩
theorem q_op {u : TD} : dOp rd ta u W σ G Q = ta W σ G fun d G1 => u W σ G1 fun e G2 => rd d e G2 Q := propext ⟨fun h => h, fun h => h⟩
theorem q_un {r1 : DL.D → HD → Post → Prop} : dUn r1 ta W σ G Q = ta W σ G fun d G1 => r1 d G1 Q := propext ⟨fun h => h, fun h => h⟩
theorem q_c : dC d W σ G Q = Q d G := propext ⟨fun h => h, fun h => h⟩
theorem q_cons {R : List DL.D → HD → Prop} : dCons ta ts W σ G R = ta W σ G fun d G1 => ts W σ G1 fun ds G2 => R (d :: ds) G2 := propext ⟨fun h => h, fun h => h⟩
theorem q_nil {R : List DL.D → HD → Prop} : dNil W σ G R = R [] G := propext ⟨fun h => h, fun h => h⟩
theorem q_cb {r : List DL.D → HD → Post → Prop} : dCB r ts W σ G Q = ts W σ G fun ds G1 => r ds G1 Q := propext ⟨fun h => h, fun h => h⟩
theorem q_tup : dTup ts W σ G Q = ts W σ G fun ds G1 => ds.length ≤ 1000 ∧ Q (.tup ds) G1 := propext ⟨fun h => h, fun h => h⟩
theorem q_lst : dLst ts W σ G Q = ts W σ G fun ds G1 => ds.length ≤ 1000 ∧ newL G1 ds Q := propext ⟨fun h => h, fun h => h⟩
theorem q_call {sp : SpD} {dds : List DL.D} : dCall sp dds ts W σ G Q = ts W σ G fun ds G1 => sp (ds ++ dds) G1 Q fun c fs G' => W c fs σ G' := propext ⟨fun h => h, fun h => h⟩
theorem q_sub {to ti te : TD} {r : DL.D → DL.D → DL.D → HD → (HD → Prop) → Prop} : sSub to ti te r W D σ G = te W σ G fun v G1 => to W σ G1 fun o G2 => ti W σ G2 fun i G3 => r o i v G3 fun G4 => D.nx σ G4 := propext ⟨fun h => h, fun h => h⟩
theorem q_not {c : TDT} : dNot c W σ G QB = c W σ G fun b G1 => QB (!b) G1 := propext ⟨fun h => h, fun h => h⟩
theorem q_and {c u : TDT} : dAnd c u W σ G QB = c W σ G fun b G1 => if b = true then u W σ G1 QB else QB false G1 := propext ⟨fun h => h, fun h => h⟩
theorem q_or {c u : TDT} : dOr c u W σ G QB = c W σ G fun b G1 => if b = true then QB true G1 else u W σ G1 QB := propext ⟨fun h => h, fun h => h⟩
theorem q_for {ti : TDI} {tg : Tgt} {u : TDS} : sFor ti tg u W D σ G = ti W σ G fun I G1 => forD I.ok (fun d k σ' G' => tg.put d σ' fun σ2 => u W { D with nx := k, ct := k, bk := D.nx } σ2 G') D.nx I.xs σ G1 := propext ⟨fun h => h, fun h => h⟩
def rng1P (ds : List DL.D) (k : Int → Prop) : Prop := match ds with
  | [.int j] => j < 2 ^ 62 ∧ -(2 ^ 62) ≤ j ∧ k j
  | _ => False
theorem r_rng1P {j : Int} {k : Int → Prop} : rng1P [.int j] k = (j < 2 ^ 62 ∧ -(2 ^ 62) ≤ j ∧ k j) := propext ⟨fun h => h, fun h => h⟩
theorem q_rng1 {R : ItD → HD → Prop} : jRng1 ts W σ G R = ts W σ G fun ds G1 => rng1P ds fun j => R ⟨intsD 0 j.toNat, fun _ => True⟩ G1 := propext ⟨fun h => h, fun h => h⟩
theorem q_if' {c : TDT} : dIf c ta tb W σ G Q = c W σ G fun b G1 => if b = true then ta W σ G1 Q else tb W σ G1 Q := propext ⟨fun h => h, fun h => h⟩
def putP (t : Tgt) (d : DL.D) (σ : DSt) (k : DSt → Prop) : Prop := t.put d σ k
theorem q_put1 {k : DSt → Prop} : (Tgt.one i).put d σ k = k (σ.set i (some d)) := propext ⟨fun h => h, fun h => h⟩
theorem q_putN {is : List Nat} {ds : List DL.D} {k : DSt → Prop} : (Tgt.many is).put (.tup ds) σ k = (ds.length = is.length ∧ k (setAll is ds σ)) := propext ⟨fun h => h, fun h => h⟩
theorem q_slice {tl th : TDO} : dSlice ta tl th W σ G Q = ta W σ G fun d G1 => tl W σ G1 fun lo G2 => th W σ G2 fun hi G3 => rSliceD d lo hi G3 Q := propext ⟨fun h => h, fun h => h⟩
def intP (d : DL.D) (k : Int → Prop) : Prop := match d with
  | .int i => k i
  | _ => False
theorem r_intP {i : Int} {k : Int → Prop} : intP (.int i) k = k i := propext ⟨fun h => h, fun h => h⟩
theorem q_some {R : Option Int → HD → Prop} : oSome ta W σ G R = ta W σ G fun d G1 => intP d fun i => R (some i) G1 := propext ⟨fun h => h, fun h => h⟩
theorem q_none {R : Option Int → HD → Prop} : oNone W σ G R = R none G := propext ⟨fun h => h, fun h => h⟩
theorem q_wpf {n m : Nat} {t : TDS} {ds : List DL.D} {E : DX} : wpf n m t ds G Q E = (ds.length = n ∧ t (fun c fs _ G' => fgX E c fs G') { nx := fun _ G' => fg Q .non G', rt := fg Q } (ds.map some ++ List.replicate m none) G) := propext ⟨fun h => h, fun h => h⟩
end
end DL

namespace DL
open PySem PySem.Spec L2
open PyProof.Rows hiding St
theorem eqO_t2 {G : HD} {a b c d : Int} : eqO G (.tup [.int a, .int b]) (.tup [.int c, .int d]) = some (decide (a = c) && decide (b = d)) := by
  simp only [eqO, pyD, List.mapM_cons, List.mapM_nil]
  simp [PyData.eqv, PyData.eqvAll]
  rfl
theorem r_eqT2 {G : HD} {Q : Post} {a b c d : Int} {n : Bool} : dEq n (.tup [.int a, .int b]) (.tup [.int c, .int d]) G Q = Q (.bl (if n then !(decide (a = c) && decide (b = d)) else (decide (a = c) && decide (b = d)))) G := by simp only [dEq, eqO_t2]
/-- made anew: None must come of __init__ -/
def nonP (k : HD → Prop) : Post := fun d G => match d with
  | .non => k G
  | _ => False
theorem r_nonP {k : HD → Prop} {G : HD} : nonP k .non G = k G := propext ⟨fun h => h, fun h => h⟩
def makP (C : Addr) (sp : SpD) (ds : List D) (G : HD) (Q : Post) (E : DX) : Prop := ∀ p, G p = none → sp (.ref p :: ds) (put G p (.ins C [])) (nonP fun G2 => Q (.ref p) G2) E
theorem q_make {C : Addr} {sp : SpD} {dds : List D} {ts : TDA} {W : DW} {σ : DSt} {G : HD} {Q : Post} : dMake C sp dds ts W σ G Q = ts W σ G fun ds G1 => makP C sp (ds ++ dds) G1 Q fun c fs G' => W c fs σ G' := by
  unfold dMake makP
  congr 1
theorem q_fldg {ok : Addr → Str → Prop} {f : Str} {g : Int → Int → Int} {to tv : TD} {W : DW} {E : DEnds} {σ : DSt} {G : HD} : sFldG ok f g to tv W E σ G = to W σ G fun d G1 => augP ok f g d (fun G2 Q => tv W σ G2 Q) G1 fun G3 => E.nx σ G3 := by
  unfold sFldG augP
  congr 1
theorem aug_in {ok : Addr → Str → Prop} {f : Str} {g : Int → Int → Int} {a C : Addr} {fs : List (Str × D)} {i j : Int} {G : HD} {k : HD → Prop} (h1 : G a = some (.ins C fs)) (hok : ok C f) (h2 : fs.lookup f = some (.int i)) (h3 : fs.length < 1000) (q : k (put G a (.ins C (putD f (.int (g i j)) fs)))) :
    augP ok f g (.ref a) (fun G1 Q => Q (.int j) G1) G k := by
  unfold augP
  simp only [h1, h2]
  exact ⟨hok, by simp only [h3]; exact ⟨trivial, trivial, q⟩⟩
/-- what stands beside a stays -/
def LeX (a : Addr) (G G' : HD) : Prop := ∀ b o, b ≠ a → G b = some o → G' b = some o
theorem LeX.refl {a : Addr} {G : HD} : LeX a G G := fun _ _ _ h => h
theorem LeX.trans {a : Addr} {A B C : HD} (x : LeX a A B) (y : LeX a B C) : LeX a A C := fun b o n h => y b o n (x b o n h)
theorem LeX.put {a : Addr} {G : HD} {o : MO} : LeX a G (put G a o) := fun b u n h => (put_ne n).trans h
theorem LeX.of {a : Addr} {A B : HD} (x : Le A B) : LeX a A B := fun b o _ h => x b o h
theorem ixN2a : ixN 2 0 = some 0 := rfl
theorem ixN2b : ixN 2 1 = some 1 := rfl
theorem ixN1a : ixN 1 0 = some 0 := rfl
theorem ixN4d : ixN 4 3 = some 3 := rfl
/-! Euclid -/
theorem gcd_step (m n : Nat) : Nat.gcd n (m % n) = Nat.gcd m n := by rw [Nat.gcd_comm m n, Nat.gcd_rec n m, Nat.gcd_comm]
end DL

namespace DN
open PySem PySem.Spec PyProof.Rows PySem.SeqAt
section
variable {M : Model} {prog : Program} {w : World} {A : Around} {E : Value → Shared → Prop} {s : Shared} {K : PySem.W.Frag} {x y C f : Addr} {ox : Obj} {od : Option Obj}
theorem ifBound_objNe {args : List Value} {Q : Option Value → Shared → Prop} (X : K.In s.heap) (I : PySem.W.InstAt s.heap x ox C od) (hs : PySem.W.findIn K (.ref C) "__ne__" = some (some (.builtin "object.__ne__")))
    (h : wpAny M A (call (.builtin "object.__ne__") (.ref x :: args)) (fun v => Q (some v)) E s) : wpAny M A (callSpecialIfBound? (.ref x) "__ne__" args) Q E s := by
  simp only [callSpecialIfBound?, bindSpecialIfBound?]
  refine wpAny_holding (wpAny_bind (wpAny_bind (wpAny_bind (I.type.here ((PySem.W.looks_findIn X hs).here ?_)))))
  refine wpAny_bind (wpAny_askSetting (wpAny_ite ?_))
  have fin : wpAny M A (call (.builtin "object.__ne__") ([.ref x] ++ args) >>= fun v => pure (some v)) Q E s := wpAny_bind (wpAny_mono h (fun v s2 h2 => wpAny_pure h2) fun _ _ h2 => h2)
  split
  · exact wpAny_bind (wpAny_of_eq (F.cmp_object.ne.bind _) (wpAny_pure (by exact fin)))
  · exact wpAny_tryCatch (wpAny_bind (wpAny_of_eq (F.cmp_object.ne.bind _) (wpAny_pure (by exact fin))))
theorem entry_ne {Q : Fin → Shared → Prop} (hu : A.units < cLine) (X : K.In s.heap) (I : PySem.W.InstAt s.heap x ox C od) (hs : PySem.W.findIn K (.ref C) "__eq__" = some (some (.ref f))) (hf : PySem.W.isFn K (.ref f) = true)
    (h : wpAny M A (call (.ref f) [.ref x, .ref y]) (fun v s2 => ∃ b, v = .bool b ∧ Q (.done (.ret (.bool (!b)))) s2) E s) : wpAny M A (Builtin.«object.__ne__» ⟨[.ref x, .ref y], []⟩) Q E s := by
  unfold Builtin.«object.__ne__»
  repeat (first
    | with_reducible refine wpAny_cRoomFor hu ?_
    | (refine wpAny_bind (m := callSpecialIfBound? (.ref x) (Str.ofString "__eq__") [.ref y])
        (PySem.W.ifBound_K X I hs hf (wpAny_mono h (fun r s2 hr => by
          obtain ⟨b, rfl, hq⟩ := hr
          repeat (first | exact hq | exact wpAny_pure hq | exact wpAny_truthy_bool hq | (refine wpAny_bind (m := truthy (.bool _)) (wpAny_truthy_bool ?_)) | wp_step)) fun _ _ e => e)))
    | wp_step)
theorem call_objNe {Q : Value → Shared → Prop} (hu : A.units + 1 < cLine) (X : K.In s.heap) (I : PySem.W.InstAt s.heap x ox C od) (hm : PySem.W.mroIn K C (.type "object") = some true) (hs : PySem.W.findIn K (.ref C) "__eq__" = some (some (.ref f))) (hf : PySem.W.isFn K (.ref f) = true)
    (h : wpAny (model prog w) A.in1 (call (.ref f) [.ref x, .ref y]) (fun v s2 => ∃ b, v = .bool b ∧ Q (.bool (!b)) s2) E s) : wpAny (model prog w) A (call (.builtin "object.__ne__") [.ref x, .ref y]) Q E s :=
  wpAny_call (codeAny_call_builtin F.cmp_object.ne.plain F.cmpEntry_ne (PySem.W.check_slot F.cmpKind_ne F.cmpSplit_ne (I.type.andThen (PySem.W.looks_mroIn X hm)) (F.cmpArgs_ne _ _) (entry_ne (A := A.in1) hu X I hs hf (wpAny_mono h (fun v s2 z => by
    obtain ⟨b, e, hq⟩ := z
    exact ⟨b, e, hq⟩) fun _ _ e => e))))
theorem rc_ne {Q : Value → Shared → Prop} {oy : Obj} {oe : Option Obj} (hu : A.units + 1 < cLine) (X : K.In s.heap) (I : PySem.W.InstAt s.heap x ox C od) (J : PySem.W.InstAt s.heap y oy C oe) (hm : PySem.W.mroIn K C (.type "object") = some true) (hs : PySem.W.findIn K (.ref C) "__eq__" = some (some (.ref f))) (hf : PySem.W.isFn K (.ref f) = true)
    (hn : PySem.W.findIn K (.ref C) "__ne__" = some (some (.builtin "object.__ne__"))) (h : wpAny (model prog w) A.in1 (call (.ref f) [.ref x, .ref y]) (fun v s2 => ∃ b, v = .bool b ∧ Q (.bool (!b)) s2) E s) : wpAny (model prog w) A (richCompare .NotEq (.ref x) (.ref y)) Q E s := by
  have one : wpAny (model prog w) A (tryCompare (.ref x) "__ne__" (.ref y)) (fun r s2 => ∃ v, r = some v ∧ Q v s2) E s := by
    unfold tryCompare
    refine wpAny_bind (ifBound_objNe X I hn (call_objNe hu X I hm hs hf (wpAny_mono h (fun v s2 z => ?_) fun _ _ e => e)))
    obtain ⟨b, e, hq⟩ := z
    exact ⟨b, e, wpAny_pure ⟨_, rfl, hq⟩⟩
  unfold richCompare
  simp only [oneThing_ref]
  refine wpAny_holding (wpAny_bind (wpAny_cRoomFor (Nat.lt_of_succ_lt hu) ?_))
  refine wpAny_bind (I.type.here (wpAny_bind (J.type.here ?_)))
  rw [show (Value.ref C != Value.ref C) = false from by simp]
  simp only [Bool.false_eq_true, if_false]
  refine wpAny_bind (wpAny_pure ?_)
  simp only [Bool.false_eq_true, if_false]
  refine wpAny_bind (wpAny_mono one (fun r s2 z => ?_) fun _ _ e => e)
  obtain ⟨v, rfl, hq⟩ := z
  exact wpAny_pure hq
end
end DN
namespace DL
open PySem PySem.Spec L2
open PyProof.Rows hiding St
section
variable {X : Cx} {k j : Nat} {C : Addr} {sp : SpD}
/-- below the body of X, no repr under way -/
structure SubG (X : Cx) (k : Nat) (A : Around) : Prop where
  room : RoomG k A
  fr : A.frames = X.A.frames
theorem takesF : Takes X (fun _ _ _ _ => False) := fun _ _ ⟨_, _, _, _, _, _, _, _, _, _, _, _, _, _, _, _, z⟩ => z.elim
theorem passF {τ : L2.St} : PassesAt (L2.CX X.prog X.w) X τ (fun _ _ _ => False) := fun pins H0 s e s' I c => takesF e s' (XE.of_call I (W := fun _ _ _ _ => False) (fun _ _ _ z => z) c)
/-- an own == called from below the body -/
theorem runE {A : Around} {pins : List (Addr × Obj)} {s : Shared} {G : HD} {H : Hp} {τ : L2.St} {Q : Post} {a b : Addr} {f : Addr} {fd : FuncData} {ps : List Str} (F : FnK X.prog X.w X.K X.mg X.base k f fd ps sp) (sb : SubG X k A) (hb : Binds X.K fd ps [])
    (sm : Sim X.K G H) (I : Inv X pins τ H s) (hl : ps.length = 2) (h : sp [.ref a, .ref b] G Q fun _ _ _ => False) : wpAny (model X.prog X.w) A (call (.ref f) [.ref a, .ref b]) (EP X pins τ (liftQ X.K G H Q)) X.xe s := by
  have e0 : Env0 X.prog X.w X.K X.mg X.base A X.stack s H := by
    have e := I.env0
    exact ⟨by rw [sb.fr]; exact e.frames, e.mod, e.bs, e.bsz, e.funs, e.frf, e.hok, e.bare⟩
  have r2 : Vals [V.ref a, V.ref b] [Value.ref a, Value.ref b] := .cons rfl (.cons rfl .nil)
  have rd : Rps X.K H [.ref a, .ref b] [V.ref a, V.ref b] := ⟨_, _, rfl, rfl, _, _, rfl, rfl, rfl⟩
  refine wpAny_call (codeAny_mono (F.run A X.stack s H ⟨[.ref a, .ref b], []⟩ [.ref a, .ref b] [.ref a, .ref b] (liftQ X.K G H Q) (fun _ _ _ => False) sb.room e0 (by
    have := hb s [.ref a, .ref b] I.kIn (by simp [hl])
    simpa using this) r2 ⟨hl.symm, _, G, Q, fun _ _ _ => False, rd, sm, h, fun _ _ z => z, fun _ _ _ ⟨_, _, _, _, _, z⟩ => z⟩) fun z s' hq => ?_)
  cases z with
  | error e => exact passF pins H s e s' I hq
  | ok fl =>
    cases fl with
    | ret u => exact I.after hq
    | next => exact False.elim hq
    | brk => exact False.elim hq
    | cont => exact False.elim hq
/-- what an own == tells -/
def ownP (neg : Bool) (Q : Post) : Post := fun d G => match d with
  | .bl r => Q (.bl (if neg then !r else r)) G
  | _ => False
def rOwn (X : Cx) (C : Addr) (sp : SpD) (neg : Bool) : R2 := fun x y H Q => ∃ (a b : Addr) (dx dy : Addr) (fs gs : List (Str × V)) (G : HD) (Qd : Post), x = .ref a ∧ y = .ref b ∧ H a = some (.ins C dx fs) ∧ H b = some (.ins C dy gs) ∧ Sim X.K G H ∧ sp [.ref a, .ref b] G (ownP neg Qd) (fun _ _ _ => False) ∧
  ∀ v H', liftQ X.K G H Qd v H' → Q v H'
theorem own_back {neg : Bool} {pins : List (Addr × Obj)} {τ : L2.St} {G : HD} {H : Hp} {Qd : Post} {v : Value} {s' : Shared} (hq : EP X pins τ (liftQ X.K G H (ownP neg Qd)) v s') : ∃ r, v = .bool r ∧ EP X pins τ (liftQ X.K G H Qd) (.bool (if neg then !r else r)) s' := by
  obtain ⟨y, H', I', ry, d, G', rd, sm, x1, q⟩ := hq
  unfold ownP at q
  split at q
  · cases rd
    cases ry
    exact ⟨_, rfl, V.bl _, H', I', rfl, D.bl _, G', rfl, sm, x1, q⟩
  · exact q.elim
theorem op_ownE (F : MetK X.prog X.w X.K X.mg X.base k "__eq__" C sp []) (hr : RoomG k X.A) : OpR X (compareOp .Eq) (rOwn X C sp false) := by
  intro pins s σ H x y v u Q I rx ry hq
  obtain ⟨a, b, dx, dy, fs, gs, G, Qd, rfl, rfl, ha, hb', sm, q, fin⟩ := hq
  cases rx
  cases ry
  obtain ⟨f, fd, ps, dvs, ds, hc, hm, F1, hb, hv, hdd, hlen⟩ := F.ex
  have z1 := (hdd.rel (fun _ => none)).length
  cases dvs with
  | cons _ _ => cases z1
  | nil =>
  cases hv
  obtain ⟨mA, J, _⟩ := ins_get I.hok ha
  obtain ⟨mB, J', _⟩ := ins_get I.hok hb'
  obtain ⟨od, J, _⟩ := J.look
  obtain ⟨od', J', _⟩ := J'.look
  obtain ⟨m, hF⟩ := I.fr
  show wpAny (model X.prog X.w) X.A (richCompare .Eq (.ref a) (.ref b)) (EP X pins σ Q) X.xe s
  refine PySem.W.cmp_K (op := .Eq) (tb := .ref C) hr.toRoom.units0 hF I.ok.mod.kin J J'.type (by simp [PySem.W.notFirst]) hm.at_ hm.fn ?_
  refine wpAny_mono (runE F1 ⟨hr, rfl⟩ hb sm I (hlen _ _ _ _ q).symm q) (fun w s' z => ?_) fun _ _ e => e
  obtain ⟨r, rfl, y, H', I', ry, q'⟩ := own_back z
  exact ⟨y, H', I', ry, fin _ _ q'⟩
theorem op_ownN (F : MetK X.prog X.w X.K X.mg X.base k "__eq__" C sp []) (hr : RoomG (k + 1) X.A) (hn : PySem.W.findIn X.K (.ref C) "__ne__" = some (some (.builtin "object.__ne__"))) (ho : PySem.W.mroIn X.K C (.type "object") = some true) : OpR X (compareOp .NotEq) (rOwn X C sp true) := by
  intro pins s σ H x y v u Q I rx ry hq
  obtain ⟨a, b, dx, dy, fs, gs, G, Qd, rfl, rfl, ha, hb', sm, q, fin⟩ := hq
  cases rx
  cases ry
  obtain ⟨f, fd, ps, dvs, ds, hc, hm, F1, hb, hv, hdd, hlen⟩ := F.ex
  have z1 := (hdd.rel (fun _ => none)).length
  cases dvs with
  | cons _ _ => cases z1
  | nil =>
  cases hv
  obtain ⟨mA, J, _⟩ := ins_get I.hok ha
  obtain ⟨mB, J', _⟩ := ins_get I.hok hb'
  obtain ⟨od, J, _⟩ := J.look
  obtain ⟨od', J', _⟩ := J'.look
  show wpAny (model X.prog X.w) X.A (richCompare .NotEq (.ref a) (.ref b)) (EP X pins σ Q) X.xe s
  refine DN.rc_ne (by have := hr.un; omega) I.kIn J J' ho hm.at_ hm.fn hn ?_
  refine wpAny_mono (runE F1 ⟨hr.in1, rfl⟩ hb sm I (hlen _ _ _ _ q).symm q) (fun w s' z => ?_) fun _ _ e => e
  obtain ⟨r, e, y, H', I', ry, q'⟩ := own_back z
  exact ⟨r, e, y, H', I', ry, fin _ _ q'⟩
/-- == and != of two instances of C by its own __eq__ -/
def dOwn (C : Addr) (sp : SpD) (neg : Bool) : D → D → HD → Post → Prop := fun d e G Q => match d, e with
  | .ref a, .ref b => (∃ fs, G a = some (.ins C fs)) ∧ (∃ fs, G b = some (.ins C fs)) ∧ sp [.ref a, .ref b] G (ownP neg Q) (fun _ _ _ => False)
  | _, _ => False
theorem od_own {neg : Bool} : OpD X.K (rOwn X C sp neg) (dOwn C sp neg) := fun G H d e x y Q Q' s k1 k2 f q => by
  unfold dOwn at q
  split at q
  · rename_i a b
    obtain ⟨⟨fs, h1⟩, ⟨gs, h2⟩, q⟩ := q
    cases k1
    cases k2
    obtain ⟨o1, e1, dx, l1, rfl, _⟩ := s _ _ h1
    obtain ⟨o2, e2, dy, l2, rfl, _⟩ := s _ _ h2
    exact ⟨a, b, dx, dy, l1, l2, G, Q, rfl, rfl, e1, e2, s, q, f⟩
  · exact q.elim
theorem c_ownE (F : MetK X.prog X.w X.K X.mg X.base k "__eq__" C sp []) (hr : RoomG j X.A) (hj : k ≤ j := by decide) : CmpR X .Eq (dOwn C sp false) := ⟨_, op_ownE F (hr.mono hj), od_own⟩
theorem c_ownN (F : MetK X.prog X.w X.K X.mg X.base k "__eq__" C sp []) (hn : PySem.W.findIn X.K (.ref C) "__ne__" = some (some (.builtin "object.__ne__")) ∧ PySem.W.mroIn X.K C (.type "object") = some true) (hr : RoomG j X.A) (hj : k + 1 ≤ j := by decide) : CmpR X .NotEq (dOwn C sp true) := ⟨_, op_ownN F (hr.mono hj) hn.1 hn.2, od_own⟩
end
/-! ### what is gone through -/
def seqO (o : Option MO) (a : Addr) (G : HD) (R : ItD → HD → Prop) : Prop := match o with
  | some (.lst ds) => R ⟨ds, fun G => G a = some (.lst ds)⟩ G
  | _ => False
def seqP (d : D) (G : HD) (R : ItD → HD → Prop) : Prop := match d with
  | .tup ds => R ⟨ds, fun _ => True⟩ G
  | .kl ds => R ⟨ds, fun _ => True⟩ G
  | .kc ds => R ⟨ds, fun _ => True⟩ G
  | .ref a => seqO (G a) a G R
  | _ => False
section
variable {G : HD} {a : Addr} {ds : List D} {R : ItD → HD → Prop} {W : DW} {σ : DSt} {tl : TD}
theorem q_jseq : jSeq tl W σ G R = tl W σ G fun d G1 => seqP d G1 R := by
  unfold jSeq seqP
  congr 1
theorem r_seqT : seqP (.tup ds) G R = R ⟨ds, fun _ => True⟩ G := propext ⟨fun h => h, fun h => h⟩
theorem r_seqK : seqP (.kl ds) G R = R ⟨ds, fun _ => True⟩ G := propext ⟨fun h => h, fun h => h⟩
theorem r_seqC : seqP (.kc ds) G R = R ⟨ds, fun _ => True⟩ G := propext ⟨fun h => h, fun h => h⟩
theorem r_seqR : seqP (.ref a) G R = seqO (G a) a G R := propext ⟨fun h => h, fun h => h⟩
theorem r_seqL : seqO (some (.lst ds)) a G R = R ⟨ds, fun G => G a = some (.lst ds)⟩ G := propext ⟨fun h => h, fun h => h⟩
theorem q_yes {Q : Bool → HD → Prop} : dYes W σ G Q = Q true G := propext ⟨fun h => h, fun h => h⟩
theorem q_lc {ti : TDI} {t : Tgt} {dt : TDT} {te : TD} {vs : List Nat} {Q : Post} : dLc ti t dt te vs W σ G Q = ti W σ G fun I G1 => I.xs.length ≤ 1000000 ∧ lcD I.ok (fun d ky kn G' => t.put d (dwipe σ vs) fun σ2 => dt W0 σ2 G' fun b G2 => if b = true then te W0 σ2 G2 ky else kn G2) (fun acc G2 => newL G2 acc Q) I.xs [] G1 := propext ⟨fun h => h, fun h => h⟩
theorem q_own {C : Addr} {sp : SpD} {n : Bool} {c : Addr} {Q : Post} : dOwn C sp n (.ref a) (.ref c) G Q = ((∃ fs, G a = some (.ins C fs)) ∧ (∃ fs, G c = some (.ins C fs)) ∧ sp [.ref a, .ref c] G (ownP n Q) (fun _ _ _ => False)) := propext ⟨fun h => h, fun h => h⟩
theorem r_ownP {n b : Bool} {Q : Post} : ownP n Q (.bl b) G = Q (.bl (if n then !b else b)) G := propext ⟨fun h => h, fun h => h⟩
end
end DL

namespace DL
open PySem PySem.Spec L2
open PyProof.Rows hiding St
/-! ### raise X('text') -/
/-- an own class without __init__ whose instances are raised -/
structure RaiseF (K : PySem.W.Frag) (mg : Str → Option Value) (x : Str) (C : Addr) : Prop where
  ex : ∃ (bmB : List Value) (B newId initId : String), ExcBaseFacts B newId initId bmB ∧ PySem.W.excIn K C bmB newId = true
  mgC : mg x = some (.ref C)
  kp : PySem.W.keepIn K (.ref C) = true
  sub : PySem.W.subIn K (.ref C) (.type "BaseException") = some true
  ty : PySem.W.typeIn K (.ref C) = some (.type "type")
def sRaise (c : Value) : TDS := fun W _ σ G => W c [] σ G
theorem ds_raise {X : Cx} {C : Addr} {x m : Str} {j : Nat} {p p2 pos pos2 : Pos} (R : RaiseF X.K X.mg x C) (hc : X.calm = true) (hg : Gl X x := by rfl) (hdb : (x == ("__debug__" : Str)) = false := by decide) :
    DS X (.Raise (some (.Call (.Name x p) [.Constant (.str m) j p2] [] pos)) none pos2) (sRaise (.ref C)) := by
  obtain ⟨bmB, B, newId, initId, F, q⟩ := R.ex
  exact ⟨fun G H σ τ W D r z => semS.of (ps_raise hc r.takes (pmk_own F q R.mgC R.kp (raises_own R.sub R.ty) hg hdb)) ⟨σ, [], G, r.slots, rfl, r.sim, .refl, z⟩⟩
/-! ### try: .. except X: .. -/
def sTry (xm : Value → Bool → Prop) (tb ts : TDS) : TDS := fun W D σ G => tb (fun c fs σ' G' => ∃ b, xm c b ∧ (b = true → ts W0 D σ' G') ∧ (b = false → W c fs σ' G')) D σ G
theorem liftD_up {K : PySem.W.Frag} {G G1 : HD} {H H1 : Hp} {D : DEnds} (x : Ext G H G1 H1) : EndsLe (liftD K G1 H1 D) (liftD K G H D) :=
  ⟨fun _ _ ⟨a, b, c, d, y, f⟩ => ⟨a, b, c, d, x.trans y, f⟩, fun _ _ ⟨a, b, c, d, y, f⟩ => ⟨a, b, c, d, x.trans y, f⟩, fun _ _ ⟨a, b, c, d, y, f⟩ => ⟨a, b, c, d, x.trans y, f⟩, fun _ _ ⟨a, b, c, d, y, f⟩ => ⟨a, b, c, d, x.trans y, f⟩⟩
theorem ds_try {X : Cx} {x : Str} {c : Value} {xm : Value → Bool → Prop} {body suite : List Stmt} {b₀ : Stmt} {np pos pos2 : Pos} {tb ts : TDS} (hs : X.stack = X.env :: X.outer) (hf : X.env.frame = some X.env.locals) (hc : Names X x c) (hxm : ∀ u b, xm u b → PySem.W.exmOne X.K u c = some b)
    (hb : ∀ (pn : List (Addr × Obj)) (xe : Value → Shared → Prop), DSs (X.tr pn xe) body tb) (hsu : ∀ (a : Addr) (pn : List (Addr × Obj)), DSs (X.suite a pn) (b₀ :: suite) ts) :
    DS X (.Try body [.ExceptHandler (some (.Name x np)) none (b₀ :: suite) pos2] [] [] pos) (sTry xm tb ts) := ⟨fun G H σ τ W D r q => by
  refine semS.of (ps_try_only (tb := fun W' D' τ' H' => ∀ (pn : List (Addr × Obj)) (xe : Value → Shared → Prop), Takes (X.tr pn xe) W' → semSs (X.tr pn xe) body D' τ' H') (ts := fun a _ _ D' τ' H' => ∀ pn, semSs (X.suite a pn) (b₀ :: suite) D' τ' H')
    hs hf hc r.takes (fun W' pn xe tk _ => ⟨fun pins s σ' H' D' I h => h pn xe tk pins s I⟩) fun a oe cls d pn _ _ => ⟨fun pins s σ' H' D' I h => h _ pins s I⟩) ?_
  intro pn xe tk
  refine (hb pn xe).run G H σ τ _ D ⟨r.sim, r.slots, tk.imp fun cls dd τ' H' hw => ?_⟩ q
  obtain ⟨σ', fs, G', rp, xf, sm, ext, b, hx, hy, hn⟩ := hw
  refine ⟨b, hxm _ _ hx, fun e a ha pn2 => ?_, fun e => ⟨σ', fs, G', rp, xf, sm, ext, hn e⟩⟩
  exact ((hsu a pn2).run G' H' σ' τ' W0 D ⟨sm, rp, takes_w0⟩ (hy e)).imp (liftD_up ext)⟩
/-! ### xs.append(e) -/
def appO (o : Option MO) (a : Addr) (d : D) (G : HD) (Q : Post) : Prop := match o with
  | some (.lst xs) => xs.length < 1000000 ∧ Q .non (put G a (.lst (xs ++ [d])))
  | _ => False
def appP (o d : D) (G : HD) (Q : Post) : Prop := match o with
  | .ref a => appO (G a) a d G Q
  | _ => False
def lstP (o : D) (G : HD) (k : Prop) : Prop := match o with
  | .ref a => (∃ xs, G a = some (.lst xs)) ∧ k
  | _ => False
def dApp (to : TD) (ts : TDA) : TD := fun W σ G Q => to W σ G fun o G1 => lstP o G1 (ts W σ G1 fun ds G2 => match ds with
  | [d] => appP o d G2 Q
  | _ => False)
theorem de_app {X : Cx} {o e : Expr} {to : TD} {ts : TDA} {apos cpos : Pos} (ho : DE X o to) (ha : DA X [e] ts)
    (hbase : attributeBase o "append" X.env (eval o X.env) = eval o X.env := by rfl)
    (hfew : ((backTo cpos (starEach [e] X.env)).all (fun x => !x.1) && (backToKw cpos (keywordEach [] X.env)).all (fun x => x.1.isSome)
      && decide (([e] : List Expr).length + ([] : List Keyword).length + (if ([] : List Keyword).isEmpty then 0 else 1) < 30)) = true := by rfl)
    (hline : (apos.endLine == cpos.line) = true := by rfl) (hs : starEach [e] X.env = (false, eval e X.env) :: starEach [] X.env := by rfl) (hplain : (backTo cpos (starEach [] X.env)).any (·.1) = false := by rfl) :
    DE X (.Call (.Attribute o "append" apos) [e] [] cpos) (dApp to ts) := ⟨fun G H σ τ W Q r q => by
  refine semE.of (pe_bm PySem.F.plainAttrs_list PySem.F.slot_list_append PySem.F.type_list_append mt_append peSem paSem hbase hfew hline hs hplain) ?_
  refine ho.then r q fun d v G1 H1 r1 x1 k1 q1 => ?_
  unfold lstP at q1
  split at q1
  · rename_i a
    obtain ⟨⟨xs, hx⟩, q2⟩ := q1
    cases k1
    obtain ⟨o', e1, vs, rfl, rr⟩ := r1.sim _ _ hx
    refine ⟨.inl ⟨rfl, vs, SqL.of e1⟩, ha.then r1 q2 fun ds us G2 H2 r2 x2 k2 q3 => ?_⟩
    try dsimp only at q3
    split at q3
    · rename_i d
      obtain ⟨w, rfl, kd⟩ := one_of k2
      unfold appP appO at q3
      try dsimp only at q3
      split at q3
      · rename_i ys hy
        obtain ⟨h1, q4⟩ := q3
        obtain ⟨o2, e2, ws, rfl, rr2⟩ := r2.sim _ _ hy
        have hlen : ws.length < sizeLine := by
          rw [rr2.length, sizeLine_eq]; omega
        refine ⟨a, ws, w, rfl, rfl, e2, hlen, ?_⟩
        exact .of (d := .non) rfl (r2.sim.wr (m := .lst (ys ++ [d])) (o := .lst (ws ++ [w])) hy ⟨_, rfl, rr2.app (show Rps X.K H2 [d] [w] from ⟨w, [], rfl, kd, rfl⟩)⟩) ((x1.trans x2).trans (.wr hy)) q4
      · exact q3.elim
    · exact q3.elim
  · exact q1.elim⟩
/-! ### f(k = v, ..), all by names -/
section
variable (X : Cx)
def semK (kws : List Keyword) : TA := fun σ H Q => ∀ (pos : Pos) (pins : List (Addr × Obj)) (s : Shared), Inv X pins σ H s → wpAny (model X.prog X.w) X.A (evalAll ((backToKw pos (keywordEach kws X.env)).map (·.2))) (AP X pins σ Q) X.xe s
end
structure DKw (X : Cx) (kws : List Keyword) (t : TDA) : Prop where
  run : ∀ (G : HD) (H : Hp) (σ : DSt) (τ : L2.St) (W : DW) (Q : List D → HD → Prop), SR X G H σ τ W → t W σ G Q → semK X kws τ H (liftA X.K G H Q)
section
variable {X : Cx} {e : Expr} {te : TD} {t : TDA} {kws : List Keyword} {nm : Option Str} {kpos : Pos}
theorem pkSem : PK X kws (semK X kws) := ⟨fun pos pins s σ H Q I h => h pos pins s I⟩
theorem dkw_nil : DKw X [] dNil := ⟨fun G H σ τ W Q r q pos pins s I => pk_nil.run pos pins s τ H _ I ⟨[], G, rfl, r.sim, .refl, q⟩⟩
theorem dkw_cons (he : DE X e te) (hr : DKw X kws t) : DKw X (⟨nm, e, kpos⟩ :: kws) (dCons te t) := ⟨fun G H σ τ W Q r q pos pins s I =>
  (pk_cons (nm := nm) (kpos := kpos) (t := semK X kws) peSem pkSem).run pos pins s τ H _ I (he.then r q fun d v G1 H1 r1 x1 k1 q1 pos2 pins2 s2 I2 =>
    thn ((hr.run G1 H1 σ τ W _ r1 q1) pos2 pins2 s2 I2) fun us s3 ⟨vs, H2, I3, rv, ds, G2, k2, sm2, x2, q2⟩ => ⟨vs, H2, I3, rv, d :: ds, G2, ⟨v, vs, rfl, k1.ext r1.sim x2 _ _, k2⟩, sm2, x1.trans x2, q2⟩)⟩
end
end DL

namespace DL
open PySem PySem.Spec L2
open PyProof.Rows hiding St
/-- two values, the other way round -/
def swp {α : Type} : List α → List α
  | [a, b] => [b, a]
  | l => l
theorem swp_vals : ∀ {vs : List V} {us : List Value}, Vals vs us → Vals (swp vs) (swp us)
  | _, _, .nil => .nil
  | _, _, .cons a .nil => .cons a .nil
  | _, _, .cons a (.cons b .nil) => .cons b (.cons a .nil)
  | _, _, .cons a (.cons b (.cons c t)) => .cons a (.cons b (.cons c t))
theorem swp_rps {K : PySem.W.Frag} {H : Hp} : ∀ {ds : List D} {vs : List V}, Rps K H ds vs → Rps K H (swp ds) (swp vs)
  | [], _, h => by cases h; exact rfl
  | [_], _, ⟨v, r, e, h1, h2⟩ => by cases h2; subst e; exact ⟨v, [], rfl, h1, rfl⟩
  | [_, _], _, ⟨v, r, e, h1, w, r2, e2, h3, h4⟩ => by cases h4; subst e2; subst e; exact ⟨w, _, rfl, h3, v, [], rfl, h1, rfl⟩
  | _ :: _ :: _ :: _, _, ⟨v, r, e, h1, w, r2, e2, h3, u, r3, e3, h4, h5⟩ => by subst e3; subst e2; subst e; exact ⟨v, _, rfl, h1, w, _, rfl, h3, u, _, rfl, h4, h5⟩
theorem swp_len {α : Type} : ∀ l : List α, (swp l).length = l.length
  | [] => rfl
  | [_] => rfl
  | [_, _] => rfl
  | _ :: _ :: _ :: _ => rfl
/-- a def called by the names of its two parameters, the second one first -/
structure SwpK (P : Program) (w : World) (K : PySem.W.Frag) (mg : Str → Option Value) (base : Heap) (k : Nat) (x : Str) (sp : SpD) (a b : Str) : Prop where
  ex : ∃ (f : Addr) (fd : FuncData), FnK P w K mg base k f fd [a, b] sp ∧ mg x = some (.ref f) ∧ PySem.W.keepIn K (.ref f) = true ∧
    ∀ (s : Shared) (u v : Value), BindsTo s fd ⟨[], [(b, u), (a, v)]⟩ [(a, v), (b, u)]
def dSwp (sp : SpD) (ts : TDA) : TD := fun W σ G Q => ts W σ G fun ds G1 => ds.length = 2 ∧ sp (swp ds) G1 Q fun c fs G' => W c fs σ G'
theorem de_swp {X : Cx} {k j : Nat} {sp : SpD} {x a b : Str} {p pos : Pos} {kws : List Keyword} {tk : TDA} (F : SwpK X.prog X.w X.K X.mg X.base k x sp a b) (hr : RoomG j X.A) (hk : DKw X kws tk) (hj : k ≤ j := by decide) (hg : Gl X x := by rfl)
    (hall : (backToKw pos (keywordEach kws X.env)).all (·.1.isSome) = true := by rfl) (hks : (backToKw pos (keywordEach kws X.env)).filterMap (·.1) = [b, a] := by rfl) (hdb : (x == ("__debug__" : Str)) = false := by decide)
    (hpl : ((backTo pos (starEach [] X.env)).any (·.1) || (backToKw pos (keywordEach kws X.env)).any (·.1.isNone)) = false := by rfl) : DE X (.Call (.Name x p) [] kws pos) (dSwp sp tk) := ⟨fun G H σ τ W Q r q pins s I => by
  obtain ⟨f, fd, F1, hm, hkp, hb⟩ := F.ex
  refine wpAny_Call_Name_kw (ld_glob I hg hm ?_ hdb)
  refine PySem.W.callWith_KW0 (h₀ := X.base) I.ok.mod.kin hkp hall ?_ hpl
  refine thn ((hk.run G H σ τ W _ r q) pos pins s I) fun ws s2 ⟨zs, H2, I2, rz, ds, G1, k1, sm1, x1, hl, q1⟩ => ⟨I2.kIn, ?_⟩
  rw [hks]
  obtain ⟨d1, d2, rfl⟩ : ∃ d1 d2, ds = [d1, d2] := by
    match ds, hl with
    | [d1, d2], _ => exact ⟨d1, d2, rfl⟩
  obtain ⟨v1, _, rfl, kd1, v2, _, rfl, kd2, e2⟩ := k1
  obtain rfl := e2
  obtain ⟨u1, u2, rfl, r1, r2⟩ := vals2 rz
  have hq := runK (es := [d2, d1]) (vs := [v2, v1]) (us := [u2, u1]) F1 (hr.mono hj) (hb s2 u1 u2) (r.ext sm1 x1) I2 (.cons r2 (.cons r1 .nil)) ⟨v2, _, rfl, kd2, v1, [], rfl, kd1, rfl⟩ rfl q1
  refine wpAny_call (codeAny_mono hq fun z s3 hz => ?_)
  cases z with
  | error e => exact hz
  | ok fl =>
    cases fl with
    | ret u =>
      obtain ⟨v, H3, I3, l2, q2⟩ := hz
      exact ⟨v, H3, I3, l2, q2.up x1⟩
    | next => exact False.elim hz
    | brk => exact False.elim hz
    | cont => exact False.elim hz⟩
/-- {} -/
def dDic : TD := fun _ _ G Q => ∀ p, G p = none → Q (.ref p) (put G p (.dK []))
theorem de_dic {X : Cx} {pos : Pos} : DE X (.Dict [] [] pos) dDic := ⟨fun G H σ τ W Q r q => semE.of pe_dnewK fun p hp => .of (d := .ref p) rfl (r.sim.newM (m := .dK []) hp ⟨[], rfl, rfl⟩) (.newM hp) (q p (r.sim.no hp))⟩
theorem exm_of {K : PySem.W.Frag} {S Y : Addr} {b : Bool} (h1 : PySem.W.subIn K (.ref S) (.type "BaseException") = some true) (h2 : PySem.W.isClsIn K S = true) (h3 : PySem.W.typeIn K (.ref S) = some (.type "type")) (h4 : PySem.W.subIn K (.ref Y) (.ref S) = some b) : PySem.W.exmOne K (.ref Y) (.ref S) = some b := by
  have z : (PySem.W.clsIn K S).isSome = true := h2
  unfold PySem.W.exmOne PySem.W.kitCls
  simp [h1, h3, h4, z]
end DL

namespace DL
open PySem PySem.Spec L2
open PyProof.Rows hiding St
/-! ### is, is not: of None, of truths -/
def dIsX (neg : Bool) : D → D → HD → Post → Prop := fun d e G Q => match d, e with
  | .bl a, .bl b => Q (.bl (if neg then !decide (a = b) else decide (a = b))) G
  | d, e => dIsN neg d e G Q
theorem od_isX {X : Cx} : OpD X.K (fun x y H Q => (y = .non ∧ Q (.bl (decide (x = .non))) H) ∨ ∃ a b, x = .bl a ∧ y = .bl b ∧ Q (.bl (decide (a = b))) H) (dIsX false) := fun G H d e x y Q Q' s k1 k2 f q => by
  unfold dIsX at q
  split at q
  · cases k1; cases k2
    exact .inr ⟨_, _, rfl, rfl, f _ _ (.of (d := .bl _) rfl s .refl q)⟩
  · exact .inl (od_isN X.K G H d e x y Q Q' s k1 k2 f q)
theorem od_isXn {X : Cx} {r : R2} (h : OpD X.K r (dIsN true)) : OpD X.K (fun x y H Q => r x y H Q ∨ ∃ a b, x = .bl a ∧ y = .bl b ∧ Q (.bl (!decide (a = b))) H) (dIsX true) := fun G H d e x y Q Q' s k1 k2 f q => by
  unfold dIsX at q
  split at q
  · cases k1; cases k2
    exact .inr ⟨_, _, rfl, rfl, f _ _ (.of (d := .bl _) rfl s .refl q)⟩
  · exact .inl (h G H d e x y Q Q' s k1 k2 f q)
theorem c_isX {X : Cx} (hu : X.A.units + 64 < cLine) : CmpR X .Is (dIsX false) := ⟨_, op_isN.or op_is_bl, od_isX⟩
theorem c_isnotX {X : Cx} (hu : X.A.units + 64 < cLine) : CmpR X .IsNot (dIsX true) := ⟨_, op_notN.or op_isnot_bl, od_isXn (od_notN X.K)⟩
theorem r_isXB {neg a b : Bool} {G : HD} {Q : Post} : dIsX neg (.bl a) (.bl b) G Q = Q (.bl (if neg then !decide (a = b) else decide (a = b))) G := propext ⟨fun h => h, fun h => h⟩
theorem r_isXN {neg : Bool} {d : D} {G : HD} {Q : Post} : dIsX neg d .non G Q = Q (.bl (if neg then !isNon d else isNon d)) G := by
  unfold dIsX
  split
  · rename_i z; cases z
  · exact r_isN
end DL

namespace DL
open PySem PySem.Spec L2
open PyProof.Rows hiding St
/-! ### dicts with keys that are ints, texts -/
def kD : D → Option Key
  | .int i => some (.inl i)
  | .str x => some (.inr x)
  | _ => none
theorem kD_rp {K : PySem.W.Frag} {H : Hp} {d : D} {k : Key} {v : V} (h : kD d = some k) (r : Rp K H d v) : v = kV k := by
  cases d with
  | int i => cases h; cases r; rfl
  | str x => cases h; cases r; rfl
  | _ => cases h
def valD : List (Key × D) → Key → Option D
  | [], _ => none
  | p :: r, k => if p.1 = k then some p.2 else valD r k
def hasD (l : List (Key × D)) (k : Key) : Bool := l.any fun p => decide (p.1 = k)
def putKD (l : List (Key × D)) (k : Key) (d : D) : List (Key × D) := if hasD l k = true then l.map (fun p => if p.1 = k then (p.1, d) else p) else l ++ [(k, d)]
section
variable {K : PySem.W.Frag} {H : Hp} {k : Key}
theorem RKV.val : ∀ {l : List (Key × D)} {m : List (Key × V)}, RKV K H l m → (valD l k = none ∧ valV m k = none) ∨ ∃ d v, valD l k = some d ∧ valV m k = some v ∧ Rp K H d v
  | [], _, h => by cases h; exact .inl ⟨rfl, rfl⟩
  | p :: r, _, h => by
    obtain ⟨v, t, rfl, h1, h2⟩ := h
    by_cases e : p.1 = k
    · exact .inr ⟨p.2, v, if_pos e, valV_pos e, h1⟩
    · have e1 : valD (p :: r) k = valD r k := if_neg e
      have e2 : valV ((p.1, v) :: t) k = valV t k := valV_neg e
      rw [e1, e2]
      exact RKV.val h2
theorem RKV.has : ∀ {l : List (Key × D)} {m : List (Key × V)}, RKV K H l m → (m.any fun p => decide (p.1 = k)) = hasD l k
  | [], _, h => by cases h; rfl
  | p :: r, _, h => by
    obtain ⟨v, t, rfl, h1, h2⟩ := h
    show (decide (p.1 = k) || t.any _) = (decide (p.1 = k) || hasD r k)
    rw [RKV.has h2]
theorem RKV.len : ∀ {l : List (Key × D)} {m : List (Key × V)}, RKV K H l m → m.length = l.length
  | [], _, h => by cases h; rfl
  | p :: r, _, h => by
    obtain ⟨v, t, rfl, h1, h2⟩ := h
    show t.length + 1 = r.length + 1
    rw [RKV.len h2]
theorem RKV.over {d : D} {v : V} (q : Rp K H d v) : ∀ {l : List (Key × D)} {m : List (Key × V)}, RKV K H l m → RKV K H (l.map fun p => if p.1 = k then (p.1, d) else p) (m.map fun p => if p.1 = k then (p.1, v) else p)
  | [], _, h => by cases h; exact rfl
  | p :: r, _, h => by
    obtain ⟨w, t, rfl, h1, h2⟩ := h
    simp only [List.map_cons]
    by_cases e : p.1 = k
    · rw [if_pos e, if_pos e]
      exact ⟨v, _, rfl, q, RKV.over q h2⟩
    · rw [if_neg e, if_neg e]
      exact ⟨w, _, rfl, h1, RKV.over q h2⟩
theorem RKV.more {d : D} {v : V} (q : Rp K H d v) : ∀ {l : List (Key × D)} {m : List (Key × V)}, RKV K H l m → RKV K H (l ++ [(k, d)]) (m ++ [(k, v)])
  | [], _, h => by cases h; exact ⟨v, [], rfl, q, rfl⟩
  | p :: r, _, h => by
    obtain ⟨w, t, rfl, h1, h2⟩ := h
    exact ⟨w, _, rfl, h1, RKV.more q h2⟩
theorem RKV.putK2 {d : D} {v : V} {l : List (Key × D)} {m : List (Key × V)} (h : RKV K H l m) (q : Rp K H d v) : RKV K H (putKD l k d) (putK m k v) := by
  unfold putKD putK
  rw [h.has]
  split
  · exact h.over q
  · exact h.more q
end
/-- d[k] -/
def dkO (o : Option MO) (k : Option Key) (G : HD) (Q : Post) : Prop := match o, k with
  | some (.dK l), some k => optP (valD l k) G Q
  | some (.fz _ (.dK _) (.dK l)), some k => optP (valD l k) G Q
  | _, _ => False
def dkP (o k : D) (G : HD) (Q : Post) : Prop := match o with
  | .ref a => dkO (G a) (kD k) G Q
  | _ => False
def dDGet (td tk : TD) : TD := fun W σ G Q => td W σ G fun o G1 => tk W σ G1 fun k G2 => dkP o k G2 Q
/-- k in d -/
def inO (neg : Bool) (o : Option MO) (k : Option Key) (G : HD) (Q : Post) : Prop := match o, k with
  | some (.dK l), some k => Q (.bl (if neg then !(valD l k).isSome else (valD l k).isSome)) G
  | some (.fz _ (.dK _) (.dK l)), some k => Q (.bl (if neg then !(valD l k).isSome else (valD l k).isSome)) G
  | _, _ => False
def inP (neg : Bool) (k o : D) (G : HD) (Q : Post) : Prop := match o with
  | .ref a => inO neg (G a) (kD k) G Q
  | _ => False
def dDIn (neg : Bool) (tk td : TD) : TD := fun W σ G Q => tk W σ G fun k G1 => td W σ G1 fun o G2 => inP neg k o G2 Q
/-- d[k] = v -/
def dpO (o : Option MO) (a : Addr) (k : Option Key) (v : D) (G : HD) (Q : HD → Prop) : Prop := match o, k with
  | some (.dK l), some k => l.length < 1000000 ∧ Q (put G a (.dK (putKD l k v)))
  | _, _ => False
def dpP (o k v : D) (G : HD) (Q : HD → Prop) : Prop := match o with
  | .ref a => dpO (G a) a (kD k) v G Q
  | _ => False
def sDict (td tk tv : TD) : TDS := fun W E σ G => tv W σ G fun v G1 => td W σ G1 fun o G2 => tk W σ G2 fun k G3 => dpP o k v G3 fun G4 => E.nx σ G4
section
variable {X : Cx} {o i e : Expr} {td tk tv : TD} {pos pos2 : Pos}
theorem fz_at0 {K : PySem.W.Frag} {G2 : HD} {H2 : Hp} {a : Addr} {ob : Obj} {m : List (Key × V)} {l : List (Key × D)} (s2 : Sim K G2 H2) (h2 : G2 a = some (.fz ob (.dK m) (.dK l))) : L2.Rd H2 a (.dK m) ∧ RKV K H2 l m := by
  obtain ⟨o, e1, e2, e3, _⟩ := s2 _ _ h2
  subst e2
  obtain ⟨m', e4, e5⟩ := e3
  cases e4
  exact ⟨.inr ⟨_, e1⟩, e5⟩
theorem dk_at {G : HD} {H : Hp} {od kd : D} {x y : V} {Q : Post} (s : Sim X.K G H) (r1 : Rp X.K H od x) (r2 : Rp X.K H kd y) (q : dkP od kd G Q) : ∃ a l m k, x = .ref a ∧ y = kV k ∧ L2.Rd H a (.dK m) ∧ RKV X.K H l m ∧ optP (valD l k) G Q := by
  unfold dkP at q
  split at q
  · rename_i a
    cases r1
    unfold dkO at q
    split at q
    · rename_i l k e1 e2
      obtain ⟨m, h1, h2⟩ := s.dK e1
      exact ⟨a, l, m, k, rfl, kD_rp e2 r2, .of h1, h2, q⟩
    · rename_i l k e1 e2
      obtain ⟨h1, h2⟩ := fz_at0 s e1
      exact ⟨a, l, _, k, rfl, kD_rp e2 r2, h1, h2, q⟩
    · exact q.elim
  · exact q.elim
theorem de_dget (hu : X.A.units + 64 < cLine) (ho : DE X o td) (hi : DE X i tk) (hs : NoSl i := by intro _ _; rfl) : DE X (.Subscript o i pos) (dDGet td tk) := ⟨fun G H σ τ W Q r q =>
  semE.of (pe_dget (by omega) peSem peSem hs) (ho.then r q fun d x G1 H1 r1 x1 k1 q1 => hi.then r1 q1 fun kd y G2 H2 r2 x2 k2 q2 => by
    obtain ⟨a, l, m, k, rfl, rfl, e2, e3, q3⟩ := dk_at r2.sim (k1.ext r1.sim x2 _ _) k2 q2
    rcases e3.val (k := k) with ⟨z, _⟩ | ⟨d2, v2, z1, z2, z3⟩
    · rw [z] at q3; exact q3.elim
    · rw [z1] at q3
      refine ⟨a, v2, rfl, ?_, .of z3 r2.sim (x1.trans x2) q3⟩
      rw [← z2]
      exact .inl ⟨m, k, e2, rfl, rfl⟩)⟩
theorem in_at {neg : Bool} {G : HD} {H : Hp} {od kd : D} {x y : V} {Q : Post} (s : Sim X.K G H) (r1 : Rp X.K H od x) (r2 : Rp X.K H kd y) (q : inP neg kd od G Q) : ∃ a l m k, x = .ref a ∧ y = kV k ∧ L2.Rd H a (.dK m) ∧ RKV X.K H l m ∧ Q (.bl (if neg then !(valD l k).isSome else (valD l k).isSome)) G := by
  unfold inP at q
  split at q
  · rename_i a
    cases r1
    unfold inO at q
    split at q
    · rename_i l k e1 e2
      obtain ⟨m, h1, h2⟩ := s.dK e1
      exact ⟨a, l, m, k, rfl, kD_rp e2 r2, .of h1, h2, q⟩
    · rename_i l k e1 e2
      obtain ⟨h1, h2⟩ := fz_at0 s e1
      exact ⟨a, l, _, k, rfl, kD_rp e2 r2, h1, h2, q⟩
    · exact q.elim
  · exact q.elim
theorem val_is {K : PySem.W.Frag} {H : Hp} {k : Key} {l : List (Key × D)} {m : List (Key × V)} (h : RKV K H l m) : (valV m k).isSome = (valD l k).isSome := by
  rcases h.val (k := k) with ⟨z, y⟩ | ⟨d2, v2, z1, z2, z3⟩
  · rw [z, y]; rfl
  · rw [z1, z2]; rfl
theorem c_din (hu : X.A.units + 64 < cLine) : CmpR X .In (fun k o G Q => inP false k o G Q) := ⟨fun x y H Q => ∃ a o, y = .ref a ∧ DGet H a x o ∧ Q (.bl o.isSome) H, fun pins s σ H x y v u Q I rx ry h => by
  obtain ⟨a, o, rfl, g, q⟩ := h
  cases ry
  exact d_in (by omega) I g rx fun s3 I3 => ⟨.bl o.isSome, H, I3, rfl, q⟩, fun G H d e x y Q Q' s k1 k2 f q => by
  obtain ⟨a, l, m, k, rfl, rfl, e2, e3, q3⟩ := in_at s k2 k1 q
  refine ⟨a, _, rfl, .inl ⟨m, k, e2, rfl, rfl⟩, ?_⟩
  rw [val_is e3]
  exact f _ _ (.of (d := .bl _) rfl s .refl q3)⟩
theorem c_dnotin (hu : X.A.units + 64 < cLine) : CmpR X .NotIn (fun k o G Q => inP true k o G Q) := ⟨fun x y H Q => ∃ a o, y = .ref a ∧ DGet H a x o ∧ Q (.bl (!o.isSome)) H, fun pins s σ H x y v u Q I rx ry h => by
  obtain ⟨a, o, rfl, g, q⟩ := h
  cases ry
  exact d_notIn (by omega) I g rx fun s3 I3 => ⟨.bl (!o.isSome), H, I3, rfl, q⟩, fun G H d e x y Q Q' s k1 k2 f q => by
  obtain ⟨a, l, m, k, rfl, rfl, e2, e3, q3⟩ := in_at s k2 k1 q
  refine ⟨a, _, rfl, .inl ⟨m, k, e2, rfl, rfl⟩, ?_⟩
  rw [val_is e3]
  exact f _ _ (.of (d := .bl _) rfl s .refl q3)⟩
theorem ds_dict (hu : X.A.units + 64 < cLine) (ho : DE X o td) (hi : DE X i tk) (hv : DE X e tv) (hs : swapsWith e (some (.Subscript o i pos2)) pos.line X.env = pure false := by rfl) : DS X (.Assign [.Subscript o i pos2] e pos) (sDict td tk tv) := ⟨fun G H σ τ W E r q =>
  semS.of (ps_dput (by omega) peSem peSem peSem hs) (hv.then r q fun v r0 G1 H1 r1 x1 k1 q1 => ho.then r1 q1 fun d x G2 H2 r2 x2 k2 q2 => hi.then r2 q2 fun kd y G3 H3 r3 x3 k3 q3 => by
    have k2' := k2.ext r2.sim x3 _ _
    have k1' := (k1.ext r1.sim x2 _ _).ext r2.sim x3 _ _
    unfold dpP at q3
    split at q3
    · rename_i a
      cases k2'
      unfold dpO at q3
      split at q3
      · rename_i l k e1 e2
        obtain ⟨hl, q4⟩ := q3
        obtain ⟨m, h1, h2⟩ := r3.sim.dK e1
        have ey := kD_rp e2 k3
        subst ey
        refine ⟨a, _, rfl, .k h1 (by rw [h2.len, sizeLine_eq]; omega), σ, _, ?_, r3.sim.wr (m := .dK (putKD l k v)) (o := .dK (putK m k r0)) e1 ⟨_, rfl, h2.putK2 k1'⟩, ((x1.trans x2).trans x3).trans (.wr e1), q4⟩
        exact r3.slots.ext r3.sim (.wr (m := .dK (putKD l k v)) e1) _ _
      · exact q3.elim
    · exact q3.elim)⟩
end
end DL

namespace DL
open PySem PySem.Spec L2
open PyProof.Rows hiding St
/-! ### d.get(k), d.get(k, z), d.pop(k, z) -/
def dictP (o : D) (G : HD) (k : Prop) : Prop := match o with
  | .ref a => (∃ l, G a = some (.dK l)) ∧ k
  | _ => False
def getO (o : Option MO) (k : Option Key) (z : D) (G : HD) (Q : Post) : Prop := match o, k with
  | some (.dK l), some k => Q ((valD l k).getD z) G
  | _, _ => False
def getP (o k z : D) (G : HD) (Q : Post) : Prop := match o with
  | .ref a => getO (G a) (kD k) z G Q
  | _ => False
def dGet1 (td tk : TD) : TD := fun W σ G Q => td W σ G fun o G1 => dictP o G1 (tk W σ G1 fun k G2 => getP o k .non G2 Q)
def dGet2 (td tk tz : TD) : TD := fun W σ G Q => td W σ G fun o G1 => dictP o G1 (tk W σ G1 fun k G2 => tz W σ G2 fun z G3 => getP o k z G3 Q)
def dropKD (l : List (Key × D)) (k : Key) : List (Key × D) := l.filter fun p => decide (p.1 ≠ k)
def popO (o : Option MO) (a : Addr) (k : Option Key) (z : D) (G : HD) (Q : Post) : Prop := match o, k with
  | some (.dK l), some k => (∀ v, valD l k = some v → Q v (put G a (.dK (dropKD l k)))) ∧ (valD l k = none → Q z G)
  | _, _ => False
def popP (o k z : D) (G : HD) (Q : Post) : Prop := match o with
  | .ref a => popO (G a) a (kD k) z G Q
  | _ => False
def dPop2 (td tk tz : TD) : TD := fun W σ G Q => td W σ G fun o G1 => dictP o G1 (tk W σ G1 fun k G2 => tz W σ G2 fun z G3 => popP o k z G3 Q)
section
variable {K : PySem.W.Frag} {H : Hp} {k : Key}
theorem RKV.getD {l : List (Key × D)} {m : List (Key × V)} {d : D} {v : V} (h : RKV K H l m) (r : Rp K H d v) : Rp K H ((valD l k).getD d) ((valV m k).getD v) := by
  rcases h.val (k := k) with ⟨z, y⟩ | ⟨d2, v2, z1, z2, z3⟩
  · rw [z, y]; exact r
  · rw [z1, z2]; exact z3
theorem RKV.drop : ∀ {l : List (Key × D)} {m : List (Key × V)}, RKV K H l m → RKV K H (dropKD l k) (dropK m k)
  | [], _, h => by cases h; exact rfl
  | p :: r, _, h => by
    obtain ⟨v, t, rfl, h1, h2⟩ := h
    unfold dropKD dropK
    by_cases e : p.1 = k
    · rw [List.filter_cons_of_neg (by simp [e]), List.filter_cons_of_neg (by simp [e])]
      exact RKV.drop h2
    · rw [List.filter_cons_of_pos (by simp [e]), List.filter_cons_of_pos (by simp [e])]
      exact ⟨v, _, rfl, h1, RKV.drop h2⟩
end
section
variable {X : Cx} {o e f : Expr} {td tk tz : TD} {apos cpos : Pos}
theorem de_get1 (hu : X.A.units + 64 < cLine) (ho : DE X o td) (he : DE X e tk) (m : M1 X o "get" apos e cpos) : DE X (.Call (.Attribute o "get" apos) [e] [] cpos) (dGet1 td tk) := ⟨fun G H σ τ W Q r q =>
  semE.of (pe_dget1 (by omega) peSem peSem m) (ho.then r q fun d x G1 H1 r1 x1 k1 q1 => by
    unfold dictP at q1
    split at q1
    · rename_i a
      obtain ⟨⟨l, hl⟩, q2⟩ := q1
      cases k1
      obtain ⟨m1, e1, _⟩ := r1.sim.dK hl
      refine ⟨a, rfl, .inl ⟨_, .inl e1⟩, he.then r1 q2 fun kd y G2 H2 r2 x2 k2 q3 => ?_⟩
      unfold getP getO at q3
      try dsimp only at q3
      split at q3
      · rename_i l2 k e2 e3
        obtain ⟨m2, h1, h2⟩ := r2.sim.dK e2
        have ey := kD_rp e3 k2
        subst ey
        exact ⟨_, .k h1, .of (h2.getD (d := .non) (v := .non) rfl) r2.sim (x1.trans x2) q3⟩
      · exact q3.elim
    · exact q1.elim)⟩
theorem de_get2 (hu : X.A.units + 64 < cLine) (ho : DE X o td) (he : DE X e tk) (hf : DE X f tz) (m : M2 X o "get" apos e f cpos) : DE X (.Call (.Attribute o "get" apos) [e, f] [] cpos) (dGet2 td tk tz) := ⟨fun G H σ τ W Q r q =>
  semE.of (pe_dget2 (by omega) peSem peSem peSem m) (ho.then r q fun d x G1 H1 r1 x1 k1 q1 => by
    unfold dictP at q1
    split at q1
    · rename_i a
      obtain ⟨⟨l, hl⟩, q2⟩ := q1
      cases k1
      obtain ⟨m1, e1, _⟩ := r1.sim.dK hl
      refine ⟨a, rfl, .inl ⟨_, .inl e1⟩, he.then r1 q2 fun kd y G2 H2 r2 x2 k2 q3 => hf.then r2 q3 fun zd z G3 H3 r3 x3 k3 q4 => ?_⟩
      unfold getP getO at q4
      try dsimp only at q4
      split at q4
      · rename_i l2 k e2 e3
        obtain ⟨m2, h1, h2⟩ := r3.sim.dK e2
        have ey := kD_rp e3 k2
        subst ey
        exact ⟨_, .k h1, .of (h2.getD k3) r3.sim ((x1.trans x2).trans x3) q4⟩
      · exact q4.elim
    · exact q1.elim)⟩
theorem de_pop2 (ho : DE X o td) (he : DE X e tk) (hf : DE X f tz) (m : M2 X o "pop" apos e f cpos) : DE X (.Call (.Attribute o "pop" apos) [e, f] [] cpos) (dPop2 td tk tz) := ⟨fun G H σ τ W Q r q =>
  semE.of (pe_dpop2 peSem peSem peSem m) (ho.then r q fun d x G1 H1 r1 x1 k1 q1 => by
    unfold dictP at q1
    split at q1
    · rename_i a
      obtain ⟨⟨l, hl⟩, q2⟩ := q1
      cases k1
      obtain ⟨m1, e1, _⟩ := r1.sim.dK hl
      refine ⟨a, rfl, .inl ⟨_, .inl e1⟩, he.then r1 q2 fun kd y G2 H2 r2 x2 k2 q3 => hf.then r2 q3 fun zd z G3 H3 r3 x3 k3 q4 => ?_⟩
      unfold popP popO at q4
      try dsimp only at q4
      split at q4
      · rename_i l2 k e2 e3
        obtain ⟨m2, h1, h2⟩ := r3.sim.dK e2
        have ey := kD_rp e3 k2
        subst ey
        refine ⟨m2, k, h1, rfl, fun v hv => ?_, fun hv => ?_⟩
        · rcases h2.val (k := k) with ⟨z0, y0⟩ | ⟨d2, v2, z1, z2, z3⟩
          · rw [y0] at hv; cases hv
          · rw [z2] at hv
            cases hv
            exact .of (z3.ext r3.sim (.wr (m := .dK (dropKD l2 k)) e2) _ _) (r3.sim.wr (m := .dK (dropKD l2 k)) (o := .dK (dropK m2 k)) e2 ⟨_, rfl, h2.drop⟩) (((x1.trans x2).trans x3).trans (.wr e2)) (q4.1 _ z1)
        · rcases h2.val (k := k) with ⟨z0, y0⟩ | ⟨d2, v2, z1, z2, z3⟩
          · exact .of k3 r3.sim ((x1.trans x2).trans x3) (q4.2 z0)
          · rw [z2] at hv; cases hv
      · exact q4.elim
    · exact q1.elim)⟩
end
end DL

namespace DL
open PySem PySem.Spec L2
open PyProof.Rows hiding St
/-! ### sorted(ints) -/
def rSortD : List D → HD → Post → Prop := fun ds G Q => match ds with
  | [d] => match asL G d with
    | some es => match asInts es with
      | some ns => ns.length < 64 ∧ ∀ ms : List Int, ms.Perm ns → ms.Pairwise (· ≤ ·) → newL G (ms.map D.int) Q
      | none => False
    | none => False
  | _ => False
theorem cd_sort (K : PySem.W.Frag) : CallD K (L2.rSorted K) rSortD := fun G H ds vs Q Q' s k f q => by
  unfold rSortD at q
  split at q
  · obtain ⟨v, rfl, kd⟩ := one_of k
    split at q
    · rename_i es e1
      split at q
      · rename_i ns e2
        obtain ⟨a, rfl, t⟩ := intsL s kd e1 e2
        exact ⟨a, ns, rfl, t, q.1, fun ms p h1 h2 h3 => newL.fin s (Rps.ofInts ms) f (q.2 ms h1 h2) p h3⟩
      · exact q.elim
    · exact q.elim
  · exact q.elim
theorem bc_sort {X : Cx} {p pos : Pos} {e : Expr} {ts : TDA} (hm : X.mg "sorted" = none) (ha : DA X [e] ts) (hg : Gl X "sorted" := by rfl) (he : starEach [e] X.env = (false, eval e X.env) :: starEach [] X.env := by rfl) : DE X (.Call (.Name "sorted" p) [e] [] pos) (dCB rSortD ts) :=
  de_cb cr_sorted (cd_sort X.K) hm (by decide +kernel) ha hg (by decide) (by decide) he (by rfl)
end DL

namespace DL
open PySem PySem.Spec L2
open PyProof.Rows hiding St
/-! ### d.setdefault(k, z) -/
def sdfO (o : Option MO) (a : Addr) (k : Option Key) (z : D) (G : HD) (Q : Post) : Prop := match o, k with
  | some (.dK l), some k => l.length < 1000000 ∧ (∀ v, valD l k = some v → Q v G) ∧ (valD l k = none → Q z (put G a (.dK (putKD l k z))))
  | _, _ => False
def sdfP (o k z : D) (G : HD) (Q : Post) : Prop := match o with
  | .ref a => sdfO (G a) a (kD k) z G Q
  | _ => False
def dSetd (td tk tz : TD) : TD := fun W σ G Q => td W σ G fun o G1 => dictP o G1 (tk W σ G1 fun k G2 => tz W σ G2 fun z G3 => sdfP o k z G3 Q)
theorem de_setd {X : Cx} {o e f : Expr} {td tk tz : TD} {apos cpos : Pos} (ho : DE X o td) (he : DE X e tk) (hf : DE X f tz) (m : M2 X o "setdefault" apos e f cpos) : DE X (.Call (.Attribute o "setdefault" apos) [e, f] [] cpos) (dSetd td tk tz) := ⟨fun G H σ τ W Q r q =>
  semE.of (pe_dsetd peSem peSem peSem m) (ho.then r q fun d x G1 H1 r1 x1 k1 q1 => by
    unfold dictP at q1
    split at q1
    · rename_i a
      obtain ⟨⟨l, hl⟩, q2⟩ := q1
      cases k1
      obtain ⟨m1, e1, _⟩ := r1.sim.dK hl
      refine ⟨a, rfl, .inl ⟨_, .inl e1⟩, he.then r1 q2 fun kd y G2 H2 r2 x2 k2 q3 => hf.then r2 q3 fun zd z G3 H3 r3 x3 k3 q4 => ?_⟩
      unfold sdfP sdfO at q4
      try dsimp only at q4
      split at q4
      · rename_i l2 k e2 e3
        obtain ⟨m2, h1, h2⟩ := r3.sim.dK e2
        have ey := kD_rp e3 (k2.ext r2.sim x3 _ _)
        subst ey
        refine ⟨m2, k, h1, rfl, by rw [h2.len, sizeLine_eq]; omega, fun v hv => ?_, fun hv => ?_⟩
        · rcases h2.val (k := k) with ⟨z0, y0⟩ | ⟨d2, v2, z1, z2, z3⟩
          · rw [y0] at hv; cases hv
          · rw [z2] at hv
            cases hv
            exact .of z3 r3.sim ((x1.trans x2).trans x3) (q4.2.1 _ z1)
        · rcases h2.val (k := k) with ⟨z0, y0⟩ | ⟨d2, v2, z1, z2, z3⟩
          · exact .of (k3.ext r3.sim (.wr (m := .dK (putKD l2 k zd)) e2) _ _) (r3.sim.wr (m := .dK (putKD l2 k zd)) (o := .dK (putK m2 k z)) e2 ⟨_, rfl, h2.putK2 k3⟩) (((x1.trans x2).trans x3).trans (.wr e2)) (q4.2.2 z0)
          · rw [z2] at hv; cases hv
      · exact q4.elim
    · exact q1.elim)⟩
end DL

namespace DL
open PySem PySem.Spec L2
open PyProof.Rows hiding St
/-! ### a dict that stands still while a statement runs -/
def lockD (d : Addr) (ob : Obj) (w : HO) (l : List (Key × D)) (E : DEnds) : DEnds :=
  { nx := fun σ G => G d = some (.fz ob w (.dK l)) ∧ E.nx σ (put G d (.dK l)), rt := fun v G => G d = some (.fz ob w (.dK l)) ∧ E.rt v (put G d (.dK l)),
    bk := fun σ G => G d = some (.fz ob w (.dK l)) ∧ E.bk σ (put G d (.dK l)), ct := fun σ G => G d = some (.fz ob w (.dK l)) ∧ E.ct σ (put G d (.dK l)) }
def sLock (t : TDS) : TDS := fun W E σ G => ∃ d l, G d = some (.dK l) ∧ ∀ (ob : Obj) (m : List (Key × V)), t W (lockD d ob (.dK m) l E) σ (put G d (.fz ob (.dK m) (.dK l)))
section
variable {K : PySem.W.Frag} {G G' : HD} {H H' : Hp} {d : Addr} {ob : Obj} {m : List (Key × V)} {l : List (Key × D)}
theorem unlock (sm : Sim K G' H') (hG : G' d = some (.fz ob (.dK m) (.dK l))) : H' d = some (.frz ob (.dK m)) ∧ Sim K (put G' d (.dK l)) (upd H' d (.dK m)) ∧ Ext G' H' (put G' d (.dK l)) (upd H' d (.dK m)) := by
  obtain ⟨o, e, rfl, ⟨m2, e2, rk⟩, _⟩ := sm d _ hG
  cases e2
  exact ⟨e, sm.wr (m := .dK l) (o := .dK m) hG ⟨m, rfl, rk⟩, .wr hG⟩
end
theorem ds_lock {X : Cx} {st : Stmt} {t : TDS} (h : DS X st t) : DS X st (sLock t) := ⟨fun G H σ τ W E r ⟨d, l, hd, q⟩ => by
  obtain ⟨m, e1, rk⟩ := r.sim.dK hd
  refine semS.of (ps_lock (t := semS X st) ⟨fun pins s σ H D I h => h pins s I⟩) ⟨d, .dK m, e1, trivial, fun od => ?_⟩
  have s2 : Sim X.K (put G d (.fz od (.dK m) (.dK l))) (upd H d (.frz od (.dK m))) := r.sim.wr (m := .fz od (.dK m) (.dK l)) (o := .frz od (.dK m)) hd ⟨rfl, ⟨m, rfl, rk⟩, (fun _ z => nomatch z), fun _ z => nomatch z⟩
  have x2 : Ext G H (put G d (.fz od (.dK m) (.dK l))) (upd H d (.frz od (.dK m))) := .wr hd
  refine (h.run _ _ σ τ W (lockD d od (.dK m) l E) (r.ext s2 x2) (q od m)).imp ⟨fun t H1 hh => ?_, fun v H1 hh => ?_, fun t H1 hh => ?_, fun t H1 hh => ?_⟩
  · obtain ⟨σ1, G1, rp, sm, xx, hG, q1⟩ := hh
    obtain ⟨u1, u2, u3⟩ := unlock sm hG
    exact ⟨u1, σ1, _, rp.ext sm u3 _ _, u2, (x2.trans xx).trans u3, q1⟩
  · obtain ⟨v1, G1, rp, sm, xx, hG, q1⟩ := hh
    obtain ⟨u1, u2, u3⟩ := unlock sm hG
    exact ⟨u1, v1, _, rp.ext sm u3 _ _, u2, (x2.trans xx).trans u3, q1⟩
  · obtain ⟨σ1, G1, rp, sm, xx, hG, q1⟩ := hh
    obtain ⟨u1, u2, u3⟩ := unlock sm hG
    exact ⟨u1, σ1, _, rp.ext sm u3 _ _, u2, (x2.trans xx).trans u3, q1⟩
  · obtain ⟨σ1, G1, rp, sm, xx, hG, q1⟩ := hh
    obtain ⟨u1, u2, u3⟩ := unlock sm hG
    exact ⟨u1, σ1, _, rp.ext sm u3 _ _, u2, (x2.trans xx).trans u3, q1⟩⟩
end DL

namespace DL
open PySem PySem.Spec L2
open PyProof.Rows hiding St
/-! ### for k, v in d.items(), the dict standing still -/
def kDi : Key → D
  | .inl i => .int i
  | .inr x => .str x
theorem kDi_rp {K : PySem.W.Frag} {H : Hp} : ∀ k : Key, Rp K H (kDi k) (kV k)
  | .inl _ => rfl
  | .inr _ => rfl
def pairD (p : Key × D) : D := .tup [kDi p.1, p.2]
def jItems (td : TD) : TDI := fun W σ G R => td W σ G fun o G1 => match o with
  | .ref a => match G1 a with
    | some (.fz ob (.dK m) (.dK l)) => R ⟨l.map pairD, fun G => G a = some (.fz ob (.dK m) (.dK l))⟩ G1
    | _ => False
  | _ => False
theorem RKV.nth {K : PySem.W.Frag} {H : Hp} : ∀ {l : List (Key × D)} {m : List (Key × V)} {i : Nat} {k : Key} {v : V}, RKV K H l m → m[i]? = some (k, v) → ∃ dv, l[i]? = some (k, dv) ∧ Rp K H dv v
  | [], _, i, _, _, h, e => by cases h; simp at e
  | p :: r, _, 0, k, v, h, e => by
    obtain ⟨w, t, rfl, h1, h2⟩ := h
    have e' : (p.1, w) = (k, v) := by simpa using e
    cases e'
    exact ⟨p.2, rfl, h1⟩
  | p :: r, _, i + 1, k, v, h, e => by
    obtain ⟨w, t, rfl, h1, h2⟩ := h
    exact RKV.nth (i := i) h2 (by simpa using e)
theorem di_items {X : Cx} {td : TD} {e : Expr} {elts : List Expr} {kk : Nat} {tpos apos cpos : Pos} (he : DE X e td) (hbase : attributeBase e "items" X.env (eval e X.env) = eval e X.env := by rfl) (hline : (apos.endLine == cpos.line) = true := by rfl) :
    DI X (.Tuple elts kk tpos) (.Call (.Attribute e "items" apos) [] [] cpos) (iItems (semE X e)) (jItems td) :=
  ⟨pi_items peSem hbase hline, fun G H σ τ W R R' r q fin => he.then r q fun d v G1 H1 r1 x1 k1 q1 => by
    try dsimp only at q1
    split at q1
    · rename_i a
      cases k1
      split at q1
      · rename_i ob m l hG
        obtain ⟨o1, e1, rfl, ⟨m1, e2, rk⟩, _⟩ := r1.sim a _ hG
        cases e2
        have at_ : ∀ {G2 : HD} {H2 : Hp}, Sim X.K G2 H2 → G2 a = some (.fz ob (.dK m) (.dK l)) → H2 a = some (.frz ob (.dK m)) ∧ RKV X.K H2 l m := fun {G2 H2} s2 h2 => by
          obtain ⟨o2, f1, rfl, ⟨m2, f2, rk2⟩, _⟩ := s2 a _ h2
          cases f2
          exact ⟨f1, rk2⟩
        refine ⟨a, ob, m, rfl, e1, fin _ _ G1 H1 r1.sim x1 ⟨fun i G2 H2 s2 _ hok hi => ?_, fun i G2 H2 x H3 s2 _ hok hi hy => ?_, fun i G2 H2 s2 _ hok hi => ?_⟩ q1⟩
        · obtain ⟨f1, f2⟩ := at_ s2 hok
          rw [List.length_map] at hi
          exact ⟨f1, by rw [f2.len]; exact hi⟩
        · obtain ⟨f1, f2⟩ := at_ s2 hok
          obtain ⟨T, k, v, hk, rfl, hT, rfl⟩ := hy
          obtain ⟨dv, z1, z2⟩ := f2.nth hk
          have xt : Ext G2 H2 G2 (upd H2 T (.tup [kV k, v])) := Ext.new hT (s2.no hT)
          refine ⟨pairD (k, dv), by rw [List.getElem?_map, z1]; rfl, ⟨T, [kV k, v], rfl, SqT.of upd_same, kV k, [v], rfl, kDi_rp k, v, [], rfl, z2.ext s2 xt _ _, rfl⟩, s2.newO hT, xt⟩
        · obtain ⟨f1, f2⟩ := at_ s2 hok
          rw [List.length_map] at hi
          exact ⟨f1, by rw [f2.len]; exact hi⟩
      · exact q1.elim
    · exact q1.elim⟩
end DL

namespace DL
open PySem PySem.Spec L2
open PyProof.Rows hiding St
/-- a dict that stands still while a value is made (a comprehension over it) -/
def dLockE (t : TD) : TD := fun W σ G Q => ∃ d l, G d = some (.dK l) ∧ ∀ (ob : Obj) (m : List (Key × V)), t W σ (put G d (.fz ob (.dK m) (.dK l))) fun v G1 => G1 d = some (.fz ob (.dK m) (.dK l)) ∧ Q v (put G1 d (.dK l))
theorem de_lock {X : Cx} {e : Expr} {t : TD} (h : DE X e t) : DE X e (dLockE t) := ⟨fun G H σ τ W Q r ⟨d, l, hd, q⟩ => by
  obtain ⟨m, e1, rk⟩ := r.sim.dK hd
  refine semE.of (pe_lock (t := semE X e) ⟨fun pins s σ H Q I h => h pins s I⟩) ⟨d, .dK m, e1, trivial, fun od => ?_⟩
  have s2 : Sim X.K (put G d (.fz od (.dK m) (.dK l))) (upd H d (.frz od (.dK m))) := r.sim.wr (m := .fz od (.dK m) (.dK l)) (o := .frz od (.dK m)) hd ⟨rfl, ⟨m, rfl, rk⟩, (fun _ z => nomatch z), fun _ z => nomatch z⟩
  have x2 : Ext G H (put G d (.fz od (.dK m) (.dK l))) (upd H d (.frz od (.dK m))) := .wr hd
  refine (h.run _ _ σ τ W _ (r.ext s2 x2) (q od m)).imp fun v H1 hh => ?_
  obtain ⟨v1, G1, rp, sm, xx, hG, q1⟩ := hh
  obtain ⟨u1, u2, u3⟩ := unlock sm hG
  exact ⟨u1, v1, _, rp.ext sm u3 _ _, u2, (x2.trans xx).trans u3, q1⟩⟩
end DL

namespace DL
open PySem PySem.Spec L2
open PyProof.Rows hiding St
/-! ### lists by value -/
def OpDF (K : PySem.W.Frag) (r : R2) (rd : D → D → HD → Post → Prop) : Prop :=
  ∀ (G : HD) (H : Hp) (d e : D) (x y : V) (Q : Post) (Q' : VK), Sim K G H → Rp K H d x → Rp K H e y → (∀ v H', liftF K G H Q v H' → Q' v H') → rd d e G Q → r x y H Q'
def CallDF (K : PySem.W.Frag) (r : List V → Hp → VK → Prop) (rd : List D → HD → Post → Prop) : Prop :=
  ∀ (G : HD) (H : Hp) (ds : List D) (vs : List V) (Q : Post) (Q' : VK), Sim K G H → Rps K H ds vs → (∀ v H', liftF K G H Q v H' → Q' v H') → rd ds G Q → r vs H Q'
theorem OpD.F {K : PySem.W.Frag} {r : R2} {rd : D → D → HD → Post → Prop} (h : OpD K r rd) : OpDF K r rd := fun G H d e x y Q Q' s k1 k2 f q => h G H d e x y Q Q' s k1 k2 (fun v H' z => f v H' (.inl z)) q
section
variable {X : Cx} {a b e : Expr} {ta tb te : TD} {es : List Expr} {ts : TDA} {pos : Pos}
theorem de_opF {op : Operator} {r : R2} {rd : D → D → HD → Post → Prop} (ho : OpR X (binaryOp op) r) (hd : OpDF X.K r rd) (ha : DE X a ta) (hb : DE X b tb) : DE X (.BinOp a op b pos) (dOp rd ta tb) :=
  ⟨fun G H σ τ W Q r0 h => semE.frz (semE.of (pe_op ho peSem peSem) (ha.then r0 h fun d x G1 H1 r1 x1 k1 q1 => hb.then r1 q1 fun d2 y G2 H2 r2 x2 k2 q2 =>
    hd G2 H2 d d2 x y Q _ r2.sim (k1.ext r1.sim x2 _ _) k2 (fun _ _ z => z.up (x1.trans x2)) q2))⟩
theorem de_cbF {x : Str} {p : Pos} {id : String} {r : List V → Hp → VK → Prop} {rd : List D → HD → Post → Prop} (hc : CallR X (.builtin id) r) (hd : CallDF X.K r rd) (hm : X.mg x = none) (hv : bootBuiltins x = some (.builtin id)) (ha : DA X (e :: es) ts) (hg : Gl X x := by rfl) (hn : x ≠ "__name__" := by decide) (hdb : (x == ("__debug__" : Str)) = false := by decide)
    (he : starEach (e :: es) X.env = (false, eval e X.env) :: starEach es X.env := by rfl) (hpl : (backTo pos (starEach es X.env)).any (·.1) = false := by rfl) : DE X (.Call (.Name x p) (e :: es) [] pos) (dCB rd ts) :=
  ⟨fun G H σ τ W Q r0 q => semE.frz (semE.of (pe_callB hc hg hm hv paSem hn hdb he hpl) (ha.then r0 q fun ds vs G1 H1 r1 x1 k1 q1 => hd G1 H1 ds vs Q _ r1.sim k1 (fun _ _ z => z.up x1) q1))⟩
theorem de_ctF {x : Str} {p : Pos} {T : String} {r : List V → Hp → VK → Prop} {rd : List D → HD → Post → Prop} (hc : CallR X (.type T) r) (hd : CallDF X.K r rd) (hm : X.mg x = none) (hv : bootBuiltins x = some (.type T)) (ha : DA X (e :: es) ts) (hg : Gl X x := by rfl) (hn : x ≠ "__name__" := by decide) (hdb : (x == ("__debug__" : Str)) = false := by decide)
    (he : starEach (e :: es) X.env = (false, eval e X.env) :: starEach es X.env := by rfl) (hpl : (backTo pos (starEach es X.env)).any (·.1) = false := by rfl) : DE X (.Call (.Name x p) (e :: es) [] pos) (dCB rd ts) :=
  ⟨fun G H σ τ W Q r0 q => semE.frz (semE.of (pe_callTy hc hg hm hv paSem hn hdb he hpl) (ha.then r0 q fun ds vs G1 H1 r1 x1 k1 q1 => hd G1 H1 ds vs Q _ r1.sim k1 (fun _ _ z => z.up x1) q1))⟩
def dLstV (ts : TDA) : TD := fun W σ G Q => ts W σ G fun ds G1 => ds.length ≤ 1000 ∧ Q (.kl ds) G1
theorem de_lstV (h : DA X es ts) : DE X (.List es pos) (dLstV ts) :=
  ⟨fun G H σ τ W Q r0 q => semE.frz (semE.of (pe_lst paSem) (h.then r0 q fun ds vs G1 H1 r1 x1 k1 q1 => ⟨by rw [k1.length]; exact le1000 q1.1, newV.fin r1.sim k1 (fun _ _ z => z.up x1) q1.2⟩))⟩
/-! + of lists -/
/-- a list that is ours, or stands still -/
def asW (G : HD) : D → Option (List D)
  | .kl ds => some ds
  | .ref a => lstOf (G a)
  | _ => none
theorem lstOf_some {o : Option MO} {ds : List D} (h : lstOf o = some ds) : o = some (.lst ds) := by
  unfold lstOf at h
  split at h
  · cases h; rfl
  · cases h
theorem Rp.wr {K : PySem.W.Frag} {G : HD} {H : Hp} {d : D} {v : V} {ds : List D} (s : Sim K G H) (r : Rp K H d v) (h : asW G d = some ds) : ∃ a vs, v = .ref a ∧ L2.Rd H a (.lst vs) ∧ Rps K H ds vs := by
  cases d with
  | kl es =>
    cases h
    obtain ⟨a, vs, rfl, ⟨o, t⟩, q⟩ := r
    exact ⟨a, vs, rfl, .inr ⟨o, t⟩, q⟩
  | ref a =>
    cases (show v = .ref a from r)
    obtain ⟨vs, e1, r1⟩ := s.lst (lstOf_some h)
    exact ⟨a, vs, rfl, .inl e1, r1⟩
  | _ => cases h
def rCatL : R2 := fun x y H Q => ∃ l b xs zs, x = .ref l ∧ y = .ref b ∧ L2.Rd H l (.lst xs) ∧ L2.Rd H b (.lst zs) ∧ xs.length + zs.length ≤ sizeLine ∧ ∀ p, H p = none → Q (.ref p) (upd H p (.lst (xs ++ zs)))
theorem op_catL : OpR X (binaryOp .Add) rCatL := by
  intro pins s σ H x y v u Q I rx ry ⟨l, b, xs, zs, ex, ey, hx, hy, hz, q⟩
  subst ex; subst ey
  cases rx; cases ry
  obtain ⟨_, i1, n1, v1, e1⟩ := hx.ok I.hok
  obtain ⟨_, i2, n2, v2, e2⟩ := hy.ok I.hok
  have l1 := v1.length
  have l2 := v2.length
  refine PySem.P.add_list e1 e2 ?_ (by simp only [List.size_toArray]; omega)
  rw [show i1.toArray ++ i2.toArray = (i1 ++ i2).toArray by simp]
  exact ⟨.ref _, _, I.lnew (t' := s.toks) (v1.append v2) (by rw [List.length_append]; omega), rfl, q _ I.fresh⟩
def dAddV : D → D → HD → Post → Prop := fun d e G Q => match asW G d, asW G e with
  | some xs, some ys => xs.length + ys.length ≤ sizeLine ∧ Q (.kl (xs ++ ys)) G
  | _, _ => dAdd d e G Q
theorem od_addV (K : PySem.W.Frag) : OpDF K (fun x y H Q => rAddU K x y H Q ∨ rCatL x y H Q) dAddV := fun G H d e x y Q Q' s k1 k2 f q => by
  unfold dAddV at q
  split at q
  · rename_i xs ys e1 e2
    obtain ⟨a, vs, rfl, t1, r1⟩ := k1.wr s e1
    obtain ⟨b, ws, rfl, t2, r2⟩ := k2.wr s e2
    exact .inr ⟨a, b, vs, ws, rfl, rfl, t1, t2, by rw [r1.length, r2.length]; exact q.1, newV.fin s (r1.app r2) f q.2⟩
  · exact .inl ((od_add K).F G H d e x y Q Q' s k1 k2 f q)
theorem de_addV (ha : DE X a ta) (hb : DE X b tb) : DE X (.BinOp a .Add b pos) (dOp dAddV ta tb) := de_opF (op := .Add) ((op_add.or (op_add_str.or (op_catA.or op_cat))).or op_catL) (od_addV X.K) ha hb
/-! slices -/
def rSliceV : D → Option Int → Option Int → HD → Post → Prop := fun d lo hi G Q => match asL G d with
  | some xs => Q (.kl (cutD xs lo hi)) G
  | none => rSliceD d lo hi G Q
def dSliceV (te : TD) (tl th : TDO) : TD := fun W σ G Q => te W σ G fun d G1 => tl W σ G1 fun lo G2 => th W σ G2 fun hi G3 => rSliceV d lo hi G3 Q
theorem de_sliceV {lo hi : Option Expr} {tl th : TDO} {p2 : Pos} (he : DE X e te) (hl : DO X lo tl) (hh : DO X hi th) : DE X (.Subscript e (.Slice lo hi none p2) pos) (dSliceV te tl th) :=
  ⟨fun G H σ τ W Q r q => semE.frz (semE.of (pe_slice (r := rSlU X.K) (sl_list.or (sl_tupA.or sl_str)) peSem poSem poSem) (he.then r q fun d x G1 H1 r1 x1 k1 q1 => hl.run G1 H1 σ τ W _ _ r1 q1 fun l G2 H2 r2 x2 q2 => hh.run G2 H2 σ τ W _ _ r2 q2 fun h G3 H3 r3 x3 q3 => by
    have k3 := k1.ext r1.sim (x2.trans x3) _ _
    have xx := (x1.trans x2).trans x3
    unfold rSliceV at q3
    split at q3
    · rename_i xs e1
      obtain ⟨a, vs, rfl, t, rr⟩ := k3.lst r3.sim e1
      exact .inl ⟨a, vs, rfl, t, newV.fin r3.sim (rr.cut l h) (fun _ _ z => z.up xx) q3⟩
    · rename_i e0
      unfold rSliceD at q3
      split at q3
      · obtain ⟨a, vs, rfl, t, rr⟩ := id k3
        refine .inr (.inl ⟨a, vs, rfl, t, fun hw => ?_, fun _ => newT.fin r3.sim (rr.cut l h) (fun _ _ z => .inl (z.up xx)) q3⟩)
        rename_i xs
        have e1 : cutD xs l h = xs := by
          unfold cutD
          rw [rr.length] at hw
          rw [hw.1, hw.2]
          simp
        rw [e1] at q3
        exact .of (d := .tup xs) k3 r3.sim xx q3
      · cases k3
        exact .inr (.inr ⟨_, rfl, q3.1, .of (d := .str _) rfl r3.sim xx q3.2⟩)
      · split at q3
        · rename_i xs e1
          rw [e0] at e1; cases e1
        · exact q3.elim))⟩
/-! list(x) -/
def rListV : List D → HD → Post → Prop := fun ds G Q => match ds with
  | [d] => match asQ G d with
    | some es => Q (.kl es) G
    | none => False
  | _ => False
theorem cd_listV (K : PySem.W.Frag) : CallDF K (fun xs H Q => ∃ p ys, xs = [.ref p] ∧ (SqL K H p ys ∨ SqT K H p ys) ∧ ∀ l, H l = none → Q (.ref l) (upd H l (.lst ys))) rListV := fun G H ds vs Q Q' s k f q => by
  unfold rListV at q
  split at q
  · obtain ⟨v, rfl, kd⟩ := one_of k
    split at q
    · rename_i es e1
      obtain ⟨a, ws, rfl, t, r⟩ := kd.seq s e1
      exact ⟨a, ws, rfl, t, newV.fin s r f q⟩
    · exact q.elim
  · exact q.elim
/-! a list that is made over to stand still -/
def delG (G : HD) (p : Addr) : HD := fun b => if b = p then none else G b
def frzO (o : Option MO) (p : Addr) (G : HD) (Q : Post) : Prop := match o with
  | some (.lst ds) => Q (.kl ds) (delG G p)
  | _ => Q (.ref p) G
def frzP (Q : Post) : Post := fun d G => match d with
  | .ref p => frzO (G p) p G Q
  | d => Q d G
def dFrz (t : TD) : TD := fun W σ G Q => t W σ G (frzP Q)
theorem delG_le {G : HD} {p : Addr} : Le (delG G p) G := fun a o h => by
  unfold delG at h
  split at h
  · cases h
  · exact h
theorem liftF.frz {K : PySem.W.Frag} {G : HD} {H : Hp} {Q : Post} {v : V} {H' : Hp} (h : liftQ K G H (frzP Q) v H') : liftF K G H Q v H' := by
  obtain ⟨d, G', r, s, x, q⟩ := h
  unfold frzP at q
  split at q
  · rename_i p
    cases r
    unfold frzO at q
    split at q
    · rename_i ds e
      obtain ⟨vs, e1, r1⟩ := s.lst e
      refine .inr ⟨p, vs, rfl, e1, fun ob => ⟨.kl ds, delG G' p, ⟨p, vs, rfl, ⟨ob, upd_same⟩, r1.aside e1 _ _⟩, (s.le delG_le).aside e1 (if_pos rfl), fun a o ga ha => ?_, q⟩⟩
      obtain ⟨h1, g1⟩ := x a o ga ha
      have hne : a ≠ p := by rintro rfl; rw [g1] at e; cases e
      exact ⟨by rw [upd_ne hne]; exact h1, (if_neg hne).trans g1⟩
    · exact .inl ⟨.ref p, G', rfl, s, x, q⟩
  · exact .inl ⟨_, G', r, s, x, q⟩
theorem de_frz (h : DE X e te) : DE X e (dFrz te) := ⟨fun G H σ τ W Q r q => semE.frz ((h.run G H σ τ W _ r q).imp fun _ _ z => liftF.frz z)⟩
end
/-! for simp -/
section
variable {G : HD} {Q : Post} {a b : Addr} {xs ys ds : List D} {lo hi : Option Int} {i j : Int} {W : DW} {σ : DSt} {ta : TD} {ts : TDA} {tl th : TDO} {x y : Str}
theorem q_lstV : dLstV ts W σ G Q = ts W σ G fun ds G1 => ds.length ≤ 1000 ∧ Q (.kl ds) G1 := propext ⟨fun h => h, fun h => h⟩
theorem q_sliceV : dSliceV ta tl th W σ G Q = ta W σ G fun d G1 => tl W σ G1 fun lo G2 => th W σ G2 fun hi G3 => rSliceV d lo hi G3 Q := propext ⟨fun h => h, fun h => h⟩
theorem q_frz : dFrz ta W σ G Q = ta W σ G (frzP Q) := propext ⟨fun h => h, fun h => h⟩
theorem r_frzR : frzP Q (.ref a) G = frzO (G a) a G Q := propext ⟨fun h => h, fun h => h⟩
theorem r_frzL : frzO (some (.lst ds)) a G Q = Q (.kl ds) (delG G a) := propext ⟨fun h => h, fun h => h⟩
theorem r_frzT : frzP Q (.tup ds) G = Q (.tup ds) G := propext ⟨fun h => h, fun h => h⟩
theorem r_frzK : frzP Q (.kl ds) G = Q (.kl ds) G := propext ⟨fun h => h, fun h => h⟩
theorem r_frzN : frzP Q .non G = Q .non G := propext ⟨fun h => h, fun h => h⟩
theorem r_addVI : dAddV (.int i) (.int j) G Q = Q (.int (i + j)) G := propext ⟨fun h => h, fun h => h⟩
theorem r_addVS : dAddV (.str x) (.str y) G Q = (x.length + y.length ≤ sizeLine ∧ Q (.str (x ++ y)) G) := propext ⟨fun h => h, fun h => h⟩
theorem r_addVT : dAddV (.tup xs) (.tup ys) G Q = (xs.length + ys.length ≤ sizeLine ∧ Q (.tup (xs ++ ys)) G) := propext ⟨fun h => h, fun h => h⟩
theorem r_addVK : dAddV (.kl xs) (.kl ys) G Q = (xs.length + ys.length ≤ sizeLine ∧ Q (.kl (xs ++ ys)) G) := propext ⟨fun h => h, fun h => h⟩
def addVO (u : Option (List D)) (v : Option (List D)) (G : HD) (Q : Post) : Prop := match u, v with
  | some xs, some ys => xs.length + ys.length ≤ sizeLine ∧ Q (.kl (xs ++ ys)) G
  | _, _ => False
theorem r_addVO : addVO (some xs) (some ys) G Q = (xs.length + ys.length ≤ sizeLine ∧ Q (.kl (xs ++ ys)) G) := propext ⟨fun h => h, fun h => h⟩
theorem i_addVR (h : lstOf (G a) = some xs) (q : xs.length + ys.length ≤ sizeLine ∧ Q (.kl (xs ++ ys)) G) : dAddV (.ref a) (.kl ys) G Q := by
  unfold dAddV
  simp only [asW, h]
  exact q
theorem r_sliVK : rSliceV (.kl ds) lo hi G Q = Q (.kl (cutD ds lo hi)) G := propext ⟨fun h => h, fun h => h⟩
theorem r_sliVC : rSliceV (.kc ds) lo hi G Q = Q (.kl (cutD ds lo hi)) G := propext ⟨fun h => h, fun h => h⟩
theorem r_sliVT : rSliceV (.tup ds) lo hi G Q = Q (.tup (cutD ds lo hi)) G := propext ⟨fun h => h, fun h => h⟩
def sliVO (o : Option (List D)) (lo hi : Option Int) (G : HD) (Q : Post) : Prop := match o with
  | some xs => Q (.kl (cutD xs lo hi)) G
  | none => False
theorem r_sliVR : rSliceV (.ref a) lo hi G Q = sliVO (lstOf (G a)) lo hi G Q := by
  unfold rSliceV sliVO
  rw [asL_ref]
  cases hh : lstOf (G a) with
  | some xs => rfl
  | none =>
    show rSliceD (.ref a) lo hi G Q = False
    rw [r_sliR, hh]; rfl
theorem r_sliVL : sliVO (some ds) lo hi G Q = Q (.kl (cutD ds lo hi)) G := propext ⟨fun h => h, fun h => h⟩
theorem r_listVK : rListV [.kl ds] G Q = Q (.kl ds) G := propext ⟨fun h => h, fun h => h⟩
theorem r_listVC : rListV [.kc ds] G Q = Q (.kl ds) G := propext ⟨fun h => h, fun h => h⟩
theorem r_listVT : rListV [.tup ds] G Q = Q (.kl ds) G := propext ⟨fun h => h, fun h => h⟩
theorem r_truK : truD G (.kl xs) = some (!xs.isEmpty) := rfl
theorem r_lcV {ti : TDI} {t : Tgt} {dt : TDT} {te : TD} {vs : List Nat} : dLcV ti t dt te vs W σ G Q = ti W σ G fun I G1 => I.xs.length ≤ 1000000 ∧ lcD I.ok (fun d ky kn G' => t.put d (dwipe σ vs) fun σ2 => dt W0 σ2 G' fun b G2 => if b = true then te W0 σ2 G2 ky else kn G2) (fun acc G2 => Q (.kl acc) G2) I.xs [] G1 := propext ⟨fun h => h, fun h => h⟩
/-- a comprehension that changes nothing: what is kept of each item -/
theorem lcD_pure {ok : HD → Prop} {step : D → (D → HD → Prop) → (HD → Prop) → HD → Prop} {fin : List D → HD → Prop} (f : D → Option D) {G : HD} (hok : ok G) : ∀ {xs : List D} {acc : List D},
    (∀ x, x ∈ xs → ∀ (ky : D → HD → Prop) (kn : HD → Prop), (∀ y, f x = some y → ky y G) → (f x = none → kn G) → step x ky kn G) → fin (acc ++ xs.filterMap f) G → lcD ok step fin xs acc G
  | [], acc, _, h => ⟨G, Le.refl _, hok, by simpa using h⟩
  | x :: xs, acc, hs, h => ⟨G, Le.refl _, hok, hs x (List.mem_cons_self ..) _ _
      (fun y e => lcD_pure f hok (fun z hz => hs z (List.mem_cons_of_mem _ hz)) (by rw [List.filterMap_cons_some e] at h; simpa using h))
      (fun e => lcD_pure f hok (fun z hz => hs z (List.mem_cons_of_mem _ hz)) (by rw [List.filterMap_cons_none e] at h; exact h))⟩
end
end DL

namespace DL
open PySem PySem.Spec L2
open PyProof.Rows hiding St
/-! ### the law's call, where no repr is under way -/
section
variable {P : Program} {w : World} {K : PySem.W.Frag} {mg mb : Str → Option Value} {k : Nat} {fa a : Addr} {fd : FuncData} {x : Str} {sp : Sp} {s1 : Shared} {vs : List Value} {ns : List Int}
abbrev TopP (s1 : Shared) : Result → Shared → Prop := fun r s' => r = .ok (.ret (.bool true)) ∧ OldK s1.heap s'.heap ∧ s'.os = s1.os ∧ AllBare s'.gens
/-- what a tracks, at most the script -/
structure Trk (P : Program) (w : World) (K : PySem.W.Frag) (s1 : Shared) (a : Addr) (H : Hp) : Prop where
  hok : HOk P w H s1.heap
  only : ∀ b, H b = none ∨ (b = a ∧ K.lookup b = none ∧ ∃ o xs, H b = some (.frz o (.lst xs)))
theorem Trk.shown {H : Hp} (t : Trk P w K s1 a H) {b : Addr} {o : Obj} (e : s1.heap.get? b = some o) (h : b ≠ a ∨ (K.lookup b).isSome = true) : (hidT s1.heap H).get? b = some o := by
  refine hidT_get e ?_
  rcases t.only b with z | ⟨z1, z2, _⟩
  · exact z
  · rcases h with h | h
    · exact absurd z1 h
    · rw [z2] at h; cases h
theorem top_run (KX : K.In s1.heap) (hns : s1.heap.Ns mainGlobals mg) (hb : s1.heap.Ns builtinsNs mb) (hbb : ∀ x : Str, x ≠ "__name__" → mb x = bootBuiltins x) (hlim : s1.heap.NoLimit) (hg : s1.gens = #[])
    (ha : s1.heap.get? a = some { cls := .type "list", data := .seq vs.toArray }) (hr : RoomG k callerA) (F : ∀ base : Heap, K.In base → base.Ns mainGlobals mg → FnG P w K mg base k fa fd [x] sp) (bind : ∀ (s : Shared) (u : Value), BindsTo s fd ⟨[u], []⟩ [(x, u)])
    {H : Hp} (t : Trk P w K s1 a H) (h : sp [.ref a] H (fun v _ => v = .bl true) fun _ _ _ => False) (hX : ∀ e s', L2.CX P w [] H s1 (fun _ _ _ => False) e s' → False) :
    codeAny (model P w) callerA (.call (.ref fa) ⟨[.ref a], []⟩) (TopP s1) s1 := by
  have seen : ∀ {b : Addr} {m : Str → Option Value}, s1.heap.Ns b m → (hidT s1.heap H).Ns b m := by
    rintro b m ⟨o, es, ep, e, d, r⟩
    refine ⟨o, es, ep, t.shown e (.inl ?_), d, r⟩
    rintro rfl
    rw [ha] at e
    cases e
    exact nomatch (show Data.seq vs.toArray _ = Data.dict es ep from d)
  have kb : K.In (hidT s1.heap H) := fun b o e => t.shown (KX b o e) (.inr (by rw [e]; rfl))
  obtain ⟨mc, l1, l2⟩ := hlim
  have env : Env0 P w K mg (hidT s1.heap H) callerA [] s1 H :=
    { frames := rfl, mod := ⟨kb, seen hns, ⟨mb, seen hb, hbb⟩, ⟨mc, seen l1, l2⟩⟩, bs := fun b o e => of_hidT e, bsz := Nat.le_of_eq (hidT_size _ _), funs := trivial, frf := fun b hb => absurd hb List.not_mem_nil, hok := t.hok, bare := .of_eq hg }
  refine codeAny_mono ((F _ kb (seen hns)).run callerA [] s1 H ⟨[.ref a], []⟩ [.ref a] [.ref a] _ _ hr env (bind s1 (.ref a)) (.cons rfl .nil) h) fun r s' q => ?_
  match r, q with
  | .error e, q => exact (hX e s' q).elim
  | .ok .next, q => exact q.elim
  | .ok .brk, q => exact q.elim
  | .ok .cont, q => exact q.elim
  | .ok (.ret u), q =>
    obtain ⟨v, H2, os, bare, un, hok2, rv, ev⟩ := q
    cases (show v = .bl true from ev)
    cases (show u = Value.bool true from rv)
    refine ⟨rfl, OldK.of_keep fun b o e => ?_, os, bare⟩
    rcases t.only b with z | ⟨_, _, ob, xs, z⟩
    · exact un.keep b o e z List.not_mem_nil List.not_mem_nil
    · have f1 := (t.hok b _ z).1
      rw [e] at f1
      cases f1
      exact (hok2 b _ (un.frzs b _ _ z)).1
theorem law_callG (KX : K.In s1.heap) (hns : s1.heap.Ns mainGlobals mg) (hb : s1.heap.Ns builtinsNs mb) (hbb : ∀ x : Str, x ≠ "__name__" → mb x = bootBuiltins x) (hlim : s1.heap.NoLimit) (hg : s1.gens = #[])
    (ha : s1.heap.get? a = some { cls := .type "list", data := .seq vs.toArray }) (hi : IntsAre vs ns) (hl : ns.length ≤ 63) (hr : RoomG k callerA) (F : ∀ base : Heap, K.In base → base.Ns mainGlobals mg → FnG P w K mg base k fa fd [x] sp) (bind : ∀ (s : Shared) (u : Value), BindsTo s fd ⟨[u], []⟩ [(x, u)])
    (hsp : ∀ H : Hp, Only H → SqL K H a (ns.map V.int) → sp [.ref a] H (fun v _ => v = .bl true) fun _ _ _ => False) (hX : ∀ H e s', L2.CX P w [] H s1 (fun _ _ _ => False) e s' → False) :
    codeAny (model P w) callerA (.call (.ref fa) ⟨[.ref a], []⟩) (TopP s1) s1 := by
  have rv := vals_ints hi
  have hl2 : ns.length ≤ sizeLine := by rw [sizeLine_eq]; omega
  by_cases hk : ∃ o, K.lookup a = some o
  · obtain ⟨o, hk⟩ := hk
    have e := KX a o hk
    rw [ha] at e
    cases e
    refine top_run KX hns hb hbb hlim hg ha hr F bind (H := fun _ => none) ⟨fun b u z => (nomatch (show (none : Option HO) = some u from z)), fun _ => .inl rfl⟩ (hsp _ (fun _ => .inl rfl) (.inr ⟨_, vs.toArray, _, hk, rfl, rfl, rfl, ?_, by simpa using rv⟩)) (hX _)
    rw [List.size_toArray, hi.length]; exact hl2
  · have hn : K.lookup a = none := by
      cases q : K.lookup a with
      | none => rfl
      | some o => exact absurd ⟨o, q⟩ hk
    let ob : Obj := { cls := .type "list", data := .seq vs.toArray }
    have at_a : upd (fun _ => none) a (.frz ob (.lst (ns.map V.int))) a = some (.frz ob (.lst (ns.map V.int))) := upd_same
    have only : ∀ b, upd (fun _ => none) a (.frz ob (.lst (ns.map V.int))) b = none ∨ (b = a ∧ K.lookup b = none ∧ ∃ o xs, upd (fun _ => none) a (.frz ob (.lst (ns.map V.int))) b = some (.frz o (.lst xs))) := fun b => by
      by_cases e : b = a
      · subst e; exact .inr ⟨rfl, hn, _, _, at_a⟩
      · exact .inl (upd_ne e)
    refine top_run KX hns hb hbb hlim hg ha hr F bind (H := upd (fun _ => none) a (.frz ob (.lst (ns.map V.int)))) ⟨fun b u z => ?_, only⟩ (hsp _ (fun b => (only b).imp id fun z => z.2.2) (.inl (.inr ⟨ob, at_a⟩))) (hX _)
    by_cases e : b = a
    · subst e
      rw [at_a] at z
      cases z
      exact ⟨ha, by rw [List.length_map]; exact hl2, vs, _, rv, ha⟩
    · rw [upd_ne e] at z
      cases z
end
theorem walkG {l : PySem.W.OpenLaw} {k : Nat} {q : Program} {loose : List Str} {XP : (Str → Option Value) → Heap → Prop} {YP : World → Heap → Prop} {d : DefRec} {K : Params → PySem.W.Frag} {x : Str} {sp : World → Sp}
    (hn : l.most = some 63) (hdf : d.params.defaults = []) (hr : RoomG k callerA) (hY : ∀ (w : World) (h : Heap), YP w h → (K w.params).In h)
    (F : ∀ (w : World) (mg : Str → Option Value) (fa : Addr) (h : Heap), (K w.params).In h → h.Ns mainGlobals mg → mg d.name = some (.ref fa) →
      ∃ fd : FuncData, (∀ (s : Shared) (u : Value), BindsTo s fd ⟨[u], []⟩ [(x, u)]) ∧ ∀ base : Heap, (K w.params).In base → base.Ns mainGlobals mg → FnG l.prog w (K w.params) mg base k fa fd [x] (sp w))
    (hsp : ∀ (w : World) (H : Hp) (a : Addr) (ns : List Int), ns.length ≤ 63 → Only H → SqL (K w.params) H a (ns.map V.int) → sp w [.ref a] H (fun v _ => v = .bl true) fun _ _ _ => False)
    (hX : ∀ (w : World) (H : Hp) (s : Shared) (e : Value) (s' : Shared), L2.CX l.prog w [] H s (fun _ _ _ => False) e s' → False) : PySem.W.WalkO q loose XP YP l.row.toRowW d [] (fun f vs => PySem.call f vs) :=
  Att.attach_call hn hdf fun w _ s1 mg mb fa _ _ _ _ a vs ns G Y _ _ _ hmg hobj hints hlen hg => by
    have KX := hY w _ Y
    obtain ⟨fd, hb, hF⟩ := F w mg fa _ KX G.T.g hmg
    exact law_callG KX G.T.g G.T.b G.T.builtins G.T.nolimit hg hobj hints hlen hr hF hb (fun H hO hS => hsp w H a ns hlen hO hS) fun H e s' => hX w H s1 e s'
end DL

namespace DL
open PySem PySem.Spec L2
open PyProof.Rows hiding St
/-! ### repr of data -/
def rRep0 (K : PySem.W.Frag) : List V → Hp → VK → Prop := fun xs H Q => ∃ v p, xs = [v] ∧ Dp K H v p ∧ p.canLay0 = true ∧ p.depth ≤ 9 ∧ p.showable = true ∧ p.shown.length ≤ sizeLine ∧ Q (.str p.shown) H
theorem call_rep0 {X : Cx} (hg : X.A.guards = some []) (hu : X.A.units + 64 < cLine) : CallR X (.builtin "repr") (rRep0 X.K) := by
  intro pins s σ H xs us Q I rv ⟨v, p, e, hd, hc, hdp, hs, hz, q⟩
  subst e
  obtain ⟨u, eu, ru⟩ := vals1 rv
  subst eu
  have big : ∀ {a : Addr} {as : List Addr}, Reads s.heap (.ref a) p as → wpAny (model X.prog X.w) X.A (call (.builtin "repr") [.ref a]) (EP X pins σ Q) X.xe s := fun hr =>
    repr_of_reads' hr hs (PyData.noDict_hsm (PyData.hasDict_of_canLay p hc)) hg (by omega) (fun _ _ e => e) (fun h' u tk k => ⟨.str p.shown, H, I.kept (t' := tk) k, ⟨u, rfl⟩, q⟩) hz
  obtain ⟨as, hr⟩ := Dp.reads I p v u hd ru
  cases hr with
  | none => exact PySem.P.repr_of_none ⟨.str _, H, I.tok _, ⟨_, rfl⟩, q⟩
  | bool b => exact PySem.P.repr_of_bool ⟨.str _, H, I.tok _, ⟨_, rfl⟩, q⟩
  | int i t => exact PySem.P.repr_of_int (of_decide_eq_true hs) ⟨.str _, H, I.tok _, ⟨_, rfl⟩, q⟩
  | str x t => exact PySem.P.repr_of_str ⟨.str _, H, I.tok _, ⟨_, rfl⟩, q⟩ hz
  | list h1 h2 h3 h4 => exact big (.list h1 h2 h3 h4)
  | tuple h1 h2 h3 h4 => exact big (.tuple h1 h2 h3 h4)
  | dict _ _ _ _ _ => cases hd
/-- repr of an empty dict -/
theorem call_repE {X : Cx} (hg : X.A.guards = some []) (hu : X.A.units + 64 < cLine) : CallR X (.builtin "repr") (fun xs H Q => ∃ a, xs = [.ref a] ∧ H a = some (.dK []) ∧ Q (.str (PyData.dict []).shown) H) := by
  intro pins s σ H xs us Q I rv ⟨a, e, ha, q⟩
  subst e
  obtain ⟨u, eu, ru⟩ := vals1 rv
  subst eu
  obtain rfl : u = .ref a := ru
  obtain ⟨_, hm, vs, kv, o, es, ep, ho, hx, hd, r⟩ := I.hok a _ ha
  cases kv
  have e0 : es.toList = [] := List.eq_nil_of_length_eq_zero (by have := r.2.1.length; simpa using this)
  have hc : o.cls = .type "dict" := hx.1
  have hr : Reads s.heap (.ref a) (.dict []) (a :: [] ++ []) := .dict ho hc hd (by rw [e0]; exact .nil) (by rw [e0]; exact .nil)
  refine repr_of_reads' hr (by decide) (fun _ => ?_) hg (by simp only [PyData.depth, PyData.depthKv]; omega) (fun _ _ e => e) (fun h' u tk k => ⟨.str _, H, I.kept (t' := tk) k, ⟨u, rfl⟩, q⟩) (by decide)
  intro z
  have z' : sysModules = a := by simpa using z
  subst z'
  exact absurd hm (by decide)
/-- data as repr shows it -/
def repO (G : HD) (d : D) : Option PyData := match pyD 9 G d with
  | some p => some p
  | none => match d with
    | .ref a => match G a with
      | some (.dK []) => some (.dict [])
      | _ => none
    | _ => none
def rReprO (o : Option PyData) (G : HD) (Q : Post) : Prop := match o with
  | some p => p.showable = true ∧ p.shown.length ≤ sizeLine ∧ Q (.str p.shown) G
  | none => False
def rReprD : List D → HD → Post → Prop := fun ds G Q => match ds with
  | [d] => rReprO (repO G d) G Q
  | _ => False
theorem cd_repr (K : PySem.W.Frag) : CallD K (fun xs H Q => rRep0 K xs H Q ∨ ∃ a, xs = [.ref a] ∧ H a = some (.dK []) ∧ Q (.str (PyData.dict []).shown) H) rReprD := fun G H ds vs Q Q' s k f q => by
  unfold rReprD at q
  split at q
  · rename_i d
    obtain ⟨v, rfl, kd⟩ := one_of k
    unfold repO at q
    split at q
    · rename_i p hp
      obtain ⟨q1, q2, q3⟩ := q
      obtain ⟨h1, h2, h3⟩ := pyD_dp s 9 d v p hp kd
      exact .inl ⟨v, p, rfl, h1, h2, h3, q1, q2, f _ _ (.of (d := .str _) rfl s .refl q3)⟩
    · split at q
      · rename_i a _
        cases kd
        split at q
        · rename_i e
          obtain ⟨m, e1, r1⟩ := s.dK e
          cases r1
          exact .inr ⟨a, rfl, e1, f _ _ (.of (d := .str _) rfl s .refl q.2.2)⟩
        · exact q.elim
      · exact q.elim
  · exact q.elim
theorem bc_repr {X : Cx} {k : Nat} {p pos : Pos} {e : Expr} {ts : TDA} (hr : RoomG k X.A) (hm : X.mg "repr" = none) (ha : DA X [e] ts) (hg : Gl X "repr" := by rfl) (he : starEach [e] X.env = (false, eval e X.env) :: starEach [] X.env := by rfl) : DE X (.Call (.Name "repr" p) [e] [] pos) (dCB rReprD ts) :=
  de_cb (CallR.or (call_rep0 hr.gd hr.units) (call_repE hr.gd hr.units)) (cd_repr X.K) hm (by decide +kernel) ha hg (by decide) (by decide) he (by rfl)
/-! == and != of texts of any length -/
end DL

namespace DL
open PySem PySem.Spec L2
open PyProof.Rows hiding St
/-! ### data that is no object of the heap -/
def pureD : Nat → D → Bool
  | 0, _ => false
  | n + 1, d => match d with
    | .non => true
    | .bl _ => true
    | .int _ => true
    | .str x => PyData.strOk x
    | .tup ds => ds.all (pureD n)
    | .kl ds => ds.all (pureD n)
    | .kc ds => ds.all (pureD n)
    | _ => false
def toPy : Nat → D → PyData
  | 0, _ => .none
  | n + 1, d => match d with
    | .bl b => .bool b
    | .int i => .int i
    | .str x => .str x
    | .tup ds => .tuple (ds.map (toPy n))
    | .kl ds => .list (ds.map (toPy n))
    | .kc ds => .list (ds.map (toPy n))
    | .emp => .dict []
    | _ => .none
theorem mapM_map {G : HD} {n : Nat} (ih : ∀ d, pureD n d = true → pyD n G d = some (toPy n d)) : ∀ {ds : List D}, ds.all (pureD n) = true → ds.mapM (pyD n G) = some (ds.map (toPy n))
  | [], _ => rfl
  | d :: ds, h => by
    rw [List.all_cons, Bool.and_eq_true] at h
    rw [List.mapM_cons, ih d h.1, mapM_map ih h.2]
    rfl
theorem pyD_pure {G : HD} : ∀ (n : Nat) (d : D), pureD n d = true → pyD n G d = some (toPy n d)
  | 0, _, h => by cases h
  | n + 1, d, h => by
    unfold pureD at h
    unfold pyD toPy
    cases d with
    | non => rfl
    | bl _ => rfl
    | int _ => rfl
    | str x => simp only at h ⊢; rw [if_pos h]
    | tup ds => simp only at h ⊢; rw [mapM_map (pyD_pure n) h]; rfl
    | kl ds => simp only at h ⊢; rw [mapM_map (pyD_pure n) h]; rfl
    | kc ds => simp only at h ⊢; rw [mapM_map (pyD_pure n) h]; rfl
    | ty _ => cases h
    | ref _ => cases h
    | exc _ _ _ => cases h
    | emp => cases h
/-- == of two data -/
def eqvD (d e : D) : Bool := PyData.eqv (toPy 9 d) (toPy 9 e)
theorem eqO_pure {G : HD} {d e : D} (h1 : pureD 9 d = true) (h2 : pureD 9 e = true) : eqO G d e = some (eqvD d e) := by
  unfold eqO
  rw [pyD_pure 9 d h1, pyD_pure 9 e h2]
  rfl
/-- == with texts of any length -/
def dEqX (neg : Bool) : D → D → HD → Post → Prop := fun d e G Q => match d, e with
  | .str x, .str y => Q (.bl (if neg then !decide (x = y) else decide (x = y))) G
  | d, e => dEq neg d e G Q
theorem od_eqX (K : PySem.W.Frag) : OpD K (fun x y H Q => rEqD K x y H Q ∨ rEq x y H Q) (dEqX false) := fun G H d e x y Q Q' s k1 k2 f q => by
  unfold dEqX at q
  split at q
  · cases k1; cases k2
    refine .inr ⟨rfl, f _ _ ?_⟩
    have := liftQ.of (K := K) (G := G) (G' := G) (H := H) (H' := H) (Q := Q) (d := .bl _) (v := .bl _) rfl s .refl q
    simpa using this
  · exact .inl (od_eq K G H d e x y Q Q' s k1 k2 f q)
theorem od_neX (K : PySem.W.Frag) : OpD K (fun x y H Q => rNeD K x y H Q ∨ rNe x y H Q) (dEqX true) := fun G H d e x y Q Q' s k1 k2 f q => by
  unfold dEqX at q
  split at q
  · cases k1; cases k2
    refine .inr ⟨rfl, f _ _ ?_⟩
    have := liftQ.of (K := K) (G := G) (G' := G) (H := H) (H' := H) (Q := Q) (d := .bl _) (v := .bl _) rfl s .refl q
    simpa using this
  · exact .inl (od_ne K G H d e x y Q Q' s k1 k2 f q)
theorem c_eqX {X : Cx} (hu : X.A.units + 64 < cLine) : CmpR X .Eq (dEqX false) := ⟨_, (op_eqD hu).or op_eq, od_eqX X.K⟩
theorem c_neX {X : Cx} (hu : X.A.units + 64 < cLine) : CmpR X .NotEq (dEqX true) := ⟨_, (op_neD hu).or op_ne, od_neX X.K⟩
section
variable {G : HD} {Q : Post} {i j : Int} {x y : Str} {n : Bool} {d e : D} {xs ys : List D} {a b : Addr}
theorem r_eqXS : dEqX n (.str x) (.str y) G Q = Q (.bl (if n then !decide (x = y) else decide (x = y))) G := propext ⟨fun h => h, fun h => h⟩
theorem r_eqXI : dEqX n (.int i) (.int j) G Q = Q (.bl (if n then !decide (i = j) else decide (i = j))) G := (r_eqI (n := n) (i := i) (j := j) (G := G) (Q := Q) ▸ rfl : dEqX n (.int i) (.int j) G Q = _)
theorem i_eqX (h1 : pureD 9 d = true) (h2 : pureD 9 e = true) (q : Q (.bl (if n then !eqvD d e else eqvD d e)) G) : dEqX n d e G Q := by
  unfold dEqX
  split
  · rename_i x y
    have e1 : eqvD (.str x) (.str y) = decide (x = y) := by
      unfold eqvD toPy
      simp only [PyData.eqv]
      by_cases h : x = y
      · simp [h]
      · simp [h]
    rw [e1] at q
    exact q
  · unfold dEq
    rw [eqO_pure h1 h2]
    exact q
theorem i_eqXO {b : Bool} (h : eqO G d e = some b) (hs : ∀ x, d ≠ .str x) (q : Q (.bl (if n then !b else b)) G) : dEqX n d e G Q := by
  unfold dEqX
  split
  · exact absurd rfl (hs _)
  · unfold dEq
    rw [h]
    exact q
theorem r_eqXT2 {p q r s : Int} : dEqX n (.tup [.int p, .int q]) (.tup [.int r, .int s]) G Q = Q (.bl (if n then !(decide (p = r) && decide (q = s)) else (decide (p = r) && decide (q = s)))) G := r_eqT2
/-- repr of such data -/
theorem i_repr (h : pureD 9 d = true) (h1 : (toPy 9 d).showable = true) (h2 : (toPy 9 d).shown.length ≤ sizeLine) (q : Q (.str (toPy 9 d).shown) G) : rReprD [d] G Q := by
  have e : repO G d = some (toPy 9 d) := by
    unfold repO
    rw [pyD_pure 9 d h]
  show rReprO (repO G d) G Q
  rw [e]
  exact ⟨h1, h2, q⟩
end
end DL

namespace DL
open PySem PySem.Spec L2
open PyProof.Rows hiding St
section
variable {X : Cx} {p pos : Pos} {e : Expr} {ts : TDA}
theorem bc_listV (hm : X.mg "list" = none) (ha : DA X [e] ts) (hg : Gl X "list" := by rfl) (he : starEach [e] X.env = (false, eval e X.env) :: starEach [] X.env := by rfl) : DE X (.Call (.Name "list" p) [e] [] pos) (dCB rListV ts) :=
  de_ctF call_list_of (cd_listV X.K) hm (by decide +kernel) ha hg (by decide) (by decide) he (by rfl)
/-! str(int), str(text) -/
def rStrD : List D → HD → Post → Prop := fun ds G Q => match ds with
  | [.int i] => i.natAbs.log2 < 1920 ∧ Q (.str (toString i)) G
  | [.str x] => Q (.str x) G
  | _ => False
theorem cd_str (K : PySem.W.Frag) : CallD K (fun xs H Q => (∃ i, xs = [.int i] ∧ i.natAbs.log2 < 1920 ∧ Q (.str (toString i)) H) ∨ ∃ a, xs = [.str a] ∧ Q (.str a) H) rStrD := fun G H ds vs Q Q' s k f q => by
  unfold rStrD at q
  split at q
  · obtain ⟨v, rfl, kd⟩ := one_of k
    cases kd
    exact .inl ⟨_, rfl, q.1, f _ _ (.of (d := .str _) rfl s .refl q.2)⟩
  · obtain ⟨v, rfl, kd⟩ := one_of k
    cases kd
    exact .inr ⟨_, rfl, f _ _ (.of (d := .str _) rfl s .refl q)⟩
  · exact q.elim
theorem bc_str (hm : X.mg "str" = none) (ha : DA X [e] ts) (hg : Gl X "str" := by rfl) (he : starEach [e] X.env = (false, eval e X.env) :: starEach [] X.env := by rfl) : DE X (.Call (.Name "str" p) [e] [] pos) (dCB rStrD ts) :=
  de_ct (CallR.or call_str_int SkE.call_str_str) (cd_str X.K) hm (by decide +kernel) ha hg (by decide) (by decide) he (by rfl)
theorem r_strI {G : HD} {Q : Post} {i : Int} : rStrD [.int i] G Q = (i.natAbs.log2 < 1920 ∧ Q (.str (toString i)) G) := propext ⟨fun h => h, fun h => h⟩
end
/-- a block behind an if: its reading is not opened by itself -/
def sSeqJ (t u : TDS) : TDS := sSeq t u
theorem dss_consJ {X : Cx} {st : Stmt} {sts : List Stmt} {t u : TDS} (h : DS X st t) (k : DSs X sts u) : DSs X (st :: sts) (sSeqJ t u) := dss_cons h k
theorem seqJ_in {t u : TDS} {W : DW} {E : DEnds} {σ : DSt} {G : HD} (h : sSeq t u W E σ G) : sSeqJ t u W E σ G := h
theorem q_seqJ {t u : TDS} {W : DW} {E : DEnds} {σ : DSt} {G : HD} : sSeqJ t u W E σ G = t W { E with nx := fun σ' G' => u W E σ' G' } σ G := q_seq
/-- the ways of an if come together in I -/
theorem seqJ {t u : TDS} {W : DW} {E : DEnds} {σ : DSt} {G : HD} (I : DSt → HD → Prop) (h1 : ∀ k : DSt → HD → Prop, (∀ σ' G', I σ' G' → k σ' G') → t W { E with nx := k } σ G) (h2 : ∀ σ' G', I σ' G' → u W E σ' G') : sSeqJ t u W E σ G := h1 _ h2
/-! ### for the plain laws: places that change, picks, powers of ten -/
def Fr (A : List Addr) (G G' : HD) : Prop := ∀ b o, b ∉ A → G b = some o → G' b = some o
theorem Fr.refl {A : List Addr} {G : HD} : Fr A G G := fun _ _ _ h => h
theorem Fr.trans {A : List Addr} {X Y Z : HD} (x : Fr A X Y) (y : Fr A Y Z) : Fr A X Z := fun b o n h => y b o n (x b o n h)
theorem Fr.mono {A B : List Addr} {X Y : HD} (x : Fr A X Y) (h : ∀ a, a ∈ A → a ∈ B) : Fr B X Y := fun b o n h' => x b o (fun z => n (h b z)) h'
theorem Fr.le {A : List Addr} {X Y : HD} (x : Le X Y) : Fr A X Y := fun b o _ h => x b o h
theorem Fr.put {A : List Addr} {a : Addr} {G : HD} {o : MO} (h : a ∈ A) : Fr A G (put G a o) := fun b u n e => (put_ne (by rintro rfl; exact n h)).trans e
theorem Fr.putN {A : List Addr} {a : Addr} {G : HD} {o : MO} (h : G a = none) : Fr A G (DL.put G a o) := .le (Le.newB h)
theorem Fr.del {A : List Addr} {a : Addr} {G : HD} (h : a ∈ A) : Fr A G (delG G a) := fun b u n e => (if_neg (by rintro rfl; exact n h)).trans e
theorem ne_o {G : HD} {x y : Addr} {u v : MO} (hx : G x = some u) (hy : G y = some v) (h : u ≠ v) : x ≠ y := by
  rintro rfl; rw [hx] at hy; cases hy; exact h rfl
theorem pickP {ds : List D} {r : Int} {G : HD} {Q : Post} (h0 : 0 ≤ r) (h1 : r < ds.length) (h : ∀ x, x ∈ ds → Q x G) : optP (atI ds r) G Q := by
  obtain ⟨x, hx, e⟩ := pick h0 h1
  rw [e]; exact h x hx
def intIn (lo hi : Int) : D → Bool
  | .int v => decide (lo ≤ v) && decide (v ≤ hi)
  | _ => false
theorem pickN {ds : List D} {r : Int} {G : HD} {Q : Post} (lo hi : Int) (h0 : 0 ≤ r) (h1 : r < ds.length) (hb : ds.all (intIn lo hi) = true) (h : ∀ v, lo ≤ v → v ≤ hi → Q (.int v) G) : optP (atI ds r) G Q :=
  pickP h0 h1 fun x hx => by
    have := List.all_eq_true.mp hb x hx
    unfold intIn at this
    split at this
    · rw [Bool.and_eq_true, decide_eq_true_eq, decide_eq_true_eq] at this
      exact h _ this.1 this.2
    · cases this
theorem cp2 : CPow 10 2 = True := propext ⟨fun _ => trivial, fun _ => ⟨by omega, by omega, by omega⟩⟩
theorem pw2 : (10 : Int) ^ (2 : Int).toNat = 100 := by decide
theorem cp3 : CPow 10 3 = True := propext ⟨fun _ => trivial, fun _ => ⟨by omega, by omega, by omega⟩⟩
theorem pw3 : (10 : Int) ^ (3 : Int).toNat = 1000 := by decide
theorem cp4 : CPow 10 4 = True := propext ⟨fun _ => trivial, fun _ => ⟨by omega, by omega, by omega⟩⟩
theorem pw4 : (10 : Int) ^ (4 : Int).toNat = 10000 := by decide
theorem cp5 : CPow 10 5 = True := propext ⟨fun _ => trivial, fun _ => ⟨by omega, by omega, by omega⟩⟩
theorem pw5 : (10 : Int) ^ (5 : Int).toNat = 100000 := by decide
theorem cp6 : CPow 10 6 = True := propext ⟨fun _ => trivial, fun _ => ⟨by omega, by omega, by omega⟩⟩
theorem pw6 : (10 : Int) ^ (6 : Int).toNat = 1000000 := by decide
theorem cp7 : CPow 10 7 = True := propext ⟨fun _ => trivial, fun _ => ⟨by omega, by omega, by omega⟩⟩
theorem pw7 : (10 : Int) ^ (7 : Int).toNat = 10000000 := by decide
theorem cp8 : CPow 10 8 = True := propext ⟨fun _ => trivial, fun _ => ⟨by omega, by omega, by omega⟩⟩
theorem pw8 : (10 : Int) ^ (8 : Int).toNat = 100000000 := by decide
theorem cp9 : CPow 10 9 = True := propext ⟨fun _ => trivial, fun _ => ⟨by omega, by omega, by omega⟩⟩
theorem pw9 : (10 : Int) ^ (9 : Int).toNat = 1000000000 := by decide
theorem cp10 : CPow 10 10 = True := propext ⟨fun _ => trivial, fun _ => ⟨by omega, by omega, by omega⟩⟩
theorem pw10 : (10 : Int) ^ (10 : Int).toNat = 10000000000 := by decide
theorem cp12 : CPow 10 12 = True := propext ⟨fun _ => trivial, fun _ => ⟨by omega, by omega, by omega⟩⟩
theorem pw12 : (10 : Int) ^ (12 : Int).toNat = 1000000000000 := by decide
theorem cp15 : CPow 10 15 = True := propext ⟨fun _ => trivial, fun _ => ⟨by omega, by omega, by omega⟩⟩
theorem pw15 : (10 : Int) ^ (15 : Int).toNat = 1000000000000000 := by decide
theorem cp18 : CPow 10 18 = True := propext ⟨fun _ => trivial, fun _ => ⟨by omega, by omega, by omega⟩⟩
theorem pw18 : (10 : Int) ^ (18 : Int).toNat = 1000000000000000000 := by decide
theorem cp20 : CPow 10 20 = True := propext ⟨fun _ => trivial, fun _ => ⟨by omega, by omega, by omega⟩⟩
theorem pw20 : (10 : Int) ^ (20 : Int).toNat = 100000000000000000000 := by decide
theorem cp24 : CPow 10 24 = True := propext ⟨fun _ => trivial, fun _ => ⟨by omega, by omega, by omega⟩⟩
theorem pw24 : (10 : Int) ^ (24 : Int).toNat = 1000000000000000000000000 := by decide
theorem cp28 : CPow 10 28 = True := propext ⟨fun _ => trivial, fun _ => ⟨by omega, by omega, by omega⟩⟩
theorem pw28 : (10 : Int) ^ (28 : Int).toNat = 10000000000000000000000000000 := by decide
theorem cp29 : CPow 10 29 = True := propext ⟨fun _ => trivial, fun _ => ⟨by omega, by omega, by omega⟩⟩
theorem pw29 : (10 : Int) ^ (29 : Int).toNat = 100000000000000000000000000000 := by decide
theorem cp30 : CPow 10 30 = True := propext ⟨fun _ => trivial, fun _ => ⟨by omega, by omega, by omega⟩⟩
theorem pw30 : (10 : Int) ^ (30 : Int).toNat = 1000000000000000000000000000000 := by decide
end DL

namespace DX
open PySem PySem.Spec PySem.W PySem.Calls PySem.HandSPX
/-! ### what a built-in class gives to own ones over it whose __init__ is their own -/
/-- making of one, up to its own __init__; and the class's __init__ on it -/
structure XBase (newId initId : String) (tl : List Value) : Prop where
  call : ∀ {prog : Program} {w : World} {A : Around} {R : Result → Shared → Prop} {s : Shared} {nm q : PySem.Str} {C N : Addr} {bs bm : List Value} {hdct : Bool} {sn : List PySem.Str} {sub : List Value} {ab : Bool} {col : Option Bool} {dd : Option Addr}
      {k0 k1 k2 k3 k5 : Option Value} {us : List Value} {fI : Addr}, (∀ T : String, bm.contains (.type T) = tl.contains (.type T)) → s.heap.get? C = some (excClassObj nm q C N bs bm hdct sn sub ab col dd k0 k1 k2 k3 k5 newId) →
    W.Looks (model prog w) s.heap (typeLookup (.ref C) "__init__") (some (.ref fI)) → (∀ o, W.Looks (model prog w) s.heap (bindSpecial (.ref fI) o) (.ref fI, [o])) → us.length ≤ sizeLine →
    codeAny (model prog w) (A.under (.builtin "type.__call__" ⟨.ref C :: us, []⟩)) (.call (.ref fI) ⟨.ref (s.heap.objs.size + 1) :: us, []⟩) (W.InitBack (s.heap.objs.size + 1) R) { s with heap := (s.heap.push (W.kdv_tup us)).push (excO C s.heap.objs.size) } →
    codeAny (model prog w) A (.call (.ref C) ⟨us, []⟩) R s
  init : ∀ {prog : Program} {w : World} {A : Around} {R : Result → Shared → Prop} {s : Shared} {nm q : PySem.Str} {C N : Addr} {bs bm : List Value} {hdct : Bool} {sn : List PySem.Str} {sub : List Value} {ab : Bool} {col : Option Bool} {dd : Option Addr}
      {k0 k1 k2 k3 k5 : Option Value} {us : List Value} {e t0 : Addr}, (∀ T : String, bm.contains (.type T) = tl.contains (.type T)) → s.heap.get? C = some (excClassObj nm q C N bs bm hdct sn sub ab col dd k0 k1 k2 k3 k5 newId) →
    s.heap.get? e = some (excO C t0) → us.length ≤ sizeLine →
    (∀ h' t1, (∀ b o, b ≠ e → s.heap.get? b = some o → h'.get? b = some o) → h'.get? e = some (excO C t1) → R (.ok (.ret .none)) { s with heap := h' }) →
    codeAny (model prog w) A (.call (.builtin initId) ⟨.ref e :: us, []⟩) R s
theorem XBase.of {B newId initId : String} {tl : List Value} (F : ExcBaseFacts B newId initId tl) : XBase newId initId tl :=
  ⟨fun {_ _ _ _ s _ _ _ _ _ _ _ _ _ _ _ _ _ _ _ _ _ _ _} hT hC hi hb hl hq => by obtain ⟨hp, g, d, t, os⟩ := s; exact call_own F hT hC hi hb hl hq,
   fun {_ _ _ _ s _ _ _ _ _ _ _ _ _ _ _ _ _ _ _ _ _ _ _ _} hT hC he hl hq => by obtain ⟨hp, g, d, t, os⟩ := s; exact init_base F hT hC he hl hq⟩
/-! ### .. where __new__ is another class's (KeyError has LookupError's) -/
section
variable {prog : Program} {w : World} {A : Around} {E : Value → Shared → Prop} {R : Result → Shared → Prop} {hp : Heap} {g : Array GenState} {d : Drawn} {t : Nat} {os : OsState}
variable {nm q : PySem.Str} {C N : Addr} {bs bm tL : List Value} {hdct : Bool} {sn : List PySem.Str} {sub : List Value} {ab : Bool} {col : Option Bool} {dd : Option Addr} {k0 k1 k2 k3 k5 : Option Value} {L B newId iL initId : String}
abbrev hasT (bm : List Value) (T : String) : Bool := bm.contains (.type T)
theorem hasT_ref {T : String} {b : Bool} (h : hasT bm T = b) : (Value.ref C :: bm).contains (.type T) = b := by rw [List.contains_cons, show bm.contains (.type T) = b from h]; exact Bool.false_or b
theorem kx_check_new (F : ExcBaseFacts L newId iL tL) (hL : hasT bm L = true) {us : List Value} {Q : Unit → Shared → Prop} (hC : hp.get? C = some (excClassObj nm q C N bs bm hdct sn sub ab col dd k0 k1 k2 k3 k5 newId))
    (hq : Q () ⟨hp, g, d, t, os⟩) : wpAny (model prog w) A (checkBuiltinCall newId ⟨.ref C :: us, []⟩) Q E ⟨hp, g, d, t, os⟩ := by
  have c1 := hasT_ref (C := C) hL
  have c2 := F.noStar
  simp only [F.newRow, F.newKind, F.newSplit, checkBuiltinCall]
  repeat (first | refine wpAny_madeBy_exc hC ?_ | refine wpAny_loadPart_at hC ?_ | (refine wpAny_isSubtype_exc hC ?_; rw [c1]) | refine wpAny_staticBase_exc hC ?_ | simp only [Bool.false_eq_true, bne_self_eq_false, if_false] | wp_step)
  exact hq
theorem kx_new (F : ExcBaseFacts L newId iL tL) (hL : hasT bm L = true) (hA : hasT bm "AttributeError" = false) (hN : hasT bm "NameError" = false) {us : List Value} (hC : hp.get? C = some (excClassObj nm q C N bs bm hdct sn sub ab col dd k0 k1 k2 k3 k5 newId))
    (hl : us.length ≤ sizeLine) (hq : R (.ok (.ret (.ref (hp.objs.size + 1)))) ⟨(hp.push (W.kdv_tup us)).push (excO C hp.objs.size), g, d, t, os⟩) :
    codeAny (model prog w) A (.builtin newId ⟨.ref C :: us, []⟩) R ⟨hp, g, d, t, os⟩ := by
  have c0 := F.ends
  have c1 := hasT_ref (C := C) hL
  have c2 := hasT_ref (C := C) hA
  have c3 := hasT_ref (C := C) hN
  refine codeAny_builtinAt F.entry ?_
  unfold Builtin.«BaseException.__new__»
  refine wpAt_bind ?_
  change wpAt _ _ _ (stack >>= _) _ _ _
  refine wpAt_bind (wpAt_stack fun p0 below0 => wpAt_of_wpAny ?_)
  wp_walk
  refine wpAt_of_wpAny ?_
  rw [F.owner]
  repeat (first | with_reducible refine wpAny_loadPart_at hC ?_ | with_reducible refine wpAny_madeHere_exc F.canon hC ?_ | (with_reducible refine wpAny_isSubtype_exc hC ?_; first | rw [c1] | rw [c2] | rw [c3]) | wp_step)
  change R _ _
  rw [Heap.size_push]
  exact hq
theorem kx_type_call (F : ExcBaseFacts L newId iL tL) (hL : hasT bm L = true) (hA : hasT bm "AttributeError" = false) (hN : hasT bm "NameError" = false) {us : List Value} {fI : Addr} {Q : Fin → Shared → Prop}
    (hC : hp.get? C = some (excClassObj nm q C N bs bm hdct sn sub ab col dd k0 k1 k2 k3 k5 newId)) (hi : W.Looks (model prog w) hp (typeLookup (.ref C) "__init__") (some (.ref fI))) (hb : ∀ o, W.Looks (model prog w) hp (bindSpecial (.ref fI) o) (.ref fI, [o])) (hl : us.length ≤ sizeLine)
    (hq : codeAny (model prog w) A (.call (.ref fI) ⟨.ref (hp.objs.size + 1) :: us, []⟩) (fun r s' => match r with | .ok (.ret v) => v = .none ∧ Q (.done (.ret (.ref (hp.objs.size + 1)))) s' | .ok _ => False | .error e => E e s') ⟨(hp.push (W.kdv_tup us)).push (excO C hp.objs.size), g, d, t, os⟩) :
    wpAny (model prog w) A (Builtin.«type.__call__» ⟨.ref C :: us, []⟩) Q E ⟨hp, g, d, t, os⟩ := by
  repeat (first | with_reducible refine wpAny_madeBy_exc hC ?_ | with_reducible refine wpAny_loadPart_at hC ?_ | wp_step)
  refine codeAny_call_builtin_code (Code.quiet_builtin _ F.quiet) (kx_check_new F hL hC (kx_new F hL hA hN hC hl ?_))
  change wpAny _ _ _ _ _ _
  have old : ∀ b o, hp.get? b = some o → ((hp.push (W.kdv_tup us)).push (excO C hp.objs.size)).get? b = some o := fun b o z => Heap.get?_push_of_some _ (Heap.get?_push_of_some _ z)
  have hC2 := old _ _ hC
  have atE : ((hp.push (W.kdv_tup us)).push (excO C hp.objs.size)).get? (hp.objs.size + 1) = some (excO C hp.objs.size) := by heap_get
  have own : (Value.ref C :: bm).contains (.ref C) = true := by simp
  have hi2 := hi.keeps old
  have hb2 := (hb (.ref (hp.objs.size + 1))).keeps old
  unfold isInstance
  repeat (first | with_reducible refine wpAny_loadPart_at atE ?_ | (with_reducible refine wpAny_isSubtype_exc hC2 ?_; rw [own]) | wp_step)
  change wpAny _ _ (typeLookup (.ref C) _) _ _ _
  refine hi2.at (wpAny_holding (wpAny_bind (hb2.at (wpAny_bind (wpAny_call (codeAny_mono hq fun r s' z => ?_))))))
  rcases r with e | (v | _ | _ | _) <;> first | exact z | exact z.elim | skip
  obtain ⟨rfl, z⟩ := z
  first | exact wpAny_pure (wpAny_pure z) | (wp_walk; exact z)
theorem kx_call (F : ExcBaseFacts L newId iL tL) (hL : hasT bm L = true) (hA : hasT bm "AttributeError" = false) (hN : hasT bm "NameError" = false) {us : List Value} {fI : Addr}
    (hC : hp.get? C = some (excClassObj nm q C N bs bm hdct sn sub ab col dd k0 k1 k2 k3 k5 newId)) (hi : W.Looks (model prog w) hp (typeLookup (.ref C) "__init__") (some (.ref fI))) (hb : ∀ o, W.Looks (model prog w) hp (bindSpecial (.ref fI) o) (.ref fI, [o])) (hl : us.length ≤ sizeLine)
    (hq : codeAny (model prog w) (A.under (.builtin "type.__call__" ⟨.ref C :: us, []⟩)) (.call (.ref fI) ⟨.ref (hp.objs.size + 1) :: us, []⟩) (W.InitBack (hp.objs.size + 1) R) ⟨(hp.push (W.kdv_tup us)).push (excO C hp.objs.size), g, d, t, os⟩) :
    codeAny (model prog w) A (.call (.ref C) ⟨us, []⟩) R ⟨hp, g, d, t, os⟩ := by
  have l1 := tc_lookup
  have l2 := tc_bind (.ref C)
  have isT : (⟨hp, g, d, t, os⟩ : Shared).TypeIs (.ref C) "type" := ⟨_, hC, rfl⟩
  refine codeAny_of_tree ?_
  change wpAny _ _ (callAny (.ref C) _) _ _ _
  repeat (any_goals (first | assumption | with_reducible refine wpAny_loadPart_at hC ?_ | wp_step))
  refine ⟨rfl, codeAny_call_builtin_at (Code.quiet_builtin _ (by decide +kernel)) entry_typeCall (wpAny_check_type_call_sub hC (kx_type_call F hL hA hN hC hi hb hl (codeAny_mono hq fun r s' z => ?_)))⟩
  rcases r with e | (v | _ | _ | _) <;> exact z
theorem kx_init (G : PyProof.Rows.ExcClass B newId initId) (hB : hasT bm B = true) {e t0 : Addr} {us : List Value} (hC : hp.get? C = some (excClassObj nm q C N bs bm hdct sn sub ab col dd k0 k1 k2 k3 k5 newId)) (he : hp.get? e = some (excO C t0)) (hl : us.length ≤ sizeLine)
    (hq : ∀ h' t1, (∀ b o, b ≠ e → hp.get? b = some o → h'.get? b = some o) → h'.get? e = some (excO C t1) → R (.ok (.ret .none)) ⟨h', g, d, t, os⟩) :
    codeAny (model prog w) A (.call (.builtin initId) ⟨.ref e :: us, []⟩) R ⟨hp, g, d, t, os⟩ := by
  have c1 := hasT_ref (C := C) hB
  have c2 := G.notStar
  refine codeAny_call_builtin G.init.plain G.initEntry ?_
  simp only [checkBuiltinCall, G.initSplit, G.initKind, G.initSig]
  repeat (first | (with_reducible refine wpAny_loadPart_at he ?_) | with_reducible refine wpAny_loadPart_at hC ?_ | (with_reducible refine wpAny_isSubtype_exc hC ?_; rw [c1]) | wp_step)
  refine wpAny_onRaise ?_
  rw [show ∀ (a b : String) (n : Nat), Bind.check ⟨.positional, "*", B, .self, [⟨"args", .varPos, false⟩]⟩ a b n (List.map (fun y => y.fst) ({ pos := Value.ref e :: us } : Args).kw) = pure () from fun a b n => check_star_args _ _ _ _ _ _]
  refine wpAny_pure ?_
  wp_walk
  refine hq _ hp.objs.size (fun b o hb ho => ?_) ?_
  · rw [Heap.get?_update_other _ _ (Ne.symm hb)]; exact Heap.get?_push_of_some _ ho
  · rw [Heap.get?_update_self _ (Heap.get?_push_of_some _ he) rfl]; rfl
end
theorem xb_KeyError : XBase "LookupError.__new__" "KeyError.__init__" [.type "KeyError", .type "LookupError", .type "Exception", .type "BaseException", .type "object"] :=
  ⟨fun {_ _ _ _ s _ _ _ _ _ _ _ _ _ _ _ _ _ _ _ _ _ _ _} hT hC hi hb hl hq => by obtain ⟨hp, g, d, t, os⟩ := s; exact kx_call PySem.F.excBase_LookupError ((hT _).trans (by decide +kernel)) ((hT _).trans (by decide +kernel)) ((hT _).trans (by decide +kernel)) hC hi hb hl hq,
   fun {_ _ _ _ s _ _ _ _ _ _ _ _ _ _ _ _ _ _ _ _ _ _ _ _} hT hC he hl hq => by obtain ⟨hp, g, d, t, os⟩ := s; exact kx_init PyProof.Rows.excClass_KeyError ((hT _).trans (by decide +kernel)) hC he hl hq⟩
theorem st_KeyError : StoreFacts "KeyError" [.type "KeyError", .type "LookupError", .type "Exception", .type "BaseException", .type "object"] "object.__setattr__" "object" :=
  { mro := by kernel_rfl
    slot := .of (n := "__setattr__") (owner := "object") (by rw [typeLookup_type, builtinLookup_eq_fast]; kernel_rfl) (by decide +kernel) (by decide +kernel) (by decide +kernel) (by first | exact .inl (by decide +kernel) | exact .inr (by decide +kernel)) (by rw [isSubtype_type]; kernel_rfl)
    entry := PySem.F.store_LookupError.entry
    kind := PySem.F.store_LookupError.kind
    split := PySem.F.store_LookupError.split
    hasOwner := by decide +kernel
    args := PySem.F.store_LookupError.args
    passes := fun self => by kernel_rfl }
end DX
/-! ### exceptions with an own __init__ that calls its base's -/
namespace DX
open PySem PySem.Spec PySem.W PySem.Calls PyProof.Rows PySem.HandSPX
section
open Builtin Builtin.ObjectAttr
variable {prog : Program} {w : World} {A : Around} {R : Result → Shared → Prop} {hp : Heap} {g : Array GenState} {d : Drawn} {t : Nat} {os : OsState}
variable {K : Frag} {name : PySem.Str} {tk : Tok} {v : Value} {x C dx : Addr} {fv : Array Value} {cd : ClassData} {B : String} {bmB : List Value}
theorem taker0 (ha : findIn K (.ref C) name = some none) : takerIn K C name = some none := by unfold takerIn; rw [ha]; rfl
/-- the first field -/
theorem osa1 (SF : StoreFacts B bmB "object.__setattr__" "object") (X : K.In hp) (hx : hp.get? x = some { cls := .ref C, data := .fields fv }) (hcd : clsIn K C = some cd) (hh : cd.hasDict = true) (ho : excOver K C bmB = true) (ha : findIn K (.ref C) name = some none)
    (hq : ∀ h' tk' dx, (∀ b o, b ≠ x → hp.get? b = some o → h'.get? b = some o) → hp.objs.size ≤ dx → dx ≠ x → h'.get? x = some { cls := .ref C, dict := some dx, data := .fields fv } → h'.Ns1 dx (fun y => if y = name then some v else none) →
      R (.ok (.ret .none)) ⟨h', g, d, tk', os⟩) : codeAny (model prog w) A (.call (.builtin "object.__setattr__") ⟨[.ref x, .str name tk, v], []⟩) R ⟨hp, g, d, t, os⟩ := by
  refine osa_openX (s := ⟨hp, g, d, t, os⟩) SF X (show InstAt hp x _ C none from ⟨hx, rfl, rfl, trivial⟩) ho (taker0 ha) fun b => ?_
  have far : hp.objs.size ≠ x := (Nat.ne_of_lt (Heap.lt_size hx)).symm
  have lc : Looks (model prog w) hp (classData C) cd := looks_clsIn X hcd
  cases cd with
  | mk nm bs mro ns qn hd sn sb ab col del =>
  have hh' : hd = true := hh
  subst hh'
  unfold storeInOwnDict ownDictForStores
  repeat (first | with_reducible refine store_in_new ?_ ?_ | with_reducible refine wpAny_loadPart_at hx ?_ | with_reducible refine lc.at ?_ | wp_step)
  · exact ⟨_, #[], _, (Heap.get?_update_ne _ _ _ _ far).trans (Heap.get?_push_at rfl rfl), rfl, fun e he => absurd he (by simp), fun _ => rfl⟩
  · intro h2 t2 hn2 sb2
    refine hq h2 t2 hp.objs.size (fun c o hc e => ?_) (Nat.le_refl _) far ?_ hn2
    · exact (sb2.2 c (Nat.ne_of_lt (Heap.lt_size e))).trans ((Heap.get?_update_ne _ _ _ _ hc).trans (Heap.get?_push_of_some _ e))
    · exact (sb2.2 x far.symm).trans (Heap.get?_update_self _ (Heap.get?_push_of_some _ hx) rfl)
/-- a further one -/
theorem osa2 {m0 : PySem.Str → Option Value} {nl : List PySem.Str} (SF : StoreFacts B bmB "object.__setattr__" "object") (X : K.In hp) (hx : hp.get? x = some { cls := .ref C, dict := some dx, data := .fields fv }) (hns : hp.Ns1 dx m0) (hw : Within m0 nl) (hz : nl.length ≤ 1000)
    (hcd : clsIn K C = some cd) (hh : cd.hasDict = true) (ho : excOver K C bmB = true) (ha : findIn K (.ref C) name = some none)
    (hq : ∀ h' tk', (∀ b o, b ≠ dx → hp.get? b = some o → h'.get? b = some o) → h'.Ns1 dx (fun y => if y = name then some v else m0 y) → R (.ok (.ret .none)) ⟨h', g, d, tk', os⟩) :
    codeAny (model prog w) A (.call (.builtin "object.__setattr__") ⟨[.ref x, .str name tk, v], []⟩) R ⟨hp, g, d, t, os⟩ := by
  obtain ⟨oD, _, _, hD, _⟩ := hns.count hw
  refine osa_openX (s := ⟨hp, g, d, t, os⟩) SF X (show InstAt hp x _ C (some oD) from ⟨hx, rfl, rfl, hD⟩) ho (taker0 ha) fun b => ?_
  have lc : Looks (model prog w) hp (classData C) cd := looks_clsIn X hcd
  cases cd with
  | mk nm bs mro ns qn hd sn sb ab col del =>
  have hh' : hd = true := hh
  subst hh'
  unfold storeInOwnDict ownDictForStores
  repeat (first | with_reducible refine OEX.store_in_old hns hw hz ?_ | with_reducible refine wpAny_loadPart_at hx ?_ | with_reducible refine lc.at ?_ | wp_step)
  intro h2 t2 hn2 sb2
  exact hq h2 t2 (fun c o hc e => (sb2.2 c hc).trans e) hn2
end
/-- what the written part says of such a class -/
structure OexB (K : Frag) (B newId : String) (bmB : List Value) (C : Addr) : Prop where
  ini : excInitIn K C bmB newId = true
  over : excOver K C bmB = true
  hd : hasDictIn K C = true
  sa : findIn K (.ref C) "__setattr__" = some (some (.builtin "object.__setattr__"))
  sf : StoreFacts B bmB "object.__setattr__" "object"
theorem OexB.cd {K : Frag} {B newId : String} {bmB : List Value} {C : Addr} (T : OexB K B newId bmB C) : ∃ cd, clsIn K C = some cd ∧ cd.hasDict = true := by
  obtain ⟨cd, h1, h2⟩ := any_some T.hd
  exact ⟨cd, h1, h2⟩
end DX
namespace DL
open PySem PySem.Spec L2 DX
open PyProof.Rows hiding St
section
variable {X : Cx} {pins : List (Addr × Obj)} {σ : L2.St} {H : Hp} {s : Shared} {a C dx : Addr} {f : Str} {y : V} {u : Value} {fs : List (Str × V)} {Q : Unit → Shared → Prop} {E : Value → Shared → Prop} {A : Around} {B newId : String} {bmB : List Value}
theorem at_ext {H : Hp} {a b : Addr} {φ : Heap → Prop} {u : HO} (ha : H a = some (.ext φ)) (hb : H b = some u) (d : ∀ φ, u ≠ .ext φ) : b ≠ a := fun z => by
  rw [z, ha] at hb; cases hb; exact d _ rfl
theorem ostB1 (T : OexB X.K B newId bmB C) (I : Inv X pins σ H s) (e : H a = some (exo a C none)) (hno : PySem.W.findIn X.K (.ref C) f = some none) (ry : RelV y u)
    (h : ∀ dx s', H dx = none → dx ≠ a → Inv X pins σ (upd (upd H dx (exd dx [(f, y)])) a (exo a C (some dx))) s' → Q () s') : wpAny (model X.prog X.w) A (setAttr (.ref a) f u) Q E s := by
  obtain ⟨cd, c1, c2⟩ := T.cd
  obtain ⟨t1, ho⟩ := exo_at I.hok e
  obtain ⟨hp, g, d, t, os⟩ := s
  refine PySem.W.set_plain I.kIn (show PySem.W.InstAt hp a _ C none from ⟨ho, rfl, rfl, trivial⟩) T.sa (osa1 T.sf I.kIn ho c1 c2 T.over hno fun h' tk' dx k dn dne hx hn => ?_)
  have hnd : H dx = none := I.hok.fresh dn
  have old : ∀ {b : Addr} {o : Obj}, hp.get? b = some o → b ≠ dx := fun q => Nat.ne_of_lt (Nat.lt_of_lt_of_le (Heap.lt_size q) dn)
  have una : ∀ {b : Addr}, H b = none → b ≠ a := by rintro b n rfl; rw [e] at n; cases n
  have same : ∀ {b : Addr} {o : HO}, b ≠ a → H b = some o → upd (upd H dx (exd dx [(f, y)])) a (exo a C (some dx)) b = some o := fun hb q => by rw [upd_ne hb, upd_ne (ne_of_none q hnd)]; exact q
  refine h dx _ hnd dne (I.un (t' := tk') ⟨fun b o q n _ _ => k b o (una n) q, fun b o q n _ _ => ⟨o.slots, k b o (una n) q⟩, fun b o q n _ => ?_, fun b o q _ => ?_, fun b xs q => same (at_ext e q fun _ z => nomatch z) q, fun b o v q => same (at_ext e q fun _ z => nomatch z) q,
    fun b ps q => ⟨#[], by rw [same (at_ext e q fun _ z => nomatch z) q]; simp⟩⟩ fun b o q => ?_)
  · rw [upd_ne (una n), upd_ne (old q)]; exact n
  · by_cases hb : b = a
    · exact ⟨_, hb ▸ hx⟩
    · exact ⟨o, k b o hb q⟩
  · by_cases hb : b = a
    · subst hb
      rw [upd_same] at q
      cases q
      exact exo_ok hx
    · rw [upd_ne hb] at q
      by_cases hd : b = dx
      · subst hd
        rw [upd_same] at q
        cases q
        exact exd_ok hn (relO_put (fs := []) ry fun g => True.intro)
      · rw [upd_ne hd] at q
        refine (I.hok b o q).stay (fun c v hc z => k c v (hc.elim (fun e => e ▸ hb) fun hc => at_ext e hc fun _ z => nomatch z) z) (fun c hc => same (at_ext e hc fun _ z => nomatch z) hc) fun c xs hc => same (at_ext e hc fun _ z => nomatch z) hc
theorem ostB2 (T : OexB X.K B newId bmB C) (I : Inv X pins σ H s) (e : H a = some (exo a C (some dx))) (ed : H dx = some (exd dx fs)) (hl : fs.length ≤ 900) (hno : PySem.W.findIn X.K (.ref C) f = some none) (ry : RelV y u)
    (h : ∀ s', Inv X pins σ (upd H dx (exd dx ((f, y) :: fs))) s' → Q () s') : wpAny (model X.prog X.w) A (setAttr (.ref a) f u) Q E s := by
  obtain ⟨cd, c1, c2⟩ := T.cd
  obtain ⟨t1, ho⟩ := exo_at I.hok e
  obtain ⟨mA, hns, rel⟩ := exd_at I.hok ed
  obtain ⟨hp, g, d, t, os⟩ := s
  obtain ⟨oD, _, _, hD, _⟩ := hns.count (within_of rel)
  refine PySem.W.set_plain I.kIn (show PySem.W.InstAt hp a _ C (some oD) from ⟨ho, rfl, rfl, hD⟩) T.sa (osa2 T.sf I.kIn ho hns (within_of rel) (by rw [List.length_map]; omega) c1 c2 T.over hno fun h' tk' k hn => ?_)
  obtain ⟨o, _, _, e', _⟩ := id hn
  exact h _ (I.write (t' := tk') (x := dx) (e := dx) (o := exd dx ((f, y) :: fs)) (by rw [ed]; exact True.intro) (.inl rfl) k ⟨o, e'⟩ (exd_ok hn (relO_put ry rel)))
/-- the base's __init__ on it: nothing of it is told -/
theorem oinitB {initId : String} {us : List Value} {Q : Value → Shared → Prop} (T : OexB X.K B newId bmB C) (FB : DX.XBase newId initId bmB) (I : Inv X pins σ H s) (e : H a = some (exo a C none)) (hl : us.length ≤ sizeLine) (h : ∀ s', Inv X pins σ H s' → Q .none s') :
    wpAny (model X.prog X.w) A (call (.builtin initId) (.ref a :: us)) Q E s := by
  obtain ⟨nm, N, q, bs, bm, hdct, sn, sub, ab, col, dd, k0, k1, k2, k3, k5, hC, hT⟩ := PySem.W.excInit_of I.kIn T.ini
  obtain ⟨t1, ho⟩ := exo_at I.hok e
  obtain ⟨hp, g, d, t, os⟩ := s
  refine wpAny_call (FB.init (s := ⟨hp, g, d, t, os⟩) hT hC ho hl fun h' t2 k hx => ?_)
  have J := I.write (t' := t) (x := a) (e := a) (o := exo a C none) (by rw [e]; exact True.intro) (.inl rfl) k ⟨_, hx⟩ (exo_ok hx)
  have eu : upd H a (exo a C none) = H := by
    funext b
    by_cases hb : b = a
    · rw [hb, upd_same, e]
    · rw [upd_ne hb]
  exact h _ (eu ▸ J)
end
end DL

namespace DL
open PySem PySem.Spec L2 DX
open PyProof.Rows hiding St
/-! ### __init__ of such a class -/
/-- how the base's __init__ is reached: by a built-in class's name, or an own class's -/
structure BaseI (K : PySem.W.Frag) (mg : Str → Option Value) (b : Str) (initId : String) : Prop where
  ex : (∃ T : String, mg b = none ∧ bootBuiltins b = some (.type T) ∧ b ≠ "__name__" ∧ typeOf (.type T) = pure (.type "type") ∧ Manifest.isStub T = false ∧ PySem.W.findCls K (.type T) (.type "type") "__init__" = some (.val (.builtin initId))) ∨
    ∃ W, mg b = some (.ref W) ∧ PySem.W.specialIn K (.ref W) "__getattribute__" = some (some (.builtin "type.__getattribute__")) ∧ PySem.W.readsIn K W (.type "type") = true ∧ PySem.W.findCls K (.ref W) (.type "type") "__init__" = some (.val (.builtin initId))
/-- an exception being made, or of what it holds so far -/
def tBin (K : PySem.W.Frag) (C : Addr) (ta : TA) : TE := fun σ H Q => ta σ H fun vs H1 => ∃ (a : Addr) (ws : List V), vs = .ref a :: ws ∧ ws.length ≤ 1000 ∧ H1 a = some (exo a C none) ∧ Q .non H1
def tSt (f : Str) (C : Addr) (to te : TE) : TS := fun D σ H => te σ H fun y H1 => to σ H1 fun x H2 => ∃ a : Addr, x = .ref a ∧
  ((H2 a = some (exo a C none) ∧ ∀ dx, H2 dx = none → dx ≠ a → D.nx σ (upd (upd H2 dx (exd dx [(f, y)])) a (exo a C (some dx)))) ∨
    ∃ (dx : Addr) (fs : List (Str × V)), H2 a = some (exo a C (some dx)) ∧ H2 dx = some (exd dx fs) ∧ fs.length ≤ 900 ∧ D.nx σ (upd H2 dx (exd dx ((f, y) :: fs))))
section
variable {X : Cx} {o e : Expr} {es : List Expr} {to te : TE} {ta : TA} {f b : Str} {p p' p1 p2 pos : Pos} {B newId initId : String} {bmB : List Value} {C : Addr}
theorem pe_bin {pl : Sem Bool} (T : OexB X.K B newId bmB C) (FB : DX.XBase newId initId bmB) (BI : BaseI X.K X.mg b initId) (hg : Gl X b) (ha : PA X (e :: es) ta) (hh : PySem.W.handedIn (.builtin initId) = true)
    (hc : eval (.Call (.Attribute (.Name b p1) "__init__" p2) (e :: es) [] pos) X.env = (do
      let ov ← eval (.Name b p1) X.env
      standAt p2.atName
      let (f, first) ← holding [ov] (getMethod ov "__init__" pl)
      callWith pos f first (backTo pos (starEach (e :: es) X.env)) (backToKw pos (keywordEach [] X.env))) := by rfl)
    (hdb : (b == ("__debug__" : Str)) = false := by decide) (he : starEach (e :: es) X.env = (false, eval e X.env) :: starEach es X.env := by rfl) (hpl : (backTo pos (starEach es X.env)).any (·.1) = false := by rfl) :
    PE X (.Call (.Attribute (.Name b p1) "__init__" p2) (e :: es) [] pos) (tBin X.K C ta) := by
  refine ⟨fun pins s σ H Q I h => ?_⟩
  have fin : ∀ s0, Inv X pins σ H s0 → wpAny (model X.prog X.w) X.A (callWith pos (Value.builtin initId) [] (backTo pos (starEach (e :: es) X.env)) []) (EP X pins σ Q) X.xe s0 := fun s0 I0 =>
    PyProof.Rows.callWith_method1 (thn (ha.run pos pins _ σ H _ I0 h) fun us s1 ⟨vs, H1, I1, r1, a, ws, ev, hl, ea, q⟩ => by
      subst ev
      cases r1 with
      | @cons _ u0 _ ur ra rw' =>
        obtain rfl : u0 = Value.ref a := ra
        exact oinitB T FB I1 ea (by rw [← Paired.length rw', sizeLine_eq]; omega) fun s' J => ⟨.non, H1, J, rfl, q⟩) he hpl
  obtain ⟨m, fr⟩ := I.fr
  rcases BI.ex with ⟨Ty, b1, b2, b3, b4, b5, b6⟩ | ⟨W, b1, b2, b3, b4⟩
  · exact PySem.W.methodCall_KW (ld_blt I hg b1 b2 (PySem.W.method_type fr I.ok.mod.kin b4 b5 b6 hh (fin _ (I.tok _))) b3 hdb) hc
  · exact PySem.W.methodCall_KW (ld_glob I hg b1 (PySem.W.method_cls I.kIn b2 (PySem.W.cls_value I.kIn b3 b4 hh (fin _ (I.tok _)))) hdb) hc
theorem ps_stB (T : OexB X.K B newId bmB C) (hno : PySem.W.findIn X.K (.ref C) f = some none) (ho : PE X o to) (he : PE X e te) (hs : swapsWith e (some (.Attribute o f p')) pos.line X.env = pure false := by rfl) : PS X (.Assign [.Attribute o f p'] e pos) (tSt f C to te) := by
  refine ⟨fun pins s σ H D I h => ?_⟩
  refine plainObj_wpAny_Assign_Attribute (thn (he.run pins s σ H _ I h) fun v s1 ⟨y, H1, I1, r1, q1⟩ => thn (ho.run pins s1 σ H1 _ I1 q1) fun u s2 ⟨x, H2, I2, r2, a, ex, q⟩ => ?_) hs
  subst ex
  obtain rfl : u = Value.ref a := r2
  rcases q with ⟨ea, q⟩ | ⟨dx, fs, ea, ed, hl, q⟩
  · exact ostB1 T I2 ea hno r1 fun dx s' n ne J => ⟨σ, _, J, q dx n ne⟩
  · exact ostB2 T I2 ea ed hl hno r1 fun s' J => ⟨σ, _, J, q⟩
end
/-- what __init__ keeps: the fields, the last one first -/
def spI (C : Addr) (fs : List Str) : Sp := fun vs H Q _ => ∃ (a : Addr) (ws : List V), vs = .ref a :: ws ∧ ws.length = fs.length ∧ H a = some (exo a C none) ∧
  ∀ dx, H dx = none → dx ≠ a → Q .non (upd (upd H dx (exd dx (fs.zip ws).reverse)) a (exo a C (some dx)))
section
variable {P : Program} {w : World} {K : PySem.W.Frag} {mg : Str → Option Value} {base : Heap} {fI : Addr} {fd : FuncData} {qual f g m : Str} {pa : Arguments} {bd : List Stmt} {sc : Scope} {C : Addr}
abbrev tIni (K : PySem.W.Frag) (C : Addr) (m : Str) : TS := tDrop (tBin K C (tCons (tVar 0) (tCons (tC (.str m)) tNil)))
/-- .. with one field, with two: the body is read by its rules -/
theorem init1 (S : FnScope ["self", f] ["self", f] sc) (F : L2.FunD K "__init__" qual pa bd sc [] [] fI fd)
    (hb : ∀ cdv A outer s H E, PSs (cxOf (L2.CX P w) P w K mg base ["self", f] qual sc fI cdv A outer s H E) bd (tSeq (tIni K C m) (tSt f C (tVar 0) (tVar 1)))) : FnG P w K mg base 1 fI fd ["self", f] (spI C [f]) := by
  refine fnG_of F S (fun vs H Q E ⟨a, ws, e, hl, _⟩ => by rw [e, List.length_cons, hl]; rfl) fun cdv A outer s H vs Q E hr ⟨a, ws, e, hl, ha, q⟩ => ?_
  obtain ⟨v, rfl⟩ : ∃ v, ws = [v] := by
    match ws, hl with
    | [v], _ => exact ⟨v, rfl⟩
  subst e
  exact ⟨_, hb cdv A outer s H E, _, rfl, a, _, rfl, by simp, ha, _, rfl, _, rfl, a, rfl, .inl ⟨ha, fun dx hx hne => q dx hx hne⟩⟩
theorem init2 (S : FnScope ["self", f, g] ["self", f, g] sc) (F : L2.FunD K "__init__" qual pa bd sc [] [] fI fd)
    (hb : ∀ cdv A outer s H E, PSs (cxOf (L2.CX P w) P w K mg base ["self", f, g] qual sc fI cdv A outer s H E) bd (tSeq (tIni K C m) (tSeq (tSt f C (tVar 0) (tVar 1)) (tSt g C (tVar 0) (tVar 2))))) : FnG P w K mg base 1 fI fd ["self", f, g] (spI C [f, g]) := by
  refine fnG_of F S (fun vs H Q E ⟨a, ws, e, hl, _⟩ => by rw [e, List.length_cons, hl]; rfl) fun cdv A outer s H vs Q E hr ⟨a, ws, e, hl, ha, q⟩ => ?_
  obtain ⟨v, u, rfl⟩ : ∃ v u, ws = [v, u] := by
    match ws, hl with
    | [v, u], _ => exact ⟨v, u, rfl⟩
  subst e
  refine ⟨_, hb cdv A outer s H E, _, rfl, a, _, rfl, by simp, ha, _, rfl, _, rfl, a, rfl, .inl ⟨ha, fun dx hx hne => ⟨_, rfl, _, rfl, a, rfl, .inr ⟨dx, _, upd_same, by rw [upd_ne hne, upd_same], by simp, ?_⟩⟩⟩⟩
  have z := q dx hx hne
  have e : upd (upd (upd H dx (exd dx [(f, v)])) a (exo a C (some dx))) dx (exd dx [(g, u), (f, v)]) = upd (upd H dx (exd dx ([f, g].zip [v, u]).reverse)) a (exo a C (some dx)) := by
    funext c
    by_cases h1 : c = dx
    · subst h1; rw [upd_same, upd_ne hne, upd_same]; rfl
    · by_cases h2 : c = a
      · subst h2; rw [upd_ne h1, upd_same, upd_same]
      · rw [upd_ne h1, upd_ne h2, upd_ne h1, upd_ne h2, upd_ne h1]
  show Q .non _
  rw [e]; exact z
end
/-! ### raise X(e, ..) -/
/-- such a class, as it is raised -/
structure RaiseI (P : Program) (w : World) (K : PySem.W.Frag) (mg : Str → Option Value) (base : Heap) (k : Nat) (x : Str) (C : Addr) (fs : List Str) : Prop where
  ex : ∃ (B newId initId : String) (bmB : List Value) (fI : Addr) (fd : FuncData), OexB K B newId bmB C ∧ DX.XBase newId initId bmB ∧ PySem.W.findIn K (.ref C) "__init__" = some (some (.ref fI)) ∧ PySem.W.isFn K (.ref fI) = true ∧
    FnG P w K mg base k fI fd ("self" :: fs) (spI C fs) ∧ Binds K fd ("self" :: fs) []
  mgC : mg x = some (.ref C)
  kp : PySem.W.keepIn K (.ref C) = true
  sub : PySem.W.subIn K (.ref C) (.type "BaseException") = some true
  ty : PySem.W.typeIn K (.ref C) = some (.type "type")
theorem passK0 {X : Cx} {pins : List (Addr × Obj)} {σ : L2.St} {H : Hp} {s s' : Shared} {e : Value} (I : Inv X pins σ H s) (c : L2.CX X.prog X.w X.stack H s (fun _ _ _ => False) e s') : X.xe e s' := passF pins H s e s' I c
def tMkB (C : Addr) (fs : List Str) (ta : TA) : L2.St → Hp → XK → Prop := fun σ H Q => ta σ H fun vs H1 => vs.length = fs.length ∧ ∀ d, H1 d = none → Q (.ref C) (some d) (upd H1 d (.xd (fs.zip vs).reverse))
theorem fresh_ne {H : Hp} {b : Addr} {n : Nat} {o : HO} (h : H b = some o) (hf : ∀ c, n ≤ c → H c = none) : b < n := by
  rcases Nat.lt_or_ge b n with z | z
  · exact z
  · rw [hf b z] at h; cases h
theorem pmkB {X : Cx} {k j : Nat} {x : Str} {C : Addr} {fs : List Str} {e : Expr} {es : List Expr} {ta : TA} {p pos : Pos} (R : RaiseI X.prog X.w X.K X.mg X.base k x C fs) (hr : RoomG j X.A) (hj : k + 1 ≤ j) (hg : Gl X x) (ha : PA X (e :: es) ta) (hz : fs.length ≤ 1000)
    (hdb : (x == ("__debug__" : Str)) = false := by decide) (he : starEach (e :: es) X.env = (false, eval e X.env) :: starEach es X.env := by rfl) (hpl : (backTo pos (starEach es X.env)).any (·.1) = false := by rfl) :
    PMk X (.Call (.Name x p) (e :: es) [] pos) (tMkB C fs ta) := by
  intro pins s σ H Q I h
  obtain ⟨B, newId, initId, bmB, fI, fd, T, FB, iC, tI, F1, hb⟩ := R.ex
  refine wpAny_Call_Name_kw (ld_glob I hg R.mgC ?_ hdb)
  refine PySem.W.callWith_K (h₀ := X.base) I.ok.mod.kin R.kp (thn (ha.run pos pins s σ H _ I h) fun us s1 ⟨vs, H1, I1, rv, hl, q⟩ => ⟨I1.kIn, ?_⟩) he hpl
  obtain ⟨nm, N, qn, bs, bm, hdct, sn, sub, ab, col, dd, k0, k1, k2, k3, k5, hC, hT⟩ := PySem.W.excInit_of I1.kIn T.ini
  obtain ⟨hp, gg, dr, tk, os⟩ := s1
  let h2 := (hp.push (PySem.W.kdv_tup us)).push (PySem.HandSPX.excO C hp.objs.size)
  have kk : ∀ b o, hp.get? b = some o → h2.get? b = some o := fun b o z => Heap.get?_push_of_some _ (Heap.get?_push_of_some _ z)
  have at2 : h2.get? (hp.objs.size + 1) = some (PySem.HandSPX.excO C hp.objs.size) := by show Heap.get? ((hp.push (PySem.W.kdv_tup us)).push (PySem.HandSPX.excO C hp.objs.size)) (hp.objs.size + 1) = _; heap_get
  have big : hp.objs.size ≤ hp.objs.size + 1 := Nat.le_succ _
  have I2 : Inv X pins σ (upd H1 (hp.objs.size + 1) (exo (hp.objs.size + 1) C none)) ⟨h2, gg, dr, tk, os⟩ := I1.laid (t' := tk) kk big (exo_ok at2)
  have r2 : Vals (V.ref (hp.objs.size + 1) :: vs) (Value.ref (hp.objs.size + 1) :: us) := .cons rfl rv
  have lu : us.length = vs.length := (Paired.length rv).symm
  have hus : us.length ≤ sizeLine := by rw [lu, hl, sizeLine_eq]; omega
  have roomC : RoomG k (X.A.under (.builtin "type.__call__" ⟨.ref C :: us, []⟩)) := (hr.mono hj).make C us []
  have bnd := hb ⟨h2, gg, dr, tk, os⟩ (Value.ref (hp.objs.size + 1) :: us) I2.kIn (by simp [lu, hl])
  rw [List.append_nil] at bnd
  refine wpAny_call (FB.call (s := ⟨hp, gg, dr, tk, os⟩) hT hC (PySem.W.looks_findIn I1.kIn iC) (fun self => PySem.W.bind_fn I1.kIn self (beq_iff_eq.mp tI)) hus
    (codeAny_mono (F1.run _ X.stack _ _ ⟨Value.ref (hp.objs.size + 1) :: us, []⟩ _ _ (fun v H3 => v = .non ∧ ∃ d, H1 d = none ∧ H3 = upd (upd (upd H1 (hp.objs.size + 1) (exo (hp.objs.size + 1) C none)) d (exd d (fs.zip vs).reverse)) (hp.objs.size + 1) (exo (hp.objs.size + 1) C (some d)) ∧ d ≠ hp.objs.size + 1) (fun _ _ _ => False) roomC (I2.env0.make C us []) bnd r2
      ⟨_, vs, rfl, hl, upd_same, fun dx hx hne => ⟨rfl, dx, by rw [upd_ne hne] at hx; exact hx, rfl, hne⟩⟩) fun r s' hq => ?_))
  match r, hq with
  | .error er, hq => exact passK0 I2 hq
  | .ok (.ret u), ⟨v, H3, os2, bare2, un2, hok2, rvv, ev, d, hd1, eH, hne⟩ =>
    subst ev
    have ea : H3 (hp.objs.size + 1) = some (exo (hp.objs.size + 1) C (some d)) := by rw [eH, upd_same]
    have ed : H3 d = some (exd d (fs.zip vs).reverse) := by rw [eH, upd_ne hne, upd_same]
    have eq : upd (del H3 (hp.objs.size + 1)) d (.xd (fs.zip vs).reverse) = upd H1 d (.xd (fs.zip vs).reverse) := by
      funext c
      by_cases h1 : c = d
      · subst h1; rw [upd_same, upd_same]
      · rw [upd_ne h1, upd_ne h1]
        by_cases h3 : c = hp.objs.size + 1
        · subst h3; rw [del_same]; exact (I1.hok.fresh big).symm
        · rw [del_ne h3, eH, upd_ne h3, upd_ne h1, upd_ne h3]
    obtain ⟨h4, g4, d4, t4, os4⟩ := s'
    exact ⟨rvv, mk_end (raises_own R.sub R.ty) I1 big kk un2 hok2 os2 bare2 ea ed hd1 (eq ▸ q d hd1)⟩
  | .ok .next, hq => exact hq.elim
  | .ok .brk, hq => exact hq.elim
  | .ok .cont, hq => exact hq.elim
end DL

namespace DL
open PySem PySem.Spec L2 DX
open PyProof.Rows hiding St
/-! ### try: .. except X as n: .., the exception tracked -/
section
variable {X : Cx} {pins : List (Addr × Obj)} {σ : L2.St} {H : Hp} {s sI : Shared} {a C : Addr} {oe : Obj} {d : Option Addr} {vs : Array Value}
theorem track (J : Inv X pins σ H sI) (new : sI.heap.get? a = none) (I : Inv X pins σ H s) (he : s.heap.get? a = some oe) (hz : Zc (.ref C) d oe) (hd : oe.data = .fields vs) (na : H a = none) : Inv X pins σ (upd H a (ExV C d a)) s := by
  have off : ∀ {b : Addr} {o : Obj}, sI.heap.get? b = some o → b ≠ a := by rintro b o e rfl; rw [new] at e; cases e
  have keep : ∀ {b : Addr} {o : HO}, H b = some o → upd H a (ExV C d a) b = some o := fun q => by rw [upd_ne (ne_of_none q na)]; exact q
  obtain ⟨b1, b2, b3, b4, b5, b6, b7⟩ := I.base
  refine ⟨I.ok, I.os, I.bare, ⟨b1, b2, fun b o e n hx => ?_, b4, fun b xs e => keep (b5 b xs e), fun b o u e => keep (b6 b o u e), fun b ps e => ?_⟩, I.loc, I.cell, ?_, fun x c e => ?_, fun p hp => ?_, fun b u e => ?_, I.len⟩
  · obtain ⟨o', e'⟩ := J.base.there b o e hx
    rw [upd_ne (off e')]
    exact b3 b o e n hx
  · obtain ⟨m, q⟩ := b7 b ps e
    exact ⟨m, keep q⟩
  · obtain ⟨m, hn, _⟩ := J.loc
    obtain ⟨o, _, _, eo, _⟩ := id hn
    rw [upd_ne (off eo)]; exact I.free
  · obtain ⟨v, o, eo, _⟩ := J.cell x c e
    rw [upd_ne (off eo)]; exact I.freeC x c e
  · obtain ⟨p1, p2, p3⟩ := I.pin p hp
    exact ⟨p1, by rw [upd_ne (off (J.pin p hp).1)]; exact p2, p3⟩
  · by_cases hb : b = a
    · subst hb
      rw [upd_same] at e
      cases e
      exact ⟨⟨oe, vs, he, hz, hd⟩, ⟨_, he⟩, fun h1 h2 ⟨o, v, q, r⟩ k => ⟨o, v, k _ q, r⟩⟩
    · rw [upd_ne hb] at e
      exact (I.hok b u e).stay (fun c v _ q => q) (fun c q => keep q) fun c xs q => keep q
end
def endsAs : Option Nat → Ends → Ends
  | none, D => D
  | some i, D => { nx := fun σ H => D.nx (σ.set i none) H, rt := D.rt, bk := fun σ H => D.bk (σ.set i none) H, ct := fun σ H => D.ct (σ.set i none) H }
def setAs : Option Nat → Addr → L2.St → L2.St
  | none, _, σ => σ
  | some i, a, σ => σ.set i (some (.ref a))
/-- the clauses' wishes, one behind the other -/
def wHs (K : PySem.W.Frag) (Wout : WX) (D : Ends) : List (Value × Option Nat × TS) → WX
  | [] => Wout
  | (c, oi, ts) :: r => fun cls d σ H => ∃ b, PySem.W.exmOne K cls c = some b ∧ (b = true → ∃ C, cls = .ref C ∧ ∀ a, H a = none → ts (endsAs oi D) (setAs oi a σ) (upd H a (ExV C d a))) ∧ (b = false → wHs K Wout D r cls d σ H)
inductive Hds (X : Cx) : List ExceptHandler → List (Value × Option Nat × TS) → Prop
  | nil : Hds X [] []
  | one {x : Str} {c : Value} {ts : TS} {b0 : Stmt} {suite : List Stmt} {np hp : Pos} {hs : List ExceptHandler} {l : List (Value × Option Nat × TS)} (hc : Names X x c) (hsu : ∀ (a : Addr) (pn : List (Addr × Obj)), PSs (X.suite a pn) (b0 :: suite) ts) (r : Hds X hs l) :
      Hds X (.ExceptHandler (some (.Name x np)) none (b0 :: suite) hp :: hs) ((c, none, ts) :: l)
  | as_ {x n : Str} {i : Nat} {c : Value} {ts : TS} {b0 : Stmt} {suite : List Stmt} {np hp : Pos} {hs : List ExceptHandler} {l : List (Value × Option Nat × TS)} (hc : Names X x c) (hi : X.N[i]? = some n) (hl : X.env.kindOf n = some .local) (hsu : ∀ (a : Addr) (pn : List (Addr × Obj)), PSs (X.suite a pn) (b0 :: suite) ts)
      (r : Hds X hs l) : Hds X (.ExceptHandler (some (.Name x np)) (some n) (b0 :: suite) hp :: hs) ((c, some i, ts) :: l)
section
variable {X : Cx} {pins : List (Addr × Obj)} {σ : L2.St} {H : Hp} {a : Addr} {B : Heap} {sI s1 : Shared} {cls : Value} {d : Option Addr} {D : Ends} {Wout : WX}
/-- an exception that is looked at by the clauses -/
structure Caught (X : Cx) (pins : List (Addr × Obj)) (σ : L2.St) (H : Hp) (a : Addr) (B : Heap) (sI s1 : Shared) (cls : Value) (d : Option Addr) : Prop where
  J : Inv X pins σ H sI
  nb : ∀ b o, sI.heap.get? b = some o → b ∉ frs X.stack → B.get? b = some o
  up : sI.heap.UpToSlots s1.heap
  fl : HandSPX.FlyingZ B (X.env :: X.outer) a (Zc cls d) s1.heap
  na : H a = none
  os : s1.os = sI.os
  ag : AllBare s1.gens
theorem Caught.off (c : Caught X pins σ H a B sI s1 cls d) : a ∉ frs (X.env :: X.outer) := fun hm => by
  obtain ⟨oe, vs, he, hz, hd⟩ := c.fl.there
  obtain ⟨_, o', e', hnf⟩ := c.fl.2.2.1.mem hm
  rw [he] at e'; cases e'
  exact hnf _ hd
theorem Caught.new (c : Caught X pins σ H a B sI s1 cls d) (hs : X.stack = X.env :: X.outer) : sI.heap.get? a = none := by
  cases e : sI.heap.get? a with
  | none => rfl
  | some o =>
    have z := c.nb a o e (hs ▸ c.off)
    rw [c.fl.2.1] at z; cases z
theorem Caught.inv (c : Caught X pins σ H a B sI s1 cls d) : Inv X pins σ H s1 := c.J.landed c.nb c.fl.1 c.up c.os c.ag
theorem Caught.on {h4 : Heap} (c : Caught X pins σ H a B sI s1 cls d) (f : HandSPX.FlyingZ B (X.env :: X.outer) a (Zc cls d) h4) (u : s1.heap.UpToSlots h4) : Caught X pins σ H a B sI { s1 with heap := h4 } cls d := ⟨c.J, c.nb, c.up.trans u, f, c.na, c.os, c.ag⟩
theorem suite0 {s : Shared} (I : Inv X pins σ H s) (a : Addr) : Inv (X.suite a (X.pn ++ pins)) [] σ H s :=
  ⟨I.ok.suite _ _, I.os, I.bare, I.base, I.loc, I.cell, I.free, I.freeC, fun p hp => I.pin p (by have := hp; rw [List.append_nil] at this; exact this), I.hok, I.len⟩
theorem unsuite0 {s : Shared} (ok : X.Ok) (I : Inv (X.suite a (X.pn ++ pins)) [] σ H s) : Inv X pins σ H s :=
  ⟨ok, I.os, I.bare, I.base, I.loc, I.cell, I.free, I.freeC, fun p hp => I.pin p (List.mem_append_left _ hp), I.hok, I.len⟩
/-- a class by its name, asked where the exception is handled -/
theorem caught_test (c : Caught X pins σ H a B sI s1 cls d) {x : Str} {np : Pos} {cv : Value} {b : Bool} (hc : Names X x cv) (hb : PySem.W.exmOne X.K cls cv = some b) {R : Result → Shared → Prop} {pos : Pos} (q : R (.ok (if b then .brk else .next)) s1) :
    codeAny (model X.prog X.w) (X.A.mark (some (.ref a))) (.handlers (.ref a) [.ExceptHandler (some (.Name x np)) none [] pos] X.env) R s1 := by
  obtain ⟨oe, vs, he, hz, hd⟩ := c.fl.there
  have look : PySem.W.Looks (model X.prog X.w) s1.heap (typeOf (.ref a)) cls := fun _ _ _ _ k q => wpAny_typeOf_ref (k _ _ he) (by rw [hz.1]; exact q)
  have fin := (PySem.W.exm_one (M := model X.prog X.w) c.inv.kIn look hb).here (A := X.A.mark (some (.ref a))) (Q := fun b' s2 => R (.ok (if b' then .brk else .next)) s2) (E := notedBy (model X.prog X.w) (X.A.mark (some (.ref a))) X.env fun x s2 => R (.error x) s2) q
  refine codeAny_handlers_test ?_
  obtain ⟨hg, hdb, hm | ⟨hm, hv, hnn⟩⟩ := hc
  · exact ld_glob (X := X.suite a (X.pn ++ pins)) (suite0 c.inv a) hg hm fin hdb
  · exact ld_blt (X := X.suite a (X.pn ++ pins)) (suite0 c.inv a) hg hm hv fin hnn hdb
theorem ends_back (ok : X.Ok) {C : Addr} {f : Flow} {s6 : Shared} {D' : Ends} (h : SP (X.suite a (X.pn ++ pins)) [] D' f s6) : SP X pins D' f s6 := by
  cases f with
  | next => obtain ⟨σ6, H6, S6, q⟩ := h; exact ⟨_, _, unsuite0 ok S6, q⟩
  | brk => obtain ⟨σ6, H6, S6, q⟩ := h; exact ⟨_, _, unsuite0 ok S6, q⟩
  | cont => obtain ⟨σ6, H6, S6, q⟩ := h; exact ⟨_, _, unsuite0 ok S6, q⟩
  | ret u => obtain ⟨v, σ6, H6, S6, r, q⟩ := h; exact ⟨_, _, _, unsuite0 ok S6, r, q⟩
theorem caught_go (hs : X.stack = X.env :: X.outer) (hf : X.env.frame = some X.env.locals) (hN : X.N.Nodup) (ok : X.Ok) (tk : Takes X Wout) (c : Caught X pins σ H a B sI s1 cls d) {hds : List ExceptHandler} {l : List (Value × Option Nat × TS)} (hk : Hds X hds l) :
    wHs X.K Wout D l cls d σ H → wpAny (model X.prog X.w) X.A (handleBy (.ref a) X.env hds) (SP X pins D) X.xe s1 := by
  induction hk with
  | nil =>
    intro w
    refine wpAny_handleBy_nil ?_
    obtain ⟨_, _, _, oe, vs, T, oT, ts', he, hz, hd, h1, hr⟩ := id c.fl
    have up : wpAny (model X.prog X.w) X.A (setFlight (.ref a) X.env.frame) (fun _ s4 => wpAny (model X.prog X.w) X.A (throw (.ref a) : Sem Flow) (SP X pins D) X.xe s4) X.xe s1 := by
      rw [hf]
      exact HandSPX.setFlight_upZ c.fl fun h4 held up4 => wpAny_throw (tk _ _ ⟨a, B, sI, pins, σ, H, cls, d, rfl, c.J, c.nb, c.up.trans up4, .inr (.inr (by rw [hs]; exact held)), c.na, c.os, c.ag, w⟩)
    unfold PySem.passOn
    refine wpAny_bind (wpAny_field he hd h1 ?_)
    rw [if_neg (show ¬ ((Value.ref T == Value.none) = true) by simp)]
    first
      | exact wpAny_bind (wpAny_pure (wpAny_bind up))
      | exact wpAny_bind up
  | @one x cv ts b0 suite np hp hs2 l2 hc hsu r ih =>
    intro ⟨b, hb1, hyes, hno⟩
    refine wpAny_handleBy_cons (caught_test c hc hb1 ?_) (by intro q; cases q)
    cases b with
    | false => exact ih (hno rfl)
    | true =>
      refine codeAny_handlers_suite (HandSPX.lands_againZ c.fl fun h4 fl4 up4 => ?_)
      have c4 := c.on fl4 up4
      obtain ⟨C, rfl, q⟩ := hyes rfl
      obtain ⟨oe, vs, he, hz, hd⟩ := fl4.there
      have S := suite0 (track c.J (c.new hs) c4.inv he hz hd c.na) a
      exact wpAny_mono ((hsu a (X.pn ++ pins)).run [] _ _ _ _ S (q a c.na)) (fun f s6 h => ends_back (C := C) ok h) fun _ _ z => z.elim
  | @as_ x n i cv ts b0 suite np hp hs2 l2 hc hi hl hsu r ih =>
    intro ⟨b, hb1, hyes, hno⟩
    refine wpAny_handleBy_cons (caught_test c hc hb1 ?_) (by intro q; cases q)
    cases b with
    | false => exact ih (hno rfl)
    | true =>
      refine codeAny_handlers_suite_as (HandSPX.lands_againZ c.fl fun h4 fl4 up4 => ?_)
      have c4 := c.on fl4 up4
      obtain ⟨C, rfl, q⟩ := hyes rfl
      obtain ⟨oe, vs, he, hz, hd⟩ := fl4.there
      have S := suite0 (track c.J (c.new hs) c4.inv he hz hd c.na) a
      refine store_ok (X := X.suite a (X.pn ++ pins)) (v := .ref a) S hN hi (.inl hl) rfl (fun s5 S5 => ?_) (.inr hl)
      refine wpAny_mono ((hsu a (X.pn ++ pins)).run [] s5 _ _ _ S5 (q a c.na)) (fun f s6 h => ?_) fun _ _ z => z.elim
      have h' := ends_back (C := C) ok h
      cases f with
      | next => obtain ⟨σ6, H6, S6, q⟩ := h'; exact gone_ok S6 hN hi hl fun s7 J7 => ⟨_, _, J7, q⟩
      | brk => obtain ⟨σ6, H6, S6, q⟩ := h'; exact gone_ok S6 hN hi hl fun s7 J7 => ⟨_, _, J7, q⟩
      | cont => obtain ⟨σ6, H6, S6, q⟩ := h'; exact gone_ok S6 hN hi hl fun s7 J7 => ⟨_, _, J7, q⟩
      | ret u => obtain ⟨v, σ6, H6, S6, r, q⟩ := h'; exact gone_ok S6 hN hi hl fun s7 J7 => ⟨_, _, _, J7, r, q⟩
end
/-- try: body / except X as n: .. / except Y: .. -/
theorem ps_tryH {X : Cx} {body : List Stmt} {h0 : ExceptHandler} {hds : List ExceptHandler} {l : List (Value × Option Nat × TS)} {pos : Pos} {tb : WX → TS} {Wout : WX} (hs : X.stack = X.env :: X.outer) (hf : X.env.frame = some X.env.locals) (hN : X.N.Nodup) (tk : Takes X Wout)
    (hb : ∀ (W : WX) (pn : List (Addr × Obj)) (xe : Value → Shared → Prop), Takes (X.tr pn xe) W → PSs (X.tr pn xe) body (tb W)) (hh : Hds X (h0 :: hds) l) : PS X (.Try body (h0 :: hds) [] [] pos) (fun D σ H => tb (wHs X.K Wout D l) D σ H) := by
  refine ⟨fun pins s σ H D I h => wpAny_Try_except ?_⟩
  refine wpAny_mono ((hb (wHs X.K Wout D l) (X.pn ++ pins) (fun e s2 => wpAny (model X.prog X.w) X.A (noteFrame e X.env) (fun _ s3 => wpAny (model X.prog X.w) X.A (setFlight e none) (fun _ s4 =>
    wpAny (model X.prog X.w) X.A (handleBy e X.env (h0 :: hds)) (SP X pins D) X.xe s4) X.xe s3) X.xe s2) fun u s' xx => ?_).run [] s σ H D (I.toTry _) h) (fun f s1 hsp => ?_) fun e s1 he => he
  · obtain ⟨a, B, sI, pins', σ', H', cls, d, rfl, J, nb, up, sky, na, os, ag, w⟩ := xx
    refine Sky.land Zc.steady (by rw [I.ok.frames, hs]) hf (by rw [← hs]; exact sky) fun h3 fl3 up3 => ?_
    exact caught_go hs hf hN I.ok tk (s1 := { s' with heap := h3 }) ⟨J.ofTry I.ok, nb, up.trans up3, fl3, na, os, ag⟩ hh w
  · cases f with
    | next => obtain ⟨σ', H', J, q⟩ := hsp; exact wpAny_execs_nil ⟨σ', H', J.ofTry I.ok, q⟩
    | brk => obtain ⟨σ', H', J, q⟩ := hsp; exact ⟨σ', H', J.ofTry I.ok, q⟩
    | cont => obtain ⟨σ', H', J, q⟩ := hsp; exact ⟨σ', H', J.ofTry I.ok, q⟩
    | ret u => obtain ⟨v, σ', H', J, r, q⟩ := hsp; exact ⟨v, σ', H', J.ofTry I.ok, r, q⟩
end DL

namespace DL
open PySem PySem.Spec L2 DX
open PyProof.Rows hiding St
/-! ### exceptions with fields, over data -/
theorem RKV.split {K : PySem.W.Frag} {H : Hp} : ∀ {fs : List (Str × D)} {l : List (Str × V)}, RKV K H fs l → ∃ vs, l = (fs.map (·.1)).zip vs ∧ Rps K H (fs.map (·.2)) vs
  | [], _, h => by cases h; exact ⟨[], rfl, rfl⟩
  | p :: fs, _, h => by
    obtain ⟨v, r, rfl, h1, h2⟩ := h
    obtain ⟨vs, rfl, h3⟩ := RKV.split h2
    exact ⟨v :: vs, rfl, v, vs, rfl, h1, h3⟩
theorem RKV.zip {K : PySem.W.Frag} {H : Hp} : ∀ {ns : List Str} {ds : List D} {vs : List V}, Rps K H ds vs → RKV K H (ns.zip ds) (ns.zip vs)
  | [], ds, vs, _ => by simp; exact rfl
  | n :: ns, [], vs, h => by cases h; simp; exact rfl
  | n :: ns, d :: ds, vs, h => by obtain ⟨v, r, rfl, h1, h2⟩ := h; exact ⟨v, _, rfl, h1, RKV.zip h2⟩
theorem RKV.rev {κ : Type} {K : PySem.W.Frag} {H : Hp} {l : List (κ × D)} {m : List (κ × V)} (h : RKV K H l m) : RKV K H l.reverse m.reverse := by
  have app : ∀ {l1 l2 : List (κ × D)} {m1 m2 : List (κ × V)}, RKV K H l1 m1 → RKV K H l2 m2 → RKV K H (l1 ++ l2) (m1 ++ m2) := by
    intro l1
    induction l1 with
    | nil => intro l2 m1 m2 h1 h2; cases h1; exact h2
    | cons p r ih => intro l2 m1 m2 h1 h2; obtain ⟨v, t, rfl, a, b⟩ := h1; exact ⟨v, _, rfl, a, ih b h2⟩
  induction l generalizing m with
  | nil => cases h; exact rfl
  | cons p r ih =>
    obtain ⟨v, t, rfl, a, b⟩ := h
    rw [List.reverse_cons, List.reverse_cons]
    exact app (ih b) ⟨v, [], rfl, a, rfl⟩
/-- raise X(e, ..), X with an own __init__ -/
def sRaiseX (C : Addr) (fs : List Str) (ts : TDA) : TDS := fun W _ σ G => ts W σ G fun ds G1 => ds.length = fs.length ∧ W (.ref C) (fs.zip ds).reverse σ G1
theorem ds_raiseX {X : Cx} {k j : Nat} {x : Str} {C : Addr} {fs : List Str} {e : Expr} {es : List Expr} {ts : TDA} {p pos pos2 : Pos} (R : RaiseI X.prog X.w X.K X.mg X.base k x C fs) (hr : RoomG j X.A) (ha : DA X (e :: es) ts) (hc : X.calm = true) (hj : k + 1 ≤ j := by decide) (hz : fs.length ≤ 1000 := by decide) (hg : Gl X x := by rfl)
    (hdb : (x == ("__debug__" : Str)) = false := by decide) (he : starEach (e :: es) X.env = (false, eval e X.env) :: starEach es X.env := by rfl) (hpl : (backTo pos (starEach es X.env)).any (·.1) = false := by rfl) :
    DS X (.Raise (some (.Call (.Name x p) (e :: es) [] pos)) none pos2) (sRaiseX C fs ts) :=
  ⟨fun G H σ τ W D r q => semS.of (ps_raise hc r.takes (pmkB R hr hj hg paSem hz hdb he hpl)) (ha.then r q fun ds vs G1 H1 r1 x1 k1 q1 => by
    refine ⟨k1.length.trans q1.1, fun d hd => ?_⟩
    have xx : Ext G1 H1 G1 (upd H1 d (.xd (fs.zip vs).reverse)) := .new hd (r1.sim.no hd)
    exact ⟨σ, _, G1, r1.slots.ext r1.sim xx _ _, ⟨_, upd_same, ((RKV.zip k1).rev).ext r1.sim xx _ _⟩, r1.sim.newO hd, x1.trans xx, q1.2⟩)⟩
/-! try -/
def dEndsAs : Option Nat → DEnds → DEnds
  | none, D => D
  | some i, D => { nx := fun σ G => D.nx (σ.set i none) G, rt := D.rt, bk := fun σ G => D.bk (σ.set i none) G, ct := fun σ G => D.ct (σ.set i none) G }
def dSetAs : Option Nat → D → DSt → DSt
  | none, _, σ => σ
  | some i, d, σ => σ.set i (some d)
def dwH (xm : Value → Value → Bool → Prop) (W : DW) (D : DEnds) : List (Value × Option Nat × TDS) → DW
  | [] => W
  | (c, oi, ts) :: r => fun cls fs σ G => ∃ b, xm c cls b ∧ (b = true → ∃ C, cls = .ref C ∧ ts W0 (dEndsAs oi D) (dSetAs oi (.exc C (fs.map (·.1)) (fs.map (·.2))) σ) G) ∧ (b = false → dwH xm W D r cls fs σ G)
def sTryH (xm : Value → Value → Bool → Prop) (tb : TDS) (hs : List (Value × Option Nat × TDS)) : TDS := fun W D σ G => tb (dwH xm W D hs) D σ G
/-- the clauses -/
inductive DHds (X : Cx) : List ExceptHandler → List (Value × Option Nat × TDS) → Prop
  | nil : DHds X [] []
  | one {x : Str} {c : Value} {ts : TDS} {b0 : Stmt} {suite : List Stmt} {np hp : Pos} {hs : List ExceptHandler} {l : List (Value × Option Nat × TDS)} (hc : Names X x c) (hsu : ∀ (a : Addr) (pn : List (Addr × Obj)), DSs (X.suite a pn) (b0 :: suite) ts) (r : DHds X hs l) :
      DHds X (.ExceptHandler (some (.Name x np)) none (b0 :: suite) hp :: hs) ((c, none, ts) :: l)
  | as_ {x n : Str} (i : Nat) {c : Value} {ts : TDS} {b0 : Stmt} {suite : List Stmt} {np hp : Pos} {hs : List ExceptHandler} {l : List (Value × Option Nat × TDS)} (hc : Names X x c) (hi : X.N[i]? = some n) (hl : X.env.kindOf n = some .local) (hsu : ∀ (a : Addr) (pn : List (Addr × Obj)), DSs (X.suite a pn) (b0 :: suite) ts)
      (r : DHds X hs l) : DHds X (.ExceptHandler (some (.Name x np)) (some n) (b0 :: suite) hp :: hs) ((c, some i, ts) :: l)
/-- the suites by values -/
def tsOf (X : Cx) (body : List Stmt) : TS := fun D τ H => ∀ a pn, semSs (X.suite a pn) body D τ H
theorem hds_of {X : Cx} {hs : List ExceptHandler} {l : List (Value × Option Nat × TDS)} (h : DHds X hs l) : ∃ l2, Hds X hs l2 ∧ ∀ (xm : Value → Value → Bool → Prop) (hxm : ∀ c u b, xm c u b → PySem.W.exmOne X.K u c = some b) (G : HD) (H : Hp) (W : DW) (D : DEnds) (Wo : WX),
    (∀ cls d τ H', liftW X.K G H W cls d τ H' → Wo cls d τ H') → ∀ cls d τ H', liftW X.K G H (dwH xm W D l) cls d τ H' → wHs X.K Wo (liftD X.K G H D) l2 cls d τ H' := by
  have common : ∀ {b0 : Stmt} {suite : List Stmt} {ts : TDS} (oi : Option Nat) (hsu : ∀ (a : Addr) (pn : List (Addr × Obj)), DSs (X.suite a pn) (b0 :: suite) ts) {G : HD} {H : Hp} {Z : DEnds} {C : Addr} {d : Option Addr} {τ : L2.St} {H' : Hp} {σ : DSt} {fs : List (Str × D)} {G' : HD},
      RpS X.K H' σ τ → XF X.K H' fs d → Sim X.K G' H' → Ext G H G' H' → ts W0 (dEndsAs oi Z) (dSetAs oi (.exc C (fs.map (·.1)) (fs.map (·.2))) σ) G' → ∀ a, H' a = none → tsOf X (b0 :: suite) (endsAs oi (liftD X.K G H Z)) (setAs oi a τ) (upd H' a (ExV C d a)) := by
    intro b0 suite ts oi hsu G H Z C d τ H' σ fs G' rp xf sm x q a ha b pn
    have xx : Ext G' H' G' (upd H' a (ExV C d a)) := .new ha (sm.no ha)
    have sm2 : Sim X.K G' (upd H' a (ExV C d a)) := sm.newO ha
    have re : Rp X.K (upd H' a (ExV C d a)) (.exc C (fs.map (·.1)) (fs.map (·.2))) (.ref a) := by
      cases d with
      | none =>
        cases (show fs = [] from xf)
        exact ⟨a, none, [], rfl, upd_same, rfl, .inl ⟨rfl, rfl⟩, rfl⟩
      | some dd =>
        obtain ⟨l, e, rk⟩ := xf
        obtain ⟨vs, rfl, r2⟩ := rk.split
        exact ⟨a, some dd, vs, rfl, upd_same, by simp, .inr ⟨dd, rfl, by rw [upd_ne (ne_of_none e ha)]; exact e⟩, r2.ext sm xx _ _⟩
    have slots : RpS X.K (upd H' a (ExV C d a)) (dSetAs oi (.exc C (fs.map (·.1)) (fs.map (·.2))) σ) (setAs oi a τ) := by
      cases oi with
      | none => exact rp.ext sm xx _ _
      | some i => exact (rp.ext sm xx _ _).set re
    refine ((hsu b pn).run G' _ _ _ W0 (dEndsAs oi Z) ⟨sm2, slots, takes_w0⟩ q).imp ?_
    have xy := x.trans xx
    cases oi with
    | none => exact liftD_up xy
    | some i => exact ⟨fun t H2 ⟨σ2, G2, a1, a2, a3, a4⟩ => ⟨_, G2, a1.drop1, a2, xy.trans a3, a4⟩, fun v H2 z => z.up xy, fun t H2 ⟨σ2, G2, a1, a2, a3, a4⟩ => ⟨_, G2, a1.drop1, a2, xy.trans a3, a4⟩, fun t H2 ⟨σ2, G2, a1, a2, a3, a4⟩ => ⟨_, G2, a1.drop1, a2, xy.trans a3, a4⟩⟩
  induction h with
  | nil => exact ⟨[], .nil, fun xm hxm G H W D Wo hw cls d τ H' z => hw _ _ _ _ z⟩
  | @one x c ts b0 suite np hp hs l hc hsu r ih =>
    obtain ⟨l2, h1, h2⟩ := ih
    refine ⟨(c, none, tsOf X (b0 :: suite)) :: l2, .one hc (fun a pn => ⟨fun pins s σ H D I h => h a pn pins s I⟩) h1, fun xm hxm G H W D Wo hw cls d τ H' ⟨σ, fs, G', rp, xf, sm, xx, b, hb, hy, hn⟩ => ⟨b, hxm _ _ _ hb, fun e => ?_, fun e => h2 xm hxm G H W D Wo hw cls d τ H' ⟨σ, fs, G', rp, xf, sm, xx, hn e⟩⟩⟩
    obtain ⟨C, rfl, q⟩ := hy e
    exact ⟨C, rfl, common none hsu rp xf sm xx q⟩
  | @as_ x n i c ts b0 suite np hp hs l hc hi hl hsu r ih =>
    obtain ⟨l2, h1, h2⟩ := ih
    refine ⟨(c, some i, tsOf X (b0 :: suite)) :: l2, .as_ hc hi hl (fun a pn => ⟨fun pins s σ H D I h => h a pn pins s I⟩) h1, fun xm hxm G H W D Wo hw cls d τ H' ⟨σ, fs, G', rp, xf, sm, xx, b, hb, hy, hn⟩ => ⟨b, hxm _ _ _ hb, fun e => ?_, fun e => h2 xm hxm G H W D Wo hw cls d τ H' ⟨σ, fs, G', rp, xf, sm, xx, hn e⟩⟩⟩
    obtain ⟨C, rfl, q⟩ := hy e
    exact ⟨C, rfl, common (some i) hsu rp xf sm xx q⟩
theorem ds_tryH {X : Cx} {xm : Value → Value → Bool → Prop} {body : List Stmt} {h0 : ExceptHandler} {hds : List ExceptHandler} {l : List (Value × Option Nat × TDS)} {pos : Pos} {tb : TDS} (hs : X.stack = X.env :: X.outer) (hf : X.env.frame = some X.env.locals) (hN : X.N.Nodup) (hxm : ∀ c u b, xm c u b → PySem.W.exmOne X.K u c = some b)
    (hb : ∀ (pn : List (Addr × Obj)) (xe : Value → Shared → Prop), DSs (X.tr pn xe) body tb) (hh : DHds X (h0 :: hds) l) : DS X (.Try body (h0 :: hds) [] [] pos) (sTryH xm tb l) := ⟨fun G H σ τ W D r q => by
  obtain ⟨l2, h1, h2⟩ := hds_of hh
  refine semS.of (ps_tryH (tb := fun W' D' τ' H' => ∀ (pn : List (Addr × Obj)) (xe : Value → Shared → Prop), Takes (X.tr pn xe) W' → semSs (X.tr pn xe) body D' τ' H') hs hf hN r.takes (fun W' pn xe tk => ⟨fun pins s σ' H' D' I h => h pn xe tk pins s I⟩) h1) ?_
  intro pn xe tk
  exact (hb pn xe).run G H σ τ _ D ⟨r.sim, r.slots, tk.imp fun cls dd τ' H' hw => h2 xm hxm G H W D _ (fun _ _ _ _ z => z) cls dd τ' H' hw⟩ q⟩
/-! e.f, isinstance(e, X) -/
/-- such an exception stands in the heap -/
theorem exc_at {X : Cx} {pins : List (Addr × Obj)} {τ : L2.St} {H : Hp} {s : Shared} {a C : Addr} {dd : Option Addr} {l : List (Str × V)} (I : Inv X pins τ H s) (ha : H a = some (ExV C dd a)) (hd : dd = none ∨ ∃ b, dd = some b ∧ H b = some (.xd l)) :
    ∃ (oe : Obj) (od : Option Obj), PySem.W.InstAt s.heap a oe C od ∧ ∀ b, dd = some b → ∃ o mA, od = some o ∧ s.heap.Ns1 b mA ∧ s.heap.get? b = some o ∧ ∀ f, RelO (l.lookup f) (mA f) := by
  obtain ⟨⟨oe, vs, he, hz, hf⟩, _, _⟩ := I.hok a _ ha
  have nc : PySem.W.notCls oe := by unfold PySem.W.notCls; rw [hf] <;> rfl
  rcases hd with rfl | ⟨b, rfl, hb⟩
  · exact ⟨oe, none, ⟨he, hz.1, nc, by rw [hz.2]; trivial⟩, fun b e => nomatch e⟩
  · obtain ⟨mA, hns, hr⟩ := I.hok b _ hb
    obtain ⟨o, es, ep, eo, rest⟩ := id hns
    exact ⟨oe, some o, ⟨he, hz.1, nc, by rw [hz.2]; exact eo⟩, fun b' e => by cases e; exact ⟨o, mA, rfl, hns, eo, hr⟩⟩
def XfOk (K : PySem.W.Frag) (C : Addr) (f : Str) : Prop := XfC K C ∧ PySem.W.findIn K (.ref C) f = some none
def xfldP (xf : Addr → Str → Prop) (f : Str) (d : D) (G : HD) (Q : Post) : Prop := match d with
  | .exc C ns ds => xf C f ∧ optP ((ns.zip ds).lookup f) G Q
  | _ => False
def dXFld (xf : Addr → Str → Prop) (f : Str) (ta : TD) : TD := fun W σ G Q => ta W σ G fun d G1 => xfldP xf f d G1 Q
theorem look_rp {K : PySem.W.Frag} {H : Hp} {f : Str} : ∀ {ns : List Str} {ds : List D} {vs : List V} {d : D}, Rps K H ds vs → (ns.zip ds).lookup f = some d → ∃ v, (ns.zip vs).lookup f = some v ∧ Rp K H d v
  | [], _, _, _, _, h => by simp at h
  | _ :: _, [], _, _, _, h => by simp at h
  | n :: ns, d0 :: ds, _, d, r, h => by
    obtain ⟨v, t, rfl, h1, h2⟩ := r
    rw [List.zip_cons_cons, List.lookup_cons] at h
    rw [List.zip_cons_cons, List.lookup_cons]
    cases q : f == n with
    | true => rw [q] at h; cases h; exact ⟨v, rfl, h1⟩
    | false => rw [q] at h; exact look_rp h2 h
theorem de_xfld {X : Cx} {xf : Addr → Str → Prop} {e : Expr} {f : Str} {ta : TD} {pos : Pos} (hxf : ∀ C f, xf C f → XfOk X.K C f) (ha : DE X e ta) (hb : attributeBase e f X.env (eval e X.env) = eval e X.env := by rfl) : DE X (.Attribute e f pos) (dXFld xf f ta) := ⟨fun G H σ τ W Q r q pins s I => by
  refine attr_of hb (thn ((ha.run G H σ τ W _ r q) pins s I) fun u s1 ⟨v, H1, I1, rv, d, G1, k1, sm1, x1, q1⟩ => ?_)
  change xfldP xf f d G1 Q at q1
  cases d with
  | exc C ns ds =>
    obtain ⟨hok, q1⟩ := q1
    obtain ⟨T, hno⟩ := hxf _ _ hok
    obtain ⟨a, dd, vs, rfl, hA, hl, hd, rps⟩ := k1
    obtain rfl : u = Value.ref a := rv
    cases hlk : (ns.zip ds).lookup f with
    | none => rw [hlk] at q1; exact q1.elim
    | some z =>
      rw [hlk] at q1
      obtain ⟨v2, e2, r2⟩ := look_rp rps hlk
      have hd' : dd = none ∨ ∃ b, dd = some b ∧ H1 b = some (.xd (ns.zip vs)) := hd.imp (·.1) id
      obtain ⟨oe, od, J, hJ⟩ := exc_at I1 hA hd'
      rcases hd with ⟨_, rfl⟩ | ⟨b, rfl, hb⟩
      · simp at hlk
      · obtain ⟨o, mA, rfl, hns, eo, hr⟩ := hJ b rfl
        obtain ⟨o2, eo2, hl2⟩ := lookIn_ns hns
        rw [eo] at eo2; cases eo2
        obtain ⟨u2, hu, ru⟩ := RelO.some_of (v := v2) (o := mA f) (by rw [← e2]; exact hr f)
        exact HandSPX.exc_get I1.kIn J T.ga T.gg T.exC (PySem.W.findObj_own T.hdC hno rfl (by rw [hl2, hu])) (handed_of ru) ⟨v2, H1, I1.tok _, ru, z, G1, r2, sm1, x1, q1⟩
  | _ => exact q1.elim⟩
/-- what isinstance asks of the class -/
def EcOk (K : PySem.W.Frag) (C : Addr) (c : Value) (b : Bool) : Prop := (XfC K C ∧ PySem.W.findIn K (.ref C) "__class__" = some (some (.builtin "object.__class__")) ∧ PySem.W.specialIn K (.builtin "object.__class__") "__get__" = some (some (.builtin "getset_descriptor.__get__")) ∧
  PySem.W.takesIn K (.builtin "object.__class__") = some true ∧ PySem.W.mroIn K C (.type "object") = some true) ∧ PySem.W.kitOne K (.ref C) c = some b
def rIsiX (ic : String ⊕ Addr → String ⊕ Addr → Bool → Prop) (ec : Addr → Value → Bool → Prop) : List D → HD → Post → Prop := fun ds G Q => match ds with
  | [.exc C _ _, .ty n] => ∃ b, ec C (.type n) b ∧ Q (.bl b) G
  | [.exc C _ _, .ref c] => ∃ b, ec C (.ref c) b ∧ Q (.bl b) G
  | ds => rIsiD ic ds G Q
def rIsV (K : PySem.W.Frag) : List V → Hp → VK → Prop := fun xs H Q => ∃ (a C : Addr) (dd : Option Addr) (l : List (Str × V)) (c : V) (cv : Value) (b : Bool), xs = [.ref a, c] ∧ H a = some (ExV C dd a) ∧ (dd = none ∨ ∃ b, dd = some b ∧ H b = some (.xd l)) ∧ (∀ u, RelV c u → u = cv) ∧ EcOk K C cv b ∧ Q (.bl b) H
theorem call_isV {X : Cx} : CallR X (.builtin "isinstance") (rIsV X.K) := by
  intro pins s σ H xs us Q I r ⟨a, C, dd, l, c, cv, b, ex, ha, hd, hcv, ⟨⟨T, h1, h2, h3, h4⟩, hk⟩, q⟩
  subst ex
  obtain ⟨u1, u2, rfl, ra, rc⟩ := vals2 r
  obtain rfl : u1 = Value.ref a := ra
  obtain rfl := hcv _ rc
  obtain ⟨oe, od, J, _⟩ := exc_at I ha hd
  have hcl : (PySem.W.clsIn X.K C).isSome = true := by
    obtain ⟨cd, hc, _⟩ := PySem.W.any_some T.hdC
    rw [hc]; rfl
  exact PySem.W.kia_one (PySem.W.kitx_exc hcl T.ga T.gg T.exC h1 h2 h3 h4) I.kIn J hk (fun z => nomatch z) fun tk => ⟨.bl b, H, I.kept (t' := tk) fun _ _ z => z, rfl, q⟩
theorem exc_rp {K : PySem.W.Frag} {H : Hp} {C : Addr} {ns : List Str} {ds : List D} {v : V} (r : Rp K H (.exc C ns ds) v) : ∃ a dd l, v = .ref a ∧ H a = some (ExV C dd a) ∧ (dd = none ∨ ∃ b, dd = some b ∧ H b = some (.xd l)) := by
  obtain ⟨a, dd, vs, e, h, _, q, _⟩ := r
  exact ⟨a, dd, _, e, h, q.imp (·.1) id⟩
theorem cd_isiX {K : PySem.W.Frag} {ic : String ⊕ Addr → String ⊕ Addr → Bool → Prop} {ec : Addr → Value → Bool → Prop} (hic : ∀ a c b, ic a c b → IsiOk K a c b) (hec : ∀ C c b, ec C c b → EcOk K C c b) : CallD K (fun xs H Q => rIsi K xs H Q ∨ rIsV K xs H Q) (rIsiX ic ec) := fun G H ds vs Q Q' s k f q => by
  unfold rIsiX at q
  split at q
  · obtain ⟨b, hb, q⟩ := q
    obtain ⟨v, w, rfl, k1, k2⟩ := two_of k
    cases k2
    obtain ⟨a, dd, l, rfl, h1, h2⟩ := exc_rp k1
    exact .inr ⟨a, _, dd, l, _, _, b, rfl, h1, h2, fun u e => e, hec _ _ _ hb, f _ _ (.of (d := .bl b) rfl s .refl q)⟩
  · obtain ⟨b, hb, q⟩ := q
    obtain ⟨v, w, rfl, k1, k2⟩ := two_of k
    cases k2
    obtain ⟨a, dd, l, rfl, h1, h2⟩ := exc_rp k1
    exact .inr ⟨a, _, dd, l, _, _, b, rfl, h1, h2, fun u e => e, hec _ _ _ hb, f _ _ (.of (d := .bl b) rfl s .refl q)⟩
  · exact .inl (cd_isi hic G H ds vs Q Q' s k f q)
theorem bc_isiX {X : Cx} {ic : String ⊕ Addr → String ⊕ Addr → Bool → Prop} {ec : Addr → Value → Bool → Prop} {p pos : Pos} {e e2 : Expr} {ts : TDA} (hic : ∀ a c b, ic a c b → IsiOk X.K a c b) (hec : ∀ C c b, ec C c b → EcOk X.K C c b) (hm : X.mg "isinstance" = none) (ha : DA X [e, e2] ts) (hg : Gl X "isinstance" := by rfl)
    (he : starEach [e, e2] X.env = (false, eval e X.env) :: starEach [e2] X.env := by rfl) (hpl : (backTo pos (starEach [e2] X.env)).any (·.1) = false := by rfl) : DE X (.Call (.Name "isinstance" p) [e, e2] [] pos) (dCB (rIsiX ic ec) ts) :=
  de_cb (CallR.or call_isi call_isV) (cd_isiX hic hec) hm (by decide +kernel) ha hg (by decide) (by decide) he hpl
end DL

namespace DL
open PySem PySem.Spec L2
open PyProof.Rows hiding St
/-! ### exceptions, for the plain laws -/
section
variable {xm : Value → Value → Bool → Prop} {tb ts : TDS} {hs r : List (Value × Option Nat × TDS)} {W : DW} {E : DEnds} {σ : DSt} {G : HD} {C : Addr} {fs ns : List Str} {ta : TDA} {te : TD} {xf : Addr → Str → Prop} {f : Str} {Q : Post} {ds : List D} {c cls : Value} {oi : Option Nat} {i : Nat} {d : D} {k : HD → Prop}
theorem q_tryH : sTryH xm tb hs W E σ G = tb (dwH xm W E hs) E σ G := propext ⟨fun h => h, fun h => h⟩
theorem q_raise0 {c : Value} : sRaise c W E σ G = W c [] σ G := propext ⟨fun h => h, fun h => h⟩
theorem q_raiseX : sRaiseX C fs ta W E σ G = ta W σ G fun ds G1 => ds.length = fs.length ∧ W (.ref C) (fs.zip ds).reverse σ G1 := propext ⟨fun h => h, fun h => h⟩
theorem q_xfld : dXFld xf f te W σ G Q = te W σ G fun d G1 => xfldP xf f d G1 Q := propext ⟨fun h => h, fun h => h⟩
theorem r_xfld : xfldP xf f (.exc C ns ds) G Q = (xf C f ∧ optP ((ns.zip ds).lookup f) G Q) := propext ⟨fun h => h, fun h => h⟩
theorem q_setAs : dSetAs (some i) d σ = σ.set i (some d) := rfl
theorem q_setAs0 : dSetAs none d σ = σ := rfl
theorem q_endsAs0 : dEndsAs none E = E := rfl
theorem q_endsNx {σ' : DSt} {G' : HD} : (dEndsAs (some i) E).nx σ' G' = E.nx (σ'.set i none) G' := rfl
theorem q_endsRt : (dEndsAs (some i) E).rt = E.rt := rfl
theorem q_endsBk {σ' : DSt} {G' : HD} : (dEndsAs (some i) E).bk σ' G' = E.bk (σ'.set i none) G' := rfl
theorem q_endsCt {σ' : DSt} {G' : HD} : (dEndsAs (some i) E).ct σ' G' = E.ct (σ'.set i none) G' := rfl
theorem catch1 {fs : List (Str × D)} (h : xm c (.ref C) true) (q : ts W0 (dEndsAs oi E) (dSetAs oi (.exc C (fs.map (·.1)) (fs.map (·.2))) σ) G) : dwH xm W E ((c, oi, ts) :: r) (.ref C) fs σ G := ⟨true, h, fun _ => ⟨C, rfl, q⟩, fun z => by cases z⟩
theorem catch0 {fs : List (Str × D)} (h : xm c cls false) (q : dwH xm W E r cls fs σ G) : dwH xm W E ((c, oi, ts) :: r) cls fs σ G := ⟨false, h, (fun z => by cases z), fun _ => q⟩
theorem r_isNx {ds : List D} : isNon (.exc C ns ds) = false := rfl
end
end DL

namespace DL
open PySem PySem.Spec L2
open PyProof.Rows hiding St
/-! ### an empty dict that never changes -/
def dEmp : TD := fun _ _ G Q => Q .emp G
theorem de_emp {X : Cx} {pos : Pos} : DE X (.Dict [] [] pos) dEmp := ⟨fun G H σ τ W Q r q pins s I => by
  have hn := I.hok.fresh (Nat.le_refl s.heap.objs.size)
  have hb := I.big
  have g0 : (s.heap.push { cls := .type "dict", data := .dict #[] }).get? s.heap.objs.size = some { cls := .type "dict", data := .dict #[] } := by heap_get
  refine wpAny_Dict_empty ⟨.ref s.heap.objs.size, _, I.laid (a := s.heap.objs.size) (o := EmV { cls := .type "dict", data := .dict #[] } s.heap.objs.size) (t' := s.toks) (fun _ _ q => Heap.get?_push_of_some _ q) (Nat.le_refl _) ⟨g0, ⟨_, g0⟩, fun h1 h2 e k => k _ e⟩, rfl, ?_⟩
  refine liftQ.of (d := .emp) ⟨_, _, rfl, ?_, upd_same, ⟨rfl, rfl, rfl⟩, _, rfl⟩ (r.sim.newO hn) (.new hn (r.sim.no hn)) q
  have : s.heap.objs.size ≠ sysModules := Nat.ne_of_gt hb
  simpa using this⟩
/-- isinstance of it -/
def rIsiE (ic : String ⊕ Addr → String ⊕ Addr → Bool → Prop) (ec : Addr → Value → Bool → Prop) : List D → HD → Post → Prop := fun ds G Q => match ds with
  | [.emp, .ty n] => match isiB "dict" n with
    | some b => Q (.bl b) G
    | none => False
  | [.emp, .ref c] => ∃ b, ic (.inl "dict") (.inr c) b ∧ Q (.bl b) G
  | ds => rIsiX ic ec ds G Q
def rIsE (K : PySem.W.Frag) : List V → Hp → VK → Prop := fun xs H Q => ∃ (a : Addr) (ob : Obj) (c : V) (cv : Value) (b : Bool), xs = [.ref a, c] ∧ H a = some (EmV ob a) ∧ EmOb ob ∧ (∀ u, RelV c u → u = cv) ∧ PySem.W.kitOne K (.type "dict") cv = some b ∧ Q (.bl b) H
theorem call_isE {X : Cx} : CallR X (.builtin "isinstance") (rIsE X.K) := by
  intro pins s σ H xs us Q I r ⟨a, ob, c, cv, b, ex, ha, ho, hcv, hk, q⟩
  subst ex
  obtain ⟨u1, u2, rfl, ra, rc⟩ := vals2 r
  obtain rfl : u1 = Value.ref a := ra
  obtain rfl := hcv _ rc
  obtain ⟨h1, _, _⟩ := I.hok a _ ha
  exact PySem.W.kia_one (PySem.W.kitx_dict) I.kIn ⟨ob, h1, ho.1.1⟩ hk (fun z => nomatch z) fun tk => ⟨.bl b, H, I.kept (t' := tk) fun _ _ z => z, rfl, q⟩
theorem cd_isiE {K : PySem.W.Frag} {ic : String ⊕ Addr → String ⊕ Addr → Bool → Prop} {ec : Addr → Value → Bool → Prop} (hic : ∀ a c b, ic a c b → IsiOk K a c b) (hec : ∀ C c b, ec C c b → EcOk K C c b) : CallD K (fun xs H Q => (rIsi K xs H Q ∨ rIsV K xs H Q) ∨ rIsE K xs H Q) (rIsiE ic ec) := fun G H ds vs Q Q' s k f q => by
  unfold rIsiE at q
  split at q
  · rename_i n
    split at q
    · rename_i b hb
      obtain ⟨v, w, rfl, k1, k2⟩ := two_of k
      cases k2
      obtain ⟨a, ob, rfl, _, h1, h2⟩ := k1
      exact .inr ⟨a, ob, _, _, b, rfl, h1, h2, fun u e => e, isiB_ok hb, f _ _ (.of (d := .bl b) rfl s .refl q)⟩
    · exact q.elim
  · obtain ⟨b, hb, q⟩ := q
    obtain ⟨v, w, rfl, k1, k2⟩ := two_of k
    cases k2
    obtain ⟨a, ob, rfl, _, h1, h2⟩ := k1
    exact .inr ⟨a, ob, _, _, b, rfl, h1, h2, fun u e => e, (hic _ _ _ hb).2, f _ _ (.of (d := .bl b) rfl s .refl q)⟩
  · exact .inl (cd_isiX hic hec G H ds vs Q Q' s k f q)
theorem bc_isiE {X : Cx} {ic : String ⊕ Addr → String ⊕ Addr → Bool → Prop} {ec : Addr → Value → Bool → Prop} {p pos : Pos} {e e2 : Expr} {ts : TDA} (hic : ∀ a c b, ic a c b → IsiOk X.K a c b) (hec : ∀ C c b, ec C c b → EcOk X.K C c b) (hm : X.mg "isinstance" = none) (ha : DA X [e, e2] ts) (hg : Gl X "isinstance" := by rfl)
    (he : starEach [e, e2] X.env = (false, eval e X.env) :: starEach [e2] X.env := by rfl) (hpl : (backTo pos (starEach [e2] X.env)).any (·.1) = false := by rfl) : DE X (.Call (.Name "isinstance" p) [e, e2] [] pos) (dCB (rIsiE ic ec) ts) :=
  de_cb (CallR.or (CallR.or call_isi call_isV) call_isE) (cd_isiE hic hec) hm (by decide +kernel) ha hg (by decide) (by decide) he hpl
theorem RoomG.units1 {k : Nat} {A : Around} (r : RoomG k A) : A.units + 65 < cLine := by have := r.un; omega
/-! ### xs.count(e), xs.index(e) -/
def rCountD (K : PySem.W.Frag) : V → List V → Hp → VK → Prop := fun x xs H Q => ∃ (a : Addr) (y : V) (d : PyData) (ds : List PyData), x = V.ref a ∧ xs = [y] ∧ Dp K H (V.ref a) (.list ds) ∧ Dp K H y d ∧ SeqAt.shaped (.list ds) = true ∧ SeqAt.shaped d = true ∧ Q (.int ((ds.countP fun z => PyData.eqv z d : Nat) : Int)) H
theorem mt_countD {X : Cx} (hu : X.A.units + 65 < cLine) : MtR X "list.count" (rCountD X.K) := by
  intro pins s σ H x xs v us Q I rx rxs ⟨a, y, d, ds, e1, e2, hl, hy, sl, sd, q⟩
  subst e1; subst e2
  obtain rfl : v = .ref a := rx
  obtain ⟨uy, rfl, ry⟩ := vals1 rxs
  obtain ⟨bs, r1⟩ := Dp.reads I d y uy hy ry
  cases hl with
  | lst hs ha =>
    obtain ⟨its, rv, hL, hlen⟩ := I.list hs
    obtain ⟨as, h4⟩ := Dp.readsAll I ds _ its ha rv
    refine PySem.SeqAt.count_list_data (vs := its.toArray) ?_ (by simpa using h4) r1 (PyData.plainAll_of_canLay0 ds (SeqAt.canLay_of_shaped sl)) (PyData.plain_of_canLay0 d (SeqAt.canLay_of_shaped sd)) (room_in_shaped sd hu) ⟨.int _, H, I.tok _, ⟨_, rfl⟩, q⟩
    obtain ⟨o, n, ho, hc, hdn, hdt⟩ := hL
    exact ⟨o, ho, hc, n, hdt⟩
def cntO (o p : Option PyData) (G : HD) (Q : Post) : Prop := match o, p with
  | some (.list ds), some d => SeqAt.shaped (.list ds) = true ∧ SeqAt.shaped d = true ∧ Q (.int ((ds.countP fun z => PyData.eqv z d : Nat) : Int)) G
  | _, _ => False
def idxO (o p : Option PyData) (G : HD) (Q : Post) : Prop := match o, p with
  | some (.list ds), some d => SeqAt.shaped (.list ds) = true ∧ SeqAt.shaped d = true ∧ ∃ (j : Nat) (z : PyData), ds[j]? = some z ∧ PyData.eqv z d = true ∧ (∀ (m : Nat) (z' : PyData), m < j → ds[m]? = some z' → PyData.eqv z' d = false) ∧ Q (.int (j : Nat)) G
  | _, _ => False
def dMt1 (p : Option PyData → Option PyData → HD → Post → Prop) (to : TD) (ts : TDA) : TD := fun W σ G Q => to W σ G fun o G1 => (∃ l, asL G1 o = some l) ∧ (ts W σ G1 fun ds G2 => match ds with
  | [d] => p (pyD 9 G2 o) (pyD 9 G2 d) G2 Q
  | _ => False)

section
variable {X : Cx} {o e : Expr} {to : TD} {ts : TDA} {apos cpos : Pos}
theorem de_count (hr : X.A.units + 65 < cLine) (ho : DE X o to) (ha : DA X [e] ts)
    (hbase : attributeBase o "count" X.env (eval o X.env) = eval o X.env := by rfl)
    (hfew : ((backTo cpos (starEach [e] X.env)).all (fun x => !x.1) && (backToKw cpos (keywordEach [] X.env)).all (fun x => x.1.isSome)
      && decide (([e] : List Expr).length + ([] : List Keyword).length + (if ([] : List Keyword).isEmpty then 0 else 1) < 30)) = true := by rfl)
    (hline : (apos.endLine == cpos.line) = true := by rfl) (hs : starEach [e] X.env = (false, eval e X.env) :: starEach [] X.env := by rfl) (hplain : (backTo cpos (starEach [] X.env)).any (·.1) = false := by rfl) :
    DE X (.Call (.Attribute o "count" apos) [e] [] cpos) (dMt1 cntO to ts) := ⟨fun G H σ τ W Q r q => by
  refine semE.of (pe_bm PySem.F.plainAttrs_list PySem.F.slot_list_count PySem.F.type_list_count (mt_countD hr) peSem paSem hbase hfew hline hs hplain) ?_
  refine ho.then r q fun d v G1 H1 r1 x1 k1 ⟨⟨l, hl⟩, q1⟩ => ?_
  obtain ⟨a, vs, rfl, hq, _⟩ := Rp.lst r1.sim k1 hl
  refine ⟨.inl ⟨rfl, vs, hq⟩, ha.then r1 q1 fun ds us G2 H2 r2 x2 k2 q3 => ?_⟩
  try dsimp only at q3
  split at q3
  · rename_i d2
    obtain ⟨w, rfl, kd⟩ := one_of k2
    have k1' := k1.ext r1.sim x2 _ _
    unfold cntO at q3
    split at q3
    · rename_i ps p h1 h2
      obtain ⟨s1, s2, q4⟩ := q3
      exact ⟨a, w, p, ps, rfl, rfl, (pyD_dp r2.sim 9 _ _ _ h1 k1').1, (pyD_dp r2.sim 9 _ _ _ h2 kd).1, s1, s2, .of (d := .int _) rfl r2.sim (x1.trans x2) q4⟩
    · exact q3.elim
  · exact q3.elim⟩
theorem de_index (hr : X.A.units + 65 < cLine) (ho : DE X o to) (ha : DA X [e] ts)
    (hbase : attributeBase o "index" X.env (eval o X.env) = eval o X.env := by rfl)
    (hfew : ((backTo cpos (starEach [e] X.env)).all (fun x => !x.1) && (backToKw cpos (keywordEach [] X.env)).all (fun x => x.1.isSome)
      && decide (([e] : List Expr).length + ([] : List Keyword).length + (if ([] : List Keyword).isEmpty then 0 else 1) < 30)) = true := by rfl)
    (hline : (apos.endLine == cpos.line) = true := by rfl) (hs : starEach [e] X.env = (false, eval e X.env) :: starEach [] X.env := by rfl) (hplain : (backTo cpos (starEach [] X.env)).any (·.1) = false := by rfl) :
    DE X (.Call (.Attribute o "index" apos) [e] [] cpos) (dMt1 idxO to ts) := ⟨fun G H σ τ W Q r q => by
  refine semE.of (pe_bm PySem.F.plainAttrs_list PySem.F.slot_list_index PySem.F.type_list_index (mt_indexD hr) peSem paSem hbase hfew hline hs hplain) ?_
  refine ho.then r q fun d v G1 H1 r1 x1 k1 ⟨⟨l, hl⟩, q1⟩ => ?_
  obtain ⟨a, vs, rfl, hq, _⟩ := Rp.lst r1.sim k1 hl
  refine ⟨.inl ⟨rfl, vs, hq⟩, ha.then r1 q1 fun ds us G2 H2 r2 x2 k2 q3 => ?_⟩
  try dsimp only at q3
  split at q3
  · rename_i d2
    obtain ⟨w, rfl, kd⟩ := one_of k2
    have k1' := k1.ext r1.sim x2 _ _
    unfold idxO at q3
    split at q3
    · rename_i ps p h1 h2
      obtain ⟨s1, s2, j, z, a1, a2, a3, q4⟩ := q3
      exact ⟨a, w, p, ps, j, z, rfl, rfl, (pyD_dp r2.sim 9 _ _ _ h1 k1').1, (pyD_dp r2.sim 9 _ _ _ h2 kd).1, s1, s2, a1, a2, a3, .of (d := .int _) rfl r2.sim (x1.trans x2) q4⟩
    · exact q3.elim
  · exact q3.elim⟩
end
end DL

namespace DL
open PySem PySem.Spec L2
open PyProof.Rows hiding St
/-! ### repr of tuples with an empty dict within -/
def pureE : Nat → D → Bool
  | 0, _ => false
  | n + 1, d => match d with
    | .non => true
    | .bl _ => true
    | .int _ => true
    | .str _ => true
    | .tup ds => ds.all (pureE n)
    | .emp => true
    | _ => false
theorem toPy_depthAll {n : Nat} (ih : ∀ d, (toPy n d).depth ≤ n) : ∀ ds : List D, PyData.depthAll (ds.map (toPy n)) ≤ n
  | [] => by simp only [List.map_nil, PyData.depthAll]; omega
  | d :: ds => by
    have h1 := ih d
    have h2 := toPy_depthAll ih ds
    simp only [List.map_cons, PyData.depthAll]; omega
theorem toPy_depth : ∀ (n : Nat) (d : D), (toPy n d).depth ≤ n
  | 0, d => by unfold toPy; simp only [PyData.depth]; omega
  | n + 1, d => by
    unfold toPy
    cases d with
    | tup ds => have := toPy_depthAll (toPy_depth n) ds; simp only [PyData.depth]; omega
    | kl ds => have := toPy_depthAll (toPy_depth n) ds; simp only [PyData.depth]; omega
    | kc ds => have := toPy_depthAll (toPy_depth n) ds; simp only [PyData.depth]; omega
    | emp => simp only [PyData.depth, PyData.depthKv]; omega
    | _ => simp only [PyData.depth]; omega
section
variable {X : Cx} {pins : List (Addr × Obj)} {σ : L2.St} {H : Hp} {s : Shared}
mutual
theorem Rp.readsE (I : Inv X pins σ H s) : ∀ (n : Nat) (d : D) (v : V) (u : Value), pureE n d = true → Rp X.K H d v → RelV v u → ∃ as, Reads s.heap u (toPy n d) as ∧ sysModules ∉ as
  | 0, _, _, _, h, _, _ => by cases h
  | n + 1, .non, _, _, _, r, e => by cases r; cases e; exact ⟨_, .none, by simp⟩
  | n + 1, .bl b, _, _, _, r, e => by cases r; cases e; exact ⟨_, .bool b, by simp⟩
  | n + 1, .int b, _, _, _, r, e => by cases r; obtain ⟨t, rfl⟩ := e; exact ⟨_, .int b t, by simp⟩
  | n + 1, .str b, _, _, _, r, e => by cases r; obtain ⟨t, rfl⟩ := e; exact ⟨_, .str b t, by simp⟩
  | n + 1, .tup ds, v, u, h, r, e => by
    obtain ⟨a, vs, rfl, t, rr⟩ := r
    obtain rfl : u = .ref a := e
    obtain ⟨its, rv, ⟨o, ho, hc, m, hd⟩, _⟩ := I.tuple t
    obtain ⟨as, h1, h2⟩ := Rps.readsE I n ds vs its (by unfold pureE at h; exact h) rr rv
    exact ⟨as, .tuple ho hc hd h1, h2⟩
  | n + 1, .emp, v, u, h, r, e => by
    obtain ⟨a, ob, rfl, m, t, ⟨c, _, _⟩, ep, hd⟩ := r
    obtain rfl : u = .ref a := e
    obtain ⟨h1, _, _⟩ := I.hok a _ t
    refine ⟨a :: [] ++ [], .dict h1 c hd .nil .nil, fun z => ?_⟩
    have z' : sysModules = a := by simpa using z
    subst z'
    exact absurd m (by decide)
  | n + 1, .ty _, _, _, h, _, _ => by cases h
  | n + 1, .ref _, _, _, h, _, _ => by cases h
  | n + 1, .kl _, _, _, h, _, _ => by cases h
  | n + 1, .kc _, _, _, h, _, _ => by cases h
  | n + 1, .exc _ _ _, _, _, h, _, _ => by cases h
theorem Rps.readsE (I : Inv X pins σ H s) : ∀ (n : Nat) (ds : List D) (vs : List V) (us : List Value), ds.all (pureE n) = true → Rps X.K H ds vs → Vals vs us → ∃ as, ReadsAll s.heap us (ds.map (toPy n)) as ∧ sysModules ∉ as
  | n, [], _, _, _, r, e => by cases r; cases e; exact ⟨_, .nil, by simp⟩
  | n, d :: ds, _, _, h, r, e => by
    obtain ⟨v, vs, rfl, r1, r2⟩ := r
    rw [List.all_cons, Bool.and_eq_true] at h
    cases e with
    | cons e1 e2 =>
      obtain ⟨as, h1, h2⟩ := Rp.readsE I n d _ _ h.1 r1 e1
      obtain ⟨bs, h3, h4⟩ := Rps.readsE I n ds _ _ h.2 r2 e2
      exact ⟨as ++ bs, .cons h1 h3, fun z => (List.mem_append.mp z).elim h2 h4⟩
end
end
def rRepE (K : PySem.W.Frag) : List V → Hp → VK → Prop := fun xs H Q => ∃ v d a, xs = [v] ∧ v = .ref a ∧ pureE 9 d = true ∧ Rp K H d v ∧ (toPy 9 d).showable = true ∧ (toPy 9 d).shown.length ≤ sizeLine ∧ Q (.str (toPy 9 d).shown) H
theorem call_repT {X : Cx} (hg : X.A.guards = some []) (hu : X.A.units + 64 < cLine) : CallR X (.builtin "repr") (rRepE X.K) := by
  intro pins s σ H xs us Q I rv ⟨v, d, a, e, ev, hp, rp, hs, hz, q⟩
  subst e
  obtain ⟨u, eu, ru⟩ := vals1 rv
  subst eu
  subst ev
  obtain ⟨as, hr, hm⟩ := Rp.readsE I 9 d _ u hp rp ru
  obtain rfl : u = .ref a := ru
  have hd := toPy_depth 9 d
  exact repr_of_reads' hr hs (fun _ => hm) hg (by omega) (fun _ _ e => e) (fun h' u tk k => ⟨.str _, H, I.kept (t' := tk) k, ⟨u, rfl⟩, q⟩) hz
def isBox : D → Bool
  | .tup _ => true
  | .emp => true
  | _ => false
def rReprX : List D → HD → Post → Prop := fun ds G Q => match ds with
  | [d] => (pureE 9 d = true ∧ isBox d = true ∧ (toPy 9 d).showable = true ∧ (toPy 9 d).shown.length ≤ sizeLine ∧ Q (.str (toPy 9 d).shown) G) ∨ rReprD [d] G Q
  | _ => False
theorem cd_reprX (K : PySem.W.Frag) : CallD K (fun xs H Q => (rRep0 K xs H Q ∨ ∃ a, xs = [.ref a] ∧ H a = some (.dK []) ∧ Q (.str (PyData.dict []).shown) H) ∨ rRepE K xs H Q) rReprX := fun G H ds vs Q Q' s k f q => by
  unfold rReprX at q
  split at q
  · rename_i d
    rcases q with ⟨h1, h2, h3, h4, q⟩ | q
    · obtain ⟨v, rfl, kd⟩ := one_of k
      have : ∃ a, v = .ref a := by
        cases d with
        | tup _ => obtain ⟨a, _, e, _⟩ := kd; exact ⟨a, e⟩
        | emp => obtain ⟨a, _, e, _⟩ := kd; exact ⟨a, e⟩
        | _ => cases h2
      obtain ⟨a, e⟩ := this
      exact .inr ⟨v, d, a, rfl, e, h1, kd, h3, h4, f _ _ (.of (d := .str _) rfl s .refl q)⟩
    · exact .inl (cd_repr K G H [d] vs Q Q' s k f q)
  · exact q.elim
theorem bc_reprX {X : Cx} {k : Nat} {p pos : Pos} {e : Expr} {ts : TDA} (hr : RoomG k X.A) (hm : X.mg "repr" = none) (ha : DA X [e] ts) (hg : Gl X "repr" := by rfl) (he : starEach [e] X.env = (false, eval e X.env) :: starEach [] X.env := by rfl) : DE X (.Call (.Name "repr" p) [e] [] pos) (dCB rReprX ts) :=
  de_cb (CallR.or (CallR.or (call_rep0 hr.gd hr.units) (call_repE hr.gd hr.units)) (call_repT hr.gd hr.units)) (cd_reprX X.K) hm (by decide +kernel) ha hg (by decide) (by decide) he (by rfl)
theorem i_reprX {d : D} {G : HD} {Q : Post} (h : pureD 9 d = true ∨ (pureE 9 d = true ∧ isBox d = true)) (h1 : (toPy 9 d).showable = true) (h2 : (toPy 9 d).shown.length ≤ sizeLine) (q : Q (.str (toPy 9 d).shown) G) : rReprX [d] G Q := by
  rcases h with h | h
  · exact .inr (i_repr h h1 h2 q)
  · exact .inl ⟨h.1, h.2, h1, h2, q⟩
/-! for the plain laws -/
section
variable {G : HD} {Q : Post} {n : String} {c : Addr} {ic : String ⊕ Addr → String ⊕ Addr → Bool → Prop} {ec : Addr → Value → Bool → Prop} {C : Addr} {ns : List Str} {ds : List D} {i : Int} {x : Str} {b : Bool} {xs : List D} {te : TD} {ts : TDA} {W : DW} {σ : DSt}
theorem q_emp : dEmp W σ G Q = Q .emp G := propext ⟨fun h => h, fun h => h⟩
theorem q_mt1 {p : Option PyData → Option PyData → HD → Post → Prop} : dMt1 p te ts W σ G Q = te W σ G fun o G1 => (∃ l, asL G1 o = some l) ∧ (ts W σ G1 fun ds G2 => match ds with
  | [d] => p (pyD 9 G2 o) (pyD 9 G2 d) G2 Q
  | _ => False) := propext ⟨fun h => h, fun h => h⟩
theorem r_isiEB : rIsiE ic ec [.emp, .ty "int"] G Q = Q (.bl false) G := propext ⟨fun h => h, fun h => h⟩
theorem r_isiEb : rIsiE ic ec [.emp, .ty "bool"] G Q = Q (.bl false) G := propext ⟨fun h => h, fun h => h⟩
theorem r_isiEt : rIsiE ic ec [.emp, .ty "tuple"] G Q = Q (.bl false) G := propext ⟨fun h => h, fun h => h⟩
theorem r_isiEs : rIsiE ic ec [.emp, .ty "str"] G Q = Q (.bl false) G := propext ⟨fun h => h, fun h => h⟩
theorem r_isiEl : rIsiE ic ec [.emp, .ty "list"] G Q = Q (.bl false) G := propext ⟨fun h => h, fun h => h⟩
theorem r_isiEd : rIsiE ic ec [.emp, .ty "dict"] G Q = Q (.bl true) G := propext ⟨fun h => h, fun h => h⟩
theorem r_isiER : rIsiE ic ec [.emp, .ref c] G Q = ∃ b, ic (.inl "dict") (.inr c) b ∧ Q (.bl b) G := propext ⟨fun h => h, fun h => h⟩
variable {t : D}
theorem r_isE_non : rIsiE ic ec [.non, t] G Q = rIsiD ic [.non, t] G Q := propext ⟨fun h => h, fun h => h⟩
theorem r_isX_non : rIsiX ic ec [.non, t] G Q = rIsiD ic [.non, t] G Q := propext ⟨fun h => h, fun h => h⟩
theorem r_isE_bl : rIsiE ic ec [.bl b, t] G Q = rIsiD ic [.bl b, t] G Q := propext ⟨fun h => h, fun h => h⟩
theorem r_isX_bl : rIsiX ic ec [.bl b, t] G Q = rIsiD ic [.bl b, t] G Q := propext ⟨fun h => h, fun h => h⟩
theorem r_isE_int : rIsiE ic ec [.int i, t] G Q = rIsiD ic [.int i, t] G Q := propext ⟨fun h => h, fun h => h⟩
theorem r_isX_int : rIsiX ic ec [.int i, t] G Q = rIsiD ic [.int i, t] G Q := propext ⟨fun h => h, fun h => h⟩
theorem r_isE_str : rIsiE ic ec [.str x, t] G Q = rIsiD ic [.str x, t] G Q := propext ⟨fun h => h, fun h => h⟩
theorem r_isX_str : rIsiX ic ec [.str x, t] G Q = rIsiD ic [.str x, t] G Q := propext ⟨fun h => h, fun h => h⟩
theorem r_isE_tup : rIsiE ic ec [.tup xs, t] G Q = rIsiD ic [.tup xs, t] G Q := propext ⟨fun h => h, fun h => h⟩
theorem r_isX_tup : rIsiX ic ec [.tup xs, t] G Q = rIsiD ic [.tup xs, t] G Q := propext ⟨fun h => h, fun h => h⟩
theorem r_isE_kl : rIsiE ic ec [.kl xs, t] G Q = rIsiD ic [.kl xs, t] G Q := propext ⟨fun h => h, fun h => h⟩
theorem r_isX_kl : rIsiX ic ec [.kl xs, t] G Q = rIsiD ic [.kl xs, t] G Q := propext ⟨fun h => h, fun h => h⟩
theorem r_isE_kc : rIsiE ic ec [.kc xs, t] G Q = rIsiD ic [.kc xs, t] G Q := propext ⟨fun h => h, fun h => h⟩
theorem r_isX_kc : rIsiX ic ec [.kc xs, t] G Q = rIsiD ic [.kc xs, t] G Q := propext ⟨fun h => h, fun h => h⟩
theorem r_isE_ref : rIsiE ic ec [.ref c, t] G Q = rIsiD ic [.ref c, t] G Q := propext ⟨fun h => h, fun h => h⟩
theorem r_isX_ref : rIsiX ic ec [.ref c, t] G Q = rIsiD ic [.ref c, t] G Q := propext ⟨fun h => h, fun h => h⟩
theorem r_rIsiET : rIsiE ic ec [.exc C ns ds, .ty n] G Q = ∃ b, ec C (.type n) b ∧ Q (.bl b) G := propext ⟨fun h => h, fun h => h⟩
theorem r_rIsiER : rIsiE ic ec [.exc C ns ds, .ref c] G Q = ∃ b, ec C (.ref c) b ∧ Q (.bl b) G := propext ⟨fun h => h, fun h => h⟩
theorem r_rIsiXT : rIsiX ic ec [.exc C ns ds, .ty n] G Q = ∃ b, ec C (.type n) b ∧ Q (.bl b) G := propext ⟨fun h => h, fun h => h⟩
theorem r_rIsiXR : rIsiX ic ec [.exc C ns ds, .ref c] G Q = ∃ b, ec C (.ref c) b ∧ Q (.bl b) G := propext ⟨fun h => h, fun h => h⟩
end
end DL

namespace DL
open PySem PySem.Spec L2
open PyProof.Rows hiding St
section
variable {G : HD} {Q : Post} {ic : String ⊕ Addr → String ⊕ Addr → Bool → Prop} {i : Int} {x : Str} {b : Bool} {xs : List D}
theorem r_isD_non_int : rIsiD ic [.non, .ty "int"] G Q = Q (.bl false) G := propext ⟨fun h => h, fun h => h⟩
theorem r_isD_non_bool : rIsiD ic [.non, .ty "bool"] G Q = Q (.bl false) G := propext ⟨fun h => h, fun h => h⟩
theorem r_isD_non_tuple : rIsiD ic [.non, .ty "tuple"] G Q = Q (.bl false) G := propext ⟨fun h => h, fun h => h⟩
theorem r_isD_non_str : rIsiD ic [.non, .ty "str"] G Q = Q (.bl false) G := propext ⟨fun h => h, fun h => h⟩
theorem r_isD_non_list : rIsiD ic [.non, .ty "list"] G Q = Q (.bl false) G := propext ⟨fun h => h, fun h => h⟩
theorem r_isD_non_dict : rIsiD ic [.non, .ty "dict"] G Q = Q (.bl false) G := propext ⟨fun h => h, fun h => h⟩
theorem r_isD_bl_int : rIsiD ic [.bl b, .ty "int"] G Q = Q (.bl true) G := propext ⟨fun h => h, fun h => h⟩
theorem r_isD_bl_bool : rIsiD ic [.bl b, .ty "bool"] G Q = Q (.bl true) G := propext ⟨fun h => h, fun h => h⟩
theorem r_isD_bl_tuple : rIsiD ic [.bl b, .ty "tuple"] G Q = Q (.bl false) G := propext ⟨fun h => h, fun h => h⟩
theorem r_isD_bl_str : rIsiD ic [.bl b, .ty "str"] G Q = Q (.bl false) G := propext ⟨fun h => h, fun h => h⟩
theorem r_isD_bl_list : rIsiD ic [.bl b, .ty "list"] G Q = Q (.bl false) G := propext ⟨fun h => h, fun h => h⟩
theorem r_isD_bl_dict : rIsiD ic [.bl b, .ty "dict"] G Q = Q (.bl false) G := propext ⟨fun h => h, fun h => h⟩
theorem r_isD_int_int : rIsiD ic [.int i, .ty "int"] G Q = Q (.bl true) G := propext ⟨fun h => h, fun h => h⟩
theorem r_isD_int_bool : rIsiD ic [.int i, .ty "bool"] G Q = Q (.bl false) G := propext ⟨fun h => h, fun h => h⟩
theorem r_isD_int_tuple : rIsiD ic [.int i, .ty "tuple"] G Q = Q (.bl false) G := propext ⟨fun h => h, fun h => h⟩
theorem r_isD_int_str : rIsiD ic [.int i, .ty "str"] G Q = Q (.bl false) G := propext ⟨fun h => h, fun h => h⟩
theorem r_isD_int_list : rIsiD ic [.int i, .ty "list"] G Q = Q (.bl false) G := propext ⟨fun h => h, fun h => h⟩
theorem r_isD_int_dict : rIsiD ic [.int i, .ty "dict"] G Q = Q (.bl false) G := propext ⟨fun h => h, fun h => h⟩
theorem r_isD_str_int : rIsiD ic [.str x, .ty "int"] G Q = Q (.bl false) G := propext ⟨fun h => h, fun h => h⟩
theorem r_isD_str_bool : rIsiD ic [.str x, .ty "bool"] G Q = Q (.bl false) G := propext ⟨fun h => h, fun h => h⟩
theorem r_isD_str_tuple : rIsiD ic [.str x, .ty "tuple"] G Q = Q (.bl false) G := propext ⟨fun h => h, fun h => h⟩
theorem r_isD_str_str : rIsiD ic [.str x, .ty "str"] G Q = Q (.bl true) G := propext ⟨fun h => h, fun h => h⟩
theorem r_isD_str_list : rIsiD ic [.str x, .ty "list"] G Q = Q (.bl false) G := propext ⟨fun h => h, fun h => h⟩
theorem r_isD_str_dict : rIsiD ic [.str x, .ty "dict"] G Q = Q (.bl false) G := propext ⟨fun h => h, fun h => h⟩
theorem r_isD_tup_int : rIsiD ic [.tup xs, .ty "int"] G Q = Q (.bl false) G := propext ⟨fun h => h, fun h => h⟩
theorem r_isD_tup_bool : rIsiD ic [.tup xs, .ty "bool"] G Q = Q (.bl false) G := propext ⟨fun h => h, fun h => h⟩
theorem r_isD_tup_tuple : rIsiD ic [.tup xs, .ty "tuple"] G Q = Q (.bl true) G := propext ⟨fun h => h, fun h => h⟩
theorem r_isD_tup_str : rIsiD ic [.tup xs, .ty "str"] G Q = Q (.bl false) G := propext ⟨fun h => h, fun h => h⟩
theorem r_isD_tup_list : rIsiD ic [.tup xs, .ty "list"] G Q = Q (.bl false) G := propext ⟨fun h => h, fun h => h⟩
theorem r_isD_tup_dict : rIsiD ic [.tup xs, .ty "dict"] G Q = Q (.bl false) G := propext ⟨fun h => h, fun h => h⟩
theorem r_isD_kl_int : rIsiD ic [.kl xs, .ty "int"] G Q = Q (.bl false) G := propext ⟨fun h => h, fun h => h⟩
theorem r_isD_kl_bool : rIsiD ic [.kl xs, .ty "bool"] G Q = Q (.bl false) G := propext ⟨fun h => h, fun h => h⟩
theorem r_isD_kl_tuple : rIsiD ic [.kl xs, .ty "tuple"] G Q = Q (.bl false) G := propext ⟨fun h => h, fun h => h⟩
theorem r_isD_kl_str : rIsiD ic [.kl xs, .ty "str"] G Q = Q (.bl false) G := propext ⟨fun h => h, fun h => h⟩
theorem r_isD_kl_list : rIsiD ic [.kl xs, .ty "list"] G Q = Q (.bl true) G := propext ⟨fun h => h, fun h => h⟩
theorem r_isD_kl_dict : rIsiD ic [.kl xs, .ty "dict"] G Q = Q (.bl false) G := propext ⟨fun h => h, fun h => h⟩
theorem r_isD_kc_int : rIsiD ic [.kc xs, .ty "int"] G Q = Q (.bl false) G := propext ⟨fun h => h, fun h => h⟩
theorem r_isD_kc_bool : rIsiD ic [.kc xs, .ty "bool"] G Q = Q (.bl false) G := propext ⟨fun h => h, fun h => h⟩
theorem r_isD_kc_tuple : rIsiD ic [.kc xs, .ty "tuple"] G Q = Q (.bl false) G := propext ⟨fun h => h, fun h => h⟩
theorem r_isD_kc_str : rIsiD ic [.kc xs, .ty "str"] G Q = Q (.bl false) G := propext ⟨fun h => h, fun h => h⟩
theorem r_isD_kc_list : rIsiD ic [.kc xs, .ty "list"] G Q = Q (.bl true) G := propext ⟨fun h => h, fun h => h⟩
theorem r_isD_kc_dict : rIsiD ic [.kc xs, .ty "dict"] G Q = Q (.bl false) G := propext ⟨fun h => h, fun h => h⟩
theorem r_isD_non_own {c : Addr} : rIsiD ic [.non, .ref c] G Q = ∃ b, ic (.inl "NoneType") (.inr c) b ∧ Q (.bl b) G := propext ⟨fun h => h, fun h => h⟩
theorem r_isD_bl_own {c : Addr} : rIsiD ic [.bl b, .ref c] G Q = ∃ b, ic (.inl "bool") (.inr c) b ∧ Q (.bl b) G := propext ⟨fun h => h, fun h => h⟩
theorem r_isD_int_own {c : Addr} : rIsiD ic [.int i, .ref c] G Q = ∃ b, ic (.inl "int") (.inr c) b ∧ Q (.bl b) G := propext ⟨fun h => h, fun h => h⟩
theorem r_isD_str_own {c : Addr} : rIsiD ic [.str x, .ref c] G Q = ∃ b, ic (.inl "str") (.inr c) b ∧ Q (.bl b) G := propext ⟨fun h => h, fun h => h⟩
theorem r_isD_tup_own {c : Addr} : rIsiD ic [.tup xs, .ref c] G Q = ∃ b, ic (.inl "tuple") (.inr c) b ∧ Q (.bl b) G := propext ⟨fun h => h, fun h => h⟩
theorem r_isD_kl_own {c : Addr} : rIsiD ic [.kl xs, .ref c] G Q = ∃ b, ic (.inl "list") (.inr c) b ∧ Q (.bl b) G := propext ⟨fun h => h, fun h => h⟩
theorem r_isD_kc_own {c : Addr} : rIsiD ic [.kc xs, .ref c] G Q = ∃ b, ic (.inl "list") (.inr c) b ∧ Q (.bl b) G := propext ⟨fun h => h, fun h => h⟩
end
end DL

namespace DL
open PySem PySem.Spec L2
open PyProof.Rows hiding St
/-! ### how long a repr is -/
/-- small data: ints to 60 figures, texts to 60 signs -/
def smallD : Nat → D → Bool
  | 0, _ => true
  | n + 1, d => match d with
    | .int i => decide (i.natAbs < 10 ^ 60)
    | .str x => PyData.strOk x && decide (x.length ≤ 60)
    | .tup ds => ds.all (smallD n)
    | .kl ds => ds.all (smallD n)
    | .kc ds => ds.all (smallD n)
    | _ => true
mutual
def capD : D → Nat
  | .tup ds => 5 + capDs ds
  | .kl ds => 5 + capDs ds
  | .kc ds => 5 + capDs ds
  | _ => 602
def capDs : List D → Nat
  | [] => 0
  | d :: ds => capD d + 2 + capDs ds
end
theorem joinL (ts : List Str) : (Str.join ", " ts).length ≤ piled ts := by
  by_cases h : ts = []
  · subst h; exact Nat.zero_le _
  · have := join_length_add ts h; omega
theorem listL (ts : List Str) : (listText ts).length ≤ piled ts + 5 := by
  rw [listText_eq_join, strLen_append, strLen_append]
  have := joinL ts
  have e1 : (("[" : String) : Str).length = 1 := rfl
  have e2 : (("]" : String) : Str).length = 1 := rfl
  omega
theorem tupL (ts : List Str) : (tupleText ts).length ≤ piled ts + 5 := by
  unfold tupleText
  rw [strLen_append, strLen_append]
  have := joinL ts
  have e1 : (("(" : String) : Str).length = 1 := rfl
  have e2 : ((if ts.length == 1 then ",)" else ")" : String) : Str).length ≤ 2 := by split <;> decide
  omega
theorem log2_60 {i : Int} (h : i.natAbs < 10 ^ 60) : i.natAbs.log2 < 1920 := by
  by_cases z : i.natAbs = 0
  · rw [z]; decide
  · have := (Nat.log2_lt z).mpr (Nat.lt_trans h (show (10 : Nat) ^ 60 < 2 ^ 1920 by decide +kernel))
    exact this
mutual
theorem small_shown : ∀ (n : Nat) (d : D), smallD n d = true → (toPy n d).showable = true ∧ (toPy n d).shown.length ≤ capD d
  | 0, d, _ => by
    unfold toPy
    refine ⟨rfl, ?_⟩
    have : (PyData.none.shown).length = 4 := rfl
    rw [this]
    cases d <;> simp only [capD] <;> omega
  | n + 1, .int i, h => by
    have h' : i.natAbs < 10 ^ 60 := of_decide_eq_true h
    refine ⟨decide_eq_true (log2_60 h'), ?_⟩
    show (Str.ofString (toString i)).length ≤ 602
    have := PySem.int_text_length_le10 (show 0 < 60 by decide) h'
    have e0 : (Str.ofString (toString i)).length = (toString i).length := PySem.ofString_length _
    omega
  | n + 1, .str x, h => by
    unfold smallD at h
    rw [Bool.and_eq_true] at h
    refine ⟨rfl, ?_⟩
    show (reprText x).length ≤ 602
    have h2 : x.length ≤ 60 := of_decide_eq_true h.2
    have h1 : ∀ c ∈ x.cps.toList, c < 16 ^ 8 := fun c hc => by
      have := h.1
      unfold PyData.strOk at this
      rw [Array.all_eq_true'] at this
      have := of_decide_eq_true (this c (by simpa using hc))
      omega
    have := PySem.StrLaws.reprText_len x h1
    omega
  | n + 1, .tup ds, h => by
    obtain ⟨h1, h2⟩ := smalls_shown n ds (by unfold smallD at h; exact h)
    refine ⟨h1, ?_⟩
    show (tupleText (PyData.shownAll (ds.map (toPy n)))).length ≤ 5 + capDs ds
    have := tupL (PyData.shownAll (ds.map (toPy n)))
    omega
  | n + 1, .kl ds, h => by
    obtain ⟨h1, h2⟩ := smalls_shown n ds (by unfold smallD at h; exact h)
    refine ⟨h1, ?_⟩
    show (listText (PyData.shownAll (ds.map (toPy n)))).length ≤ 5 + capDs ds
    have := listL (PyData.shownAll (ds.map (toPy n)))
    omega
  | n + 1, .kc ds, h => by
    obtain ⟨h1, h2⟩ := smalls_shown n ds (by unfold smallD at h; exact h)
    refine ⟨h1, ?_⟩
    show (listText (PyData.shownAll (ds.map (toPy n)))).length ≤ 5 + capDs ds
    have := listL (PyData.shownAll (ds.map (toPy n)))
    omega
  | n + 1, .bl b, _ => ⟨rfl, by cases b <;> (show _ ≤ 602; exact Nat.le_trans (show _ ≤ 5 from by decide +kernel : (PyData.bool _).shown.length ≤ 5) (by decide))⟩
  | n + 1, .non, _ => ⟨rfl, by show _ ≤ 602; exact Nat.le_trans (show _ ≤ 4 from Nat.le_refl _) (by decide)⟩
  | n + 1, .emp, _ => ⟨rfl, by show _ ≤ 602; exact Nat.le_trans (show _ ≤ 2 from Nat.le_refl _) (by decide)⟩
  | n + 1, .ty _, _ => ⟨rfl, by show _ ≤ 602; exact Nat.le_trans (show _ ≤ 4 from Nat.le_refl _) (by decide)⟩
  | n + 1, .ref _, _ => ⟨rfl, by show _ ≤ 602; exact Nat.le_trans (show _ ≤ 4 from Nat.le_refl _) (by decide)⟩
  | n + 1, .exc _ _ _, _ => ⟨rfl, by show _ ≤ 602; exact Nat.le_trans (show _ ≤ 4 from Nat.le_refl _) (by decide)⟩
theorem smalls_shown : ∀ (n : Nat) (ds : List D), ds.all (smallD n) = true → PyData.showableAll (ds.map (toPy n)) = true ∧ piled (PyData.shownAll (ds.map (toPy n))) ≤ capDs ds
  | n, [], _ => ⟨rfl, Nat.zero_le _⟩
  | n, d :: ds, h => by
    rw [List.all_cons, Bool.and_eq_true] at h
    obtain ⟨h1, h2⟩ := small_shown n d h.1
    obtain ⟨h3, h4⟩ := smalls_shown n ds h.2
    refine ⟨by simp only [List.map_cons, PyData.showableAll, h1, h3, Bool.and_self], ?_⟩
    simp only [List.map_cons, PyData.shownAll, piled_cons, capDs]
    omega
end
theorem i_reprS {d : D} {G : HD} {Q : Post} (h : pureD 9 d = true ∨ (pureE 9 d = true ∧ isBox d = true)) (hs : smallD 9 d = true) (hc : capD d ≤ 1000000) (q : Q (.str (toPy 9 d).shown) G) : rReprX [d] G Q :=
  i_reprX h (small_shown 9 d hs).1 (Nat.le_trans (small_shown 9 d hs).2 (million hc)) q
theorem i_reprS0 {d : D} {G : HD} {Q : Post} (h : pureD 9 d = true) (hs : smallD 9 d = true) (hc : capD d ≤ 1000000) (q : Q (.str (toPy 9 d).shown) G) : rReprD [d] G Q :=
  i_repr h (small_shown 9 d hs).1 (Nat.le_trans (small_shown 9 d hs).2 (million hc)) q
end DL

namespace DL
open PySem PySem.Spec L2
open PyProof.Rows hiding St
/-! ### a def called by the name of its one parameter -/
structure Kw1K (P : Program) (w : World) (K : PySem.W.Frag) (mg : Str → Option Value) (base : Heap) (k : Nat) (x : Str) (sp : SpD) (a : Str) : Prop where
  ex : ∃ (f : Addr) (fd : FuncData), FnK P w K mg base k f fd [a] sp ∧ mg x = some (.ref f) ∧ PySem.W.keepIn K (.ref f) = true ∧
    ∀ (s : Shared) (u : Value), BindsTo s fd ⟨[], [(a, u)]⟩ [(a, u)]
def dKw1 (sp : SpD) (ts : TDA) : TD := fun W σ G Q => ts W σ G fun ds G1 => ds.length = 1 ∧ sp ds G1 Q fun c fs G' => W c fs σ G'
theorem de_kw1 {X : Cx} {k j : Nat} {sp : SpD} {x a : Str} {p pos : Pos} {kws : List Keyword} {tk : TDA} (F : Kw1K X.prog X.w X.K X.mg X.base k x sp a) (hr : RoomG j X.A) (hk : DKw X kws tk) (hj : k ≤ j := by decide) (hg : Gl X x := by rfl)
    (hall : (backToKw pos (keywordEach kws X.env)).all (·.1.isSome) = true := by rfl) (hks : (backToKw pos (keywordEach kws X.env)).filterMap (·.1) = [a] := by rfl) (hdb : (x == ("__debug__" : Str)) = false := by decide)
    (hpl : ((backTo pos (starEach [] X.env)).any (·.1) || (backToKw pos (keywordEach kws X.env)).any (·.1.isNone)) = false := by rfl) : DE X (.Call (.Name x p) [] kws pos) (dKw1 sp tk) := ⟨fun G H σ τ W Q r q pins s I => by
  obtain ⟨f, fd, F1, hm, hkp, hb⟩ := F.ex
  refine wpAny_Call_Name_kw (ld_glob I hg hm ?_ hdb)
  refine PySem.W.callWith_KW0 (h₀ := X.base) I.ok.mod.kin hkp hall ?_ hpl
  refine thn ((hk.run G H σ τ W _ r q) pos pins s I) fun ws s2 ⟨zs, H2, I2, rz, ds, G1, k1, sm1, x1, hl, q1⟩ => ⟨I2.kIn, ?_⟩
  rw [hks]
  obtain ⟨d1, rfl⟩ : ∃ d1, ds = [d1] := by
    match ds, hl with
    | [d1], _ => exact ⟨d1, rfl⟩
  obtain ⟨v1, _, rfl, kd1, e2⟩ := k1
  obtain rfl := e2
  obtain ⟨u1, rfl, r1⟩ := vals1 rz
  have hq := runK (es := [d1]) (vs := [v1]) (us := [u1]) F1 (hr.mono hj) (hb s2 u1) (r.ext sm1 x1) I2 (.cons r1 .nil) ⟨v1, _, rfl, kd1, rfl⟩ rfl q1
  refine wpAny_call (codeAny_mono hq fun z s3 hz => ?_)
  cases z with
  | error e => exact hz
  | ok fl =>
    cases fl with
    | ret u =>
      obtain ⟨v, H3, I3, l2, q2⟩ := hz
      exact ⟨v, H3, I3, l2, q2.up x1⟩
    | next => exact False.elim hz
    | brk => exact False.elim hz
    | cont => exact False.elim hz⟩
/-! ### min of a tuple of ints -/
def rMinTV (K : PySem.W.Frag) : List V → Hp → VK → Prop := fun vs H Q => ∃ (a : Addr) (n : Int) (ns : List Int), vs = [V.ref a] ∧ SqT K H a ((n :: ns).map V.int) ∧ Q (.int (ns.foldl min n)) H
theorem reads_ints {h : Heap} : ∀ {ns : List Int} {us : List Value}, Vals (ns.map V.int) us → ∃ as, ReadsAll h us (ns.map PyData.int) as
  | [], _, r => by cases r; exact ⟨_, .nil⟩
  | n :: ns, _, r => by
    cases r with
    | cons a b =>
      obtain ⟨t, rfl⟩ := a
      obtain ⟨as, k⟩ := reads_ints (ns := ns) b
      exact ⟨_, .cons (.int n t) k⟩
theorem depth_ints : ∀ ns : List Int, PyData.depthAll (ns.map PyData.int) = 0
  | [] => rfl
  | n :: ns => by simp only [List.map_cons, PyData.depthAll, PyData.depth, depth_ints ns]; rfl
theorem alike_ints (ns : List Int) : PySem.W.AlikeAll (ns.map PyData.int) := by
  refine ⟨fun x hx y hy => ?_, fun x hx => ?_⟩
  · obtain ⟨i, _, rfl⟩ := List.mem_map.mp hx
    obtain ⟨j, _, rfl⟩ := List.mem_map.mp hy
    rfl
  · obtain ⟨i, _, rfl⟩ := List.mem_map.mp hx
    exact nofun
theorem call_minT {X : Cx} (hc : X.calm = true) (hu : X.A.units + 64 < cLine) : CallR X (.builtin "min") (rMinTV X.K) := by
  intro pins s σ H vs us Q I r ⟨a, n, ns, e, t, q⟩
  subst e
  obtain ⟨its, rv, hT, _⟩ := I.tuple t
  rw [Vals.ref1 r]
  obtain ⟨as, hr⟩ := reads_ints (h := s.heap) (ns := n :: ns) rv
  refine PySem.W.min_tuple_data (I.ok.hd hc) hT (by simpa using hr) (alike_ints (n :: ns)) (by rw [show PyData.int n :: ns.map PyData.int = (n :: ns).map PyData.int from rfl, depth_ints]; omega) fun i v h' tk bs hv rd hk => ?_
  rw [PySem.W.minD_ints] at rd
  cases rd with
  | int _ t => exact ⟨.int _, H, I.kept (t' := tk) hk, ⟨_, rfl⟩, q⟩
def minTO (o : Option (List Int)) (G : HD) (Q : Post) : Prop := match o with
  | some (n :: ns) => Q (.int (ns.foldl min n)) G
  | _ => False
def rMinT : List D → HD → Post → Prop := fun ds G Q => match ds with
  | [.tup es] => minTO (asInts es) G Q
  | ds => rMin2 ds G Q
theorem cd_minT (K : PySem.W.Frag) : CallD K (fun xs H Q => ((∃ i j, xs = [.int i, .int j] ∧ Q (.int (if j < i then j else i)) H) ∨ L2.rMin K xs H Q) ∨ rMinTV K xs H Q) rMinT := fun G H ds vs Q Q' s k f q => by
  unfold rMinT at q
  split at q
  · rename_i es
    obtain ⟨v, rfl, kd⟩ := one_of k
    unfold minTO at q
    split at q
    · rename_i n ns e
      obtain ⟨a, vs, rfl, t, r⟩ := kd
      obtain rfl := asInts_eq e
      obtain rfl := r.ints
      exact .inr ⟨a, n, ns, rfl, t, f _ _ (.of (d := .int _) rfl s .refl q)⟩
    · exact q.elim
  · exact .inl (cd_min K G H ds vs Q Q' s k f q)
theorem bc_minT {X : Cx} {p pos : Pos} {e : Expr} {ts : TDA} (hc : X.calm = true) (hu : X.A.units + 64 < cLine) (hm : X.mg "min" = none) (ha : DA X [e] ts) (hg : Gl X "min" := by rfl)
    (he : starEach [e] X.env = (false, eval e X.env) :: starEach [] X.env := by rfl) : DE X (.Call (.Name "min" p) [e] [] pos) (dCB rMinT ts) :=
  de_cb (CallR.or (CallR.or (call_min2 hc) (cr_min hc)) (call_minT hc hu)) (cd_minT X.K) hm (by decide +kernel) ha hg (by decide) (by decide) he (by rfl)
section
variable {G : HD} {Q : Post} {i j : Int} {W : DW} {σ : DSt} {sp : SpD} {ts : TDA}
theorem q_kw1 : dKw1 sp ts W σ G Q = ts W σ G fun ds G1 => ds.length = 1 ∧ sp ds G1 Q fun c fs G' => W c fs σ G' := propext ⟨fun h => h, fun h => h⟩
theorem r_minT2 : rMinT [.tup [.int i, .int j]] G Q = Q (.int (min i j)) G := propext ⟨fun h => h, fun h => h⟩
end
end DL

namespace DL
open PySem PySem.Spec L2
open PyProof.Rows hiding St
/-! ### texts: gone through, compared, joined -/
def signs (x : Str) : List D := x.cps.toList.map fun c => D.str ⟨#[c]⟩
theorem signs_len {x : Str} : (signs x).length = x.cps.size := by unfold signs; rw [List.length_map]; simp
theorem signs_at {x : Str} {i : Nat} {c : Nat} (h : x.cps[i]? = some c) : (signs x)[i]? = some (.str ⟨#[c]⟩) := by
  unfold signs
  rw [List.getElem?_map, Array.getElem?_toList, h]; rfl
theorem its_rel {K : PySem.W.Frag} {G1 : HD} {H1 : Hp} (x : Str) : ItRel K G1 H1 ⟨signs x, fun _ => True⟩ (Its x) :=
  ⟨fun i G H s _ _ hi => by rw [signs_len] at hi; exact hi, fun i G H v H' s _ _ hi hy => by
    obtain ⟨rfl, c, hc, rfl⟩ := hy
    exact ⟨_, signs_at hc, rfl, s, .refl⟩, fun i G H s _ _ hi => by rw [signs_len] at hi; exact hi⟩
def strP (d : D) (G : HD) (R : ItD → HD → Prop) : Prop := match d with
  | .str x => R ⟨signs x, fun _ => True⟩ G
  | _ => False
def jStr (tl : TD) : TDI := fun W σ G R => tl W σ G fun d G1 => strP d G1 R
theorem di_str {X : Cx} {tg l : Expr} {tl : TD} (hl : DE X l tl) : DI X tg l (iStr (semE X l)) (jStr tl) :=
  ⟨pi_str peSem, fun G H σ τ W R R' r q fin => hl.then r q fun d v G1 H1 r1 x1 k1 q1 => by
    unfold strP at q1
    split at q1
    · rename_i x
      cases k1
      exact ⟨x, rfl, fin _ _ G1 H1 r1.sim x1 (its_rel x) q1⟩
    · exact q1.elim⟩
/-- <= of ints, of texts -/
def dLeX : D → D → HD → Post → Prop := fun d e G Q => match d, e with
  | .int i, .int j => Q (.bl (decide (i ≤ j))) G
  | .str i, .str j => Q (.bl (!decide (j.cps.toList < i.cps.toList))) G
  | _, _ => False
theorem od_leX (K : PySem.W.Frag) : OpD K (fun x y H Q => rI0 (fun i j => .bl (decide (i ≤ j))) x y H Q ∨ ∃ i j, x = .str i ∧ y = .str j ∧ Q (.bl (!decide (j.cps.toList < i.cps.toList))) H) dLeX := fun G H d e x y Q Q' s k1 k2 f q => by
  unfold dLeX at q
  split at q
  · rename_i i j
    refine .inl (od_cmpI K (fun i j => decide (i ≤ j)) G H (.int i) (.int j) x y Q Q' s k1 k2 f q)
  · cases k1; cases k2
    exact .inr ⟨_, _, rfl, rfl, f _ _ (.of (d := .bl _) rfl s .refl q)⟩
  · exact q.elim
theorem c_leX {X : Cx} (hu : X.A.units + 64 < cLine) : CmpR X .LtE dLeX := ⟨_, op_le.or op_le_str, od_leX X.K⟩
/-- a sign in a text -/
def dInS (neg : Bool) : D → D → HD → Post → Prop := fun d e G Q => match d, e with
  | .str i, .str z => ∃ c : Nat, i = ⟨#[c]⟩ ∧ Q (.bl (if neg then !decide (c ∈ z.cps.toList) else decide (c ∈ z.cps.toList))) G
  | _, _ => False
theorem od_inS (K : PySem.W.Frag) : OpD K (fun x y H Q => ∃ (c : Nat) (z : Str), x = .str ⟨#[c]⟩ ∧ y = .str z ∧ Q (.bl (decide (c ∈ z.cps.toList))) H) (dInS false) := fun G H d e x y Q Q' s k1 k2 f q => by
  unfold dInS at q
  split at q
  · obtain ⟨c, rfl, q⟩ := q
    cases k1; cases k2
    exact ⟨c, _, rfl, rfl, f _ _ (.of (d := .bl _) rfl s .refl q)⟩
  · exact q.elim
theorem od_ninS (K : PySem.W.Frag) : OpD K (fun x y H Q => ∃ (c : Nat) (z : Str), x = .str ⟨#[c]⟩ ∧ y = .str z ∧ Q (.bl (!decide (c ∈ z.cps.toList))) H) (dInS true) := fun G H d e x y Q Q' s k1 k2 f q => by
  unfold dInS at q
  split at q
  · obtain ⟨c, rfl, q⟩ := q
    cases k1; cases k2
    exact ⟨c, _, rfl, rfl, f _ _ (.of (d := .bl _) rfl s .refl q)⟩
  · exact q.elim
theorem c_inS {X : Cx} : CmpR X .In (dInS false) := ⟨_, op_in_sign, od_inS X.K⟩
theorem c_ninS {X : Cx} : CmpR X .NotIn (dInS true) := ⟨_, op_notIn_sign, od_ninS X.K⟩
/-- "..".join(l), t.upper() -/
def asStrs : List D → Option (List Str)
  | [] => some []
  | .str x :: r => (asStrs r).map (x :: ·)
  | _ => none
theorem asStrs_rps {K : PySem.W.Frag} {H : Hp} : ∀ {ds : List D} {vs : List V} {ys : List Str}, asStrs ds = some ys → Rps K H ds vs → vs = ys.map V.str
  | [], vs, ys, e, r => by cases e; cases r; rfl
  | d :: ds, vs, ys, e, r => by
    obtain ⟨v, t, rfl, h1, h2⟩ := r
    cases d with
    | str x =>
      simp only [asStrs, Option.map_eq_some_iff] at e
      obtain ⟨zs, e1, rfl⟩ := e
      cases h1
      rw [asStrs_rps e1 h2]; rfl
    | _ => cases e
def joinO (a : Str) (o : Option (List D)) (G : HD) (Q : Post) : Prop := match o with
  | some ds => match asStrs ds with
    | some ys => (ys.map (·.length)).sum + ys.length * a.length ≤ 16777216 ∧ Q (.str (Txt.join a ys)) G
    | none => False
  | none => False
def joinP (o : D) (ds : List D) (G : HD) (Q : Post) : Prop := match o, ds with
  | .str a, [d] => joinO a (asL G d) G Q
  | _, _ => False
def upP (o : D) (G : HD) (Q : Post) : Prop := match o with
  | .str a => a.length ≤ 5592405 ∧ Q (.str (Txt.upper a)) G
  | _ => False
def dJoin (to te : TD) : TD := fun W σ G Q => to W σ G fun o G1 => (∃ a, o = .str a) ∧ te W σ G1 fun d G2 => joinP o [d] G2 Q
def dUpper (to : TD) : TD := fun W σ G Q => to W σ G fun o G1 => upP o G1 Q
section
variable {X : Cx} {o e : Expr} {to te : TD} {apos pos : Pos}
theorem de_join (ho : DE X o to) (he : DE X e te) (hs : starEach [e] X.env = [(false, eval e X.env)] := by rfl) (hbase : attributeBase o "join" X.env (eval o X.env) = eval o X.env := by rfl) (hline : (apos.endLine == pos.line) = true := by rfl) :
    DE X (.Call (.Attribute o "join" apos) [e] [] pos) (dJoin to te) := ⟨fun G H σ τ W Q r q => by
  refine semE.of (pe_join peSem peSem hs hbase hline) (ho.then r q fun d x G1 H1 r1 x1 k1 ⟨⟨a, ea⟩, q1⟩ => ?_)
  subst ea
  cases k1
  refine ⟨⟨a, rfl⟩, he.then r1 q1 fun d2 y G2 H2 r2 x2 k2 q2 => ?_⟩
  unfold joinP joinO at q2
  try dsimp only at q2
  split at q2
  · rename_i ds e1
    split at q2
    · rename_i ys e2
      obtain ⟨b, vs, rfl, t, rr⟩ := Rp.lst r2.sim k2 e1
      obtain rfl := asStrs_rps e2 rr
      exact ⟨a, b, ys, rfl, rfl, .inl t, q2.1, .of (d := .str _) rfl r2.sim (x1.trans x2) q2.2⟩
    · exact q2.elim
  · exact q2.elim⟩
theorem de_upper (ho : DE X o to) (hbase : attributeBase o "upper" X.env (eval o X.env) = eval o X.env := by rfl) (hline : (apos.endLine == pos.line) = true := by rfl) :
    DE X (.Call (.Attribute o "upper" apos) [] [] pos) (dUpper to) := ⟨fun G H σ τ W Q r q => by
  refine semE.of (pe_upper peSem hbase hline) (ho.then r q fun d x G1 H1 r1 x1 k1 q1 => ?_)
  unfold upP at q1
  split at q1
  · rename_i a
    cases k1
    exact ⟨⟨a, rfl⟩, a, rfl, rfl, q1.1, .of (d := .str _) rfl r1.sim x1 q1.2⟩
  · exact q1.elim⟩
end
section
variable {G : HD} {Q : Post} {i j : Int} {x y : Str} {W : DW} {σ : DSt} {to te : TD} {R : ItD → HD → Prop} {d : D} {ds : List D} {c : Nat} {n : Bool}
theorem q_jstr : jStr te W σ G R = te W σ G fun d G1 => strP d G1 R := propext ⟨fun h => h, fun h => h⟩
theorem r_strS : strP (.str x) G R = R ⟨signs x, fun _ => True⟩ G := propext ⟨fun h => h, fun h => h⟩
theorem r_leXI : dLeX (.int i) (.int j) G Q = Q (.bl (decide (i ≤ j))) G := propext ⟨fun h => h, fun h => h⟩
theorem r_leXS : dLeX (.str x) (.str y) G Q = Q (.bl (!decide (y.cps.toList < x.cps.toList))) G := propext ⟨fun h => h, fun h => h⟩
theorem i_inS (q : Q (.bl (if n then !decide (c ∈ y.cps.toList) else decide (c ∈ y.cps.toList))) G) : dInS n (.str ⟨#[c]⟩) (.str y) G Q := ⟨c, rfl, q⟩
theorem q_join : dJoin to te W σ G Q = to W σ G fun o G1 => (∃ a, o = .str a) ∧ te W σ G1 fun d G2 => joinP o [d] G2 Q := propext ⟨fun h => h, fun h => h⟩
theorem q_upper : dUpper to W σ G Q = to W σ G fun o G1 => upP o G1 Q := propext ⟨fun h => h, fun h => h⟩
theorem r_joinP : joinP (.str x) [d] G Q = joinO x (asL G d) G Q := propext ⟨fun h => h, fun h => h⟩
theorem r_upP : upP (.str x) G Q = (x.length ≤ 5592405 ∧ Q (.str (Txt.upper x)) G) := propext ⟨fun h => h, fun h => h⟩
end
end DL

namespace DL
open PySem PySem.Spec L2
open PyProof.Rows hiding St
/-! ### keys and values of a dict that stands still -/
def fzO (o : Option MO) (a : Addr) (f : List (Key × D) → List D) (G : HD) (R : ItD → HD → Prop) : Prop := match o with
  | some (.fz ob (.dK m) (.dK l)) => R ⟨f l, fun G => G a = some (.fz ob (.dK m) (.dK l))⟩ G
  | _ => False
def fzP (f : List (Key × D) → List D) (d : D) (G : HD) (R : ItD → HD → Prop) : Prop := match d with
  | .ref a => fzO (G a) a f G R
  | _ => False
def keysD (l : List (Key × D)) : List D := l.map fun p => kDi p.1
def valsD (l : List (Key × D)) : List D := l.map (·.2)
def jKeys (td : TD) : TDI := fun W σ G R => td W σ G fun o G1 => fzP keysD o G1 R
def jVals (td : TD) : TDI := fun W σ G R => td W σ G fun o G1 => fzP valsD o G1 R
theorem fz_at {K : PySem.W.Frag} {G2 : HD} {H2 : Hp} {a : Addr} {ob : Obj} {m : List (Key × V)} {l : List (Key × D)} (s2 : Sim K G2 H2) (h2 : G2 a = some (.fz ob (.dK m) (.dK l))) : H2 a = some (.frz ob (.dK m)) ∧ RKV K H2 l m := by
  obtain ⟨o2, f1, rfl, ⟨m2, f2, rk2⟩, _⟩ := s2 a _ h2
  cases f2
  exact ⟨f1, rk2⟩
theorem di_keys {X : Cx} {tg e : Expr} {td : TD} (he : DE X e td) : DI X tg e (iKeys (semE X e)) (jKeys td) :=
  ⟨pi_keys peSem, fun G H σ τ W R R' r q fin => he.then r q fun d v G1 H1 r1 x1 k1 q1 => by
    unfold fzP at q1
    split at q1
    · rename_i a
      cases k1
      unfold fzO at q1
      split at q1
      · rename_i ob m l hG
        obtain ⟨e1, rk⟩ := fz_at r1.sim hG
        refine ⟨a, ob, rfl, .inl ⟨m, e1, fin _ _ G1 H1 r1.sim x1 ⟨fun i G2 H2 s2 _ hok hi => ?_, fun i G2 H2 x H3 s2 _ hok hi hy => ?_, fun i G2 H2 s2 _ hok hi => ?_⟩ q1⟩⟩
        · obtain ⟨f1, f2⟩ := fz_at s2 hok
          simp only [keysD, List.length_map] at hi
          exact ⟨f1, by rw [f2.len]; exact hi⟩
        · obtain ⟨f1, f2⟩ := fz_at s2 hok
          obtain ⟨rfl, k, v, hk, rfl⟩ := hy
          obtain ⟨dv, z1, z2⟩ := f2.nth hk
          exact ⟨kDi k, by simp only [keysD]; rw [List.getElem?_map, z1]; rfl, kDi_rp k, s2, .refl⟩
        · obtain ⟨f1, f2⟩ := fz_at s2 hok
          simp only [keysD, List.length_map] at hi
          exact ⟨f1, by rw [f2.len]; exact hi⟩
      · exact q1.elim
    · exact q1.elim⟩
theorem di_vals {X : Cx} {tg e : Expr} {td : TD} {apos cpos : Pos} (he : DE X e td) (hbase : attributeBase e "values" X.env (eval e X.env) = eval e X.env := by rfl) (hline : (apos.endLine == cpos.line) = true := by rfl) :
    DI X tg (.Call (.Attribute e "values" apos) [] [] cpos) (iVals (semE X e)) (jVals td) :=
  ⟨pi_values peSem hbase hline, fun G H σ τ W R R' r q fin => he.then r q fun d v G1 H1 r1 x1 k1 q1 => by
    unfold fzP at q1
    split at q1
    · rename_i a
      cases k1
      unfold fzO at q1
      split at q1
      · rename_i ob m l hG
        obtain ⟨e1, rk⟩ := fz_at r1.sim hG
        refine ⟨a, ob, m, rfl, e1, fin _ _ G1 H1 r1.sim x1 ⟨fun i G2 H2 s2 _ hok hi => ?_, fun i G2 H2 x H3 s2 _ hok hi hy => ?_, fun i G2 H2 s2 _ hok hi => ?_⟩ q1⟩
        · obtain ⟨f1, f2⟩ := fz_at s2 hok
          simp only [valsD, List.length_map] at hi
          exact ⟨f1, by rw [f2.len]; exact hi⟩
        · obtain ⟨f1, f2⟩ := fz_at s2 hok
          obtain ⟨rfl, k, hk⟩ := hy
          obtain ⟨dv, z1, z2⟩ := f2.nth hk
          exact ⟨dv, by simp only [valsD]; rw [List.getElem?_map, z1]; rfl, z2, s2, .refl⟩
        · obtain ⟨f1, f2⟩ := fz_at s2 hok
          simp only [valsD, List.length_map] at hi
          exact ⟨f1, by rw [f2.len]; exact hi⟩
      · exact q1.elim
    · exact q1.elim⟩
/-! ### sorted(d), list(d), dict(d) -/
def strKeys : List (Key × D) → Option (List Str)
  | [] => some []
  | (.inr x, _) :: r => (strKeys r).map (x :: ·)
  | (.inl _, _) :: _ => none
def intKeys : List (Key × D) → Option (List Int)
  | [] => some []
  | (.inl x, _) :: r => (intKeys r).map (x :: ·)
  | (.inr _, _) :: _ => none
theorem strKeys_of {K : PySem.W.Frag} {H : Hp} : ∀ {l : List (Key × D)} {m : List (Key × V)} {ks : List Str}, strKeys l = some ks → RKV K H l m → m.map (·.1) = ks.map Sum.inr
  | [], _, _, e, h => by cases e; cases h; rfl
  | (.inl _, _) :: _, _, _, e, _ => by cases e
  | (.inr x, d) :: r, _, ks, e, h => by
    obtain ⟨v, t, rfl, h1, h2⟩ := h
    simp only [strKeys, Option.map_eq_some_iff] at e
    obtain ⟨zs, e1, rfl⟩ := e
    simp only [List.map_cons, strKeys_of e1 h2]
theorem intKeys_of {K : PySem.W.Frag} {H : Hp} : ∀ {l : List (Key × D)} {m : List (Key × V)} {ks : List Int}, intKeys l = some ks → RKV K H l m → m.map (·.1) = ks.map Sum.inl
  | [], _, _, e, h => by cases e; cases h; rfl
  | (.inr _, _) :: _, _, _, e, _ => by cases e
  | (.inl x, d) :: r, _, ks, e, h => by
    obtain ⟨v, t, rfl, h1, h2⟩ := h
    simp only [intKeys, Option.map_eq_some_iff] at e
    obtain ⟨zs, e1, rfl⟩ := e
    simp only [List.map_cons, intKeys_of e1 h2]
theorem Rps.ofStrs {K : PySem.W.Frag} {H : Hp} : ∀ ys : List Str, Rps K H (ys.map D.str) (ys.map V.str)
  | [] => rfl
  | y :: ys => ⟨_, _, rfl, rfl, Rps.ofStrs ys⟩
theorem Rps.ofKeys {K : PySem.W.Frag} {H : Hp} : ∀ {l : List (Key × D)} {m : List (Key × V)}, RKV K H l m → Rps K H (keysD l) (m.map fun kv => kV kv.1)
  | [], _, h => by cases h; rfl
  | p :: r, _, h => by
    obtain ⟨v, t, rfl, h1, h2⟩ := h
    exact ⟨_, _, rfl, kDi_rp p.1, Rps.ofKeys h2⟩
/-- sorted of a dict with keys that are texts, or ints -/
def srtO (l : List (Key × D)) (G : HD) (Q : Post) : Prop := match strKeys l, intKeys l with
  | some ks, _ => ks.length < 64 ∧ ∀ ys : List Str, ys.Perm ks → sortedS ys = true → newL G (ys.map D.str) Q
  | none, some ks => ks.length < 64 ∧ ∀ ys : List Int, ys.Perm ks → ys.Pairwise (· ≤ ·) → newL G (ys.map D.int) Q
  | none, none => False
def dicO (o : Option MO) (f : List (Key × D) → Prop) : Prop := match o with
  | some (.dK l) => f l
  | _ => False
def dicP (d : D) (G : HD) (f : List (Key × D) → Prop) : Prop := match d with
  | .ref a => dicO (G a) f
  | _ => False
def rSortDic : List D → HD → Post → Prop := fun ds G Q => match ds with
  | [d] => dicP d G fun l => srtO l G Q
  | _ => False
def rListDic : List D → HD → Post → Prop := fun ds G Q => match ds with
  | [d] => dicP d G fun l => newL G (keysD l) Q
  | _ => False
def newD (G : HD) (l : List (Key × D)) (Q : Post) : Prop := ∀ p, G p = none → Q (.ref p) (put G p (.dK l))
def rDictDic : List D → HD → Post → Prop := fun ds G Q => match ds with
  | [d] => dicP d G fun l => newD G l Q
  | _ => False
theorem dic_at {K : PySem.W.Frag} {G : HD} {H : Hp} {d : D} {v : V} {f : List (Key × D) → Prop} (s : Sim K G H) (r : Rp K H d v) (q : dicP d G f) : ∃ a l m, v = .ref a ∧ G a = some (.dK l) ∧ H a = some (.dK m) ∧ RKV K H l m ∧ f l := by
  unfold dicP at q
  split at q
  · rename_i a
    cases r
    unfold dicO at q
    split at q
    · rename_i l e
      obtain ⟨m, e1, rk⟩ := s.dK e
      exact ⟨a, l, m, rfl, e, e1, rk, q⟩
    · exact q.elim
  · exact q.elim
theorem cd_sortDic (K : PySem.W.Frag) : CallD K (fun xs H Q => (∃ (a : Addr) (kvs : List (Key × V)) (ks : List Str), xs = [.ref a] ∧ Rd H a (.dK kvs) ∧ kvs.map (·.1) = ks.map Sum.inr ∧ ks.length < 64 ∧
    ∀ ys p, ys.Perm ks → sortedS ys = true → H p = none → Q (.ref p) (upd H p (.lst (ys.map V.str)))) ∨ (∃ (a : Addr) (kvs : List (Key × V)) (ks : List Int), xs = [.ref a] ∧ Rd H a (.dK kvs) ∧ kvs.map (·.1) = ks.map Sum.inl ∧ ks.length < 64 ∧
    ∀ (ys : List Int) (p : Addr), ys.Perm ks → ys.Pairwise (· ≤ ·) → H p = none → Q (.ref p) (upd H p (.lst (ys.map V.int))))) rSortDic := fun G H ds vs Q Q' s k f q => by
  unfold rSortDic at q
  split at q
  · obtain ⟨v, rfl, kd⟩ := one_of k
    obtain ⟨a, l, m, rfl, _, e1, rk, q⟩ := dic_at s kd q
    unfold srtO at q
    split at q
    · rename_i ks e2
      exact .inl ⟨a, m, ks, rfl, .of e1, strKeys_of e2 rk, q.1, fun ys p h1 h2 h3 => newL.fin s (Rps.ofStrs ys) f (q.2 ys h1 h2) p h3⟩
    · rename_i ks _ e2
      exact .inr ⟨a, m, ks, rfl, .of e1, intKeys_of e2 rk, q.1, fun ys p h1 h2 h3 => newL.fin s (Rps.ofInts ys) f (q.2 ys h1 h2) p h3⟩
    · exact q.elim
  · exact q.elim
theorem cd_listDic (K : PySem.W.Frag) : CallD K (fun xs H Q => ∃ (a : Addr) (kvs : List (Key × V)), xs = [.ref a] ∧ Rd H a (.dK kvs) ∧ ∀ p, H p = none → Q (.ref p) (upd H p (.lst (kvs.map fun kv => kV kv.1)))) rListDic := fun G H ds vs Q Q' s k f q => by
  unfold rListDic at q
  split at q
  · obtain ⟨v, rfl, kd⟩ := one_of k
    obtain ⟨a, l, m, rfl, _, e1, rk, q⟩ := dic_at s kd q
    exact ⟨a, m, rfl, .of e1, newL.fin s (Rps.ofKeys rk) f q⟩
  · exact q.elim
theorem cd_dictDic (K : PySem.W.Frag) : CallD K (fun xs H Q => ∃ (a : Addr) (kvs : List (Key × V)), xs = [.ref a] ∧ Rd H a (.dK kvs) ∧ ∀ p, H p = none → Q (.ref p) (upd H p (.dK kvs))) rDictDic := fun G H ds vs Q Q' s k f q => by
  unfold rDictDic at q
  split at q
  · obtain ⟨v, rfl, kd⟩ := one_of k
    obtain ⟨a, l, m, rfl, _, e1, rk, q⟩ := dic_at s kd q
    exact ⟨a, m, rfl, .of e1, fun p hp => f _ _ (.of (d := .ref p) rfl (s.newM (m := .dK l) hp ⟨m, rfl, rk⟩) (.newM hp) (q p (s.no hp)))⟩
  · exact q.elim
theorem bc_sortDic {X : Cx} {p pos : Pos} {e : Expr} {ts : TDA} (hc : X.calm = true) (hm : X.mg "sorted" = none) (ha : DA X [e] ts) (hg : Gl X "sorted" := by rfl) (he : starEach [e] X.env = (false, eval e X.env) :: starEach [] X.env := by rfl) : DE X (.Call (.Name "sorted" p) [e] [] pos) (dCB rSortDic ts) :=
  de_cb (CallR.or (call_sortedD hc) (call_sortedDI hc)) (cd_sortDic X.K) hm (by decide +kernel) ha hg (by decide) (by decide) he (by rfl)
theorem bc_listDic {X : Cx} {p pos : Pos} {e : Expr} {ts : TDA} (hc : X.calm = true) (hm : X.mg "list" = none) (ha : DA X [e] ts) (hg : Gl X "list" := by rfl) (he : starEach [e] X.env = (false, eval e X.env) :: starEach [] X.env := by rfl) : DE X (.Call (.Name "list" p) [e] [] pos) (dCB rListDic ts) :=
  de_ct (call_listD hc) (cd_listDic X.K) hm (by decide +kernel) ha hg (by decide) (by decide) he (by rfl)
theorem bc_dictDic {X : Cx} {p pos : Pos} {e : Expr} {ts : TDA} (hm : X.mg "dict" = none) (ha : DA X [e] ts) (hg : Gl X "dict" := by rfl) (he : starEach [e] X.env = (false, eval e X.env) :: starEach [] X.env := by rfl) : DE X (.Call (.Name "dict" p) [e] [] pos) (dCB rDictDic ts) :=
  de_ct call_dictD (cd_dictDic X.K) hm (by decide +kernel) ha hg (by decide) (by decide) he (by rfl)
end DL

namespace DL
open PySem PySem.Spec L2
open PyProof.Rows hiding St
/-! ### [e for x in a for y in b] -/
def lcO (ok : HD → Prop) (ostep : D → List D → (List D → HD → Prop) → HD → Prop) (fin : List D → HD → Prop) : List D → List D → HD → Prop
  | [], acc => fun G => ∃ G0, Le G0 G ∧ ok G0 ∧ fin acc G0
  | x :: xs, acc => fun G => ∃ G0, Le G0 G ∧ ok G0 ∧ ostep x acc (fun acc' G' => lcO ok ostep fin xs acc' G') G0
def iStep (t1 : Tgt) (dt1 : TDT) (te : TD) (vs1 : List Nat) (σ2 : DSt) : D → (D → HD → Prop) → (HD → Prop) → HD → Prop := fun d ky kn G' =>
  t1.put d (dwipe σ2 vs1) fun σ3 => dt1 W0 σ3 G' fun b G2 => if b = true then te W0 σ3 G2 ky else kn G2
def oStep (t : Tgt) (dt : TDT) (ti1 : TDI) (t1 : Tgt) (dt1 : TDT) (te : TD) (vs vs1 : List Nat) (σ : DSt) : D → List D → (List D → HD → Prop) → HD → Prop := fun d acc k G' =>
  t.put d (dwipe σ vs) fun σ2 => dt W0 σ2 G' fun b G2 => if b = true then ti1 W0 σ2 G2 fun J G3 => J.xs.length ≤ 1000 ∧ lcD J.ok (iStep t1 dt1 te vs1 σ2) k J.xs acc G3 else k acc G2
def dLc2G (fin : List D → HD → Prop) (ti : TDI) (t : Tgt) (dt : TDT) (ti1 : TDI) (t1 : Tgt) (dt1 : TDT) (te : TD) (vs vs1 : List Nat) (W : DW) (σ : DSt) (G : HD) : Prop :=
  ti W σ G fun I G1 => I.xs.length ≤ 1000 ∧ lcO I.ok (oStep t dt ti1 t1 dt1 te vs vs1 σ) fin I.xs [] G1
/-- the list by value -/
def dLc2V (ti : TDI) (t : Tgt) (dt : TDT) (ti1 : TDI) (t1 : Tgt) (dt1 : TDT) (te : TD) (vs vs1 : List Nat) : TD := fun W σ G Q => dLc2G (fun acc G2 => Q (.kl acc) G2) ti t dt ti1 t1 dt1 te vs vs1 W σ G
section
variable {X : Cx} {tg iter : Expr} {own : List (Str × Nat)} {vs1 : List Nat} {wi wi1 : TI} {ti ti1 : TDI} {t t1 : Tgt} {g g1 : TG} {dt dt1 : TDT} {te : TD}
theorem lc2_run (hi : DI X tg iter wi ti) (hg : TgRun X.K t g) (hg1 : TgRun X.K t1 g1)
    (hsl : ∀ i ∈ t.slots, i ∈ own.map (·.2)) (hsl1 : ∀ i ∈ t1.slots, i ∈ vs1)
    {tt tt1 : TT} {teV : TE}
    (hin : ∀ (G : HD) (H : Hp) (σ : DSt) (τ : L2.St) (R : ItD → HD → Prop) (R' : It → Hp → Prop), Sim X.K G H → RpS X.K H σ τ → ti1 W0 σ G R → (∀ I J G1 H1, Sim X.K G1 H1 → Ext G H G1 H1 → ItRel X.K G1 H1 I J → R I G1 → R' J H1) → wi1 τ H R')
    (htt : ∀ (G : HD) (H : Hp) (σ : DSt) (τ : L2.St) (Q : Bool → HD → Prop) (Q' : Bool → Hp → Prop), Sim X.K G H → RpS X.K H σ τ → dt W0 σ G Q → (∀ b H', liftB X.K G H Q b H' → Q' b H') → tt τ H Q')
    (htt1 : ∀ (G : HD) (H : Hp) (σ : DSt) (τ : L2.St) (Q : Bool → HD → Prop) (Q' : Bool → Hp → Prop), Sim X.K G H → RpS X.K H σ τ → dt1 W0 σ G Q → (∀ b H', liftB X.K G H Q b H' → Q' b H') → tt1 τ H Q')
    (hte : ∀ (G : HD) (H : Hp) (σ : DSt) (τ : L2.St) (Q : Post) (Q' : VK), Sim X.K G H → RpS X.K H σ τ → te W0 σ G Q → (∀ v H', liftQ X.K G H Q v H' → Q' v H') → teV τ H Q')
    {G : HD} {H : Hp} {σ : DSt} {τ : L2.St} {W : DW} {F : List D → HD → Prop} {Q' : VK} (r : SR X G H σ τ W) (q : dLc2G F ti t dt ti1 t1 dt1 te (own.map (·.2)) vs1 W σ G)
    (fin : ∀ D0 acc accV G0 H', (∀ a o, G a = none → H a = some o → a ≠ D0) → Sim X.K G0 H' → Ext G H G0 H' → H' D0 = some (.lst accV) → G0 D0 = none → Rps X.K H' acc accV → F acc G0 → Q' (.ref D0) H') : tLc2 wi g tt wi1 g1 tt1 teV (own.map (·.2)) vs1 τ H Q' := by
  refine hi.run G H σ τ W _ _ r q fun I J G1 H1 s1 x1 rel q1 D0 hD => ?_
  obtain ⟨hz, q1⟩ := q1
  have r1 := r.ext s1 x1
  have n0 := s1.no hD
  refine ⟨fun i m H' => ∃ G' acc accV, H' D0 = some (.lst accV) ∧ G' D0 = none ∧ Rps X.K H' acc accV ∧ acc.length ≤ 1000 * i ∧ Sim X.K G' H' ∧ Ext G1 H1 G' H' ∧ m = I.xs.length - i ∧ i ≤ I.xs.length ∧
      lcO I.ok (oStep t dt ti1 t1 dt1 te (own.map (·.2)) vs1 σ) F (I.xs.drop i) acc G',
    ⟨_, G1, [], [], upd_same, n0, rfl, Nat.zero_le _, s1.newO hD, .new hD n0, rfl, Nat.zero_le _, by rw [List.drop_zero]; exact q1⟩, ?_⟩
  rintro i m H' ⟨G', acc, accV, hl, hn, ra, hle0, s', x', rfl, hle, q'⟩
  by_cases hlt : i < I.xs.length
  · have hx : I.xs[i]? = some I.xs[i] := by simp [hlt]
    rw [drop_get hx] at q'
    obtain ⟨G0, l0, ok0, q0⟩ := q'
    have s0 := s'.le l0
    have x0 : Ext G1 H1 G0 H' := x'.le l0
    have e0 : Ext G' H' G0 H' := .of_le l0
    refine .inr ⟨rel.go i G0 H' s0 x0.l ok0 hlt, fun H2 => ∃ G2 acc2 accV2, H2 D0 = some (.lst accV2) ∧ G2 D0 = none ∧ Rps X.K H2 acc2 accV2 ∧ acc2.length ≤ 1000 * (i + 1) ∧ Sim X.K G2 H2 ∧ Ext G1 H1 G2 H2 ∧
        lcO I.ok (oStep t dt ti1 t1 dt1 te (own.map (·.2)) vs1 σ) F (I.xs.drop (i + 1)) acc2 G2,
      fun H2 ⟨G2, a2, v2, b1, b2, b3, b4, b5, b6, b7⟩ => ⟨_, by omega, G2, a2, v2, b1, b2, b3, b4, b5, b6, rfl, hlt, b7⟩, fun v H2 hy => ?_⟩
    obtain ⟨d, e1, e2, e3, e4⟩ := rel.yld i G0 H' v H2 s0 x0.l ok0 hlt hy
    rw [hx] at e1; cases e1
    have x2 := x0.trans e4
    have slots2 : RpS X.K H2 (dwipe σ (own.map (·.2))) (L2.wipe τ (own.map (·.2))) := (r1.slots.ext s1 x2 _ _).wipe _
    refine hg.run H2 _ _ _ v _ _ slots2 e2 q0 fun σ2 τ2 k2 q2 hw => ⟨(hw _ hsl).trans wipe_wipe, ?_⟩
    have n1 : G0 D0 = none := l0.no hn
    obtain ⟨hl2, n2⟩ := e4 D0 _ n1 hl
    have ra2 : Rps X.K H2 acc accV := ra.ext s' (e0.trans e4) _ _
    refine htt G0 H2 σ2 τ2 _ _ e3 k2 q2 fun b H3 ⟨G3, s3, x3, q3⟩ => ?_
    obtain ⟨hl3, n3⟩ := x3 D0 _ n2 hl2
    have ra3 : Rps X.K H3 acc accV := ra2.ext e3 x3 _ _
    have k3 := k2.ext e3 x3 _ _
    cases b with
    | true =>
      refine hin G3 H3 σ2 τ2 _ _ s3 k3 q3 fun I1 J1 G4 H4 s4 x4 rel1 q4 => ?_
      obtain ⟨hz1, q4⟩ := q4
      obtain ⟨hl4, n4⟩ := x4 D0 _ n3 hl3
      have ra4 : Rps X.K H4 acc accV := ra3.ext s3 x4 _ _
      have k4 := k3.ext s3 x4 _ _
      have xo : Ext G1 H1 G4 H4 := (x2.trans x3).trans x4
      refine ⟨fun j k H' => ∃ G' ac av, H' D0 = some (.lst av) ∧ G' D0 = none ∧ Rps X.K H' ac av ∧ ac.length ≤ 1000 * i + j ∧ Sim X.K G' H' ∧ (∀ a o, a ≠ D0 → G4 a = none → H4 a = some o → H' a = some o ∧ G' a = none) ∧ RpS X.K H' σ2 τ2 ∧ k = I1.xs.length - j ∧ j ≤ I1.xs.length ∧
          lcD I1.ok (iStep t1 dt1 te vs1 σ2) (fun acc' G' => lcO I.ok (oStep t dt ti1 t1 dt1 te (own.map (·.2)) vs1 σ) F (I.xs.drop (i + 1)) acc' G') (I1.xs.drop j) ac G',
        ⟨_, G4, acc, accV, hl4, n4, ra4, by omega, s4, fun _ _ _ g h => ⟨h, g⟩, k4, rfl, Nat.zero_le _, by rw [List.drop_zero]; exact q4⟩, ?_⟩
      rintro j k H' ⟨G', ac, av, hl', hn', ra', hle', s', x', kk', rfl, hj, q'⟩
      have xl : ExtL G4 H4 G' H' := fun a o no g h => x' a o (by rintro rfl; rw [hl4] at h; cases h; exact no _ rfl) g h
      by_cases hlt1 : j < I1.xs.length
      · have hx1 : I1.xs[j]? = some I1.xs[j] := by simp [hlt1]
        rw [drop_get hx1] at q'
        obtain ⟨G0', l0', ok0', q0'⟩ := q'
        have s0' := s'.le l0'
        have xl0 : ExtL G4 H4 G0' H' := fun a o no g h => ⟨(xl a o no g h).1, l0'.no (xl a o no g h).2⟩
        have e0' : Ext G' H' G0' H' := .of_le l0'
        refine .inr ⟨rel1.go j G0' H' s0' xl0 ok0' hlt1, fun H2 => ∃ G2 ac2 av2, H2 D0 = some (.lst av2) ∧ G2 D0 = none ∧ Rps X.K H2 ac2 av2 ∧ ac2.length ≤ 1000 * i + (j + 1) ∧ Sim X.K G2 H2 ∧ (∀ a o, a ≠ D0 → G4 a = none → H4 a = some o → H2 a = some o ∧ G2 a = none) ∧ RpS X.K H2 σ2 τ2 ∧
            lcD I1.ok (iStep t1 dt1 te vs1 σ2) (fun acc' G' => lcO I.ok (oStep t dt ti1 t1 dt1 te (own.map (·.2)) vs1 σ) F (I.xs.drop (i + 1)) acc' G') (I1.xs.drop (j + 1)) ac2 G2,
          fun H2 ⟨G2, a2, v2, b1, b2, b3, b4, b5, b6, b7, b8⟩ => ⟨_, by omega, G2, a2, v2, b1, b2, b3, b4, b5, b6, b7, rfl, hlt1, b8⟩, fun v H2 hy => ?_⟩
        obtain ⟨d1, f1, f2, f3, f4⟩ := rel1.yld j G0' H' v H2 s0' xl0 ok0' hlt1 hy
        rw [hx1] at f1; cases f1
        have ef := e0'.trans f4
        have slots5 : RpS X.K H2 (dwipe σ2 vs1) (L2.wipe τ2 vs1) := (kk'.ext s' ef _ _).wipe _
        refine hg1.run H2 _ _ _ v _ _ slots5 f2 q0' fun σ3 τ3 k5 q5 hw1 => ⟨(hw1 _ hsl1).trans wipe_wipe, ?_⟩
        obtain ⟨hl5, n5⟩ := f4 D0 _ (l0'.no hn') hl'
        have ra5 : Rps X.K H2 ac av := ra'.ext s' ef _ _
        refine htt1 G0' H2 σ3 τ3 _ _ f3 k5 q5 fun b H5 ⟨G5, s5, x5, q6⟩ => ?_
        obtain ⟨hl6, n6⟩ := x5 D0 _ n5 hl5
        have ra6 : Rps X.K H5 ac av := ra5.ext f3 x5 _ _
        cases b with
        | true =>
          refine hte G5 H5 σ3 τ3 _ _ s5 (k5.ext f3 x5 _ _) q6 fun y H7 ⟨dy, G7, ry, s7, x7, q7⟩ => ?_
          obtain ⟨hl7, n7⟩ := x7 D0 _ n6 hl6
          have ra7 : Rps X.K H7 ac av := ra6.ext s5 x7 _ _
          have eg := (ef.trans x5).trans x7
          refine ⟨av, hl7, ?_, G7, ac ++ [dy], av ++ [y], upd_same, n7, (ra7.app (.cons ry .nil)).aside hl7 _ _, by simp; omega, s7.aside hl7 n7, fun a o na ga ha => ?_, (kk'.ext s' eg _ _).aside hl7 _ _, q7⟩
          · rw [ra7.length]
            have := million (Nat.le_refl 1000000)
            omega
          · obtain ⟨z1, z2⟩ := x' a o na ga ha
            obtain ⟨z3, z4⟩ := eg a o z2 z1
            exact ⟨by rw [upd_ne na]; exact z3, z4⟩
        | false => exact ⟨G5, ac, av, hl6, n6, ra6, by omega, s5, fun a o na ga ha => by
            obtain ⟨z1, z2⟩ := x' a o na ga ha
            exact (ef.trans x5) a o z2 z1, kk'.ext s' (ef.trans x5) _ _, q6⟩
      · have e : I1.xs.drop j = [] := List.drop_eq_nil_of_le (by omega)
        rw [e] at q'
        obtain ⟨G0', l0', ok0', q0'⟩ := q'
        refine .inl ⟨rel1.stop j G0' H' (s'.le l0') (fun a o no g h => ⟨(xl a o no g h).1, l0'.no (xl a o no g h).2⟩) ok0' (by omega), G0', ac, av, hl', l0'.no hn', ra'.ext s' (.of_le l0') _ _, by omega, s'.le l0', fun a o ga ha => ?_, q0'⟩
        obtain ⟨z1, z2⟩ := xo a o ga ha
        obtain ⟨z3, z4⟩ := x' a o (by rintro rfl; rw [hD] at ha; cases ha) z2 z1
        exact ⟨z3, l0'.no z4⟩
    | false => exact ⟨G3, acc, accV, hl3, n3, ra3, by omega, s3, x2.trans x3, q3⟩
  · have e : I.xs.drop i = [] := List.drop_eq_nil_of_le (by omega)
    rw [e] at q'
    obtain ⟨G0, l0, ok0, q0⟩ := q'
    have s0 := s'.le l0
    have n1 : G0 D0 = none := l0.no hn
    have h0 : ∀ a o, G a = none → H a = some o → a ≠ D0 := fun a o ga ha e => by
      obtain ⟨h6, _⟩ := x1 a o ga ha
      rw [e, hD] at h6; cases h6
    exact .inl ⟨rel.stop i G0 H' s0 (x'.le l0).l ok0 (by omega), fin D0 acc accV G0 H' h0 s0 (x1.trans (x'.le l0)) hl n1 (ra.ext s' (.of_le l0) _ _) q0⟩

variable {elt tg1 iter1 : Expr} {ifs ifs1 : List Expr} {scope : Scope} {pos : Pos} {wi2 : Shared → Hp → Addr → List (Str × Addr) → List Addr → TI}
def blkI (wi2 : Shared → Hp → Addr → List (Str × Addr) → List Addr → TI) : TI := fun τ H R => ∀ (s : Shared) (H0 : Hp) (C : Addr) (cl : List (Str × Addr)) (fp : List Addr), wi2 s H0 C cl fp τ H R
theorem de_lc2V (hc : X.calm = true) (hN : X.N.Nodup) (hi : DI X tg iter wi ti) (ok : BlkOk X.N X.env.scope scope own) (hv : ∀ i ∈ vs1, i ∈ own.map (·.2)) (hg : BlkPG X scope tg g) (hgr : TgRun X.K t g) (hsl : ∀ i ∈ t.slots, i ∈ own.map (·.2)) (ht : BlkDTs X scope ifs dt)
    (hi1 : ∀ (s : Shared) (H : Hp) (C : Addr) (cl : List (Str × Addr)) (fp : List Addr), DI (X.blk s H scope (compEnvC scope cl C X.env) fp) tg1 iter1 (wi2 s H C cl fp) ti1) (hg1 : BlkPG X scope tg1 g1) (hgr1 : TgRun X.K t1 g1) (hsl1 : ∀ i ∈ t1.slots, i ∈ vs1) (ht1 : BlkDTs X scope ifs1 dt1)
    (he : BlkDE X scope elt te) (hs : ∀ x, foldedSetIterable iter X.env x = pure x := by intro _; rfl) (hs1 : ∀ env x, foldedSetIterable iter1 env x = pure x := by intro _ _; rfl) :
    DE X (.ListComp elt [⟨tg, iter, ifs, 0⟩, ⟨tg1, iter1, ifs1, 0⟩] scope pos) (dLc2V ti t dt ti1 t1 dt1 te (own.map (·.2)) vs1) :=
  ⟨fun G H σ τ W Q r q => semE.frz (semE.of (pe_lc2 hc hN hi.pi ok hv hg blk_pts (wi1 := blkI wi2) (fun s H C cl fp => ⟨fun pins s1 σ H2 R I h => (hi1 s H C cl fp).pi.run pins s1 σ H2 R I (h s H C cl fp)⟩) hg1 blk_pts blk_pe hs hs1)
    (lc2_run hi hgr hgr1 hsl hsl1 (fun G H σ τ R R' s k q f s0 H0 C cl fp => (hi1 s0 H0 C cl fp).run G H σ τ W0 R R' ⟨s, k, takes_w0⟩ q f)
      (fun G H σ τ Q Q' s k q f s0 H0 C cl fp pins s1 I => thn ((ht s0 H0 C cl fp).run G H σ τ W0 Q ⟨s, k, takes_w0⟩ q pins s1 I) fun b s2 ⟨H2, I2, z⟩ => ⟨H2, I2, f b H2 z⟩)
      (fun G H σ τ Q Q' s k q f s0 H0 C cl fp pins s1 I => thn ((ht1 s0 H0 C cl fp).run G H σ τ W0 Q ⟨s, k, takes_w0⟩ q pins s1 I) fun b s2 ⟨H2, I2, z⟩ => ⟨H2, I2, f b H2 z⟩)
      (fun G H σ τ Q Q' s k q f s0 H0 C cl fp => ((he s0 H0 C cl fp).run G H σ τ W0 Q ⟨s, k, takes_w0⟩ q).imp f) r q (finV fun _ _ z => z)))⟩
end
section
variable {ti ti1 : TDI} {t t1 : Tgt} {dt dt1 : TDT} {te : TD} {vs vs1 : List Nat} {W : DW} {σ : DSt} {G : HD} {Q : Post}
theorem q_lc2V : dLc2V ti t dt ti1 t1 dt1 te vs vs1 W σ G Q = ti W σ G fun I G1 => I.xs.length ≤ 1000 ∧ lcO I.ok (oStep t dt ti1 t1 dt1 te vs vs1 σ) (fun acc G2 => Q (.kl acc) G2) I.xs [] G1 := propext ⟨fun h => h, fun h => h⟩
theorem q_jkeys {td : TD} {R : ItD → HD → Prop} : jKeys td W σ G R = td W σ G fun o G1 => fzP keysD o G1 R := propext ⟨fun h => h, fun h => h⟩
theorem q_jvals {td : TD} {R : ItD → HD → Prop} : jVals td W σ G R = td W σ G fun o G1 => fzP valsD o G1 R := propext ⟨fun h => h, fun h => h⟩
theorem r_fzP {f : List (Key × D) → List D} {a : Addr} {R : ItD → HD → Prop} : fzP f (.ref a) G R = fzO (G a) a f G R := propext ⟨fun h => h, fun h => h⟩
theorem r_fzO {f : List (Key × D) → List D} {a : Addr} {R : ItD → HD → Prop} {ob : Obj} {m : List (Key × V)} {l : List (Key × D)} : fzO (some (.fz ob (.dK m) (.dK l))) a f G R = R ⟨f l, fun G => G a = some (.fz ob (.dK m) (.dK l))⟩ G := propext ⟨fun h => h, fun h => h⟩
end
end DL

namespace DL
open PySem PySem.Spec L2
open PyProof.Rows hiding St
/-! ### > and >= of ints, of tuples of ints -/
def rTT (K : PySem.W.Frag) (f : List Int → List Int → Bool) : R2 := fun x y H Q => ∃ (a b : Addr) (ns ms : List Int), x = .ref a ∧ y = .ref b ∧ SqT K H a (ns.map V.int) ∧ SqT K H b (ms.map V.int) ∧ Q (.bl (f ns ms)) H
section
variable {X : Cx} {pins : List (Addr × Obj)} {σ : L2.St} {H : Hp} {s : Shared}
theorem holds_tup (I : Inv X pins σ H s) {a : Addr} {ns : List Int} (t : SqT X.K H a (ns.map V.int)) : PySem.W.Holds s.heap (.ref a) (⟨ns⟩ : PySem.W.Tup Int) := by
  obtain ⟨its, rv, ⟨o, ho, hc, m, hd⟩, _⟩ := I.tuple t
  obtain ⟨as, hr⟩ := reads_ints (h := s.heap) rv
  exact ⟨as, .tuple ho hc hd (show ReadsAll s.heap its.toArray.toList (ns.map PyData.int) as by simpa using hr)⟩
theorem op_gtT (hu : X.A.units + 64 < cLine) : OpR X (compareOp .Gt) (rTT X.K fun ns ms => PySem.W.listLt ms ns) := by
  intro pins s σ H x y v u Q I rx ry ⟨a, b, ns, ms, e1, e2, t1, t2, q⟩
  subst e1; subst e2
  cases rx; cases ry
  exact PySem.W.gt_datum (holds_tup I t1) (holds_tup I t2) (by show X.A.units + 1 < _; omega) ⟨.bl _, H, I, rfl, q⟩
theorem op_geT (hu : X.A.units + 64 < cLine) : OpR X (compareOp .GtE) (rTT X.K fun ns ms => !PySem.W.listLt ns ms) := by
  intro pins s σ H x y v u Q I rx ry ⟨a, b, ns, ms, e1, e2, t1, t2, q⟩
  subst e1; subst e2
  cases rx; cases ry
  exact PySem.W.ge_datum (holds_tup I t1) (holds_tup I t2) (by show X.A.units + 1 < _; omega) ⟨.bl _, H, I, rfl, q⟩
end
def tupO (f : List Int → List Int → Bool) (o p : Option (List Int)) (G : HD) (Q : Post) : Prop := match o, p with
  | some ns, some ms => Q (.bl (f ns ms)) G
  | _, _ => False
def dCmpT (p : Int → Int → Bool) (f : List Int → List Int → Bool) : D → D → HD → Post → Prop := fun d e G Q => match d, e with
  | .int i, .int j => Q (.bl (p i j)) G
  | .tup xs, .tup ys => tupO f (asInts xs) (asInts ys) G Q
  | _, _ => False
theorem od_cmpT (K : PySem.W.Frag) (p : Int → Int → Bool) (f : List Int → List Int → Bool) : OpD K (fun x y H Q => rI0 (fun i j => .bl (p i j)) x y H Q ∨ rTT K f x y H Q) (dCmpT p f) := fun G H d e x y Q Q' s k1 k2 g q => by
  unfold dCmpT at q
  split at q
  · rename_i i j
    exact .inl (od_cmpI K p G H (.int i) (.int j) x y Q Q' s k1 k2 g q)
  · unfold tupO at q
    split at q
    · rename_i ns ms e1 e2
      obtain ⟨a, vs, rfl, t1, r1⟩ := k1
      obtain ⟨b, ws, rfl, t2, r2⟩ := k2
      obtain rfl := asInts_eq e1
      obtain rfl := asInts_eq e2
      obtain rfl := r1.ints
      obtain rfl := r2.ints
      exact .inr ⟨a, b, ns, ms, rfl, rfl, t1, t2, g _ _ (.of (d := .bl _) rfl s .refl q)⟩
    · exact q.elim
  · exact q.elim
theorem c_gtT {X : Cx} (hu : X.A.units + 64 < cLine) : CmpR X .Gt (dCmpT (fun i j => decide (j < i)) fun ns ms => PySem.W.listLt ms ns) := ⟨_, op_gt.or (op_gtT hu), od_cmpT X.K _ _⟩
theorem c_geT {X : Cx} (hu : X.A.units + 64 < cLine) : CmpR X .GtE (dCmpT (fun i j => decide (j ≤ i)) fun ns ms => !PySem.W.listLt ns ms) := ⟨_, op_ge.or (op_geT hu), od_cmpT X.K _ _⟩
/-! ### len of an own thing -/
section
variable {X : Cx} {k j : Nat} {C : Addr} {sp : SpD}
/-- an own method of no further values, called from below the body -/
theorem runE1 {A : Around} {pins : List (Addr × Obj)} {s : Shared} {G : HD} {H : Hp} {τ : L2.St} {Q : Post} {a : Addr} {f : Addr} {fd : FuncData} {ps : List Str} (F : FnK X.prog X.w X.K X.mg X.base k f fd ps sp) (sb : SubG X k A) (hb : Binds X.K fd ps [])
    (sm : Sim X.K G H) (I : Inv X pins τ H s) (hl : ps.length = 1) (h : sp [.ref a] G Q fun _ _ _ => False) : wpAny (model X.prog X.w) A (call (.ref f) [.ref a]) (EP X pins τ (liftQ X.K G H Q)) X.xe s := by
  have e0 : Env0 X.prog X.w X.K X.mg X.base A X.stack s H := by
    have e := I.env0
    exact ⟨by rw [sb.fr]; exact e.frames, e.mod, e.bs, e.bsz, e.funs, e.frf, e.hok, e.bare⟩
  have r2 : Vals [V.ref a] [Value.ref a] := .cons rfl .nil
  have rd : Rps X.K H [.ref a] [V.ref a] := ⟨_, _, rfl, rfl, rfl⟩
  refine wpAny_call (codeAny_mono (F.run A X.stack s H ⟨[.ref a], []⟩ [.ref a] [.ref a] (liftQ X.K G H Q) (fun _ _ _ => False) sb.room e0 (by
    have := hb s [.ref a] I.kIn (by simp [hl])
    simpa using this) r2 ⟨hl.symm, _, G, Q, fun _ _ _ => False, rd, sm, h, fun _ _ z => z, fun _ _ _ ⟨_, _, _, _, _, z⟩ => z⟩) fun z s' hq => ?_)
  cases z with
  | error e => exact passF pins H s e s' I hq
  | ok fl =>
    cases fl with
    | ret u => exact I.after hq
    | next => exact False.elim hq
    | brk => exact False.elim hq
    | cont => exact False.elim hq
def ownLen (Q : Post) : Post := fun d G => match d with
  | .int n => 0 ≤ n ∧ n < 2 ^ 63 ∧ Q (.int n) G
  | _ => False
def rLenO (X : Cx) (C : Addr) (sp : SpD) : List V → Hp → VK → Prop := fun xs H Q => ∃ (a dx : Addr) (fs : List (Str × V)) (G : HD) (Qd : Post), xs = [.ref a] ∧ H a = some (.ins C dx fs) ∧ Sim X.K G H ∧ sp [.ref a] G (ownLen Qd) (fun _ _ _ => False) ∧ ∀ v H', liftQ X.K G H Qd v H' → Q v H'
theorem call_lenO (F : MetK X.prog X.w X.K X.mg X.base k "__len__" C sp []) (hr : RoomG (k + 1) X.A) : CallR X (.builtin "len") (rLenO X C sp) := by
  intro pins s σ H xs us Q I rx ⟨a, dx, fs, G, Qd, e, ha, sm, q, fin⟩
  subst e
  rw [Vals.ref1 rx]
  obtain ⟨f, fd, ps, dvs, ds, hc, hm, F1, hb, hv, hdd, hlen⟩ := F.ex
  have z1 := (hdd.rel (fun _ => none)).length
  cases dvs with
  | cons _ _ => cases z1
  | nil =>
  cases hv
  obtain ⟨mA, J, _⟩ := ins_get I.hok ha
  obtain ⟨od, J, _⟩ := J.look
  obtain ⟨m, hF⟩ := I.fr
  refine PySem.W.len_K hF I.ok.mod.kin J hm.at_ hm.fn ?_
  refine wpAny_mono (runE1 F1 ⟨hr.in1, rfl⟩ hb sm I (hlen _ _ _ _ q).symm q) (fun w s' z => ?_) fun _ _ e => e
  obtain ⟨y, H', I', ry, d, G', rd, sm', x1, q2⟩ := z
  unfold ownLen at q2
  split at q2
  · rename_i n
    cases rd
    obtain ⟨t, rfl⟩ := ry
    exact ⟨⟨q2.1, by have := q2.2.1; omega⟩, V.int n, H', I'.tok _, ⟨_, rfl⟩, fin _ _ ⟨.int n, G', rfl, sm', x1, q2.2.2⟩⟩
  · exact q2.elim
def rLenOD (C : Addr) (sp : SpD) : List D → HD → Post → Prop := fun ds G Q => match ds with
  | [.ref a] => (∃ fs, G a = some (.ins C fs)) ∧ sp [.ref a] G (ownLen Q) fun _ _ _ => False
  | _ => False
theorem cd_lenO : CallD X.K (rLenO X C sp) (rLenOD C sp) := fun G H ds vs Q Q' s k f q => by
  unfold rLenOD at q
  split at q
  · rename_i a
    obtain ⟨⟨fs, h⟩, q⟩ := q
    obtain ⟨v, rfl, kd⟩ := one_of k
    cases kd
    obtain ⟨o1, e1, dx, l1, rfl, _⟩ := s _ _ h
    exact ⟨a, dx, l1, G, Q, rfl, e1, s, q, f⟩
  · exact q.elim
theorem bc_lenO {p pos : Pos} {e : Expr} {ts : TDA} (F : MetK X.prog X.w X.K X.mg X.base k "__len__" C sp []) (hr : RoomG j X.A) (hm : X.mg "len" = none) (ha : DA X [e] ts) (hj : k + 1 ≤ j := by decide) (hg : Gl X "len" := by rfl) (he : starEach [e] X.env = (false, eval e X.env) :: starEach [] X.env := by rfl) : DE X (.Call (.Name "len" p) [e] [] pos) (dCB (rLenOD C sp) ts) :=
  de_cb (call_lenO F (hr.mono hj)) cd_lenO hm (by decide +kernel) ha hg (by decide) (by decide) he (by rfl)
end
section
variable {G : HD} {Q : Post} {i j : Int} {p : Int → Int → Bool} {f : List Int → List Int → Bool} {a b c x y z : Int} {r : Addr} {C : Addr} {sp : SpD}
theorem r_cmpTI : dCmpT p f (.int i) (.int j) G Q = Q (.bl (p i j)) G := propext ⟨fun h => h, fun h => h⟩
theorem r_cmpT3 : dCmpT p f (.tup [.int a, .int b, .int c]) (.tup [.int x, .int y, .int z]) G Q = Q (.bl (f [a, b, c] [x, y, z])) G := propext ⟨fun h => h, fun h => h⟩
theorem r_lenOD : rLenOD C sp [.ref r] G Q = ((∃ fs, G r = some (.ins C fs)) ∧ sp [.ref r] G (ownLen Q) fun _ _ _ => False) := propext ⟨fun h => h, fun h => h⟩
theorem r_ownLen : ownLen Q (.int i) G = (0 ≤ i ∧ i < 2 ^ 63 ∧ Q (.int i) G) := propext ⟨fun h => h, fun h => h⟩
end
end DL

namespace DL
open PySem PySem.Spec L2
open PyProof.Rows hiding St
/-! ### xs.clear() -/
def clrO (o : Option MO) (a : Addr) (G : HD) (Q : Post) : Prop := match o with
  | some (.lst _) => Q .non (put G a (.lst []))
  | _ => False
def clrP (o : D) (G : HD) (Q : Post) : Prop := match o with
  | .ref a => clrO (G a) a G Q
  | _ => False
def dClear (to : TD) : TD := fun W σ G Q => to W σ G fun o G1 => clrP o G1 Q
theorem de_clear {X : Cx} {o : Expr} {to : TD} {apos cpos : Pos} (ho : DE X o to)
    (hbase : attributeBase o "clear" X.env (eval o X.env) = eval o X.env := by rfl) (hline : (apos.endLine == cpos.line) = true := by rfl) :
    DE X (.Call (.Attribute o "clear" apos) [] [] cpos) (dClear to) := ⟨fun G H σ τ W Q r q => by
  refine semE.of (pe_bm0 PySem.F.plainAttrs_list PySem.F.slot_list_clear PySem.F.type_list_clear mt_clear peSem hbase hline) ?_
  refine ho.then r q fun d v G1 H1 r1 x1 k1 q1 => ?_
  unfold clrP at q1
  split at q1
  · rename_i a
    cases k1
    unfold clrO at q1
    split at q1
    · rename_i xs hx
      obtain ⟨o', e1, vs, rfl, rr⟩ := r1.sim _ _ hx
      exact ⟨.inl ⟨rfl, vs, SqL.of e1⟩, a, vs, rfl, rfl, e1, .of (d := .non) rfl (r1.sim.wr (m := .lst []) (o := .lst []) hx ⟨[], rfl, rfl⟩) (x1.trans (.wr hx)) q1⟩
    · exact q1.elim
  · exact q1.elim⟩
/-! ### truth of an own thing with a length -/
section
variable {prog : Program} {w : World} {A : Around} {E : Value → Shared → Prop} {s : Shared} {K : PySem.W.Frag} {x C f : Addr} {ox : Obj} {od : Option Obj}
theorem len_body_own {Q : Fin → Shared → Prop} (X : K.In s.heap) (I : PySem.W.InstAt s.heap x ox C od) (hs : PySem.W.findIn K (.ref C) "__len__" = some (some (.ref f))) (hf : PySem.W.typeIn K (.ref f) = some (.type "function"))
    (h : wpAny (model prog w) A (call (.ref f) [.ref x]) (fun v s1 => ∃ n t, v = .int n t ∧ 0 ≤ n ∧ n < 2 ^ 63 ∧ ∀ t', Q (.done (.ret (.int n t'))) { s1 with toks := s1.toks + 1 }) E s) : wpAny (model prog w) A (Builtin.«len» ⟨[.ref x], []⟩) Q E s := by
  unfold Builtin.«len»
  refine wpAny_bind (m := oneArg "len" _) (wpAny_pure ?_)
  refine wpAny_bind (m := callSpecial? (.ref x) (Str.ofString "__len__")) (PySem.W.special_fn X I hs hf (wpAny_mono h (fun r s' hr => ?_) fun _ _ y => y))
  obtain ⟨n, u, rfl, h0, h1, hq⟩ := hr
  refine wpAny_bind (wpAny_holding (wpAny_pure ?_))
  refine wpAny_bind (wpAny_letGo ?_)
  show wpAny _ _ (if n < 0 then _ else _) _ _ _
  rw [if_neg (by omega)]
  show wpAny _ _ (if n ≥ 2 ^ 63 then _ else _) _ _ _
  rw [if_neg (by omega)]
  exact wpAny_bind (wpAny_mkInt (wpAny_pure (hq _)))
theorem truthy_own {Q : Bool → Shared → Prop} (X : K.In s.heap) (I : PySem.W.InstAt s.heap x ox C od) (hb : PySem.W.findIn K (.ref C) "__bool__" = some none) (hs : PySem.W.findIn K (.ref C) "__len__" = some (some (.ref f))) (hf : PySem.W.typeIn K (.ref f) = some (.type "function"))
    (h : wpAny (model prog w) (A.under (.builtin "len" ⟨[.ref x], []⟩)) (call (.ref f) [.ref x]) (fun v s1 => ∃ n t, v = .int n t ∧ 0 ≤ n ∧ n < 2 ^ 63 ∧ Q (n != 0) { s1 with toks := s1.toks + 1 }) E s) : wpAny (model prog w) A (truthy (.ref x)) Q E s := by
  have key : wpAny (model prog w) A (runValue (.builtin "len" ⟨[.ref x], []⟩)) (fun r s' => ∃ n t, r = .int n t ∧ Q (n != 0) s') E s := by
    refine wpAny_runValue (codeAny_builtin entry_len ?_)
    refine len_body_own X I hs hf (wpAny_mono h (fun v s1 hv => ?_) fun _ _ e => e)
    obtain ⟨n, t, rfl, h0, h1, hq⟩ := hv
    exact ⟨n, t, rfl, h0, h1, fun t' => ⟨n, t', rfl, hq⟩⟩
  have hsp : ∀ {Q' : Option Value → Shared → Prop}, Q' (some (.ref f)) s → wpAny (model prog w) A (specialOf (.ref x) "__len__") Q' E s := fun q => by
    unfold specialOf
    exact wpAny_bind (I.type.here ((PySem.W.looks_findIn X hs).here q))
  have hno : ∀ {Q' : Option Value → Shared → Prop}, Q' none s → wpAny (model prog w) A (callSpecial? (.ref x) "__bool__") Q' E s := fun q => by
    refine wpAny_bind (wpAny_bind (I.type.here ((PySem.W.looks_findIn X hb).here (wpAny_pure q))))
  unfold truthy
  first
    | refine wpAny_bind (hno ?_)
    | refine wpAny_bind (wpAny_pure (wpAny_bind (hno ?_)))
  first
    | refine wpAny_bind (hsp ?_)
    | refine wpAny_bind (wpAny_pure (wpAny_bind (hsp ?_)))
  first
    | exact wpAny_bind (wpAny_mono key (fun r s' h' => by obtain ⟨n, t, rfl, hq⟩ := h'; exact wpAny_pure hq) fun _ _ e => e)
    | exact wpAny_bind (wpAny_pure (wpAny_bind (wpAny_mono key (fun r s' h' => by obtain ⟨n, t, rfl, hq⟩ := h'; exact wpAny_pure hq) fun _ _ e => e)))
end
section
variable {X : Cx} {k j : Nat} {C : Addr} {sp : SpD}
def ownTru (Q : Bool → HD → Prop) : Post := fun d G => match d with
  | .int n => 0 ≤ n ∧ n < 2 ^ 63 ∧ Q (n != 0) G
  | _ => False
def rTruO (X : Cx) (C : Addr) (sp : SpD) : V → Hp → (Bool → Hp → Prop) → Prop := fun x H Q => ∃ (a dx : Addr) (fs : List (Str × V)) (G : HD) (Qd : Bool → HD → Prop), x = .ref a ∧ H a = some (.ins C dx fs) ∧ Sim X.K G H ∧ sp [.ref a] G (ownTru Qd) (fun _ _ _ => False) ∧ ∀ b H', liftB X.K G H Qd b H' → Q b H'
theorem tru_own (F : MetK X.prog X.w X.K X.mg X.base k "__len__" C sp []) (hB : PySem.W.findIn X.K (.ref C) "__bool__" = some none) (hr : RoomG (k + 1) X.A) : TruR X (rTruO X C sp) := by
  intro pins s σ H x v Q I rx ⟨a, dx, fs, G, Qd, e, ha, sm, q, fin⟩
  subst e
  obtain rfl : v = Value.ref a := rx
  obtain ⟨f, fd, ps, dvs, ds, hc, hm, F1, hb, hv, hdd, hlen⟩ := F.ex
  have z1 := (hdd.rel (fun _ => none)).length
  cases dvs with
  | cons _ _ => cases z1
  | nil =>
  cases hv
  obtain ⟨mA, J, _⟩ := ins_get I.hok ha
  obtain ⟨od, J, _⟩ := J.look
  refine truthy_own I.kIn J hB hm.at_ (beq_iff_eq.mp hm.fn) ?_
  rw [Around.under_plainId plain_len _]
  refine wpAny_mono (runE1 F1 ⟨hr.in1, rfl⟩ hb sm I (hlen _ _ _ _ q).symm q) (fun w s' z => ?_) fun _ _ e => e
  obtain ⟨y, H', I', ry, d, G', rd, sm', x1, q2⟩ := z
  unfold ownTru at q2
  split at q2
  · rename_i n
    cases rd
    obtain ⟨t, rfl⟩ := ry
    exact ⟨n, t, rfl, q2.1, q2.2.1, H', I'.tok _, fin _ _ ⟨G', sm', x1, q2.2.2⟩⟩
  · exact q2.elim
def truOP (C : Addr) (sp : SpD) (d : D) (G : HD) (Q : Bool → HD → Prop) : Prop := match d with
  | .ref a => (∃ fs, G a = some (.ins C fs)) ∧ sp [.ref a] G (ownTru Q) fun _ _ _ => False
  | _ => False
def dTruO (C : Addr) (sp : SpD) (t : TD) : TDT := fun W σ G Q => t W σ G fun d G1 => truOP C sp d G1 Q
theorem dt_truO {a : Expr} {ta : TD} (F : MetK X.prog X.w X.K X.mg X.base k "__len__" C sp []) (hB : PySem.W.findIn X.K (.ref C) "__bool__" = some none) (hr : RoomG j X.A) (ha : DE X a ta) (hj : k + 1 ≤ j := by decide) (he : ∀ whole, isTrue a X.env whole = (do let v ← whole; standAt a.pos; holding [v] (truthy v)) := by intro _; rfl) : DT X a (dTruO C sp ta) :=
  ⟨fun G H σ τ W Q r0 h => semT.of (pt_truthR peSem (tru_own F hB (hr.mono hj)) he) (ha.then r0 h fun d v G1 H1 r1 x1 k1 q1 => by
    unfold truOP at q1
    split at q1
    · rename_i a
      obtain ⟨⟨fs, h⟩, q⟩ := q1
      cases k1
      obtain ⟨o1, e1, dx, l1, rfl, _⟩ := r1.sim _ _ h
      exact ⟨a, dx, l1, G1, Q, rfl, e1, r1.sim, q, fun b H' z => z.up x1⟩
    · exact q1.elim)⟩
end
section
variable {G : HD} {Q : Post} {a : Addr} {W : DW} {σ : DSt} {to : TD} {xs : List D} {C : Addr} {sp : SpD} {i : Int} {R : Bool → HD → Prop}
theorem q_clear : dClear to W σ G Q = to W σ G fun o G1 => clrP o G1 Q := propext ⟨fun h => h, fun h => h⟩
theorem r_clrP : clrP (.ref a) G Q = clrO (G a) a G Q := propext ⟨fun h => h, fun h => h⟩
theorem r_clrO : clrO (some (.lst xs)) a G Q = Q .non (put G a (.lst [])) := propext ⟨fun h => h, fun h => h⟩
theorem q_truO : dTruO C sp to W σ G R = to W σ G fun d G1 => truOP C sp d G1 R := propext ⟨fun h => h, fun h => h⟩
theorem r_truOP : truOP C sp (.ref a) G R = ((∃ fs, G a = some (.ins C fs)) ∧ sp [.ref a] G (ownTru R) fun _ _ _ => False) := propext ⟨fun h => h, fun h => h⟩
theorem r_ownTru : ownTru R (.int i) G = (0 ≤ i ∧ i < 2 ^ 63 ∧ R (i != 0) G) := propext ⟨fun h => h, fun h => h⟩
end
end DL

namespace DL
open PySem PySem.Spec L2
open PyProof.Rows hiding St
/-! ### bool(x) of an own thing with a length -/
section
variable {prog : Program} {w : World} {A : Around} {E : Value → Shared → Prop} {s : Shared}
/-- a built-in type called: what its __new__ does is told by hand -/
theorem callType_by {T newId : String} {Bn : Builtin} {args : List Value} {Q P : Value → Shared → Prop} (ft : TypeCalled T newId "object.__init__") (hne : (some newId != some "object.__new__") = true)
    (hct : checkTypeCall T ⟨args, []⟩ = pure ()) (hcn : checkBuiltinCall newId ⟨.type T :: args, []⟩ = pure ()) (entryN : entryFor table newId = some Bn) (hok : ∀ obj, argsOk "object.__init__" ⟨obj :: args, []⟩)
    (g : wpAny (model prog w) A.in1.in1 (Bn ⟨.type T :: args, []⟩) (fun fin s' => match fin with | .done f => wants P E (.ok f) s' | .again c' => c'.quiet = true ∧ codeAny (model prog w) A.in1 c' (wants P E) s') (fun e s' => wants P E (.error e) s') s)
    (hP : ∀ obj s1, P obj s1 → s1.TypeIs obj T ∧ Q obj s1) : wpAny (model prog w) A (call (.type T) args) Q E s := by
  obtain ⟨c, tl, hmro⟩ := ft.mro
  have hmade := ft.made
  have hsub := ft.sub
  refine wpAny_call (codeAny_of_tree ?_)
  show wpAny _ _ (callAny (.type T) _) _ _ _
  refine wpAny_pure ⟨Code.quiet_builtin _ (by decide +kernel), codeAny_builtin F.entry_type_call ?_⟩
  rw [Around.under_plain (weight_type_call_type T args []) (units_type_call_type T args [])]
  have h1 := ft.notType
  have h2 := ft.canCreate
  repeat (any_goals first | assumption | wp_step)
  refine codeAny_mono (codeAny_call_builtin ft.plain entryN (wpAny_of_eq hcn g)) fun r s₁ hr => ?_
  cases r with
  | error e => exact hr
  | ok fl =>
    cases fl with
    | ret obj =>
      obtain ⟨hT, hq0⟩ := hP _ _ hr
      have hli := ft.init.lookup
      have hbi := ft.init.bind obj
      repeat (any_goals first | assumption | wp_step)
      refine codeAny_mono (codeAny_call_builtin ft.init.plain F.entry_object_init (ft.init.check _ _ _ _ _ _ _ _ hT (hok obj) (object_init_meets (rest := args) ft.init.lookup ft.made hne prog w A.in1 (wants (fun r s2 => r = .none ∧ Q obj s2) E) s₁ ⟨hT, rfl, hq0⟩))) fun r2 s2 hr2 => ?_
      cases r2 with
      | error e => exact hr2
      | ok fl2 =>
        cases fl2 with
        | ret r =>
          obtain ⟨rfl, hq⟩ := hr2
          repeat (any_goals first | assumption | wp_step)
        | _ => exact hr2.elim
    | _ => exact hr.elim
theorem call_bool_by {x : Value} {Q : Value → Shared → Prop} (h : wpAny (model prog w) A.in1.in1 (truthy x) (fun b s' => Q (.bool b) s') E s) : wpAny (model prog w) A (call (.type "bool") [x]) Q E s := by
  refine callType_by (P := fun v s' => (∃ b, v = .bool b) ∧ Q v s') F.called_bool F.newNe_bool (F.typeCall_bool_1 x) (F.newCall_bool_1 x) F.entry_bool_new (fun obj => F.args_object_init_2 obj x) ?_ fun obj s1 ⟨⟨b, e⟩, hq⟩ => ⟨by subst e; rfl, hq⟩
  have f1 := F.conv_sub_bool
  unfold Builtin.«bool.__new__»
  repeat (any_goals first | assumption | (with_reducible refine wpAny_bind (wpAny_mono h (fun b s' hq => ?_) fun _ _ e => e)) | wp_step)
  exact ⟨⟨b, rfl⟩, hq⟩
end
section
variable {X : Cx} {k j : Nat} {C : Addr} {sp : SpD}
def ownBool (Q : Post) : Post := fun d G => match d with
  | .int n => 0 ≤ n ∧ n < 2 ^ 63 ∧ Q (.bl (n != 0)) G
  | _ => False
def rBoolO (X : Cx) (C : Addr) (sp : SpD) : List V → Hp → VK → Prop := fun xs H Q => ∃ (a dx : Addr) (fs : List (Str × V)) (G : HD) (Qd : Post), xs = [.ref a] ∧ H a = some (.ins C dx fs) ∧ Sim X.K G H ∧ sp [.ref a] G (ownBool Qd) (fun _ _ _ => False) ∧ ∀ v H', liftQ X.K G H Qd v H' → Q v H'
theorem call_boolO (F : MetK X.prog X.w X.K X.mg X.base k "__len__" C sp []) (hB : PySem.W.findIn X.K (.ref C) "__bool__" = some none) (hr : RoomG (k + 3) X.A) : CallR X (.type "bool") (rBoolO X C sp) := by
  intro pins s σ H xs us Q I rx ⟨a, dx, fs, G, Qd, e, ha, sm, q, fin⟩
  subst e
  rw [Vals.ref1 rx]
  obtain ⟨f, fd, ps, dvs, ds, hc, hm, F1, hb, hv, hdd, hlen⟩ := F.ex
  have z1 := (hdd.rel (fun _ => none)).length
  cases dvs with
  | cons _ _ => cases z1
  | nil =>
  cases hv
  obtain ⟨mA, J, _⟩ := ins_get I.hok ha
  obtain ⟨od, J, _⟩ := J.look
  refine call_bool_by (truthy_own I.kIn J hB hm.at_ (beq_iff_eq.mp hm.fn) ?_)
  rw [Around.under_plainId plain_len _]
  refine wpAny_mono (runE1 F1 ⟨hr.in1.in1.in1, rfl⟩ hb sm I (hlen _ _ _ _ q).symm q) (fun w s' z => ?_) fun _ _ e => e
  obtain ⟨y, H', I', ry, d, G', rd, sm', x1, q2⟩ := z
  unfold ownBool at q2
  split at q2
  · rename_i n
    cases rd
    obtain ⟨t, rfl⟩ := ry
    exact ⟨n, t, rfl, q2.1, q2.2.1, .bl _, H', I'.tok _, rfl, fin _ _ ⟨.bl _, G', rfl, sm', x1, q2.2.2⟩⟩
  · exact q2.elim
def rBoolOD (C : Addr) (sp : SpD) : List D → HD → Post → Prop := fun ds G Q => match ds with
  | [.ref a] => (∃ fs, G a = some (.ins C fs)) ∧ sp [.ref a] G (ownBool Q) fun _ _ _ => False
  | _ => False
theorem cd_boolO : CallD X.K (rBoolO X C sp) (rBoolOD C sp) := fun G H ds vs Q Q' s k f q => by
  unfold rBoolOD at q
  split at q
  · rename_i a
    obtain ⟨⟨fs, h⟩, q⟩ := q
    obtain ⟨v, rfl, kd⟩ := one_of k
    cases kd
    obtain ⟨o1, e1, dx, l1, rfl, _⟩ := s _ _ h
    exact ⟨a, dx, l1, G, Q, rfl, e1, s, q, f⟩
  · exact q.elim
theorem bc_boolO {p pos : Pos} {e : Expr} {ts : TDA} (F : MetK X.prog X.w X.K X.mg X.base k "__len__" C sp []) (hB : PySem.W.findIn X.K (.ref C) "__bool__" = some none) (hr : RoomG j X.A) (hm : X.mg "bool" = none) (ha : DA X [e] ts) (hj : k + 3 ≤ j := by decide) (hg : Gl X "bool" := by rfl) (he : starEach [e] X.env = (false, eval e X.env) :: starEach [] X.env := by rfl) : DE X (.Call (.Name "bool" p) [e] [] pos) (dCB (rBoolOD C sp) ts) :=
  de_ct (call_boolO F hB (hr.mono hj)) cd_boolO hm (by decide +kernel) ha hg (by decide) (by decide) he (by rfl)
end
section
variable {G : HD} {Q : Post} {i : Int} {r : Addr} {C : Addr} {sp : SpD}
theorem r_boolOD : rBoolOD C sp [.ref r] G Q = ((∃ fs, G r = some (.ins C fs)) ∧ sp [.ref r] G (ownBool Q) fun _ _ _ => False) := propext ⟨fun h => h, fun h => h⟩
theorem r_ownBool : ownBool Q (.int i) G = (0 ≤ i ∧ i < 2 ^ 63 ∧ Q (.bl (i != 0)) G) := propext ⟨fun h => h, fun h => h⟩
end
end DL

namespace DL
open PySem PySem.Spec L2
open PyProof.Rows hiding St
/-! ### not x, as a value, of an own thing with a length -/
section
variable {X : Cx} {k j : Nat} {C : Addr} {sp : SpD} {a : Expr} {pos : Pos}
theorem pe_notR {ta : TE} {r : V → Hp → (Bool → Hp → Prop) → Prop} (ha : PE X a ta) (hr : TruR X r) : PE X (.UnaryOp .Not a pos) (fun σ H Q => ta σ H fun x H1 => r x H1 fun c H2 => Q (.bl (!c)) H2) :=
  ⟨fun pins s σ H Q I h => UnaryOp_ (thn (ha.run pins s σ H _ I h) fun v s1 ⟨x, H1, I1, r1, q1⟩ =>
    not_of (thn (hr pins s1 σ H1 x v (fun c H2 => Q (.bl (!c)) H2) I1 r1 q1) fun c s2 ⟨H2, I2, q2⟩ => ⟨.bl (!c), H2, I2, rfl, q2⟩))⟩
def dNotO (C : Addr) (sp : SpD) (t : TD) : TD := fun W σ G Q => t W σ G fun d G1 => truOP C sp d G1 fun b G2 => Q (.bl (!b)) G2
theorem de_notO {ta : TD} (F : MetK X.prog X.w X.K X.mg X.base k "__len__" C sp []) (hB : PySem.W.findIn X.K (.ref C) "__bool__" = some none) (hr : RoomG j X.A) (ha : DE X a ta) (hj : k + 1 ≤ j := by decide) : DE X (.UnaryOp .Not a pos) (dNotO C sp ta) :=
  ⟨fun G H σ τ W Q r q => semE.of (pe_notR peSem (tru_own F hB (hr.mono hj))) (ha.then r q fun d v G1 H1 r1 x1 k1 q1 => by
    unfold truOP at q1
    split at q1
    · rename_i a
      obtain ⟨⟨fs, h⟩, q⟩ := q1
      cases k1
      obtain ⟨o1, e1, dx, l1, rfl, _⟩ := r1.sim _ _ h
      exact ⟨a, dx, l1, G1, _, rfl, e1, r1.sim, q, fun b H' ⟨G2, s2, x2, q2⟩ => .of (d := .bl (!b)) rfl s2 (x1.trans x2) q2⟩
    · exact q1.elim)⟩
theorem q_notO {W : DW} {σ : DSt} {G : HD} {Q : Post} {t : TD} : dNotO C sp t W σ G Q = t W σ G fun d G1 => truOP C sp d G1 fun b G2 => Q (.bl (!b)) G2 := propext ⟨fun h => h, fun h => h⟩
end
end DL

namespace DL
open PySem PySem.Spec L2
open PyProof.Rows hiding St
/-! ### dicts, for the plain laws -/
section
variable {W : DW} {E : DEnds} {σ : DSt} {G : HD} {Q : Post} {td tk tz te : TD} {a : Addr} {l : List (Key × D)} {k : Key} {z d v : D} {x : Str} {i : Int} {K : Prop} {R : HD → Prop} {n : Bool} {f : List (Key × D) → Prop} {ts : TDS}
theorem q_get1 : dGet1 td tk W σ G Q = td W σ G fun o G1 => dictP o G1 (tk W σ G1 fun k G2 => getP o k .non G2 Q) := propext ⟨fun h => h, fun h => h⟩
theorem q_get2 : dGet2 td tk tz W σ G Q = td W σ G fun o G1 => dictP o G1 (tk W σ G1 fun k G2 => tz W σ G2 fun z G3 => getP o k z G3 Q) := propext ⟨fun h => h, fun h => h⟩
theorem q_dget : dDGet td tk W σ G Q = td W σ G fun o G1 => tk W σ G1 fun k G2 => dkP o k G2 Q := propext ⟨fun h => h, fun h => h⟩
theorem q_sdict : sDict td tk te W E σ G = te W σ G fun v G1 => td W σ G1 fun o G2 => tk W σ G2 fun k G3 => dpP o k v G3 fun G4 => E.nx σ G4 := propext ⟨fun h => h, fun h => h⟩
theorem q_pop2 : dPop2 td tk tz W σ G Q = td W σ G fun o G1 => dictP o G1 (tk W σ G1 fun k G2 => tz W σ G2 fun z G3 => popP o k z G3 Q) := propext ⟨fun h => h, fun h => h⟩
theorem q_setd : dSetd td tk tz W σ G Q = td W σ G fun o G1 => dictP o G1 (tk W σ G1 fun k G2 => tz W σ G2 fun z G3 => sdfP o k z G3 Q) := propext ⟨fun h => h, fun h => h⟩
theorem q_dic : dDic W σ G Q = ∀ p, G p = none → Q (.ref p) (put G p (.dK [])) := propext ⟨fun h => h, fun h => h⟩
theorem r_dictP : dictP (.ref a) G K = ((∃ l, G a = some (.dK l)) ∧ K) := propext ⟨fun h => h, fun h => h⟩
theorem r_dictEx (h : G a = some (.dK l)) : (∃ m, G a = some (.dK m)) = True := propext ⟨fun _ => trivial, fun _ => ⟨l, h⟩⟩
theorem r_getS : getP (.ref a) (.str x) z G Q = getO (G a) (some (.inr x)) z G Q := propext ⟨fun h => h, fun h => h⟩
theorem r_getI : getP (.ref a) (.int i) z G Q = getO (G a) (some (.inl i)) z G Q := propext ⟨fun h => h, fun h => h⟩
theorem r_getO : getO (some (.dK l)) (some k) z G Q = Q ((valD l k).getD z) G := propext ⟨fun h => h, fun h => h⟩
theorem r_dkS : dkP (.ref a) (.str x) G Q = dkO (G a) (some (.inr x)) G Q := propext ⟨fun h => h, fun h => h⟩
theorem r_dkI : dkP (.ref a) (.int i) G Q = dkO (G a) (some (.inl i)) G Q := propext ⟨fun h => h, fun h => h⟩
theorem r_dkO : dkO (some (.dK l)) (some k) G Q = optP (valD l k) G Q := propext ⟨fun h => h, fun h => h⟩
theorem r_dkF {ob : Obj} {m : List (Key × V)} : dkO (some (.fz ob (.dK m) (.dK l))) (some k) G Q = optP (valD l k) G Q := propext ⟨fun h => h, fun h => h⟩
theorem r_inF {ob : Obj} {m : List (Key × V)} : inO n (some (.fz ob (.dK m) (.dK l))) (some k) G Q = Q (.bl (if n then !(valD l k).isSome else (valD l k).isSome)) G := propext ⟨fun h => h, fun h => h⟩
theorem r_inS : inP n (.str x) (.ref a) G Q = inO n (G a) (some (.inr x)) G Q := propext ⟨fun h => h, fun h => h⟩
theorem r_inI : inP n (.int i) (.ref a) G Q = inO n (G a) (some (.inl i)) G Q := propext ⟨fun h => h, fun h => h⟩
theorem r_inO : inO n (some (.dK l)) (some k) G Q = Q (.bl (if n then !(valD l k).isSome else (valD l k).isSome)) G := propext ⟨fun h => h, fun h => h⟩
theorem r_dpS : dpP (.ref a) (.str x) v G R = dpO (G a) a (some (.inr x)) v G R := propext ⟨fun h => h, fun h => h⟩
theorem r_dpI : dpP (.ref a) (.int i) v G R = dpO (G a) a (some (.inl i)) v G R := propext ⟨fun h => h, fun h => h⟩
theorem r_dpO : dpO (some (.dK l)) a (some k) v G R = (l.length < 1000000 ∧ R (put G a (.dK (putKD l k v)))) := propext ⟨fun h => h, fun h => h⟩
theorem r_dicP : dicP (.ref a) G f = dicO (G a) f := propext ⟨fun h => h, fun h => h⟩
theorem r_dicO : dicO (some (.dK l)) f = f l := propext ⟨fun h => h, fun h => h⟩
theorem r_sortDic : rSortDic [d] G Q = dicP d G fun l => srtO l G Q := propext ⟨fun h => h, fun h => h⟩
theorem r_listDic : rListDic [d] G Q = dicP d G fun l => newL G (keysD l) Q := propext ⟨fun h => h, fun h => h⟩
theorem r_dictDic : rDictDic [d] G Q = dicP d G fun l => newD G l Q := propext ⟨fun h => h, fun h => h⟩
theorem q_lockE : dLockE te W σ G Q = ∃ d l, G d = some (.dK l) ∧ ∀ (ob : Obj) (m : List (Key × V)), te W σ (put G d (.fz ob (.dK m) (.dK l))) fun v G1 => G1 d = some (.fz ob (.dK m) (.dK l)) ∧ Q v (put G1 d (.dK l)) := propext ⟨fun h => h, fun h => h⟩
theorem q_dapp {to : TD} {ta : TDA} : dApp to ta W σ G Q = to W σ G fun o G1 => lstP o G1 (ta W σ G1 fun ds G2 => match ds with
  | [d] => appP o d G2 Q
  | _ => False) := propext ⟨fun h => h, fun h => h⟩
theorem r_lstP {kk : Prop} : lstP (.ref a) G kk = ((∃ xs, G a = some (.lst xs)) ∧ kk) := propext ⟨fun h => h, fun h => h⟩
theorem r_appP : appP (.ref a) d G Q = appO (G a) a d G Q := propext ⟨fun h => h, fun h => h⟩
theorem r_appO {xs : List D} : appO (some (.lst xs)) a d G Q = (xs.length < 1000000 ∧ Q .non (put G a (.lst (xs ++ [d])))) := propext ⟨fun h => h, fun h => h⟩
/-! keys and values -/
theorem valD_put {k2 : Key} : valD (putKD l k d) k2 = if k2 = k then some d else valD l k2 := by
  unfold putKD
  have hv : ∀ l : List (Key × D), hasD l k = true → valD (l.map fun p => if p.1 = k then (p.1, d) else p) k2 = if k2 = k then some d else valD l k2 := by
    intro l
    induction l with
    | nil => intro h; cases h
    | cons p r ih =>
      intro h
      simp only [List.map_cons]
      by_cases hp : p.1 = k
      · rw [if_pos hp]
        unfold valD
        by_cases h2 : p.1 = k2
        · rw [if_pos h2, if_pos (by rw [← h2, hp])]
        · have h3 : ¬ k2 = k := fun z => h2 (hp.trans z.symm)
          rw [if_neg h2, if_neg h3, if_neg h2]
          by_cases hr : hasD r k = true
          · rw [ih hr, if_neg h3]
          · have : (r.map fun p => if p.1 = k then (p.1, d) else p) = r := by
              have hr' : ∀ q ∈ r, ¬ q.1 = k := fun q hq z => hr (List.any_eq_true.mpr ⟨q, hq, decide_eq_true z⟩)
              rw [List.map_congr_left (g := id) fun q hq => by rw [if_neg (hr' q hq)]; rfl]
              simp
            rw [this]
      · rw [if_neg hp]
        have hr : hasD r k = true := by
          unfold hasD at h ⊢
          rw [List.any_cons, decide_eq_false hp, Bool.false_or] at h
          exact h
        unfold valD
        by_cases h2 : p.1 = k2
        · rw [if_pos h2, if_neg (by rw [← h2]; exact hp), if_pos h2]
        · rw [if_neg h2, if_neg h2]; exact ih hr
  have ha : ∀ l : List (Key × D), ¬ hasD l k = true → valD (l ++ [(k, d)]) k2 = if k2 = k then some d else valD l k2 := by
    intro l
    induction l with
    | nil =>
      intro _
      show (if k = k2 then some d else none) = _
      by_cases h : k2 = k
      · rw [if_pos h, if_pos h.symm]
      · rw [if_neg h, if_neg (Ne.symm h)]; rfl
    | cons p r ih =>
      intro h
      have hp : ¬ p.1 = k := fun z => h (by unfold hasD; rw [List.any_cons, decide_eq_true z]; rfl)
      have hr : ¬ hasD r k = true := fun z => h (by unfold hasD at z ⊢; rw [List.any_cons, z, Bool.or_true])
      show (if p.1 = k2 then some p.2 else valD (r ++ [(k, d)]) k2) = if k2 = k then some d else if p.1 = k2 then some p.2 else valD r k2
      by_cases h2 : p.1 = k2
      · rw [if_pos h2, if_pos h2, if_neg (by rw [← h2]; exact hp)]
      · rw [if_neg h2, if_neg h2]; exact ih hr
  by_cases h : hasD l k = true
  · rw [if_pos h]; exact hv l h
  · rw [if_neg h]; exact ha l h
end
end DL

namespace DL
open PySem PySem.Spec L2
open PyProof.Rows hiding St
/-! ### what repr shows is a text of good signs -/
theorem ok_iff {x : Str} : PyData.strOk x = true ↔ ∀ c ∈ x.cps.toList, c < 0x110000 := by
  unfold PyData.strOk
  rw [Array.all_eq_true']
  constructor
  · intro h c hc; exact of_decide_eq_true (h c (by simpa using hc))
  · intro h c hc; exact decide_eq_true (h c (by simpa using hc))
theorem ok_app {x y : Str} (h : PyData.strOk x = true) (k : PyData.strOk y = true) : PyData.strOk (x ++ y) = true := by
  rw [ok_iff] at h k ⊢
  intro c hc
  have e : (x ++ y).cps = x.cps ++ y.cps := rfl
  rw [e, Array.toList_append] at hc
  rcases List.mem_append.mp hc with hc | hc
  · exact h c hc
  · exact k c hc
theorem chr_lt (c : Char) : c.toNat < 0x110000 := by
  have h := c.valid
  show c.val.toNat < 0x110000
  rcases h with h | h
  · have : c.val.toNat < 0xd800 := h
    omega
  · exact h.2
theorem reprChar_ok {q c : Nat} (hc : c < 0x110000) : ∀ x ∈ Builtin.Str.reprChar q c, x < 0x110000 := by
  intro x hx
  have hexk : ∀ w : Nat, ∀ y ∈ (List.replicate (w - ((Nat.toDigits 16 c).map Char.toNat).length) 48 ++ (Nat.toDigits 16 c).map Char.toNat), y < 0x110000 := fun w y hy => by
    rcases List.mem_append.mp hy with hy | hy
    · rw [List.eq_of_mem_replicate hy]; decide
    · obtain ⟨d, _, rfl⟩ := List.mem_map.mp hy
      exact chr_lt d
  unfold Builtin.Str.reprChar at hx
  dsimp only at hx
  split at hx
  · simp only [List.mem_cons, List.not_mem_nil, or_false] at hx; rcases hx with rfl | rfl <;> omega
  split at hx
  · simp only [List.mem_cons, List.not_mem_nil, or_false] at hx; rcases hx with rfl | rfl <;> omega
  split at hx
  · simp only [List.mem_cons, List.not_mem_nil, or_false] at hx; rcases hx with rfl | rfl <;> omega
  split at hx
  · simp only [List.mem_cons, List.not_mem_nil, or_false] at hx; rcases hx with rfl | rfl <;> omega
  split at hx
  · simp only [List.mem_cons, List.not_mem_nil, or_false] at hx; subst hx; exact hc
  split at hx
  · rcases List.mem_append.mp hx with hx | hx
    · simp only [List.mem_cons, List.not_mem_nil, or_false] at hx; rcases hx with rfl | rfl <;> omega
    · exact hexk _ x hx
  split at hx
  · rcases List.mem_append.mp hx with hx | hx
    · simp only [List.mem_cons, List.not_mem_nil, or_false] at hx; rcases hx with rfl | rfl <;> omega
    · exact hexk _ x hx
  · rcases List.mem_append.mp hx with hx | hx
    · simp only [List.mem_cons, List.not_mem_nil, or_false] at hx; rcases hx with rfl | rfl <;> omega
    · exact hexk _ x hx
theorem fold_ok {q : Nat} : ∀ (l : List Nat) (acc : Array Nat), (∀ c ∈ l, c < 0x110000) → (∀ c ∈ acc.toList, c < 0x110000) → ∀ c ∈ (l.foldl (fun out c => out ++ (Builtin.Str.reprChar q c).toArray) acc).toList, c < 0x110000
  | [], acc, _, ha => ha
  | c :: r, acc, hl, ha => by
    refine fold_ok r _ (fun d hd => hl d (List.mem_cons_of_mem _ hd)) fun d hd => ?_
    rw [Array.toList_append] at hd
    rcases List.mem_append.mp hd with hd | hd
    · exact ha d hd
    · exact reprChar_ok (hl c List.mem_cons_self) d (by simpa using hd)
theorem quote_ok (x : Str) : reprQuote x < 0x110000 := by
  unfold reprQuote
  split <;> decide
theorem reprText_ok {x : Str} (h : PyData.strOk x = true) : PyData.strOk (reprText x) = true := by
  rw [ok_iff] at h ⊢
  unfold reprText
  intro c hc
  rw [Array.toList_push] at hc
  rcases List.mem_append.mp hc with hc | hc
  · rw [← Array.foldl_toList] at hc
    exact fold_ok x.cps.toList _ h (fun d hd => by simp at hd; subst hd; exact quote_ok x) c hc
  · simp at hc; subst hc; exact quote_ok x
theorem int_ok (i : Int) : PyData.strOk (Str.ofString (toString i)) = true := by
  rw [ok_iff]
  intro c hc
  by_cases h : c < 0x110000
  · exact h
  · exact absurd hc (PyProof.Rows.int_text_free' c ⟨by omega, by omega⟩ i)
theorem join_ok : ∀ ts : List Str, (∀ t ∈ ts, PyData.strOk t = true) → PyData.strOk (Str.join ", " ts) = true
  | [], _ => by decide +kernel
  | [t], h => h t List.mem_cons_self
  | t :: u :: r, h => by
    show PyData.strOk (t ++ ", " ++ Str.join ", " (u :: r)) = true
    exact ok_app (ok_app (h t List.mem_cons_self) (by decide +kernel)) (join_ok (u :: r) fun v hv => h v (List.mem_cons_of_mem _ hv))
mutual
theorem shown_ok : ∀ (n : Nat) (d : D), pureD n d = true → PyData.strOk (toPy n d).shown = true
  | 0, _, h => by cases h
  | n + 1, .non, _ => (by decide +kernel : PyData.strOk PyData.none.shown = true)
  | n + 1, .bl true, _ => (by decide +kernel : PyData.strOk (PyData.bool true).shown = true)
  | n + 1, .bl false, _ => (by decide +kernel : PyData.strOk (PyData.bool false).shown = true)
  | n + 1, .int i, _ => int_ok i
  | n + 1, .str x, h => reprText_ok h
  | n + 1, .tup ds, h => by
    show PyData.strOk (tupleText (PyData.shownAll (ds.map (toPy n)))) = true
    unfold tupleText
    refine ok_app (ok_app (by decide +kernel) (join_ok _ (showns_ok n ds (by unfold pureD at h; exact h)))) ?_
    split <;> decide +kernel
  | n + 1, .kl ds, h => by
    show PyData.strOk (listText (PyData.shownAll (ds.map (toPy n)))) = true
    rw [listText_eq_join]
    exact ok_app (ok_app (by decide +kernel) (join_ok _ (showns_ok n ds (by unfold pureD at h; exact h)))) (by decide +kernel)
  | n + 1, .kc ds, h => by
    show PyData.strOk (listText (PyData.shownAll (ds.map (toPy n)))) = true
    rw [listText_eq_join]
    exact ok_app (ok_app (by decide +kernel) (join_ok _ (showns_ok n ds (by unfold pureD at h; exact h)))) (by decide +kernel)
  | n + 1, .ty _, h => by cases h
  | n + 1, .ref _, h => by cases h
  | n + 1, .exc _ _ _, h => by cases h
  | n + 1, .emp, h => by cases h
theorem showns_ok : ∀ (n : Nat) (ds : List D), ds.all (pureD n) = true → ∀ t ∈ PyData.shownAll (ds.map (toPy n)), PyData.strOk t = true
  | n, [], _, t, ht => by cases ht
  | n, d :: ds, h, t, ht => by
    rw [List.all_cons, Bool.and_eq_true] at h
    have ht' : t ∈ (toPy n d).shown :: PyData.shownAll (ds.map (toPy n)) := ht
    rcases List.mem_cons.mp ht' with rfl | ht'
    · exact shown_ok n d h.1
    · exact showns_ok n ds h.2 t ht'
end
/-- repr, its bound larger -/
theorem i_reprB {d : D} {G : HD} {Q : Post} (h : pureD 9 d = true) (hs : smallD 9 d = true) (hc : capD d ≤ 16000000) (q : Q (.str (toPy 9 d).shown) G) : rReprD [d] G Q :=
  i_repr h (small_shown 9 d hs).1 (Nat.le_trans (small_shown 9 d hs).2 (by rw [sizeLine_eq]; omega)) q
end DL

namespace DL
open PySem PySem.Spec L2
open PyProof.Rows hiding St
/-! ### [..] * n -/
def rRepL (K : PySem.W.Frag) : R2 := fun x y H Q => ∃ (l : Addr) (k : Int) (xs : List V), x = .ref l ∧ y = .int k ∧ SqL K H l xs ∧ 0 ≤ k ∧ k ≤ 1000 ∧ xs.length ≤ 1000 ∧ ∀ p, H p = none → Q (.ref p) (upd H p (.lst (List.replicate k.toNat xs).flatten))
theorem vals_flat {k : Nat} {xs : List V} {us : List Value} (r : Vals xs us) : Vals (List.replicate k xs).flatten (List.replicate k us).flatten := by
  induction k with
  | zero => exact .nil
  | succ k ih => rw [List.replicate_succ, List.replicate_succ, List.flatten_cons, List.flatten_cons]; exact r.append ih
theorem fold_flat (its : List Value) (m : Nat) : List.foldl (fun x1 x2 => x1 ++ x2) #[] (List.replicate m its.toArray) = (List.replicate m its).flatten.toArray := by
  have := foldl_rep its m []
  rw [List.nil_append] at this
  exact this
theorem op_repL {X : Cx} : OpR X (binaryOp .Mult) (rRepL X.K) := by
  intro pins s σ H x y v u Q I rx ry h
  obtain ⟨a, k, xs, rfl, rfl, hs, h0, hk, hx, q⟩ := h
  obtain rfl : v = Value.ref a := rx
  obtain ⟨t, rfl⟩ := ry
  obtain ⟨its, rv, ⟨⟨cls, dd, data, sl⟩, n, ho, hc, hdn, hd⟩, hlen⟩ := I.list hs
  have hc1 : cls = Value.type "list" := hc
  have hd1 : data = Data.seq its.toArray n := hd
  subst hc1 hd1
  have hl := rv.length
  have hsl := sizeLine_eq
  have hm : its.toArray.size * k.toNat ≤ 1000 * 1000 := by
    rw [List.size_toArray, ← hl]
    exact Nat.mul_le_mul hx (by omega)
  have hm2 : 1000 * 1000 ≤ sizeLine := by rw [hsl]; omega
  have c0 : ¬(!Builtin.List.listFitsIndex k) = true := by simp [Builtin.List.listFitsIndex]; omega
  have c1 : ¬its.toArray.size * k.toNat > (2 ^ 63 - 1) / 8 := Nat.not_lt.mpr (Nat.le_trans hm (by omega))
  have c2 : ¬Builtin.List.listTooLong (its.toArray.size * k.toNat) = true := by
    simp only [Builtin.List.listTooLong, decide_eq_true_eq]
    exact Nat.not_lt.mpr (Nat.le_trans hm hm2)
  refine wpAny_binaryOp_repeat_ref (T := "list") (U := "int") (by decide) ⟨_, ho, rfl⟩ (fun s' => typeIs_int s' k t) noFill_list_mul F.fills_int_mul F.slot_int_rmul repeat_list F.slot_int_index.lookup
    (call_meets F.slot_int_rmul (typeIs_int s k t) F.entry_int_rmul (F.args_int_rmul_2 _ _) (lm_int_rmul_list_any k t a its.toArray n dd sl) ⟨ho, rfl, ⟨_, ho, rfl⟩, call_meets F.slot_list_mul ⟨_, ho, rfl⟩ F.entry_list_mul (F.args_list_mul_2 _ _) (lm_list_mul_any a its.toArray n dd sl k t c0 c1 c2) ⟨ho, ?_⟩⟩)
  have e : List.foldl (fun x1 x2 => x1 ++ x2) #[] (List.replicate (if its.toArray.isEmpty = true then 0 else k.toNat) its.toArray) = (List.replicate k.toNat its).flatten.toArray := by
    rw [listMul_foldl_if]
  rw [e]
  refine ⟨.ref s.heap.objs.size, upd H s.heap.objs.size (.lst (List.replicate k.toNat xs).flatten), I.laid (t' := s.toks) (fun b o e => Heap.get?_push_of_some _ e) (Nat.le_refl _) ⟨?_, _, 0, vals_flat rv, Heap.get?_push_size _ rfl⟩, rfl, q _ (I.hok.fresh (Nat.le_refl _))⟩
  rw [PyProof.Rows.lm_len_rep_flat]
  exact Nat.le_trans (Nat.mul_le_mul (show k.toNat ≤ 1000 by omega) hx) hm2
/-- the written list is new, and so is what comes -/
def dRepL : D → D → HD → Post → Prop := fun d e G Q => match asL G d, e with
  | some xs, .int k => 0 ≤ k ∧ k ≤ 1000 ∧ xs.length ≤ 1000 ∧ newL G (List.replicate k.toNat xs).flatten Q
  | _, _ => False
theorem rps_flat {K : PySem.W.Frag} {H : Hp} {k : Nat} {ds : List D} {vs : List V} (r : Rps K H ds vs) : Rps K H (List.replicate k ds).flatten (List.replicate k vs).flatten := by
  induction k with
  | zero => rfl
  | succ k ih => rw [List.replicate_succ, List.replicate_succ, List.flatten_cons, List.flatten_cons]; exact r.app ih
theorem od_repL (K : PySem.W.Frag) : OpD K (rRepL K) dRepL := fun G H d e x y Q Q' s k1 k2 f q => by
  unfold dRepL at q
  split at q
  · rename_i xs k e1
    obtain ⟨a, vs, rfl, t1, r1⟩ := k1.lst s e1
    cases k2
    obtain ⟨h0, h1, h2, q⟩ := q
    exact ⟨a, k, vs, rfl, rfl, t1, h0, h1, by rw [r1.length]; exact h2, newL.fin s (rps_flat r1) f q⟩
  · exact q.elim
theorem de_repL {X : Cx} {a b : Expr} {ta tb : TD} {pos : Pos} (ha : DE X a ta) (hb : DE X b tb) : DE X (.BinOp a .Mult b pos) (dOp dRepL ta tb) := de_op op_repL (od_repL X.K) ha hb
/-! ### x in a list, a tuple, of ints -/
def inIo (neg : Bool) (o : Option (List Int)) (i : Int) (G : HD) (Q : Post) : Prop := match o with
  | some ns => Q (.bl (if neg then !decide (i ∈ ns) else decide (i ∈ ns))) G
  | none => False
def dInI (neg : Bool) : D → D → HD → Post → Prop := fun d e G Q => match d with
  | .int i => match asQ G e with
    | some es => inIo neg (asInts es) i G Q
    | none => False
  | _ => False
theorem inV_ints {i : Int} : ∀ {ns : List Int}, inV (.int i) (ns.map V.int) = decide (i ∈ ns)
  | [] => rfl
  | n :: ns => by
    have h := inV_ints (i := i) (ns := ns)
    unfold inV at h ⊢
    rw [List.map_cons, List.any_cons, h]
    have e : eqV (V.int n) (V.int i) = decide (n = i) := rfl
    rw [e]
    by_cases z : i = n
    · subst z; simp
    · have z' : ¬ n = i := fun q => z q.symm
      simp [z, z']
theorem od_inI (K : PySem.W.Frag) (neg : Bool) : OpD K (rIn K neg) (dInI neg) := fun G H d e x y Q Q' s k1 k2 f q => by
  unfold dInI at q
  split at q
  · cases k1
    split at q
    · rename_i es e1
      unfold inIo at q
      split at q
      · rename_i ns e2
        obtain ⟨a, vs, rfl, t, r⟩ := k2.seq s e1
        obtain rfl := asInts_eq e2
        obtain rfl := r.ints
        refine ⟨a, _, rfl, t, rfl, List.all_eq_true.mpr fun v hv => by obtain ⟨n, _, rfl⟩ := List.mem_map.mp hv; rfl, ?_⟩
        rw [inV_ints]
        exact f _ _ (.of (d := .bl _) rfl s .refl q)
      · exact q.elim
    · exact q.elim
  · exact q.elim
theorem c_inI {X : Cx} : CmpR X .In (dInI false) := ⟨_, op_in_seq, od_inI X.K false⟩
theorem c_ninI {X : Cx} : CmpR X .NotIn (dInI true) := ⟨_, op_notIn_seq, od_inI X.K true⟩
/-! ### for i, x in enumerate(xs) -/
def enumD : Nat → List D → List D
  | _, [] => []
  | n, d :: ds => .tup [.int n, d] :: enumD (n + 1) ds
theorem enum_get : ∀ {ds : List D} {n i : Nat} {d : D}, ds[i]? = some d → (enumD n ds)[i]? = some (.tup [.int (n + i : Nat), d])
  | [], _, i, _, h => by simp at h
  | e :: ds, n, 0, d, h => by
    have : e = d := by simpa using h
    subst this; rfl
  | e :: ds, n, i + 1, d, h => by
    have := enum_get (ds := ds) (n := n + 1) (i := i) (d := d) (by simpa using h)
    show (enumD (n + 1) ds)[i]? = _
    rw [this]
    congr 4
    omega
theorem enum_len : ∀ {ds : List D} {n : Nat}, (enumD n ds).length = ds.length
  | [], _ => rfl
  | _ :: ds, n => congrArg Nat.succ (enum_len (ds := ds) (n := n + 1))
def enumO (o : Option MO) (a : Addr) (G : HD) (R : ItD → HD → Prop) : Prop := match o with
  | some (.lst ds) => R ⟨enumD 0 ds, fun G => G a = some (.lst ds)⟩ G
  | _ => False
def enumP (d : D) (G : HD) (R : ItD → HD → Prop) : Prop := match d with
  | .ref a => enumO (G a) a G R
  | _ => False
def jEnum (ts : TDA) : TDI := fun W σ G R => ts W σ G fun ds G1 => match ds with
  | [d] => enumP d G1 R
  | _ => False
theorem di_enum {X : Cx} {e : Expr} {ts : TDA} {p pos tpos : Pos} {elts : List Expr} {kk : Nat} (hm : X.mg "enumerate" = none) (ha : DA X [e] ts) (hg : Gl X "enumerate" := by rfl) (hs : starEach [e] X.env = [(false, eval e X.env)] := by rfl) :
    DI X (.Tuple elts kk tpos) (.Call (.Name "enumerate" p) [e] [] pos) (iEnum X.K (semA X [e])) (jEnum ts) :=
  ⟨pi_enum hg hm paSem hs, fun G H σ τ W R R' r q fin => ha.then r q fun ds vs G1 H1 r1 x1 k1 q1 => by
    try dsimp only at q1
    split at q1
    · rename_i d
      obtain ⟨w, rfl, kd⟩ := one_of k1
      unfold enumP at q1
      split at q1
      · rename_i a
        cases kd
        unfold enumO at q1
        split at q1
        · rename_i ds hG
          obtain ⟨xs, e1, rk⟩ := r1.sim.lst hG
          refine ⟨a, xs, rfl, .of e1, fin _ _ G1 H1 r1.sim x1 ⟨fun i G2 H2 s2 _ hok hi => ?_, fun i G2 H2 x H3 s2 _ hok hi hy => ?_, fun i G2 H2 s2 _ hok hi => ?_⟩ q1⟩
          · obtain ⟨ys, f1, f2⟩ := s2.lst hok
            rw [enum_len] at hi
            have hi2 : i < ys.length := by rw [f2.length]; exact hi
            exact ⟨ys, ys[i], .of f1, List.getElem?_eq_getElem hi2⟩
          · obtain ⟨ys, f1, f2⟩ := s2.lst hok
            obtain ⟨T, v, rfl, hT, rfl, hx⟩ := hy
            have hx := hx ys (.of f1)
            rw [enum_len] at hi
            have xt : Ext G2 H2 G2 (upd H2 T (.tup [.int (i : Nat), v])) := Ext.new hT (s2.no hT)
            have hd : ds[i]? = some ds[i] := List.getElem?_eq_getElem hi
            obtain ⟨v', z1, z2⟩ := f2.get hd
            rw [hx] at z1
            cases z1
            refine ⟨.tup [.int (i : Nat), ds[i]], ?_, ⟨T, [.int (i : Nat), v], rfl, SqT.of upd_same, .int (i : Nat), [v], rfl, rfl, v, [], rfl, z2.ext s2 xt _ _, rfl⟩, s2.newO hT, xt⟩
            have := enum_get (n := 0) hd
            rw [Nat.zero_add] at this
            exact this
          · obtain ⟨ys, f1, f2⟩ := s2.lst hok
            rw [enum_len] at hi
            exact ⟨ys, .of f1, by rw [f2.length]; exact hi⟩
        · exact q1.elim
      · exact q1.elim
    · exact q1.elim⟩
end DL

namespace DL
open PySem PySem.Spec L2
open PyProof.Rows hiding St
/-! ### C(e, .., k = v, ..) -/
def pickL {α : Type} (is : List Nat) (l : List α) : List α := is.filterMap (l[·]?)
theorem vals_get {i : Nat} : ∀ {vs : List V} {us : List Value}, Vals vs us → (∃ v u, vs[i]? = some v ∧ us[i]? = some u ∧ RelV v u) ∨ (vs[i]? = none ∧ us[i]? = none)
  | _, _, .nil => .inr ⟨by simp, by simp⟩
  | v :: vs, u :: us, .cons a b => by
    cases i with
    | zero => exact .inl ⟨v, u, rfl, rfl, a⟩
    | succ i =>
      rcases vals_get (i := i) b with ⟨v', u', h1, h2, h3⟩ | ⟨h1, h2⟩
      · exact .inl ⟨v', u', by simpa using h1, by simpa using h2, h3⟩
      · exact .inr ⟨by simpa using h1, by simpa using h2⟩
theorem rps_get {K : PySem.W.Frag} {H : Hp} {i : Nat} : ∀ {ds : List D} {vs : List V}, Rps K H ds vs → (∃ d v, ds[i]? = some d ∧ vs[i]? = some v ∧ Rp K H d v) ∨ (ds[i]? = none ∧ vs[i]? = none)
  | [], _, h => by cases h; exact .inr ⟨by simp, by simp⟩
  | d :: ds, _, ⟨v, r, e, a, b⟩ => by
    subst e
    cases i with
    | zero => exact .inl ⟨d, v, rfl, rfl, a⟩
    | succ i =>
      rcases rps_get (i := i) b with ⟨v', u', h1, h2, h3⟩ | ⟨h1, h2⟩
      · exact .inl ⟨v', u', by simpa using h1, by simpa using h2, h3⟩
      · exact .inr ⟨by simpa using h1, by simpa using h2⟩
theorem vals_pick {vs : List V} {us : List Value} (r : Vals vs us) : ∀ is : List Nat, Vals (pickL is vs) (pickL is us)
  | [] => .nil
  | i :: is => by
    have ih := vals_pick r is
    unfold pickL at ih ⊢
    rcases vals_get (i := i) r with ⟨v, u, h1, h2, h3⟩ | ⟨h1, h2⟩
    · rw [List.filterMap_cons_some h1, List.filterMap_cons_some h2]; exact .cons h3 ih
    · rw [List.filterMap_cons_none h1, List.filterMap_cons_none h2]; exact ih
theorem rps_pick {K : PySem.W.Frag} {H : Hp} {ds : List D} {vs : List V} (r : Rps K H ds vs) : ∀ is : List Nat, Rps K H (pickL is ds) (pickL is vs)
  | [] => rfl
  | i :: is => by
    have ih := rps_pick r is
    unfold pickL at ih ⊢
    rcases rps_get (i := i) r with ⟨v, u, h1, h2, h3⟩ | ⟨h1, h2⟩
    · rw [List.filterMap_cons_some h1, List.filterMap_cons_some h2]; exact .cons h3 ih
    · rw [List.filterMap_cons_none h1, List.filterMap_cons_none h2]; exact ih
/-- what such a call binds: n values by their places, m by their names; is: where each parameter's value stands among these, the defaults dds between them -/
structure KwB (K : PySem.W.Frag) (fd : FuncData) (ps : List Str) (n : Nat) (ks : List Str) (is : List Nat) (dds : List D) : Prop where
  ex : ∃ (its : List Value) (dvs : List V), Vals dvs its ∧ Dfl K dds dvs ∧ ∀ (s : Shared) (us ws : List Value), K.In s.heap → us.length = n → ws.length = ks.length → BindsTo s fd ⟨us, ks.zip ws⟩ (ps.zip (pickL is (us ++ (its ++ ws))))
structure MakKw (P : Program) (w : World) (K : PySem.W.Frag) (mg : Str → Option Value) (base : Heap) (k : Nat) (x : Str) (C : Addr) (sp : SpD) (n : Nat) (ks : List Str) (is : List Nat) (dds : List D) : Prop where
  ex : ∃ (f : Addr) (fd : FuncData) (ps : List Str), Mk K C f ∧ FnK P w K mg base k f fd ps sp ∧ mg x = some (.ref C) ∧ KwB K fd ps (n + 1) ks is dds ∧ ∀ ds G E Q, sp ds G E Q → ds.length = ps.length
def dMakeK (C : Addr) (sp : SpD) (n m : Nat) (is : List Nat) (dds : List D) (ts tk : TDA) : TD := fun W σ G Q => ts W σ G fun ds G1 => tk W σ G1 fun zs G2 => ds.length = n ∧ zs.length = m ∧ ∀ p, G2 p = none →
  sp (pickL is ((.ref p :: ds) ++ (dds ++ zs))) (put G2 p (.ins C [])) (nonP fun G3 => Q (.ref p) G3) fun c fs G' => W c fs σ G'
def makP2 (C : Addr) (sp : SpD) (is : List Nat) (dds ds zs : List D) (G : HD) (Q : Post) (E : DX) : Prop := ∀ p, G p = none → sp (pickL is ((.ref p :: ds) ++ (dds ++ zs))) (put G p (.ins C [])) (nonP fun G3 => Q (.ref p) G3) E
section
variable {X : Cx} {k j n : Nat} {C : Addr} {sp : SpD} {x : Str} {p pos : Pos} {e : Expr} {es : List Expr} {ts tk : TDA} {dds : List D} {ks : List Str} {is : List Nat} {kws : List Keyword}
theorem runMK {pins : List (Addr × Obj)} {s : Shared} {G : HD} {H : Hp} {σ : DSt} {τ : St} {W : DW} {Q : Post} {us ws : List Value} {vs zs : List V} {es ez : List D} {f : Addr} {fd : FuncData} {ps : List Str} (M : Mk X.K C f) (F : FnK X.prog X.w X.K X.mg X.base k f fd ps sp) (hr : RoomG (k + 1) X.A) (hb : KwB X.K fd ps (n + 1) ks is dds)
    (r : SR X G H σ τ W) (I : Inv X pins τ H s) (rv : Vals vs us) (rz : Vals zs ws) (rd : Rps X.K H es vs) (re : Rps X.K H ez zs) (hl : ∀ ds G E Q, sp ds G E Q → ds.length = ps.length) (h1 : es.length = n) (h2 : ez.length = ks.length)
    (h : ∀ p, G p = none → sp (pickL is ((.ref p :: es) ++ (dds ++ ez))) (put G p (.ins C [])) (nonP fun G3 => Q (.ref p) G3) fun c fs G' => W c fs σ G') : wpAny (model X.prog X.w) X.A (call (.ref C) us (ks.zip ws)) (EP X pins τ (liftQ X.K G H Q)) X.xe s := by
  obtain ⟨its, dvs, hd, hdd, hto⟩ := hb.ex
  have f1 : H s.heap.objs.size = none := I.hok.fresh (Nat.le_refl _)
  have f2 : H (s.heap.objs.size + 1) = none := I.hok.fresh (Nat.le_succ _)
  have ne : s.heap.objs.size + 1 ≠ s.heap.objs.size := Nat.succ_ne_self _
  have hq := h (s.heap.objs.size + 1) (r.sim.no f2)
  have hl' := hl _ _ _ _ hq
  have I2 := Inv.made (C := C) I
  have sm1 : Sim X.K G (upd H s.heap.objs.size (.own (s.heap.objs.size + 1))) := r.sim.newO f1
  have x1 : Ext G H G (upd H s.heap.objs.size (.own (s.heap.objs.size + 1))) := .new f1 (r.sim.no f1)
  have f3 : upd H s.heap.objs.size (.own (s.heap.objs.size + 1)) (s.heap.objs.size + 1) = none := by rw [upd_ne ne]; exact f2
  have sm2 := sm1.newM (m := .ins C []) (o := .ins C s.heap.objs.size []) f3 ⟨_, _, rfl, rfl⟩
  have x2 : Ext G _ (put G (s.heap.objs.size + 1) (.ins C [])) (upd (upd H s.heap.objs.size (.own (s.heap.objs.size + 1))) (s.heap.objs.size + 1) (.ins C s.heap.objs.size [])) := .newM (m := .ins C []) f3
  have xx := x1.trans x2
  have r2 : Vals (pickL is ((V.ref (s.heap.objs.size + 1) :: vs) ++ (dvs ++ zs))) (pickL is ((Value.ref (s.heap.objs.size + 1) :: us) ++ (its ++ ws))) := vals_pick ((show Vals (V.ref (s.heap.objs.size + 1) :: vs) (Value.ref (s.heap.objs.size + 1) :: us) from .cons rfl rv).append (hd.append rz)) is
  have r3 : Rps X.K _ (pickL is ((.ref (s.heap.objs.size + 1) :: es) ++ (dds ++ ez))) (pickL is ((V.ref (s.heap.objs.size + 1) :: vs) ++ (dvs ++ zs))) := rps_pick (Rps.app (show Rps X.K _ (.ref (s.heap.objs.size + 1) :: es) (V.ref (s.heap.objs.size + 1) :: vs) from ⟨_, _, rfl, rfl, rd.ext r.sim xx _ _⟩) ((hdd.rel _).app (re.ext r.sim xx _ _))) is
  have l3 : (pickL is ((V.ref (s.heap.objs.size + 1) :: vs) ++ (dvs ++ zs))).length = ps.length := by rw [r3.length]; exact hl'
  have l4 : (Value.ref (s.heap.objs.size + 1) :: us).length = n + 1 := by rw [List.length_cons, ← rv.length, rd.length, h1]
  have l5 : ws.length = ks.length := by rw [← rz.length, re.length, h2]
  refine wpAny_call (make_map (f := f) I.kIn M.makes M.init (beq_iff_eq.mp M.fn) (codeAny_mono (F.run _ X.stack _ _ ⟨Value.ref (s.heap.objs.size + 1) :: us, ks.zip ws⟩ _ _
    (fun v H' => v = .non ∧ liftQ X.K G H Q (.ref (s.heap.objs.size + 1)) H') (liftX X.K G H fun c fs G' => W c fs σ G') (hr.make C us (ks.zip ws)) (I2.env0.make C us (ks.zip ws)) (hto _ _ ws I2.kIn l4 l5) r2
    ⟨l3, _, _, _, _, r3, sm2, hq, fun v H' ⟨d, G', k1, s1, y1, q1⟩ => ?_, fun c dd H' z => z.up xx⟩) fun z s' hz => ?_))
  · unfold nonP at q1
    split at q1
    · exact ⟨k1, .of (d := .ref _) rfl s1 (xx.trans y1) q1⟩
    · exact q1.elim
  · cases z with
    | error e => exact passK r pins _ _ e s' I2 hz
    | ok fl =>
      cases fl with
      | ret u =>
        obtain ⟨v, H', I3, rv3, ev, q3⟩ := I2.after hz
        subst ev
        exact ⟨rv3, ⟨V.ref (s.heap.objs.size + 1), H', I3, rfl, q3⟩⟩
      | next => exact False.elim hz
      | brk => exact False.elim hz
      | cont => exact False.elim hz
theorem dk_makeK (F : MakKw X.prog X.w X.K X.mg X.base k x C sp n ks is dds) (hr : RoomG j X.A) (ha : DA X (e :: es) ts) (hkw : DKw X kws tk) (hj : k + 1 ≤ j := by decide) (hg : Gl X x := by rfl)
    (hall : (backToKw pos (keywordEach kws X.env)).all (·.1.isSome) = true := by rfl) (hks : (backToKw pos (keywordEach kws X.env)).filterMap (·.1) = ks := by rfl) (hdb : (x == ("__debug__" : Str)) = false := by decide)
    (he : starEach (e :: es) X.env = (false, eval e X.env) :: starEach es X.env := by rfl) (hpl : ((backTo pos (starEach (e :: es) X.env)).any (·.1) || (backToKw pos (keywordEach kws X.env)).any (·.1.isNone)) = false := by rfl) :
    DE X (.Call (.Name x p) (e :: es) kws pos) (dMakeK C sp n ks.length is dds ts tk) := ⟨fun G H σ τ W Q r q pins s I => by
  obtain ⟨f, fd, ps, M, F1, hm, hb, hl⟩ := F.ex
  refine wpAny_Call_Name_kw (ld_glob I hg hm ?_ hdb)
  refine PySem.W.callWith_KW (h₀ := X.base) I.ok.mod.kin M.kp hall (thn ((ha.run G H σ τ W _ r q) pos pins s I) fun us s1 ⟨vs, H1, I1, rv, es', G1, k1, sm1, x1, q1⟩ => ?_) hpl he
  have r1 := r.ext sm1 x1
  refine thn ((hkw.run G1 H1 σ τ W _ r1 q1) pos pins s1 I1) fun ws s2 ⟨zs, H2, I2, rz, ez, G2, k2, sm2, x2, h1, h2, q2⟩ => ⟨I2.kIn, ?_⟩
  rw [hks]
  exact thn (runMK M F1 (hr.mono hj) hb (r1.ext sm2 x2) I2 rv rz (k1.ext sm1 x2 _ _) k2 hl h1 h2 q2) fun _ _ ⟨v, H3, I3, l3, q3⟩ => ⟨v, H3, I3, l3, q3.up (x1.trans x2)⟩⟩
end
/-- every parameter is told, by place or by name; defaults there are -/
theorem kwb_all {K : PySem.W.Frag} {x qual : Str} {params : Arguments} {body : List Stmt} {scope : Scope} {dvs : List V} {f : Addr} {fd : FuncData} {ps : List Str} (F : L2.FunD K x qual params body scope dvs [] f fd) (n : Nat) (ks : List Str) (is : List Nat) (hd : dvs ≠ [])
    (h : ∀ (T : Addr) (kV doc pm : Value) (an : Option Addr) (cdv ct : Value) (us its ws : List Value), us.length = n → its.length = dvs.length → ws.length = ks.length →
      ∃ k, bindArgs (PySem.W.fnOf x qual params body scope (.ref T) kV doc pm an cdv ct) ⟨us, ks.zip ws⟩ = seqItems? (.ref T) >>= k ∧ k (some its.toArray) = pure (ps.zip (pickL is (us ++ ws)))) : KwB K fd ps n ks is [] := by
  obtain ⟨oc, od, dV, kV, doc, pm, an, cdv, ct, osl, rfl, lk, hcd, hD, hK⟩ := F.ex
  rcases hD with ⟨e, _⟩ | ⟨_, T, o, its, m, rfl, lT, oT, rT⟩
  · exact absurd e hd
  · refine ⟨[], [], .nil, ⟨fun H => rfl⟩, fun s us ws X l1 l2 => ?_⟩
    obtain ⟨k, e1, e2⟩ := h T kV doc pm an cdv ct us its ws l1 rT.length.symm l2
    refine BindsTo.of_looks fun M => ?_
    rw [e1, List.nil_append]
    exact looks_items X lT oT (.of_pure e2)
/-! ### o[i] += e, a list, i not below 0 -/
def rGetP (K : PySem.W.Frag) : V → V → Hp → VK → Prop := fun o i H Q => ∃ (p : Addr) (xs : List V) (k : Int) (v : V), o = .ref p ∧ i = .int k ∧ 0 ≤ k ∧ SqL K H p xs ∧ xs[k.toNat]? = some v ∧ Q v H
theorem get_list {X : Cx} : PGet X (rGetP X.K) := by
  intro pins s σ H o i ov iv Q I r1 r2 h
  obtain ⟨p, xs, k, v, rfl, rfl, h0, hq, he, q⟩ := h
  cases r1
  obtain ⟨t, rfl⟩ := r2
  obtain ⟨its, r, pl, hz⟩ := I.list hq
  obtain ⟨w, ew, rw'⟩ := r.get he
  have hl := r.length
  have hn := line63
  have hi : k.toNat < xs.length := (List.getElem?_eq_some_iff.mp he).1
  exact PyProof.Rows.getItem_listL pl.isList h0 (by omega) ew ⟨v, H, I, rw', q⟩
def getO2 (o : Option MO) (k : Int) (G : HD) (Q : Post) : Prop := match o with
  | some (.lst xs) => 0 ≤ k ∧ optP xs[k.toNat]? G Q
  | _ => False
def getP2 (o i : D) (G : HD) (Q : Post) : Prop := match o, i with
  | .ref a, .int k => getO2 (G a) k G Q
  | _, _ => False
def sAugI (g : Int → Int → Int) (to ti te : TD) : TDS := fun W D σ G => to W σ G fun o G1 => ti W σ G1 fun i G2 => getP2 o i G2 fun x G3 => te W σ G3 fun y G4 => dCmpA g x y G4 fun z G5 => rSetD o i z G5 fun G6 => D.nx σ G6
section
variable {X : Cx} {o i e : Expr} {to ti te : TD} {pos tpos : Pos} {op : Operator} {g : Int → Int → Int}
theorem ds_augI (hp : PIp X op (ipI g)) (ho : DE X o to) (hi : DE X i ti) (he : DE X e te)
    (ha : ∀ ov iv new, augStore i ov iv new = (do holding [new, ov, iv] (setItem ov iv new); release [new, ov, iv] []; pure .next) := by intros; rfl) : DS X (.AugAssign (.Subscript o i tpos) op e pos) (sAugI g to ti te) :=
  ⟨fun G H σ τ W D r0 q => semS.of (ps_augS peSem peSem get_list peSem hp set_list ha) (ho.then r0 q fun d x G1 H1 r1 x1 k1 q1 => hi.then r1 q1 fun c y G2 H2 r2 x2 k2 q2 => by
    unfold getP2 at q2
    split at q2
    · rename_i a k
      have k1' := k1.ext r1.sim x2 _ _
      cases k1'; cases k2
      unfold getO2 at q2
      split at q2
      · rename_i xs hG
        obtain ⟨h0, q3⟩ := q2
        obtain ⟨vs, e1, rk⟩ := r2.sim.lst hG
        cases hx : xs[k.toNat]? with
        | none => rw [hx] at q3; exact q3.elim
        | some dx =>
          rw [hx] at q3
          obtain ⟨vx, z1, z2⟩ := rk.get hx
          refine ⟨a, vs, k, vx, rfl, rfl, h0, .of e1, z1, he.then r2 q3 fun ey vy G4 H4 r4 x4 k4 q4 => ?_⟩
          refine od_ipI X.K g G4 H4 dx ey vx vy _ _ r4.sim (z2.ext r2.sim x4 _ _) k4 (fun v H' ⟨d5, G5, k5, s5, x5, q5⟩ => ?_) q4
          refine sd_list X.K G5 H' (.ref a) (.int k) d5 (.ref a) (.int k) v _ _ s5 rfl rfl k5 (fun G6 H6 s6 x6 q6 => ⟨σ, G6, (r4.slots.ext r4.sim x5 _ _).ext s5 x6 _ _, s6, (((x1.trans x2).trans x4).trans x5).trans x6, q6⟩) q5
      · exact q2.elim
    · exact q2.elim)⟩
theorem ds_augIAdd (ho : DE X o to) (hi : DE X i ti) (he : DE X e te) (ha : ∀ ov iv new, augStore i ov iv new = (do holding [new, ov, iv] (setItem ov iv new); release [new, ov, iv] []; pure .next) := by intros; rfl) : DS X (.AugAssign (.Subscript o i tpos) .Add e pos) (sAugI (fun i j => i + j) to ti te) := ds_augI ip_add ho hi he ha
end
/-! ### xs + ys, a new list that may be changed -/
def dAddN : D → D → HD → Post → Prop := fun d e G Q => match asW G d, asW G e with
  | some xs, some ys => xs.length + ys.length ≤ sizeLine ∧ newL G (xs ++ ys) Q
  | _, _ => False
theorem od_addN (K : PySem.W.Frag) : OpD K rCatL dAddN := fun G H d e x y Q Q' s k1 k2 f q => by
  unfold dAddN at q
  split at q
  · rename_i xs ys e1 e2
    obtain ⟨a, vs, rfl, t1, r1⟩ := k1.wr s e1
    obtain ⟨b, ws, rfl, t2, r2⟩ := k2.wr s e2
    exact ⟨a, b, vs, ws, rfl, rfl, t1, t2, by rw [r1.length, r2.length]; exact q.1, newL.fin s (r1.app r2) f q.2⟩
  · exact q.elim
theorem de_addN {X : Cx} {a b : Expr} {ta tb : TD} {pos : Pos} (ha : DE X a ta) (hb : DE X b tb) : DE X (.BinOp a .Add b pos) (dOp dAddN ta tb) := de_op (op := .Add) op_catL (od_addN X.K) ha hb
/-! ### named equations -/
section
variable {G : HD} {Q : Post} {R : HD → Prop} {W : DW} {σ : DSt} {a : Addr} {k : Int} {xs ds : List D} {g : Int → Int → Int} {to ti te : TD} {ts tk : TDA} {D' : DEnds} {C : Addr} {sp : SpD} {n m : Nat} {is : List Nat} {dds : List D}
theorem q_augI : sAugI g to ti te W D' σ G = to W σ G fun o G1 => ti W σ G1 fun i G2 => getP2 o i G2 fun x G3 => te W σ G3 fun y G4 => dCmpA g x y G4 fun z G5 => rSetD o i z G5 fun G6 => D'.nx σ G6 := propext ⟨fun h => h, fun h => h⟩
theorem r_getP2 : getP2 (.ref a) (.int k) G Q = getO2 (G a) k G Q := propext ⟨fun h => h, fun h => h⟩
theorem r_getO2 : getO2 (some (.lst xs)) k G Q = (0 ≤ k ∧ optP xs[k.toNat]? G Q) := propext ⟨fun h => h, fun h => h⟩
theorem r_cmpA {i j : Int} : dCmpA g (.int i) (.int j) G Q = Q (.int (g i j)) G := propext ⟨fun h => h, fun h => h⟩
theorem q_makeK : dMakeK C sp n m is dds ts tk W σ G Q = ts W σ G fun ds G1 => tk W σ G1 fun zs G2 => ds.length = n ∧ zs.length = m ∧ makP2 C sp is dds ds zs G2 Q fun c fs G' => W c fs σ G' := propext ⟨fun h => h, fun h => h⟩
theorem q_enum {R : ItD → HD → Prop} : jEnum ts W σ G R = ts W σ G fun ds G1 => match ds with
  | [d] => enumP d G1 R
  | _ => False := propext ⟨fun h => h, fun h => h⟩
theorem r_enumP {R : ItD → HD → Prop} : enumP (.ref a) G R = enumO (G a) a G R := propext ⟨fun h => h, fun h => h⟩
theorem r_enumO {R : ItD → HD → Prop} : enumO (some (.lst ds)) a G R = R ⟨enumD 0 ds, fun G => G a = some (.lst ds)⟩ G := propext ⟨fun h => h, fun h => h⟩
theorem r_repK : dRepL (.kl xs) (.int k) G Q = (0 ≤ k ∧ k ≤ 1000 ∧ xs.length ≤ 1000 ∧ newL G (List.replicate k.toNat xs).flatten Q) := propext ⟨fun h => h, fun h => h⟩
theorem r_addNK {ys : List D} : dAddN (.kl xs) (.kl ys) G Q = (xs.length + ys.length ≤ sizeLine ∧ newL G (xs ++ ys) Q) := propext ⟨fun h => h, fun h => h⟩
theorem r_inIK {i : Int} {b : Bool} : dInI b (.int i) (.kl xs) G Q = inIo b (asInts xs) i G Q := propext ⟨fun h => h, fun h => h⟩
theorem r_inIT {i : Int} {b : Bool} : dInI b (.int i) (.tup xs) G Q = inIo b (asInts xs) i G Q := propext ⟨fun h => h, fun h => h⟩
theorem i_inI {i : Int} {b : Bool} {ns : List Int} (h : asInts xs = some ns) (q : Q (.bl (if b then !decide (i ∈ ns) else decide (i ∈ ns))) G) : inIo b (asInts xs) i G Q := by
  rw [h]; exact q
end
end DL

namespace DL
open PySem PySem.Spec L2
open PyProof.Rows hiding St
/-! ### {'k': v, ..} -/
def dDisp (ks : List Str) (ts : TDA) : TD := fun W σ G Q => ∀ p, G p = none → ts W σ (put G p (.dK [])) fun ds G2 => G2 p = some (.dK []) ∧ Q (.ref p) (put G2 p (.dK ((ks.zip ds).map fun q => (Sum.inr q.1, q.2))))
structure DPs (X : Cx) (pos : Pos) (keys : List (Option Expr)) (values : List Expr) (ks : List Str) (ts : TDA) : Prop where
  ex : ∃ trs, PPs X pos keys values trs ∧ ∀ (G : HD) (H : Hp) (σ : DSt) (τ : L2.St) (W : DW) (Q : List D → HD → Prop) (R : List (V × V) → Hp → Prop), SR X G H σ τ W → ts W σ G Q →
    (∀ vs H' ds G', vs.length = ks.length → Rps X.K H' ds vs → Sim X.K G' H' → Ext G H G' H' → Q ds G' → R ((ks.zip vs).map fun q => (V.str q.1, q.2)) H') → tPairs trs τ H R
section
variable {X : Cx} {pos : Pos} {keys : List (Option Expr)} {values : List Expr} {ks : List Str} {ts : TDA} {ke v : Expr} {k : Str} {te : TD}
theorem dps_nil : DPs X pos [] [] [] dNil := ⟨[], pps_nil, fun G H σ τ W Q R r q f => f [] H [] G rfl rfl r.sim .refl q⟩
theorem dps_cons (hk : DE X ke (dC (.str k))) (hv : DE X v te) (hr : DPs X pos keys values ks ts) : DPs X pos (some ke :: keys) (v :: values) (k :: ks) (dCons te ts) := by
  obtain ⟨trs, hp, hrun⟩ := hr.ex
  refine ⟨(semE X ke, semE X v) :: trs, pps_cons peSem peSem hp, fun G H σ τ W Q R r q f => ?_⟩
  refine hk.then r (R := fun d G1 => d = .str k ∧ te W σ G1 fun d G1 => ts W σ G1 fun ds G2 => Q (d :: ds) G2) ⟨rfl, q⟩ fun d x G1 H1 r1 x1 k1 q1 => ?_
  obtain ⟨rfl, q1⟩ := q1
  cases k1
  refine hv.then r1 q1 fun d y G2 H2 r2 x2 k2 q2 => ?_
  exact hrun G2 H2 σ τ W _ _ r2 q2 fun vs H' ds G' e2 k3 s3 x3 q3 => f (y :: vs) H' (d :: ds) G' (congrArg Nat.succ e2) ⟨y, vs, rfl, k2.ext r2.sim x3 _ _, k3⟩ s3 ((x1.trans x2).trans x3) q3
theorem mergeK_app {κ : Type} [DecidableEq κ] : ∀ {l kvs : List (κ × V)}, (kvs.map (·.1) ++ l.map (·.1)).Nodup → l.foldl (fun acc kv => putK acc kv.1 kv.2) kvs = kvs ++ l
  | [], kvs, _ => by simp
  | p :: l, kvs, h => by
    have hp : ¬ (kvs.any fun kv => decide (kv.1 = p.1)) = true := fun z => by
      obtain ⟨q, hq, e⟩ := List.any_eq_true.mp z
      have e := of_decide_eq_true e
      exact (List.nodup_append.mp h).2.2 q.1 (List.mem_map.mpr ⟨q, hq, rfl⟩) p.1 List.mem_cons_self e
    show l.foldl _ (putK kvs p.1 p.2) = _
    have e1 : putK kvs p.1 p.2 = kvs ++ [p] := by unfold putK; rw [if_neg hp]
    rw [e1, mergeK_app (by simpa using h)]
    simp
theorem rkv_zip {K : PySem.W.Frag} {H : Hp} : ∀ {ks : List Str} {ds : List D} {vs : List V}, Rps K H ds vs → RKV K H ((ks.zip ds).map fun q => ((Sum.inr q.1 : Key), q.2)) ((ks.zip vs).map fun q => ((Sum.inr q.1 : Key), q.2))
  | [], _, _, _ => rfl
  | k :: ks, [], _, h => by cases h; exact rfl
  | k :: ks, d :: ds, _, ⟨v, r, e, h1, h2⟩ => by
    subst e
    exact ⟨v, _, rfl, h1, rkv_zip h2⟩
theorem de_disp (h : DPs X pos keys values ks ts) (hn : ks.Nodup) (hall : keys.all (·.isSome) = true := by rfl) (hl : keys.length = values.length := by rfl) (h0 : keys ≠ [] := by simp) (h15 : ks.length ≤ 15 := by decide) (hk15 : keys.length ≤ 15 := by decide) : DE X (.Dict keys values pos) (dDisp ks ts) := by
  obtain ⟨trs, hp, hrun⟩ := h.ex
  refine ⟨fun G H σ τ W Q r q => semE.of (pe_disp hp hall hl h0 hk15) fun p hpn => ?_⟩
  have s1 := r.sim.newM (m := .dK []) (o := .dK []) hpn ⟨[], rfl, rfl⟩
  have x1 : Ext G H (put G p (.dK [])) (upd H p (.dK [])) := .newM (m := .dK []) hpn
  refine hrun _ _ σ τ W _ _ (r.ext s1 x1) (q p (r.sim.no hpn)) fun vs H' ds G' e2 k3 s3 x3 q3 => ?_
  obtain ⟨hG, q3⟩ := q3
  obtain ⟨m, e1, rk⟩ := s3.dK hG
  cases rk
  have hm : mergeK [] ((ks.zip vs).map fun q => ((Sum.inr q.1 : Key), q.2)) = (ks.zip vs).map fun q => ((Sum.inr q.1 : Key), q.2) := by
    unfold mergeK
    rw [mergeK_app, List.nil_append]
    rw [List.map_nil, List.nil_append, List.map_map]
    have : (ks.zip vs).map ((fun x : Key × V => x.1) ∘ fun q : Str × V => ((Sum.inr q.1 : Key), q.2)) = ks.map Sum.inr := by
      have : ks = (ks.zip vs).map Prod.fst := (List.map_fst_zip (by omega)).symm
      rw [show (ks.map Sum.inr : List Key) = ((ks.zip vs).map Prod.fst).map Sum.inr from by rw [← this], List.map_map]
      rfl
    rw [this]
    exact List.Pairwise.map _ (fun a b hab z => hab (Sum.inr.inj z)) hn
  refine ⟨e1, (ks.zip vs).map fun q => ((Sum.inr q.1 : Key), q.2), by rw [List.map_map]; rfl, by rw [List.length_map, List.length_zip]; omega, ?_⟩
  rw [hm]
  exact .of (d := .ref p) rfl (s3.wr (m := .dK ((ks.zip ds).map fun q => (Sum.inr q.1, q.2))) (o := .dK ((ks.zip vs).map fun q => ((Sum.inr q.1 : Key), q.2))) hG ⟨_, rfl, rkv_zip k3⟩) ((x1.trans x3).trans (.wr hG)) q3
end
theorem q_disp {ks : List Str} {ts : TDA} {W : DW} {σ : DSt} {G : HD} {Q : Post} : dDisp ks ts W σ G Q = ∀ p, G p = none → ts W σ (put G p (.dK [])) fun ds G2 => G2 p = some (.dK []) ∧ Q (.ref p) (put G2 p (.dK ((ks.zip ds).map fun q => (Sum.inr q.1, q.2)))) := propext ⟨fun h => h, fun h => h⟩
end DL

namespace DL
open PySem PySem.Spec L2
open PyProof.Rows hiding St
/-! ### keyword-only parameters and their defaults -/
inductive KwF (K : PySem.W.Frag) (KD : Addr) : List Str → List D → Prop where
  | nil : KwF K KD [] []
  | cons {x : Str} {u : Value} {d : D} {kn : List Str} {kds : List D} (h : PySem.W.nsIn K KD x = some (some u)) (v : ValF K u d) (t : KwF K KD kn kds) : KwF K KD (x :: kn) (d :: kds)
theorem KwF.to {K : PySem.W.Frag} {KD : Addr} {kn : List Str} {kds : List D} (h : KwF K KD kn kds) : ∃ kvs : List V, kvs.length = kn.length ∧ (∀ H, Rps K H kds kvs) ∧ ∀ q ∈ kn.zip kvs, ∃ u, PySem.W.nsIn K KD q.1 = some (some u) ∧ RelV q.2 u := by
  induction h with
  | nil => exact ⟨[], rfl, fun _ => rfl, fun q hq => by cases hq⟩
  | cons h v _ ih =>
    obtain ⟨w, r, p⟩ := v.to
    obtain ⟨kvs, l, ps, q⟩ := ih
    refine ⟨w :: kvs, congrArg Nat.succ l, fun H => ⟨w, kvs, rfl, p H, ps H⟩, fun q' hq => ?_⟩
    rcases List.mem_cons.mp hq with e | hq
    · rw [e]; exact ⟨_, h, r⟩
    · exact q q' hq
def DefF2 (K : PySem.W.Frag) (mg : Str → Option Value) (x : Str) (st : Stmt) (dds : List D) (kn : List Str) (kds : List D) : Prop := ∃ (f : Addr) (fd : FuncData) (dvs kvs : List V), Dfl K dds dvs ∧ kvs.length = kn.length ∧ Dfl K kds kvs ∧ L2.FunD K x x (defArgs st) (defBody st) (defScope st) dvs (kn.zip kvs) f fd ∧ mg x = some (.ref f)
def MetF2 (K : PySem.W.Frag) (C : Addr) (m qual : Str) (st : Stmt) (dds : List D) (kn : List Str) (kds : List D) : Prop := ∃ (f : Addr) (fd : FuncData) (dvs kvs : List V), Dfl K dds dvs ∧ kvs.length = kn.length ∧ Dfl K kds kvs ∧ L2.FunD K m qual (defArgs st) (defBody st) (defScope st) dvs (kn.zip kvs) f fd ∧ Meth K C m f
section
variable {K : PySem.W.Frag} {x qual : Str} {pa : Arguments} {bd : List Stmt} {sc : Scope} {f T KD : Addr} {oc kV dc pm cd ct : Value} {od an : Option Addr} {sl : Array (Option Value)} {o : Obj} {ds : List D} {dvs : List V} {kws : List (Str × V)} {fd : FuncData} {ps : List Str} {kn : List Str} {kds : List D}
theorem FunD.nokw (F : L2.FunD K x qual pa bd sc dvs kws f fd) : L2.FunD K x qual pa bd sc dvs [] f fd := by
  obtain ⟨oc, od, dV, kV, doc, pm, an, cdv, ct, osl, e, lk, hcd, hD, _⟩ := F.ex
  exact ⟨⟨oc, od, dV, kV, doc, pm, an, cdv, ct, osl, e, lk, hcd, hD, .inl rfl⟩, F.kp⟩
theorem Dfl.app {a b : List D} {x y : List V} (h : Dfl K a x) (k : Dfl K b y) : Dfl K (a ++ b) (x ++ y) := ⟨fun H => (h.rel H).app (k.rel H)⟩
theorem fun_ndK (l : K.lookup f = some ⟨oc, od, .func (PySem.W.fnOf x qual pa bd sc .none (.ref KD) dc pm an cd ct), sl⟩) (c : PySem.W.codeIn K cd qual = true) (k : PySem.W.keepIn K (.ref f) = true) (h : KwF K KD kn kds) :
    ∃ dvs kvs : List V, Dfl K [] dvs ∧ kvs.length = kn.length ∧ Dfl K kds kvs ∧ L2.FunD K x qual pa bd sc dvs (kn.zip kvs) f (PySem.W.fnOf x qual pa bd sc .none (.ref KD) dc pm an cd ct) := by
  obtain ⟨kvs, e1, e2, e3⟩ := h.to
  exact ⟨[], kvs, .nil, e1, ⟨e2⟩, ⟨⟨oc, od, .none, .ref KD, dc, pm, an, cd, ct, sl, rfl, l, c, .inl ⟨rfl, rfl⟩, .inr ⟨KD, rfl, e3⟩⟩, k⟩⟩
theorem DflF.mkK (h : DflF K o ds) (m : K.lookup T = some o) (l : K.lookup f = some ⟨oc, od, .func (PySem.W.fnOf x qual pa bd sc (.ref T) (.ref KD) dc pm an cd ct), sl⟩) (c : PySem.W.codeIn K cd qual = true) (k : PySem.W.keepIn K (.ref f) = true) (hk : KwF K KD kn kds) :
    ∃ dvs kvs : List V, Dfl K ds dvs ∧ kvs.length = kn.length ∧ Dfl K kds kvs ∧ L2.FunD K x qual pa bd sc dvs (kn.zip kvs) f (PySem.W.fnOf x qual pa bd sc (.ref T) (.ref KD) dc pm an cd ct) := by
  obtain ⟨its, n, h1, h2, h3⟩ := h.ex
  obtain ⟨vs, r, p⟩ := h2.to
  obtain ⟨kvs, e1, e2, e3⟩ := hk.to
  refine ⟨vs, kvs, ⟨p⟩, e1, ⟨e2⟩, ⟨⟨oc, od, .ref T, .ref KD, dc, pm, an, cd, ct, sl, rfl, l, c, .inr ⟨?_, T, o, its, n, rfl, m, h1, r⟩, .inr ⟨KD, rfl, e3⟩⟩, k⟩⟩
  rintro rfl
  have := (p (fun _ => none)).length
  cases ds with
  | nil => exact h3 rfl
  | cons _ _ => cases this
/-- some parameters are told, some keyword-only ones (ms) lack; the defaults dds of the others, then those of ms, stand between -/
theorem kwb_kw {params : Arguments} {body : List Stmt} {scope : Scope} (F : L2.FunD K x qual params body scope dvs kws f fd) (n : Nat) (ks : List Str) (is : List Nat) (ms : List (Str × V)) {dds mds : List D} (hd : dvs ≠ []) (hk : kws ≠ []) (hms : ∀ q ∈ ms, q ∈ kws) (hdd : Dfl K dds dvs) (hmd : Dfl K mds (ms.map (·.2)))
    (h : ∀ (T D : Addr) (doc pm : Value) (an : Option Addr) (cdv ct : Value) (us its mv ws : List Value), us.length = n → its.length = dvs.length → mv.length = ms.length → ws.length = ks.length →
      ∃ k, bindArgs (PySem.W.fnOf x qual params body scope (.ref T) (.ref D) doc pm an cdv ct) ⟨us, ks.zip ws⟩ = seqItems? (.ref T) >>= k ∧ KwChain D ((ms.map (·.1)).zip mv) (k (some its.toArray)) (ps.zip (pickL is (us ++ ((its ++ mv) ++ ws))))) : KwB K fd ps n ks is (dds ++ mds) := by
  obtain ⟨oc, od, dV, kV, doc, pm, an, cdv, ct, osl, rfl, lk, hcd, hD, hK⟩ := F.ex
  rcases hD with ⟨e, _⟩ | ⟨_, T, o, its, m, rfl, lT, oT, rT⟩
  · exact absurd e hd
  · rcases hK with e | ⟨D, rfl, hq⟩
    · exact absurd e hk
    · obtain ⟨mv, hl, rk, hks⟩ := kwd_vals (ms := ms) fun q hm => hq q (hms q hm)
      refine ⟨its ++ mv, dvs ++ ms.map (·.2), rT.append rk, hdd.app hmd, fun s us ws X l1 l2 => ?_⟩
      obtain ⟨k, e1, e2⟩ := h T D doc pm an cdv ct us its mv ws l1 rT.length.symm hl l2
      refine BindsTo.of_looks fun M => ?_
      rw [e1]
      exact looks_items X lT oT (KwChain.looks X hks e2)
end
end DL

namespace DL
open PySem PySem.Spec L2
open PyProof.Rows hiding St
/-! ### repr, inside a handler too -/
theorem bc_reprU {X : Cx} {p pos : Pos} {e : Expr} {ts : TDA} (hgd : X.A.guards = some []) (hun : X.A.units + 64 < cLine) (hm : X.mg "repr" = none) (ha : DA X [e] ts) (hg : Gl X "repr" := by rfl) (he : starEach [e] X.env = (false, eval e X.env) :: starEach [] X.env := by rfl) : DE X (.Call (.Name "repr" p) [e] [] pos) (dCB rReprD ts) :=
  de_cb (CallR.or (call_rep0 hgd hun) (call_repE hgd hun)) (cd_repr X.K) hm (by decide +kernel) ha hg (by decide) (by decide) he (by rfl)
theorem bc_reprXU {X : Cx} {p pos : Pos} {e : Expr} {ts : TDA} (hgd : X.A.guards = some []) (hun : X.A.units + 64 < cLine) (hm : X.mg "repr" = none) (ha : DA X [e] ts) (hg : Gl X "repr" := by rfl) (he : starEach [e] X.env = (false, eval e X.env) :: starEach [] X.env := by rfl) : DE X (.Call (.Name "repr" p) [e] [] pos) (dCB rReprX ts) :=
  de_cb (CallR.or (CallR.or (call_rep0 hgd hun) (call_repE hgd hun)) (call_repT hgd hun)) (cd_reprX X.K) hm (by decide +kernel) ha hg (by decide) (by decide) he (by rfl)
end DL


namespace P
open PySem PySem.Spec L2 DL
/-! ### the addresses that the top gives -/
structure Env where
  C_Shelf : Addr
  C_Gone : Addr
  C_NoKey : Addr
  C_NoNumber : Addr
  C_NoStamp : Addr
  C_NoWorth : Addr
  C_WaitError : Addr
  xm : Value → Value → Bool → Prop
  xf : Addr → Str → Prop
  ec : Addr → Value → Bool → Prop
  ok : Addr → Str → Prop
  ic : String ⊕ Addr → String ⊕ Addr → Bool → Prop
/-- what holds of them -/
structure Env.Good (e : Env) : Prop where
  triv : True
  ok_Shelf_gone_till : e.ok e.C_Shelf "gone_till"
  ok_Shelf_rows_of : e.ok e.C_Shelf "rows_of"
  xm_Gone_Gone : e.xm (.ref e.C_Gone) (.ref e.C_Gone) true
  xm_Gone_NoKey : e.xm (.ref e.C_Gone) (.ref e.C_NoKey) false
  xm_Gone_NoNumber : e.xm (.ref e.C_Gone) (.ref e.C_NoNumber) false
  xm_Gone_NoStamp : e.xm (.ref e.C_Gone) (.ref e.C_NoStamp) false
  xm_Gone_NoWorth : e.xm (.ref e.C_Gone) (.ref e.C_NoWorth) false
  xm_Gone_WaitError : e.xm (.ref e.C_Gone) (.ref e.C_WaitError) false
  xm_NoKey_Gone : e.xm (.ref e.C_NoKey) (.ref e.C_Gone) false
  xm_NoKey_NoKey : e.xm (.ref e.C_NoKey) (.ref e.C_NoKey) true
  xm_NoKey_NoNumber : e.xm (.ref e.C_NoKey) (.ref e.C_NoNumber) false
  xm_NoKey_NoStamp : e.xm (.ref e.C_NoKey) (.ref e.C_NoStamp) false
  xm_NoKey_NoWorth : e.xm (.ref e.C_NoKey) (.ref e.C_NoWorth) false
  xm_NoKey_WaitError : e.xm (.ref e.C_NoKey) (.ref e.C_WaitError) false
  xm_NoNumber_Gone : e.xm (.ref e.C_NoNumber) (.ref e.C_Gone) false
  xm_NoNumber_NoKey : e.xm (.ref e.C_NoNumber) (.ref e.C_NoKey) false
  xm_NoNumber_NoNumber : e.xm (.ref e.C_NoNumber) (.ref e.C_NoNumber) true
  xm_NoNumber_NoStamp : e.xm (.ref e.C_NoNumber) (.ref e.C_NoStamp) false
  xm_NoNumber_NoWorth : e.xm (.ref e.C_NoNumber) (.ref e.C_NoWorth) false
  xm_NoNumber_WaitError : e.xm (.ref e.C_NoNumber) (.ref e.C_WaitError) false
  xm_NoStamp_Gone : e.xm (.ref e.C_NoStamp) (.ref e.C_Gone) false
  xm_NoStamp_NoKey : e.xm (.ref e.C_NoStamp) (.ref e.C_NoKey) false
  xm_NoStamp_NoNumber : e.xm (.ref e.C_NoStamp) (.ref e.C_NoNumber) false
  xm_NoStamp_NoStamp : e.xm (.ref e.C_NoStamp) (.ref e.C_NoStamp) true
  xm_NoStamp_NoWorth : e.xm (.ref e.C_NoStamp) (.ref e.C_NoWorth) false
  xm_NoStamp_WaitError : e.xm (.ref e.C_NoStamp) (.ref e.C_WaitError) false
  xm_NoWorth_Gone : e.xm (.ref e.C_NoWorth) (.ref e.C_Gone) false
  xm_NoWorth_NoKey : e.xm (.ref e.C_NoWorth) (.ref e.C_NoKey) false
  xm_NoWorth_NoNumber : e.xm (.ref e.C_NoWorth) (.ref e.C_NoNumber) false
  xm_NoWorth_NoStamp : e.xm (.ref e.C_NoWorth) (.ref e.C_NoStamp) false
  xm_NoWorth_NoWorth : e.xm (.ref e.C_NoWorth) (.ref e.C_NoWorth) true
  xm_NoWorth_WaitError : e.xm (.ref e.C_NoWorth) (.ref e.C_WaitError) false
  xm_WaitError_Gone : e.xm (.ref e.C_WaitError) (.ref e.C_Gone) false
  xm_WaitError_NoKey : e.xm (.ref e.C_WaitError) (.ref e.C_NoKey) false
  xm_WaitError_NoNumber : e.xm (.ref e.C_WaitError) (.ref e.C_NoNumber) true
  xm_WaitError_NoStamp : e.xm (.ref e.C_WaitError) (.ref e.C_NoStamp) true
  xm_WaitError_NoWorth : e.xm (.ref e.C_WaitError) (.ref e.C_NoWorth) true
  xm_WaitError_WaitError : e.xm (.ref e.C_WaitError) (.ref e.C_WaitError) true
  xf_Gone_time : e.xf e.C_Gone "time"
  ec_Gone_KeyError : e.ec e.C_Gone (.type "KeyError") false
  ec_Gone_NoNumber : e.ec e.C_Gone (.ref e.C_NoNumber) false
  ec_Gone_NoStamp : e.ec e.C_Gone (.ref e.C_NoStamp) false
  ec_Gone_NoWorth : e.ec e.C_Gone (.ref e.C_NoWorth) false
  ec_Gone_ValueError : e.ec e.C_Gone (.type "ValueError") false
  xf_NoKey_key : e.xf e.C_NoKey "key"
  ec_NoKey_KeyError : e.ec e.C_NoKey (.type "KeyError") true
  ec_NoKey_NoNumber : e.ec e.C_NoKey (.ref e.C_NoNumber) false
  ec_NoKey_NoStamp : e.ec e.C_NoKey (.ref e.C_NoStamp) false
  ec_NoKey_NoWorth : e.ec e.C_NoKey (.ref e.C_NoWorth) false
  ec_NoKey_ValueError : e.ec e.C_NoKey (.type "ValueError") false
  ec_NoNumber_KeyError : e.ec e.C_NoNumber (.type "KeyError") false
  ec_NoNumber_NoNumber : e.ec e.C_NoNumber (.ref e.C_NoNumber) true
  ec_NoNumber_NoStamp : e.ec e.C_NoNumber (.ref e.C_NoStamp) false
  ec_NoNumber_NoWorth : e.ec e.C_NoNumber (.ref e.C_NoWorth) false
  ec_NoNumber_ValueError : e.ec e.C_NoNumber (.type "ValueError") true
  ec_NoStamp_KeyError : e.ec e.C_NoStamp (.type "KeyError") false
  ec_NoStamp_NoNumber : e.ec e.C_NoStamp (.ref e.C_NoNumber) false
  ec_NoStamp_NoStamp : e.ec e.C_NoStamp (.ref e.C_NoStamp) true
  ec_NoStamp_NoWorth : e.ec e.C_NoStamp (.ref e.C_NoWorth) false
  ec_NoStamp_ValueError : e.ec e.C_NoStamp (.type "ValueError") true
  ec_NoWorth_KeyError : e.ec e.C_NoWorth (.type "KeyError") false
  ec_NoWorth_NoNumber : e.ec e.C_NoWorth (.ref e.C_NoNumber) false
  ec_NoWorth_NoStamp : e.ec e.C_NoWorth (.ref e.C_NoStamp) false
  ec_NoWorth_NoWorth : e.ec e.C_NoWorth (.ref e.C_NoWorth) true
  ec_NoWorth_ValueError : e.ec e.C_NoWorth (.type "ValueError") true
  ec_WaitError_KeyError : e.ec e.C_WaitError (.type "KeyError") false
  ec_WaitError_NoNumber : e.ec e.C_WaitError (.ref e.C_NoNumber) false
  ec_WaitError_NoStamp : e.ec e.C_WaitError (.ref e.C_NoStamp) false
  ec_WaitError_NoWorth : e.ec e.C_WaitError (.ref e.C_NoWorth) false
  ec_WaitError_ValueError : e.ec e.C_WaitError (.type "ValueError") true
/-! ### what each def does -/
-- _law_begun: slots 0 _law_script, 1 _law_k, 2 _law_cell, 3 _law_number, 4 _law_mixed,
def w_law_begun (e : Env) : SpD := wpf 2 3
    (sSeq (sSet 2 (dOp dIx (dOp dAddV (dSliceV (dVar 0) (oSome (dVar 1)) (oSome (dOp dAddV (dVar 1) (dC (.int 1))))) (dLstV (dCons (dC (.int 0)) (dNil)))) (dC (.int 0))))
    (sSeq (sSet 3 (dCB rMax2 (dCons (dVar 2) (dCons (dOp dSub (dUn dNeg (dC (.int 1))) (dVar 2)) (dNil)))))
    (sSeq (sSet 4 (dOp dMod (dOp dAddV (dOp dAddV (dOp dAddV (dOp dMod (dVar 3) (dC (.int 2147483629))) (dOp dMul (dC (.int 7919)) (dVar 1))) (dOp dMul (dOp dMul (dC (.int 104729)) (dVar 1)) (dVar 1))) (dC (.int 11))) (dC (.int 2147483629))))
    (sRet (dLst (dCons (dVar 3) (dCons (dVar 4) (dCons (dOp (dCmpI fun i j => decide (j ≤ i)) (dVar 3) (dOp dPow (dC (.int 10)) (dC (.int 18)))) (dNil)))))))))
-- Shelf.__init__: slots 0 self,
def w_Shelf_init (e : Env) : SpD := wpf 1 0
    (sSeq (sFldD e.ok "rows_of" (dVar 0) (dDic))
    (sFldD e.ok "gone_till" (dVar 0) (dC .non)))
-- _law_take: slots 0 _law_state_here, 1 _law_many, 2 _law_digit, 3 _law_made, 4 _law_turn,
def l_law_take_1 (e : Env) : TDS :=
    (sSeq (sSub (dVar 0) (dC (.int 1)) (dOp dMod (dOp dAddV (dOp dMul (dOp dIx (dVar 0) (dC (.int 1))) (dC (.int 48271))) (dC (.int 11))) (dC (.int 2147483647))) rSetD)
    (sSet 3 (dOp dAddV (dOp dMul (dVar 3) (dC (.int 2147483587))) (dOp dMod (dOp dMul (dOp dIx (dVar 0) (dC (.int 1))) (dOp dIx (dVar 0) (dC (.int 1)))) (dC (.int 2147483587))))))
def w_law_take (e : Env) : SpD := wpf 2 3
    (sSeq (sIf (dTru (dOp dIx (dVar 0) (dC (.int 2))))
    (sSeq (sSet 2 (dOp dMod (dOp dIx (dVar 0) (dC (.int 0))) (dVar 1)))
    (sSeq (sSub (dVar 0) (dC (.int 0)) (dOp dDiv (dOp dIx (dVar 0) (dC (.int 0))) (dVar 1)) rSetD)
    (sSeq (sSub (dVar 0) (dC (.int 2)) (dOp (dCmpI fun i j => decide (j < i)) (dOp dIx (dVar 0) (dC (.int 0))) (dC (.int 0))) rSetD)
    (sRet (dVar 2)))))
    (sNext))
    (sSeq (sSet 3 (dC (.int 0)))
    (sSeq (sFor (jRng1 (dCons (dOp dAddV (dC (.int 1)) (dCB rInt (dCons (dOp (dCmpI fun i j => decide (j < i)) (dVar 1) (dOp dPow (dC (.int 10)) (dC (.int 6)))) (dNil)))) (dNil))) (.one 4)
    (l_law_take_1 e))
    (sRet (dOp dMod (dOp dDiv (dVar 3) (dC (.int 64))) (dVar 1))))))
-- _law_key: slots 0 _law_state_here,
def w_law_key (e : Env) : SpD := wpf 1 0
    (sRet (dOp dIx (dLstV (dCons (dC (.str "a")) (dCons (dC (.str "b")) (dCons (dC (.str "ab")) (dCons (dC (.str "zzzzzz")) (dCons (dC (.str "house")) (dCons (dC (.str "q")) (dNil)))))))) (dCall (w_law_take e) [] (dCons (dVar 0) (dCons (dC (.int 6)) (dNil))))))
-- _law_stamp: slots 0 _law_state_here, 1 _law_last, 2 _law_time, 3 _law_serial, 4 _law_stamp_here,
def w_law_stamp (e : Env) : SpD := wpf 2 3
    (sSeq (sSet 2 (dOp dAddV (dOp dIx (dVar 1) (dC (.int 0))) (dOp dIx (dLstV (dCons (dC (.int 0)) (dCons (dC (.int 0)) (dCons (dC (.int 1)) (dCons (dCall (w_law_take e) [] (dCons (dVar 0) (dCons (dC (.int 5)) (dNil)))) (dNil)))))) (dCall (w_law_take e) [] (dCons (dVar 0) (dCons (dC (.int 4)) (dNil)))))))
    (sSeq (sSet 3 (dOp dIx (dLstV (dCons (dOp dIx (dVar 1) (dC (.int 1))) (dCons (dOp dAddV (dOp dIx (dVar 1) (dC (.int 1))) (dC (.int 1))) (dCons (dCall (w_law_take e) [] (dCons (dVar 0) (dCons (dC (.int 9)) (dNil)))) (dNil))))) (dCall (w_law_take e) [] (dCons (dVar 0) (dCons (dC (.int 3)) (dNil))))))
    (sSeq (sSet 4 (dTup (dCons (dVar 2) (dCons (dVar 3) (dCons (dCall (w_law_take e) [] (dCons (dVar 0) (dCons (dC (.int 4)) (dNil)))) (dNil))))))
    (sSeq (sIf (dTest (dOp (dCmpT (fun i j => decide (j < i)) fun ns ms => PySem.W.listLt ms ns) (dVar 4) (dVar 1)))
    (sRet (dVar 4))
    (sNext))
    (sRet (dTup (dCons (dOp dIx (dVar 1) (dC (.int 0))) (dCons (dOp dAddV (dOp dIx (dVar 1) (dC (.int 1))) (dC (.int 1))) (dCons (dCall (w_law_take e) [] (dCons (dVar 0) (dCons (dC (.int 4)) (dNil)))) (dNil))))))))))
-- is_key: slots 0 thing, 1 sign,
def w_is_key (e : Env) : SpD := wpf 1 1
    (sRet (dAndV (dCB (rIsiE e.ic e.ec) (dCons (dVar 0) (dCons (dC (.ty "str")) (dNil)))) (dAndV (dChn (dC (.int 1)) (dLink (dCmpI fun i j => decide (i ≤ j)) (dCB rLen (dCons (dVar 0) (dNil))) (dLast (dCmpI fun i j => decide (i ≤ j)) (dC (.int 6))))) (dCB (rAllD fun bs => bs.all id) (dCons (dLcV (jStr (dVar 0)) (.one 1) (dYes) (dOp (dInS false) (dVar 1) (dC (.str "abcdefghijklmnopqrstuvwxyz"))) [1]) (dNil))))))
-- look_at_key: slots 0 thing,
def w_look_at_key (e : Env) : SpD := wpf 1 0
    (sIf (dNot (dTru (dCall (w_is_key e) [] (dCons (dVar 0) (dNil)))))
    (sRaiseX e.C_NoKey ["key"] (dCons (dVar 0) (dNil)))
    (sNext))
-- is_whole: slots 0 thing,
def w_is_whole (e : Env) : SpD := wpf 1 0
    (sRet (dAndV (dCB (rIsiE e.ic e.ec) (dCons (dVar 0) (dCons (dC (.ty "int")) (dNil)))) (dNotV (dCB (rIsiE e.ic e.ec) (dCons (dVar 0) (dCons (dC (.ty "bool")) (dNil)))))))
-- is_worth: slots 0 thing, 1 one,
def w_is_worth (e : Env) : SpD := wpf 1 1
    (sRet (dAndV (dCB (rIsiE e.ic e.ec) (dCons (dVar 0) (dCons (dC (.ty "tuple")) (dNil)))) (dAndV (dChn (dC (.int 1)) (dLink (dCmpI fun i j => decide (i ≤ j)) (dCB rLen (dCons (dVar 0) (dNil))) (dLast (dCmpI fun i j => decide (i ≤ j)) (dC (.int 4))))) (dCB (rAllD fun bs => bs.all id) (dCons (dLcV (jSeq (dVar 0)) (.one 1) (dYes) (dCall (w_is_whole e) [] (dCons (dVar 1) (dNil))) [1]) (dNil))))))
-- is_stamp: slots 0 thing, 1 one,
def w_is_stamp (e : Env) : SpD := wpf 1 1
    (sSeq (sIf (dOr (dNot (dTru (dCB (rIsiE e.ic e.ec) (dCons (dVar 0) (dCons (dC (.ty "tuple")) (dNil)))))) (dOr (dTest (dOp (dEqX true) (dCB rLen (dCons (dVar 0) (dNil))) (dC (.int 3)))) (dNot (dTru (dCB (rAllD fun bs => bs.all id) (dCons (dLcV (jSeq (dVar 0)) (.one 1) (dYes) (dCall (w_is_whole e) [] (dCons (dVar 1) (dNil))) [1]) (dNil)))))))
    (sRet (dC (.bl false)))
    (sNext))
    (sRet (dAndV (dOp (dCmpI fun i j => decide (j ≤ i)) (dOp dIx (dVar 0) (dC (.int 1))) (dC (.int 0))) (dOp (dCmpI fun i j => decide (j ≤ i)) (dOp dIx (dVar 0) (dC (.int 2))) (dC (.int 0))))))
-- Shelf.put: slots 0 self, 1 key, 2 stamp, 3 worth, 4 row,
def w_Shelf_put (e : Env) : SpD := wpf 4 1
    (sSeq (sDrop (dCall (w_look_at_key e) [] (dCons (dVar 1) (dNil))))
    (sSeq (sSet 4 (dGet2 (dFld e.ok "rows_of" (dVar 0)) (dVar 1) (dLstV (dNil))))
    (sSeq (sIf (dOr (dNot (dTru (dCall (w_is_stamp e) [] (dCons (dVar 2) (dNil))))) (dAnd (dTest (dOp (dEqX true) (dVar 4) (dLstV (dNil)))) (dTest (dOp (dCmpT (fun i j => decide (j ≤ i)) fun ns ms => !PySem.W.listLt ns ms) (dOp dIx (dOp dIx (dVar 4) (dUn dNeg (dC (.int 1)))) (dC (.int 0))) (dVar 2)))))
    (sRaise (.ref e.C_NoStamp))
    (sNext))
    (sSeq (sIf (dNot (dTru (dCall (w_is_worth e) [] (dCons (dVar 3) (dNil)))))
    (sRaise (.ref e.C_NoWorth))
    (sNext))
    (sDict (dFld e.ok "rows_of" (dVar 0)) (dVar 1) (dOp dAddV (dVar 4) (dLstV (dCons (dTup (dCons (dVar 2) (dCons (dVar 3) (dNil)))) (dNil)))))))))
-- _law_worth: slots 0 _law_state_here, 1 _law_sizes, 2 _law_found, 3 _law_turn,
def l_law_worth_1 (e : Env) : TDS :=
    (sDrop (dApp (dVar 2) (dCons (dOp dSub (dCall (w_law_take e) [] (dCons (dVar 0) (dCons (dOp dIx (dVar 1) (dCall (w_law_take e) [] (dCons (dVar 0) (dCons (dC (.int 3)) (dNil))))) (dNil)))) (dCall (w_law_take e) [] (dCons (dVar 0) (dCons (dC (.int 2)) (dNil))))) (dNil))))
def w_law_worth (e : Env) : SpD := wpf 1 3
    (sSeq (sSet 1 (dLstV (dCons (dC (.int 3)) (dCons (dOp dPow (dC (.int 10)) (dC (.int 6))) (dCons (dOp dPow (dC (.int 10)) (dC (.int 29))) (dNil))))))
    (sSeq (sSet 2 (dLst (dNil)))
    (sSeq (sFor (jRng1 (dCons (dOp dAddV (dC (.int 1)) (dCall (w_law_take e) [] (dCons (dVar 0) (dCons (dC (.int 4)) (dNil))))) (dNil))) (.one 3)
    (l_law_worth_1 e))
    (sRet (dCB rTuple (dCons (dVar 2) (dNil)))))))
-- _law_filled: slots 0 _law_state_here, 1 _law_shelf, 2 _law_last, 3 _law_turn, 4 _law_key_here,
def l_law_filled_1 (e : Env) : TDS :=
    (sSeq (sSet 4 (dCall (w_law_key e) [] (dCons (dVar 0) (dNil))))
    (sSeq (sDict (dVar 2) (dVar 4) (dCall (w_law_stamp e) [] (dCons (dVar 0) (dCons (dGet2 (dVar 2) (dVar 4) (dTup (dCons (dC (.int 0)) (dCons (dC (.int 0)) (dCons (dC (.int 0)) (dNil)))))) (dNil)))))
    (sDrop (dMeth [(e.C_Shelf, w_Shelf_put e)] "put" [] (dVar 1) (dCons (dVar 4) (dCons (dDGet (dVar 2) (dVar 4)) (dCons (dCall (w_law_worth e) [] (dCons (dVar 0) (dNil))) (dNil))))))))
def w_law_filled (e : Env) : SpD := wpf 2 3
    (sSeq (sSet 2 (dDic))
    (sSeq (sFor (jRng1 (dCons (dCall (w_law_take e) [] (dCons (dVar 0) (dCons (dC (.int 9)) (dNil)))) (dNil))) (.one 3)
    (l_law_filled_1 e))
    (sRet (dVar 2))))
-- Shelf.let_go: slots 0 self, 1 time, 2 key, 3 row, 4 many, 5 stamp, 6 worth,
def l_Shelf_let_go_1 (e : Env) : TDS :=
    (sSeq (sSet 3 (dDGet (dFld e.ok "rows_of" (dVar 0)) (dVar 2)))
    (sSeq (sSet 4 (dCB rLen (dCons (dLcV (jSeq (dVar 3)) (.many [5, 6]) (dTest (dOp (dCmpI fun i j => decide (i ≤ j)) (dOp dIx (dVar 5) (dC (.int 0))) (dVar 1))) (dVar 5) [5, 6]) (dNil))))
    (sDict (dFld e.ok "rows_of" (dVar 0)) (dVar 2) (dSliceV (dVar 3) (oSome (dCB rMax2 (dCons (dC (.int 0)) (dCons (dOp dSub (dVar 4) (dC (.int 1))) (dNil))))) (oNone)))))
def w_Shelf_let_go (e : Env) : SpD := wpf 2 5
    (sSeq (sIf (dNot (dTru (dCall (w_is_whole e) [] (dCons (dVar 1) (dNil)))))
    (sRaise (.ref e.C_NoNumber))
    (sNext))
    (sSeqJ (sIf (dOr (dTest (dOp (dIsX false) (dFld e.ok "gone_till" (dVar 0)) (dC .non))) (dTest (dOp (dCmpI fun i j => decide (j < i)) (dVar 1) (dFld e.ok "gone_till" (dVar 0)))))
    (sFldD e.ok "gone_till" (dVar 0) (dVar 1))
    (sNext))
    (sFor (jSeq (dCB rListDic (dCons (dFld e.ok "rows_of" (dVar 0)) (dNil)))) (.one 2)
    (l_Shelf_let_go_1 e))))
-- Shelf.all_keys: slots 0 self,
def w_Shelf_all_keys (e : Env) : SpD := wpf 1 0
    (sRet (dCB rSortDic (dCons (dFld e.ok "rows_of" (dVar 0)) (dNil))))
-- Shelf.__len__: slots 0 self, 1 row, 2 pair,
def w_Shelf_len (e : Env) : SpD := wpf 1 2
    (sRet (dCB rLen (dCons (dLockE (dLc2V (jVals (dFld e.ok "rows_of" (dVar 0))) (.one 1) (dYes) (jSeq (dVar 1)) (.one 2) (dYes) (dVar 2) [1, 2] [2])) (dNil))))
-- Shelf.versions: slots 0 self, 1 key,
def w_Shelf_versions (e : Env) : SpD := wpf 2 0
    (sSeq (sDrop (dCall (w_look_at_key e) [] (dCons (dVar 1) (dNil))))
    (sRet (dCB rListV (dCons (dGet2 (dFld e.ok "rows_of" (dVar 0)) (dVar 1) (dLstV (dNil))) (dNil)))))
-- _law_state: slots 0 _law_shelf, 1 _law_some, 2 _law_key_here,
def w_law_state (e : Env) : SpD := wpf 1 2
    (sSeq (sSet 1 (dLstV (dCons (dC (.str "a")) (dCons (dC (.str "b")) (dCons (dC (.str "ab")) (dCons (dC (.str "zzzzzz")) (dCons (dC (.str "house")) (dCons (dC (.str "q")) (dNil)))))))))
    (sRet (dCB rReprX (dCons (dOp dAddV (dLstV (dCons (dMeth [(e.C_Shelf, w_Shelf_all_keys e)] "all_keys" [] (dVar 0) dNil) (dCons (dCB (rLenOD e.C_Shelf (w_Shelf_len e)) (dCons (dVar 0) (dNil))) (dNil)))) (dLcV (jSeq (dVar 1)) (.one 2) (dYes) (dMeth [(e.C_Shelf, w_Shelf_versions e)] "versions" [] (dVar 0) (dCons (dVar 2) (dNil))) [2])) (dNil)))))
-- _law_kind: slots 0 _law_error, 1 _law_kinds,
def w_law_kind (e : Env) : SpD := wpf 1 1
    (sSeq (sIf (dTest (dOp (dIsX false) (dVar 0) (dC .non)))
    (sRet (dC (.str "told")))
    (sNext))
    (sSeq (sSet 1 (dLstV (dCons (dCB (rIsiE e.ic e.ec) (dCons (dVar 0) (dCons (dC (.ref e.C_NoStamp)) (dNil)))) (dCons (dCB (rIsiE e.ic e.ec) (dCons (dVar 0) (dCons (dC (.ref e.C_NoWorth)) (dNil)))) (dCons (dCB (rIsiE e.ic e.ec) (dCons (dVar 0) (dCons (dC (.ref e.C_NoNumber)) (dNil)))) (dNil))))))
    (sSeq (sIf (dOr (dTest (dOp (dEqX true) (dMt1 cntO (dVar 1) (dCons (dC (.bl true)) (dNil))) (dC (.int 1)))) (dNot (dTru (dCB (rIsiE e.ic e.ec) (dCons (dVar 0) (dCons (dC (.ty "ValueError")) (dNil)))))))
    (sRet (dC (.str "odd")))
    (sNext))
    (sRet (dOp dIx (dLstV (dCons (dC (.str "stamp")) (dCons (dC (.str "worth")) (dCons (dC (.str "number")) (dNil))))) (dMt1 idxO (dVar 1) (dCons (dC (.bl true)) (dNil))))))))
-- Shelf.at: slots 0 self, 1 key, 2 time, 3 row, 4 found, 5 stamp, 6 worth,
def w_Shelf_at (e : Env) : SpD := wpf 3 4
    (sSeq (sSet 3 (dMeth [(e.C_Shelf, w_Shelf_versions e)] "versions" [] (dVar 0) (dCons (dVar 1) (dNil))))
    (sSeq (sIf (dNot (dTru (dCall (w_is_whole e) [] (dCons (dVar 2) (dNil)))))
    (sRaise (.ref e.C_NoNumber))
    (sNext))
    (sSeq (sIf (dAnd (dTest (dOp (dIsX true) (dFld e.ok "gone_till" (dVar 0)) (dC .non))) (dTest (dOp dLtD (dVar 2) (dFld e.ok "gone_till" (dVar 0)))))
    (sRaiseX e.C_Gone ["time"] (dCons (dFld e.ok "gone_till" (dVar 0)) (dNil)))
    (sNext))
    (sSeq (sSet 4 (dLcV (jSeq (dVar 3)) (.many [5, 6]) (dTest (dOp (dCmpI fun i j => decide (i ≤ j)) (dOp dIx (dVar 5) (dC (.int 0))) (dVar 2))) (dVar 6) [5, 6]))
    (sSeq (sIf (dTest (dOp (dEqX false) (dVar 4) (dLstV (dNil))))
    (sRet (dC .non))
    (sNext))
    (sRet (dOp dIx (dVar 4) (dUn dNeg (dC (.int 1))))))))))
-- Shelf.newest: slots 0 self, 1 key, 2 row,
def w_Shelf_newest (e : Env) : SpD := wpf 2 1
    (sSeq (sSet 2 (dMeth [(e.C_Shelf, w_Shelf_versions e)] "versions" [] (dVar 0) (dCons (dVar 1) (dNil))))
    (sSeq (sIf (dTest (dOp (dEqX false) (dVar 2) (dLstV (dNil))))
    (sRet (dC .non))
    (sNext))
    (sRet (dOp dIx (dOp dIx (dVar 2) (dUn dNeg (dC (.int 1)))) (dC (.int 1))))))
-- _law_said: slots 0 _law_shelf, 1 _law_way, 2 _law_some, 3 _law_caught, 4 e,
def w_law_said (e : Env) : SpD := wpf 3 2
    (sSeq (sSet 3 (dC .non))
    (sSeqJ (sTryH e.xm
    (sIf (dTest (dOp (dEqX false) (dVar 1) (dC (.int 0))))
    (sDrop (dMeth [(e.C_Shelf, w_Shelf_put e)] "put" [] (dVar 0) (dCons (dOp dIx (dVar 2) (dC (.int 0))) (dCons (dOp dIx (dVar 2) (dC (.int 1))) (dCons (dOp dIx (dVar 2) (dC (.int 2))) (dNil))))))
    (sIf (dTest (dOp (dEqX false) (dVar 1) (dC (.int 1))))
    (sDrop (dMeth [(e.C_Shelf, w_Shelf_at e)] "at" [] (dVar 0) (dCons (dOp dIx (dVar 2) (dC (.int 0))) (dCons (dOp dIx (dVar 2) (dC (.int 1))) (dNil)))))
    (sIf (dTest (dOp (dEqX false) (dVar 1) (dC (.int 2))))
    (sDrop (dMeth [(e.C_Shelf, w_Shelf_versions e)] "versions" [] (dVar 0) (dCons (dOp dIx (dVar 2) (dC (.int 0))) (dNil))))
    (sIf (dTest (dOp (dEqX false) (dVar 1) (dC (.int 3))))
    (sDrop (dMeth [(e.C_Shelf, w_Shelf_newest e)] "newest" [] (dVar 0) (dCons (dOp dIx (dVar 2) (dC (.int 0))) (dNil))))
    (sDrop (dMeth [(e.C_Shelf, w_Shelf_let_go e)] "let_go" [] (dVar 0) (dCons (dOp dIx (dVar 2) (dC (.int 1))) (dNil))))))))
    ((.ref e.C_NoKey, some 4, sRet (dLstV (dCons (dC (.str "key")) (dCons (dCB rReprX (dCons (dXFld e.xf "key" (dVar 4)) (dNil))) (dCons (dCB (rIsiE e.ic e.ec) (dCons (dVar 4) (dCons (dC (.ty "KeyError")) (dNil)))) (dNil)))))) :: (.ref e.C_Gone, some 4, sRet (dLstV (dCons (dC (.str "gone")) (dCons (dXFld e.xf "time" (dVar 4)) (dNil))))) :: (.ref e.C_WaitError, some 4, sSet 3 (dVar 4)) :: []))
    (sRet (dLstV (dCons (dCall (w_law_kind e) [] (dCons (dVar 3) (dNil))) (dNil))))))
-- _law_is_gone: slots 0 _law_shelf, 1 _law_key_here, 2 e,
def w_law_is_gone (e : Env) : SpD := wpf 2 1
    (sSeqJ (sTryH e.xm
    (sDrop (dMeth [(e.C_Shelf, w_Shelf_at e)] "at" [] (dVar 0) (dCons (dVar 1) (dCons (dUn dNeg (dC (.int 9))) (dNil)))))
    ((.ref e.C_Gone, some 2, sRet (dOp (dEqX false) (dXFld e.xf "time" (dVar 2)) (dUn dNeg (dC (.int 5))))) :: []))
    (sRet (dC (.bl false))))
-- law: slots 0 _law_script, 1 _law_k, 2 _law_state_here, 3 _law_shelf, 4 _law_last, 5 _law_key_here, 6 _law_good, 7 _law_worth_here, 8 _law_bad, 9 _law_odd, 10 _law_stamp_here, 11 _law_less, 12 _law_when, 13 _law_kept, 14 _law_refused, 15 _law_rows, 16 _law_way, 17 _law_some, 18 _law_due,
def l_law_1 (e : Env) : TDS :=
    (sIf (dOr (dTest (dOp (dEqX true) (dCall (w_law_said e) [] (dCons (dVar 3) (dCons (dVar 16) (dCons (dVar 17) (dNil))))) (dVar 18))) (dTest (dOp (dEqX true) (dCall (w_law_state e) [] (dCons (dVar 3) (dNil))) (dVar 13))))
    (sRet (dC (.bl false)))
    (sNext))
def l_law_2 (e : Env) : TDS :=
    (sSeq (sSet 2 (dCall (w_law_begun e) [] (dCons (dVar 0) (dCons (dVar 1) (dNil)))))
    (sSeq (sSet 3 (dMake e.C_Shelf (w_Shelf_init e) [] dNil))
    (sSeq (sSet 4 (dCall (w_law_filled e) [] (dCons (dVar 2) (dCons (dVar 3) (dNil)))))
    (sSeq (sSet 5 (dCall (w_law_key e) [] (dCons (dVar 2) (dNil))))
    (sSeq (sSet 6 (dCall (w_law_stamp e) [] (dCons (dVar 2) (dCons (dGet2 (dVar 4) (dVar 5) (dTup (dCons (dC (.int 0)) (dCons (dC (.int 0)) (dCons (dC (.int 0)) (dNil)))))) (dNil)))))
    (sSeq (sSet 7 (dCall (w_law_worth e) [] (dCons (dVar 2) (dNil))))
    (sSeq (sSet 8 (dOp dIx (dLstV (dCons (dC (.str "")) (dCons (dC (.str "abcdefg")) (dCons (dC (.str "A")) (dCons (dC (.str "a b")) (dCons (dC (.str "a1")) (dCons (dC .non) (dCons (dC (.int 5)) (dCons (dC (.bl true)) (dCons (dLstV (dCons (dC (.str "a")) (dNil))) (dCons (dTup (dCons (dC (.str "a")) (dNil))) (dCons (dEmp) (dCons (dC (.str "a\n")) (dNil)))))))))))))) (dCall (w_law_take e) [] (dCons (dVar 2) (dCons (dC (.int 12)) (dNil))))))
    (sSeq (sSet 9 (dLstV (dCons (dC .non) (dCons (dSliceV (dVar 6) (oNone) (oSome (dC (.int 2)))) (dCons (dCB rListV (dCons (dVar 6) (dNil))) (dCons (dOp dAddV (dVar 6) (dTup (dCons (dC (.int 0)) (dNil)))) (dCons (dTup (dCons (dOp dIx (dVar 6) (dC (.int 0))) (dCons (dUn dNeg (dC (.int 1))) (dCons (dC (.int 0)) (dNil))))) (dCons (dTup (dCons (dOp dIx (dVar 6) (dC (.int 0))) (dCons (dOp dIx (dVar 6) (dC (.int 1))) (dCons (dC (.bl true)) (dNil))))) (dCons (dC (.str "1")) (dNil))))))))))
    (sSeq (sSet 9 (dOp dAddV (dVar 9) (dLstV (dCons (dGet2 (dVar 4) (dVar 5) (dC .non)) (dCons (dIf (dTest (dOp (fun k o G Q => inP false k o G Q) (dVar 5) (dVar 4))) (dTup (dCons (dOp dSub (dOp dIx (dGet2 (dVar 4) (dVar 5) (dTup (dCons (dC (.int 0)) (dCons (dC (.int 0)) (dCons (dC (.int 0)) (dNil)))))) (dC (.int 0))) (dC (.int 1))) (dCons (dOp dIx (dVar 6) (dC (.int 1))) (dCons (dC (.int 3)) (dNil))))) (dC (.int 7))) (dNil))))))
    (sSeq (sSet 10 (dOp dIx (dVar 9) (dCall (w_law_take e) [] (dCons (dVar 2) (dCons (dC (.int 9)) (dNil))))))
    (sSeq (sSet 11 (dOp dIx (dLstV (dCons (dC .non) (dCons (dTup (dNil)) (dCons (dTup (dCons (dC (.int 1)) (dCons (dC (.int 2)) (dCons (dC (.int 3)) (dCons (dC (.int 4)) (dCons (dC (.int 5)) (dNil))))))) (dCons (dCB rListV (dCons (dVar 7) (dNil))) (dCons (dTup (dCons (dC (.bl true)) (dNil))) (dCons (dTup (dCons (dC (.str "1")) (dNil))) (dCons (dTup (dCons (dC .non) (dCons (dC (.int 1)) (dNil)))) (dCons (dC (.int 5)) (dCons (dEmp) (dNil))))))))))) (dCall (w_law_take e) [] (dCons (dVar 2) (dCons (dC (.int 9)) (dNil))))))
    (sSeq (sSet 12 (dOp dIx (dLstV (dCons (dC .non) (dCons (dC (.bl true)) (dCons (dC (.str "1")) (dCons (dTup (dCons (dC (.int 1)) (dNil))) (dCons (dLstV (dNil)) (dCons (dEmp) (dNil)))))))) (dCall (w_law_take e) [] (dCons (dVar 2) (dCons (dC (.int 6)) (dNil))))))
    (sSeq (sDrop (dMeth [(e.C_Shelf, w_Shelf_let_go e)] "let_go" [] (dVar 3) (dCons (dUn dNeg (dC (.int 5))) (dNil))))
    (sSeq (sSet 13 (dCall (w_law_state e) [] (dCons (dVar 3) (dNil))))
    (sSeq (sSet 14 (dLstV (dCons (dC (.str "key")) (dCons (dCB rReprX (dCons (dVar 8) (dNil))) (dCons (dC (.bl true)) (dNil))))))
    (sSeq (sSet 15 (dLstV (dCons (dTup (dCons (dC (.int 0)) (dCons (dTup (dCons (dVar 8) (dCons (dVar 10) (dCons (dVar 11) (dNil))))) (dCons (dVar 14) (dNil))))) (dCons (dTup (dCons (dC (.int 0)) (dCons (dTup (dCons (dVar 8) (dCons (dVar 6) (dCons (dVar 7) (dNil))))) (dCons (dVar 14) (dNil))))) (dCons (dTup (dCons (dC (.int 0)) (dCons (dTup (dCons (dVar 5) (dCons (dVar 10) (dCons (dVar 11) (dNil))))) (dCons (dLstV (dCons (dC (.str "stamp")) (dNil))) (dNil))))) (dNil))))))
    (sSeq (sSet 15 (dOp dAddV (dVar 15) (dLstV (dCons (dTup (dCons (dC (.int 0)) (dCons (dTup (dCons (dVar 5) (dCons (dVar 10) (dCons (dVar 7) (dNil))))) (dCons (dLstV (dCons (dC (.str "stamp")) (dNil))) (dNil))))) (dCons (dTup (dCons (dC (.int 0)) (dCons (dTup (dCons (dVar 5) (dCons (dVar 6) (dCons (dVar 11) (dNil))))) (dCons (dLstV (dCons (dC (.str "worth")) (dNil))) (dNil))))) (dNil))))))
    (sSeq (sSet 15 (dOp dAddV (dVar 15) (dLstV (dCons (dTup (dCons (dC (.int 1)) (dCons (dTup (dCons (dVar 8) (dCons (dVar 12) (dNil)))) (dCons (dVar 14) (dNil))))) (dCons (dTup (dCons (dC (.int 1)) (dCons (dTup (dCons (dVar 8) (dCons (dUn dNeg (dC (.int 9))) (dNil)))) (dCons (dVar 14) (dNil))))) (dCons (dTup (dCons (dC (.int 1)) (dCons (dTup (dCons (dVar 5) (dCons (dVar 12) (dNil)))) (dCons (dLstV (dCons (dC (.str "number")) (dNil))) (dNil))))) (dNil)))))))
    (sSeq (sSet 15 (dOp dAddV (dVar 15) (dLstV (dCons (dTup (dCons (dC (.int 2)) (dCons (dTup (dCons (dVar 8) (dCons (dC (.int 0)) (dNil)))) (dCons (dVar 14) (dNil))))) (dCons (dTup (dCons (dC (.int 3)) (dCons (dTup (dCons (dVar 8) (dCons (dC (.int 0)) (dNil)))) (dCons (dVar 14) (dNil))))) (dCons (dTup (dCons (dC (.int 4)) (dCons (dTup (dCons (dVar 5) (dCons (dVar 12) (dNil)))) (dCons (dLstV (dCons (dC (.str "number")) (dNil))) (dNil))))) (dNil)))))))
    (sSeq (sFor (jSeq (dVar 15)) (.many [16, 17, 18])
    (l_law_1 e))
    (sSeq (sIf (dOr (dTest (dOp (dEqX true) (dCall (w_law_said e) [] (dCons (dVar 3) (dCons (dC (.int 1)) (dCons (dTup (dCons (dVar 5) (dCons (dC (.int 5)) (dNil)))) (dNil))))) (dLstV (dCons (dC (.str "told")) (dNil))))) (dTest (dOp (dEqX true) (dCall (w_law_said e) [] (dCons (dVar 3) (dCons (dC (.int 0)) (dCons (dTup (dCons (dVar 5) (dCons (dVar 6) (dCons (dVar 7) (dNil))))) (dNil))))) (dLstV (dCons (dC (.str "told")) (dNil))))))
    (sRet (dC (.bl false)))
    (sNext))
    (sIf (dOr (dTest (dOp (dEqX true) (dCB rReprX (dCons (dOp dIx (dMeth [(e.C_Shelf, w_Shelf_versions e)] "versions" [] (dVar 3) (dCons (dVar 5) (dNil))) (dUn dNeg (dC (.int 1)))) (dNil))) (dCB rReprX (dCons (dTup (dCons (dVar 6) (dCons (dVar 7) (dNil)))) (dNil))))) (dNot (dTru (dCall (w_law_is_gone e) [] (dCons (dVar 3) (dCons (dVar 5) (dNil)))))))
    (sRet (dC (.bl false)))
    (sNext)))))))))))))))))))))))
def w_law (e : Env) : SpD := wpf 1 18
    (sSeq (sFor (jRng1 (dCons (dCB rMax2 (dCons (dC (.int 1)) (dCons (dCB rMin2 (dCons (dC (.int 30)) (dCons (dCB rLen (dCons (dVar 0) (dNil))) (dNil)))) (dNil)))) (dNil))) (.one 1)
    (l_law_2 e))
    (sRet (dC (.bl true))))
end P

namespace P
open PySem PySem.Spec L2 DL
local macro_rules | `(tactic| exists $es:term,*) => `(tactic| try simp only [q_disp, r_dkF, r_inF, q_augI, r_getP2, r_getO2, r_cmpA, q_makeK, q_enum, r_enumP, r_enumO, r_repK, r_addNK, r_inIK, r_inIT, q_get1, q_get2, q_dget, q_sdict, q_pop2, q_setd, q_dic, r_dictP, r_getS, r_getI, r_getO, r_dkS, r_dkI, r_dkO, r_inS, r_inI, r_inO, r_dpS, r_dpI, r_dpO, r_dicP, r_dicO, r_sortDic, r_listDic, r_dictDic, q_dapp, r_lstP, r_appP, r_appO, q_clear, r_clrP, r_clrO, q_truO, r_truOP, r_ownTru, r_boolOD, r_ownBool, q_notO, r_cmpTI, r_cmpT3, r_lenOD, r_ownLen, q_jkeys, q_jvals, r_fzP, r_fzO, q_jstr, r_strS, r_leXI, r_leXS, q_join, q_upper, r_joinP, r_upP, q_kw1, r_minT2, q_emp, q_mt1, r_isiEB, r_isiEb, r_isiEt, r_isiEs, r_isiEl, r_isiEd, r_isiER, r_isE_non, r_isX_non, r_isE_bl, r_isX_bl, r_isE_int, r_isX_int, r_isE_str, r_isX_str, r_isE_tup, r_isX_tup, r_isE_kl, r_isX_kl, r_isE_kc, r_isX_kc, r_isE_ref, r_isX_ref, r_rIsiET, r_rIsiER, r_rIsiXT, r_rIsiXR, r_isD_non_int, r_isD_non_bool, r_isD_non_tuple, r_isD_non_str, r_isD_non_list, r_isD_non_dict, r_isD_bl_int, r_isD_bl_bool, r_isD_bl_tuple, r_isD_bl_str, r_isD_bl_list, r_isD_bl_dict, r_isD_int_int, r_isD_int_bool, r_isD_int_tuple, r_isD_int_str, r_isD_int_list, r_isD_int_dict, r_isD_str_int, r_isD_str_bool, r_isD_str_tuple, r_isD_str_str, r_isD_str_list, r_isD_str_dict, r_isD_tup_int, r_isD_tup_bool, r_isD_tup_tuple, r_isD_tup_str, r_isD_tup_list, r_isD_tup_dict, r_isD_kl_int, r_isD_kl_bool, r_isD_kl_tuple, r_isD_kl_str, r_isD_kl_list, r_isD_kl_dict, r_isD_kc_int, r_isD_kc_bool, r_isD_kc_tuple, r_isD_kc_str, r_isD_kc_list, r_isD_kc_dict, r_isD_non_own, r_isD_bl_own, r_isD_int_own, r_isD_str_own, r_isD_tup_own, r_isD_kl_own, r_isD_kc_own, q_wpf, q_seq, q_set, q_ret, q_retN, q_if, q_drop, r_unp', r_par, q_next, q_brk, q_cont, q_for, sWhile, q_sub, sAug, q_rng1, r_rng1P, jRng2, q_jseq, r_seqT, r_seqK, r_seqR, r_seqL, r_ownP, q_op, r_var, r_varS, q_c, q_cons, q_nil, q_cb, q_tup, q_lst, r_test, r_tru, q_not, q_and, q_or, r_andV, r_orV, r_notV, q_if', q_un, q_call, q_slice, q_some, q_none, r_intP, r_chn, r_chnT, r_link, r_last, cp2, pw2, cp3, pw3, cp4, pw4, cp5, pw5, cp6, pw6, cp7, pw7, cp8, pw8, cp9, pw9, cp10, pw10, cp12, pw12, cp15, pw15, cp18, pw18, cp20, pw20, cp24, pw24, cp28, pw28, cp29, pw29, cp30, pw30, q_tryH, q_raise0, q_raiseX, q_xfld, r_xfld, q_setAs, q_setAs0, q_endsAs0, q_endsNx, q_endsRt, q_endsBk, q_endsCt, r_isNx, r_lcV, q_lstV, q_sliceV, q_frz, r_frzR, r_frzL, r_frzT, r_frzK, r_frzN, r_addVI, r_addVT, r_addVK, r_addVO, r_sliVK, r_sliVC, r_sliVT, r_sliVR, r_sliVL, r_listVK, r_listVC, r_listVT, r_truK, r_eqXS, r_eqXI, r_eqXT2, r_strI, r_seqC, r_ixC, r_lenC, r_sliC, q_lc, q_yes, q_make, r_nonP, q_fldg, r_eqT2, r_set0, r_set1, q_put1, q_putN, r_blP, r_boolP, r_unpP, r_parP, r_opt, r_pick, r_add, r_addT, r_addR, r_addL, r_sub, r_mul, r_div, r_mod, r_pow, r_cmp, r_lt, r_neg, r_isXB, r_isXN, r_isN, r_isNr, r_isNi, r_isNn, r_isNt, r_eqI, r_ixT, r_ixK, r_ixR, r_lstOf, r_sliT, r_sliK, r_sliR, r_sliL, r_truB, r_truI, r_truT, r_truN, r_truR, r_truL, r_max, r_min, r_intB, r_intI, r_abs, r_lenT, r_lenK, r_lenR, r_lenL, r_nat, r_set, r_setL, r_isI, r_isB, r_isT, r_fld, r_fldR, r_fldI, r_sfd, r_sfdR, r_sfdI, r_met, r_metR, r_met1, atI0, atI1, atI2, atI3, atI4, ixN1a, ixN2a, ixN2b, ixN3a, ixN3b, ixN3c, put_same, List.map_cons, List.map_nil, List.length_cons, List.length_nil, List.length_set, List.replicate, List.cons_append, List.nil_append, List.append_nil, List.getElem?_cons_zero, List.getElem?_cons_succ, List.set_cons_zero, List.set_cons_succ, true_and, and_true, Option.some.injEq, if_true, if_false, ite_true, ite_false, reduceIte, Bool.not_true, Bool.not_false, Bool.false_eq_true, Nat.reduceAdd, Nat.reduceLeDiff, $[$es:term],*])
/-! ### the row of draws -/
def Row (G : HD) (a : Addr) : Prop := ∃ (x y : Int) (z : Bool), 0 ≤ x ∧ G a = some (.lst [.int x, .int y, .bl z])
theorem Row.le {G G' : HD} {a : Addr} (h : Row G a) (l : Le G G') : Row G' a := let ⟨x, y, z, h0, h1⟩ := h; ⟨x, y, z, h0, l _ _ h1⟩
theorem Row.fr {G G' : HD} {a : Addr} {A : List Addr} (h : Row G a) (l : Fr A G G') (n : a ∉ A) : Row G' a := let ⟨x, y, z, h0, h1⟩ := h; ⟨x, y, z, h0, l _ _ n h1⟩
theorem Row.ins {G : HD} {a p C : Addr} {fs : List (Str × D)} (h : Row G a) (hp : G p = some (.ins C fs)) : a ≠ p := by
  obtain ⟨_, _, _, _, h1⟩ := h; rintro rfl; rw [h1] at hp; cases hp
theorem begun_ok {e : Env} {G : HD} {ns : List Int} {k : Nat} {Q : Post} {E : DX} (h9 : k < 100) (hl : ns.length ≤ 63) (hQ : ∀ p G', Row G' p → Le G G' → G p = none → Q (.ref p) G') : w_law_begun e [.kc (ns.map D.int), .int k] G Q E := by
  unfold w_law_begun
  exists if_true
  have hc : cutD (ns.map D.int) (some (k : Int)) (some ((k : Int) + 1)) = (((ns.drop (HT.sIx (ns.map D.int).length 0 (some (k : Int)))).take (HT.sIx (ns.map D.int).length (ns.map D.int).length (some ((k : Int) + 1)) - HT.sIx (ns.map D.int).length 0 (some (k : Int)))).map D.int) := by
    unfold cutD
    rw [List.map_take, List.map_drop]
  have hl : (cutD (ns.map D.int) (some (k : Int)) (some ((k : Int) + 1))).length ≤ 1 := by
    have hz : HT.sIx (ns.map D.int).length (ns.map D.int).length (some ((k : Int) + 1)) - HT.sIx (ns.map D.int).length 0 (some (k : Int)) ≤ 1 := by
      simp only [HT.sIx]; split <;> split <;> omega
    unfold cutD
    rw [List.length_take]; omega
  obtain ⟨c, hcc⟩ : ∃ c, atI (cutD (ns.map D.int) (some (k : Int)) (some ((k : Int) + 1)) ++ [D.int 0]) 0 = some (.int c) := by
    rw [hc]
    cases (ns.drop (HT.sIx (ns.map D.int).length 0 (some (k : Int)))).take (HT.sIx (ns.map D.int).length (ns.map D.int).length (some ((k : Int) + 1)) - HT.sIx (ns.map D.int).length 0 (some (k : Int))) with
    | nil => exact ⟨0, atI0⟩
    | cons c _ => exact ⟨c, atI0⟩
  exists hcc
  refine ⟨by have : sizeLine ≥ 100 := by decide
             omega, by omega, mul_l (by omega) (by omega), mul_l (by omega) (by omega), mul_r (by omega) (by omega), by omega, newL_in fun p G1 hp _ h1 l1 _ => fg_in (hQ _ _ ⟨_, _, _, ?_, h1⟩ l1 hp)⟩
  split <;> omega
theorem take_ok {e : Env} {G : HD} {a : Addr} {n : Int} {Q : Post} {E : DX} (hG : Row G a) (hn : 0 < n) (hn2 : n < 2 ^ 100) (hQ : ∀ r G', 0 ≤ r → r < n → Row G' a → Fr [a] G G' → Q (.int r) G') : w_law_take e [.ref a, .int n] G Q E := by
  obtain ⟨x, y, z, hx, hG⟩ := hG
  unfold w_law_take
  exists hG
  split
  · refine ⟨hn, wide_div (b := 100) hn (by omega) (by omega) (by omega), fg_in (hQ _ _ (Int.emod_nonneg _ (by omega)) (Int.emod_lt_of_pos _ hn) ⟨x / n, y, decide (0 < x / n), Int.ediv_nonneg hx (by omega), put_same⟩ (Fr.trans (Fr.put List.mem_cons_self) (Fr.put List.mem_cons_self)))⟩
  · refine ⟨by split <;> omega, by split <;> omega, ?_⟩
    refine forR_inv (I := fun _ σ G' => (∃ m : Int, ∃ w, 0 ≤ m ∧ σ = [some (.ref a), some (.int n), none, some (.int m), w]) ∧ Row G' a ∧ Fr [a] G G') (fun _ => trivial) (fun i k σ G' hi hI hk => ?_) (fun σ G' hI => ?_) ⟨⟨0, none, by omega, rfl⟩, ⟨x, y, z, hx, hG⟩, Fr.refl⟩
    · obtain ⟨⟨m, w, hm, rfl⟩, ⟨x', y', z', hx', hG'⟩, fr⟩ := hI
      unfold l_law_take_1
      exists hG'
      refine ⟨mul_r (by omega) (by omega), by omega, mul_r (by omega) (by omega), ?_, by omega, ?_⟩
      · exact mul_l (by omega) (by omega)
      · refine hk _ _ ⟨⟨_, _, ?_, rfl⟩, ⟨x', _, z', hx', put_same⟩, fr.trans (Fr.put List.mem_cons_self)⟩
        have := Int.emod_nonneg ((y' * 48271 + 11) % 2147483647 * ((y' * 48271 + 11) % 2147483647)) (b := 2147483587) (by omega)
        omega
    · obtain ⟨⟨m, w, hm, rfl⟩, hR, fr⟩ := hI
      exists if_true
      exact ⟨div_s (by omega) (by omega), hn, fg_in (hQ _ _ (Int.emod_nonneg _ (by omega)) (Int.emod_lt_of_pos _ hn) hR fr)⟩
theorem lc_none {step : D → (D → HD → Prop) → (HD → Prop) → HD → Prop} {fin : List D → HD → Prop} : ∀ {xs acc : List D} {G : HD}, (∀ x ∈ xs, ∀ ky kn G, kn G → step x ky kn G) → fin acc G → lcD (fun _ => True) step fin xs acc G
  | [], acc, G, _, hf => ⟨G, Le.refl _, trivial, hf⟩
  | x :: xs, acc, G, h, hf => ⟨G, Le.refl _, trivial, h x List.mem_cons_self _ _ _ (lc_none (fun y hy => h y (List.mem_cons_of_mem _ hy)) hf)⟩
theorem lc_filter {step : D → (D → HD → Prop) → (HD → Prop) → HD → Prop} {fin : List D → HD → Prop} {f : D → Bool} : ∀ {xs acc : List D} {G : HD}, (∀ x ∈ xs, ∀ (ky : D → HD → Prop) (kn : HD → Prop) (G : HD), (if f x = true then ky x G else kn G) → step x ky kn G) → fin (acc ++ xs.filter f) G → lcD (fun _ => True) step fin xs acc G
  | [], acc, G, _, hf => ⟨G, Le.refl _, trivial, by simpa using hf⟩
  | x :: xs, acc, G, h, hf => by
    refine ⟨G, Le.refl _, trivial, h x List.mem_cons_self _ _ _ ?_⟩
    cases hx : f x with
    | true => rw [if_pos rfl]; exact lc_filter (fun y hy => h y (List.mem_cons_of_mem _ hy)) (by rw [List.filter_cons_of_pos hx] at hf; simpa using hf)
    | false => rw [if_neg (by decide)]; exact lc_filter (fun y hy => h y (List.mem_cons_of_mem _ hy)) (by rw [List.filter_cons_of_neg (by rw [hx]; decide)] at hf; exact hf)
theorem lc_map {step : D → (D → HD → Prop) → (HD → Prop) → HD → Prop} {fin : List D → HD → Prop} {f : D → D} : ∀ {xs acc : List D} {G : HD}, (∀ x ∈ xs, ∀ (ky : D → HD → Prop) (kn : HD → Prop) (G : HD), ky (f x) G → step x ky kn G) → fin (acc ++ xs.map f) G → lcD (fun _ => True) step fin xs acc G
  | [], acc, G, _, hf => ⟨G, Le.refl _, trivial, by simpa using hf⟩
  | x :: xs, acc, G, h, hf => ⟨G, Le.refl _, trivial, h x List.mem_cons_self _ _ _ (lc_map (fun y hy => h y (List.mem_cons_of_mem _ hy)) (by simpa using hf))⟩
theorem lc_all {step : D → (D → HD → Prop) → (HD → Prop) → HD → Prop} {fin : List D → HD → Prop} {I : List D → HD → Prop} (h : ∀ x acc (ky : D → HD → Prop) (kn : HD → Prop) (G : HD), I acc G → (∀ y G', I (acc ++ [y]) G' → ky y G') → step x ky kn G) : ∀ {xs acc : List D} {G : HD}, (∀ acc' G', I acc' G' → acc'.length = acc.length + xs.length → fin acc' G') → I acc G → lcD (fun _ => True) step fin xs acc G
  | [], acc, G, hf, hI => ⟨G, Le.refl _, trivial, hf _ _ hI (by simp)⟩
  | x :: xs, acc, G, hf, hI => ⟨G, Le.refl _, trivial, h x acc _ _ _ hI fun y G' hI' => lc_all h (fun acc' G'' h1 h2 => hf _ _ h1 (by simp at h2 ⊢; omega)) hI'⟩
theorem r_allB {p : List Bool → Bool} {bs : List Bool} {G : HD} {Q : Post} : rAllD p [.kl (bs.map D.bl)] G Q = Q (.bl (p bs)) G := by
  unfold rAllD
  show (match asBls (bs.map D.bl) with | some ns => Q (.bl (p ns)) G | none => False) = _
  rw [asBls_map]
end P
namespace P
open PySem PySem.Spec L2 DL
local macro_rules | `(tactic| exists $es:term,*) => `(tactic| try simp only [q_disp, r_dkF, r_inF, q_augI, r_getP2, r_getO2, r_cmpA, q_makeK, q_enum, r_enumP, r_enumO, r_repK, r_addNK, r_inIK, r_inIT, q_get1, q_get2, q_dget, q_sdict, q_pop2, q_setd, q_dic, r_dictP, r_getS, r_getI, r_getO, r_dkS, r_dkI, r_dkO, r_inS, r_inI, r_inO, r_dpS, r_dpI, r_dpO, r_dicP, r_dicO, r_sortDic, r_listDic, r_dictDic, q_dapp, r_lstP, r_appP, r_appO, q_clear, r_clrP, r_clrO, q_truO, r_truOP, r_ownTru, r_boolOD, r_ownBool, q_notO, r_cmpTI, r_cmpT3, r_lenOD, r_ownLen, q_jkeys, q_jvals, r_fzP, r_fzO, q_jstr, r_strS, r_leXI, r_leXS, q_join, q_upper, r_joinP, r_upP, q_kw1, r_minT2, q_emp, q_mt1, r_isiEB, r_isiEb, r_isiEt, r_isiEs, r_isiEl, r_isiEd, r_isiER, r_isE_non, r_isX_non, r_isE_bl, r_isX_bl, r_isE_int, r_isX_int, r_isE_str, r_isX_str, r_isE_tup, r_isX_tup, r_isE_kl, r_isX_kl, r_isE_kc, r_isX_kc, r_isE_ref, r_isX_ref, r_rIsiET, r_rIsiER, r_rIsiXT, r_rIsiXR, r_isD_non_int, r_isD_non_bool, r_isD_non_tuple, r_isD_non_str, r_isD_non_list, r_isD_non_dict, r_isD_bl_int, r_isD_bl_bool, r_isD_bl_tuple, r_isD_bl_str, r_isD_bl_list, r_isD_bl_dict, r_isD_int_int, r_isD_int_bool, r_isD_int_tuple, r_isD_int_str, r_isD_int_list, r_isD_int_dict, r_isD_str_int, r_isD_str_bool, r_isD_str_tuple, r_isD_str_str, r_isD_str_list, r_isD_str_dict, r_isD_tup_int, r_isD_tup_bool, r_isD_tup_tuple, r_isD_tup_str, r_isD_tup_list, r_isD_tup_dict, r_isD_kl_int, r_isD_kl_bool, r_isD_kl_tuple, r_isD_kl_str, r_isD_kl_list, r_isD_kl_dict, r_isD_kc_int, r_isD_kc_bool, r_isD_kc_tuple, r_isD_kc_str, r_isD_kc_list, r_isD_kc_dict, r_isD_non_own, r_isD_bl_own, r_isD_int_own, r_isD_str_own, r_isD_tup_own, r_isD_kl_own, r_isD_kc_own, q_wpf, q_seq, q_set, q_ret, q_retN, q_if, q_drop, r_unp', r_par, q_next, q_brk, q_cont, q_for, sWhile, q_sub, sAug, q_rng1, r_rng1P, jRng2, q_jseq, r_seqT, r_seqK, r_seqR, r_seqL, r_ownP, q_op, r_var, r_varS, q_c, q_cons, q_nil, q_cb, q_tup, q_lst, r_test, r_tru, q_not, q_and, q_or, r_andV, r_orV, r_notV, q_if', q_un, q_call, q_slice, q_some, q_none, r_intP, r_chn, r_chnT, r_link, r_last, cp2, pw2, cp3, pw3, cp4, pw4, cp5, pw5, cp6, pw6, cp7, pw7, cp8, pw8, cp9, pw9, cp10, pw10, cp12, pw12, cp15, pw15, cp18, pw18, cp20, pw20, cp24, pw24, cp28, pw28, cp29, pw29, cp30, pw30, q_tryH, q_raise0, q_raiseX, q_xfld, r_xfld, q_setAs, q_setAs0, q_endsAs0, q_endsNx, q_endsRt, q_endsBk, q_endsCt, r_isNx, r_lcV, q_lstV, q_sliceV, q_frz, r_frzR, r_frzL, r_frzT, r_frzK, r_frzN, r_addVI, r_addVT, r_addVK, r_addVO, r_sliVK, r_sliVC, r_sliVT, r_sliVR, r_sliVL, r_listVK, r_listVC, r_listVT, r_truK, r_eqXS, r_eqXI, r_eqXT2, r_strI, r_seqC, r_ixC, r_lenC, r_sliC, q_lc, q_yes, q_make, r_nonP, q_fldg, r_eqT2, r_set0, r_set1, q_put1, q_putN, r_blP, r_boolP, r_unpP, r_parP, r_opt, r_pick, r_add, r_addT, r_addR, r_addL, r_sub, r_mul, r_div, r_mod, r_pow, r_cmp, r_lt, r_neg, r_isXB, r_isXN, r_isN, r_isNr, r_isNi, r_isNn, r_isNt, r_eqI, r_ixT, r_ixK, r_ixR, r_lstOf, r_sliT, r_sliK, r_sliR, r_sliL, r_truB, r_truI, r_truT, r_truN, r_truR, r_truL, r_max, r_min, r_intB, r_intI, r_abs, r_lenT, r_lenK, r_lenR, r_lenL, r_nat, r_set, r_setL, r_isI, r_isB, r_isT, r_fld, r_fldR, r_fldI, r_sfd, r_sfdR, r_sfdI, r_met, r_metR, r_met1, atI0, atI1, atI2, atI3, atI4, ixN1a, ixN2a, ixN2b, ixN3a, ixN3b, ixN3c, put_same, List.map_cons, List.map_nil, List.length_cons, List.length_nil, List.length_set, List.replicate, List.cons_append, List.nil_append, List.append_nil, List.getElem?_cons_zero, List.getElem?_cons_succ, List.set_cons_zero, List.set_cons_succ, true_and, and_true, Option.some.injEq, if_true, if_false, ite_true, ite_false, reduceIte, Bool.not_true, Bool.not_false, Bool.false_eq_true, Nat.reduceAdd, Nat.reduceLeDiff, $[$es:term],*])
/-! ### a shelf: rows of stamps and worths by keys -/
abbrev St3 := Int × Int × Int
abbrev Rw := List (St3 × List Int)
def stD (s : St3) : D := .tup [.int s.1, .int s.2.1, .int s.2.2]
def woD (w : List Int) : D := .tup (w.map D.int)
def prD (p : St3 × List Int) : D := .tup [stD p.1, woD p.2]
def rowD (r : Rw) : D := .kl (r.map prD)
def encK (m : List (Str × Rw)) : List (Key × D) := m.map fun p => (.inr p.1, rowD p.2)
def getR : List (Str × Rw) → Str → Rw
  | [], _ => []
  | p :: m, k => if p.1 = k then p.2 else getR m k
def hasR (m : List (Str × Rw)) (k : Str) : Bool := m.any fun p => decide (p.1 = k)
def putR (m : List (Str × Rw)) (k : Str) (r : Rw) : List (Str × Rw) := if hasR m k = true then m.map (fun p => if p.1 = k then (p.1, r) else p) else m ++ [(k, r)]
theorem val_enc : ∀ {m : List (Str × Rw)} {k : Str}, (valD (encK m) (.inr k)).getD (.kl []) = rowD (getR m k)
  | [], _ => rfl
  | p :: m, k => by
    show ((if (Sum.inr p.1 : Key) = .inr k then some (rowD p.2) else valD (encK m) (.inr k)).getD (.kl [])) = rowD (if p.1 = k then p.2 else getR m k)
    by_cases h : p.1 = k
    · rw [if_pos h, if_pos (by rw [h])]; rfl
    · rw [if_neg h, if_neg (fun z => h (Sum.inr.inj z))]; exact val_enc
theorem has_enc {m : List (Str × Rw)} {k : Str} : hasD (encK m) (.inr k) = hasR m k := by
  unfold hasD hasR encK
  rw [List.any_map]
  congr 1
  funext p
  simp
theorem put_enc {m : List (Str × Rw)} {k : Str} {r : Rw} : putKD (encK m) (.inr k) (rowD r) = encK (putR m k r) := by
  unfold putKD putR
  rw [has_enc]
  by_cases h : hasR m k = true
  · rw [if_pos h, if_pos h]
    unfold encK
    rw [List.map_map, List.map_map]
    apply List.map_congr_left
    intro p _
    by_cases hp : p.1 = k
    · simp [hp]
    · simp [hp]
  · rw [if_neg h, if_neg h]
    unfold encK
    rw [List.map_append]; rfl
theorem len_enc {m : List (Str × Rw)} : (encK m).length = m.length := by unfold encK; rw [List.length_map]
/-- a shelf stands at c, its rows at d -/
def fsS (d : Addr) (gt : D) : List (Str × D) := [("rows_of", .ref d), ("gone_till", gt)]
def Shf (e : Env) (G : HD) (c d : Addr) (m : List (Str × Rw)) (gt : D) : Prop := G c = some (.ins e.C_Shelf (fsS d gt)) ∧ G d = some (.dK (encK m))
section
variable {e : Env} {G G' : HD} {c d : Addr} {m : List (Str × Rw)} {gt : D} {Q : Post} {E : DX} {A : List Addr} {k : Str}
theorem Shf.fr (h : Shf e G c d m gt) (f : Fr A G G') (hc : c ∉ A) (hd : d ∉ A) : Shf e G' c d m gt := ⟨f _ _ hc h.1, f _ _ hd h.2⟩
theorem Shf.ne (h : Shf e G c d m gt) : c ≠ d := by
  rintro rfl
  have := h.1.symm.trans h.2
  cases this
theorem lk_r : (fsS d gt).lookup ("rows_of" : Str) = some (.ref d) := rfl
theorem lk_g : (fsS d gt).lookup ("gone_till" : Str) = some gt := rfl
theorem make_ok (g : e.Good) (hQ : ∀ c d G', G c = none → G d = none → Shf e G' c d [] .non → Le G G' → Q (.ref c) G') : makP e.C_Shelf (w_Shelf_init e) [] G Q E := by
  intro p hp
  unfold w_Shelf_init
  exists if_true
  intro d hd
  have ne : p ≠ d := by rintro rfl; rw [put_same] at hd; cases hd
  have hd0 : G d = none := by rw [put_ne ne.symm] at hd; exact hd
  exists put_ne ne
  refine ⟨g.ok_Shelf_rows_of, by decide, g.ok_Shelf_gone_till, (show 1 < 1000 by decide), fg_in ?_⟩
  exists if_true
  refine hQ p d _ hp hd0 ⟨?_, ?_⟩ ?_
  · rw [put_same]; rfl
  · rw [put_ne ne.symm, put_ne ne.symm, put_same]; rfl
  · intro a o ha
    have na : a ≠ p := by rintro rfl; rw [hp] at ha; cases ha
    have nd : a ≠ d := by rintro rfl; rw [hd0] at ha; cases ha
    rw [put_ne na, put_ne na, put_ne nd, put_ne na]; exact ha
theorem vers_ok (g : e.Good) (h : Shf e G c d m gt) (hk : ∀ (Q : Post) (E : DX), Q (.bl true) G → w_is_key e [.str k] G Q E) (hQ : Q (rowD (getR m k)) G) : w_Shelf_versions e [.ref c, .str k] G Q E := by
  unfold w_Shelf_versions
  exists if_true
  unfold w_look_at_key
  exists if_true
  refine hk _ _ ?_
  exists if_true
  refine fg_in ?_
  exists h.1, lk_r
  refine ⟨g.ok_Shelf_rows_of, ⟨_, h.2⟩, ?_⟩
  exists h.2, val_enc
  exact fg_in hQ
end
/-! ### keys -/
def letter (c : Nat) : Bool := decide (97 ≤ c ∧ c ≤ 122)
def letD : D → Bool
  | .str y => y.cps.toList.all letter
  | _ => false
theorem letD_c {c : Nat} : letD (.str ⟨#[c]⟩) = letter c := by simp [letD]
theorem abc : (Str.ofString "abcdefghijklmnopqrstuvwxyz").cps.toList = (List.range 26).map (· + 97) := by decide +kernel
theorem mem_abc {c : Nat} : decide (c ∈ (Str.ofString "abcdefghijklmnopqrstuvwxyz").cps.toList) = letter c := by
  unfold letter
  rw [abc, decide_eq_decide]
  simp only [List.mem_map, List.mem_range]
  constructor
  · rintro ⟨a, h, rfl⟩; omega
  · intro h; exact ⟨c - 97, by omega, by omega⟩
section
variable {e : Env} {G G' : HD} {c d : Addr} {m : List (Str × Rw)} {gt : D} {Q : Post} {E : DX} {A : List Addr} {k x : Str}
def Gk (x : Str) : Prop := 1 ≤ x.length ∧ x.length ≤ 6 ∧ x.cps.toList.all letter = true
theorem i_lenS (h : x.length ≤ 1000000) (q : Q (.int (x.length : Nat)) G) : DL.rLen [.str x] G Q := by
  have hs := million h
  unfold DL.rLen DL.lenD
  simp only [hs, if_true]
  exact q
theorem key_ok (h : Gk x) (hQ : Q (.bl true) G) : w_is_key e [.str x] G Q E := by
  obtain ⟨h1, h2, h3⟩ := h
  unfold w_is_key
  exists if_true
  refine i_lenS (by omega) ?_
  exists show (1 : Int) ≤ (x.length : Nat) by omega, show ((x.length : Nat) : Int) ≤ 6 by omega, decide_true
  refine ⟨by rw [signs_len]; exact Nat.le_trans (show x.cps.size ≤ 6 from h2) (by decide), lc_map (f := fun d => .bl (letD d)) (fun z hz ky kn G hk => ?_) ?_⟩
  · exists dwipe
    unfold signs at hz
    obtain ⟨c, hc, rfl⟩ := List.mem_map.mp hz
    refine i_inS ?_
    rw [if_neg (by decide), mem_abc, ← letD_c]
    exact hk
  · have e1 : (signs x).map (fun d => D.bl (letD d)) = (x.cps.toList.map letter).map D.bl := by
      unfold signs
      rw [List.map_map, List.map_map]
      apply List.map_congr_left
      intro c _
      show D.bl (letD (.str ⟨#[c]⟩)) = D.bl (letter c)
      rw [letD_c]
    rw [List.nil_append, e1, r_allB]
    refine fg_in ?_
    rw [List.all_map]
    have : (x.cps.toList.all (id ∘ letter)) = true := h3
    rw [this]; exact hQ
theorem six {k : D} (h : k ∈ [D.str "a", .str "b", .str "ab", .str "zzzzzz", .str "house", .str "q"]) : ∃ x, k = .str x ∧ Gk x := by
  simp only [List.mem_cons, List.not_mem_nil, or_false] at h
  rcases h with rfl | rfl | rfl | rfl | rfl | rfl <;> exact ⟨_, rfl, by decide +kernel, by decide +kernel, by decide +kernel⟩
theorem vers_k (g : e.Good) (h : Shf e G c d m gt) (hk : Gk k) (hQ : Q (rowD (getR m k)) G) : w_Shelf_versions e [.ref c, .str k] G Q E :=
  vers_ok g h (fun Q E hq => key_ok hk hq) hQ
/-! ### stamps, worths -/
theorem whole_ok {i : Int} (hQ : Q (.bl true) G) : w_is_whole e [.int i] G Q E := by
  unfold w_is_whole
  exists if_true
  exact fg_in hQ
theorem r_all3 {p : List Bool → Bool} {a b c : Bool} : rAllD p [.kl [.bl a, .bl b, .bl c]] G Q = Q (.bl (p [a, b, c])) G := propext ⟨fun h => h, fun h => h⟩
theorem stamp_ok {s : St3} (h1 : 0 ≤ s.2.1) (h2 : 0 ≤ s.2.2) (hQ : Q (.bl true) G) : w_is_stamp e [stD s] G Q E := by
  unfold w_is_stamp stD
  exists show ((3 : Nat) : Int) = 3 from rfl, decide_true
  refine lc_map (f := fun _ => .bl true) (fun z hz ky kn G hk => ?_) ?_
  · exists dwipe
    simp only [List.mem_cons, List.not_mem_nil, or_false] at hz
    rcases hz with rfl | rfl | rfl <;> exact whole_ok hk
  · exists r_all3, List.all_cons, List.all_nil, Bool.and_true, id, h1, h2, decide_true
    exact fg_in hQ
theorem worth_ok' {w : List Int} (h1 : 1 ≤ w.length) (h2 : w.length ≤ 4) (hQ : Q (.bl true) G) : w_is_worth e [woD w] G Q E := by
  unfold w_is_worth woD
  have e1 : (w.map D.int).length = w.length := List.length_map _
  exists e1, show (1 : Int) ≤ (w.length : Nat) by omega, show ((w.length : Nat) : Int) ≤ 4 by omega, decide_true
  refine ⟨Nat.le_trans h2 (by decide), lc_map (f := fun _ => .bl true) (fun z hz ky kn G hk => ?_) ?_⟩
  · exists dwipe
    obtain ⟨i, _, rfl⟩ := List.mem_map.mp hz
    exact whole_ok hk
  · have e2 : (w.map D.int).map (fun _ => D.bl true) = (w.map fun _ => true).map D.bl := by simp
    rw [List.nil_append, e2, r_allB]
    refine fg_in ?_
    have : (w.map fun _ => true).all id = true := by simp
    rw [this]; exact hQ
/-! ### rows -/
theorem pure_row {r : Rw} : pureD 9 (rowD r) = true := by
  show (r.map prD).all (pureD 8) = true
  rw [List.all_map]
  refine List.all_eq_true.mpr fun p _ => ?_
  show (pureD 7 (stD p.1) && (pureD 7 (woD p.2) && true)) = true
  have h1 : pureD 7 (stD p.1) = true := rfl
  have h2 : pureD 7 (woD p.2) = true := by
    show (p.2.map D.int).all (pureD 6) = true
    rw [List.all_map]; exact List.all_eq_true.mpr fun _ _ => rfl
  rw [h1, h2]; rfl
theorem eqv_row {r : Rw} : eqvD (rowD r) (.kl []) = r.isEmpty := by
  cases r with
  | nil => decide +kernel
  | cons p r =>
    unfold eqvD rowD toPy
    simp [PyData.eqv, PyData.eqvAll]
theorem at_last {l : List D} {x : D} : atI (l ++ [x]) (-1) = some x := by
  unfold atI ixN
  rw [if_neg (by omega)]
  have hl : (l ++ [x]).length = l.length + 1 := by simp
  rw [hl, if_pos (by omega)]
  have e : (-1 + ((l.length : Int) + 1)).toNat = l.length := by omega
  simp [e]
theorem at_row {r : Rw} {p : St3 × List Int} {Q : Post} (hQ : Q (prD p) G) : dIx (rowD (r ++ [p])) (.int (-1)) G Q := by
  unfold rowD
  rw [List.map_append]
  exists at_last
  exact hQ
def lt3 (s t : St3) : Bool := PySem.W.listLt [s.1, s.2.1, s.2.2] [t.1, t.2.1, t.2.2]
theorem pure_nil : pureD 9 (.kl []) = true := rfl
theorem add_row {r : Rw} {p : St3 × List Int} (h : r.length ≤ 1000) (hQ : Q (rowD (r ++ [p])) G) : dAddV (rowD r) (.kl [prD p]) G Q := by
  refine ⟨million (by rw [List.length_map]; simp; omega), ?_⟩
  have : rowD (r ++ [p]) = .kl (r.map prD ++ [prD p]) := by unfold rowD; rw [List.map_append]; rfl
  rw [← this]; exact hQ
theorem cmp_st {p : Int → Int → Bool} {f : List Int → List Int → Bool} {s t : St3} : dCmpT p f (stD s) (stD t) G Q = Q (.bl (f [s.1, s.2.1, s.2.2] [t.1, t.2.1, t.2.2])) G := propext ⟨fun h => h, fun h => h⟩
theorem ix_pr0 {p : St3 × List Int} : dIx (prD p) (.int 0) G Q = Q (stD p.1) G := propext ⟨fun h => h, fun h => h⟩
theorem ix_pr1 {p : St3 × List Int} : dIx (prD p) (.int 1) G Q = Q (woD p.2) G := propext ⟨fun h => h, fun h => h⟩
theorem ix_st0 {s : St3} : dIx (stD s) (.int 0) G Q = Q (.int s.1) G := propext ⟨fun h => h, fun h => h⟩
theorem ix_st1 {s : St3} : dIx (stD s) (.int 1) G Q = Q (.int s.2.1) G := propext ⟨fun h => h, fun h => h⟩
theorem put_ok (g : e.Good) (h : Shf e G c d m gt) (hk : Gk k) {s : St3} {w : List Int} (h1 : 0 ≤ s.2.1) (h2 : 0 ≤ s.2.2) (w1 : 1 ≤ w.length) (w4 : w.length ≤ 4) (hl : getR m k = [] ∨ ∃ r p, getR m k = r ++ [p] ∧ lt3 p.1 s = true) (hm : m.length < 1000) (hr : (getR m k).length ≤ 1000)
    (hQ : ∀ G', Fr [d] G G' → Shf e G' c d (putR m k (getR m k ++ [(s, w)])) gt → Q .non G') : w_Shelf_put e [.ref c, .str k, stD s, woD w] G Q E := by
  have ne := h.ne
  have fin : ∀ (Q : Post), Q .non (put G d (.dK (encK (putR m k (getR m k ++ [(s, w)]))))) → fg Q .non (put G d (.dK (putKD (encK m) (.inr k) (rowD (getR m k ++ [(s, w)]))))) := fun Q h => by
    rw [put_enc]; exact fg_in h
  unfold w_Shelf_put
  exists if_true
  unfold w_look_at_key
  exists if_true
  refine key_ok hk ?_
  exists if_true
  refine fg_in ?_
  exists h.1, lk_r
  refine ⟨g.ok_Shelf_rows_of, ⟨_, h.2⟩, ?_⟩
  exists h.2, val_enc
  refine stamp_ok h1 h2 ?_
  exists if_true
  refine i_eqX pure_row pure_nil ?_
  rcases hl with hl | ⟨r, p, hl, hlt⟩
  · exists eqv_row, show (getR m k).isEmpty = true by rw [hl]; rfl
    refine worth_ok' w1 w4 ?_
    exists if_true
    refine add_row (p := (s, w)) hr ?_
    exists h.1, lk_r
    refine ⟨g.ok_Shelf_rows_of, ?_⟩
    exists h.2
    exact ⟨by rw [len_enc]; omega, fin _ (hQ _ (Fr.put List.mem_cons_self) ⟨by rw [put_ne ne]; exact h.1, put_same⟩)⟩
  · have hne : (getR m k).isEmpty = false := by rw [hl]; simp
    exists eqv_row, hne
    have e1 : ∀ Q : Post, Q (prD p) G → dIx (rowD (getR m k)) (.int (-1)) G Q := fun Q h => by rw [hl]; exact at_row h
    refine e1 _ ?_
    exists ix_pr0, cmp_st
    have e2 : PySem.W.listLt [p.1.1, p.1.2.1, p.1.2.2] [s.1, s.2.1, s.2.2] = true := hlt
    exists e2
    refine worth_ok' w1 w4 ?_
    exists if_true
    refine add_row (p := (s, w)) hr ?_
    exists h.1, lk_r
    refine ⟨g.ok_Shelf_rows_of, ?_⟩
    exists h.2
    exact ⟨by rw [len_enc]; omega, fin _ (hQ _ (Fr.put List.mem_cons_self) ⟨by rw [put_ne ne]; exact h.1, put_same⟩)⟩
/-! ### reading -/
theorem lc_fm {step : D → (D → HD → Prop) → (HD → Prop) → HD → Prop} {fin : List D → HD → Prop} {f : St3 × List Int → Bool} {v : St3 × List Int → D} : ∀ {xs : Rw} {acc : List D} {G : HD}, (∀ x ∈ xs, ∀ (ky : D → HD → Prop) (kn : HD → Prop) (G : HD), (if f x = true then ky (v x) G else kn G) → step (prD x) ky kn G) → fin (acc ++ (xs.filter f).map v) G → lcD (fun _ => True) step fin (xs.map prD) acc G
  | [], acc, G, _, hf => ⟨G, Le.refl _, trivial, by simpa using hf⟩
  | x :: xs, acc, G, h, hf => by
    refine ⟨G, Le.refl _, trivial, h x List.mem_cons_self _ _ _ ?_⟩
    cases hx : f x with
    | true => rw [if_pos rfl]; exact lc_fm (fun y hy => h y (List.mem_cons_of_mem _ hy)) (by rw [List.filter_cons_of_pos hx] at hf; simpa using hf)
    | false => rw [if_neg (by decide)]; exact lc_fm (fun y hy => h y (List.mem_cons_of_mem _ hy)) (by rw [List.filter_cons_of_neg (by rw [hx]; decide)] at hf; exact hf)
/-- the worth at a time -/
def atF (r : Rw) (t : Int) : Option (List Int) := ((r.filter fun p => decide (p.1.1 ≤ t)).map (·.2)).getLast?
def opD : Option (List Int) → D
  | none => .non
  | some w => woD w
def newF (r : Rw) : Option (List Int) := (r.map (·.2)).getLast?
theorem eqv_wos {l : List (List Int)} : eqvD (.kl (l.map woD)) (.kl []) = l.isEmpty := by
  cases l with
  | nil => decide +kernel
  | cons p r =>
    unfold eqvD toPy
    simp [PyData.eqv, PyData.eqvAll]
theorem pure_wos {l : List (List Int)} : pureD 9 (.kl (l.map woD)) = true := by
  show (l.map woD).all (pureD 8) = true
  rw [List.all_map]
  refine List.all_eq_true.mpr fun p _ => ?_
  show (p.map D.int).all (pureD 7) = true
  rw [List.all_map]; exact List.all_eq_true.mpr fun _ _ => rfl
theorem snoc {α : Type} {l : List α} (h : l ≠ []) : ∃ r x, l = r ++ [x] := ⟨l.dropLast, l.getLast h, (List.dropLast_concat_getLast h).symm⟩
theorem last_wos {l : List (List Int)} {Q : Post} (h : l.isEmpty = false) (hQ : Q (opD l.getLast?) G) : optP (atI (l.map woD) (-1)) G Q := by
  obtain ⟨r, x, rfl⟩ := snoc (l := l) (by rintro rfl; cases h)
  rw [List.map_append, List.map_cons, List.map_nil, at_last]
  rw [List.getLast?_append] at hQ
  exact hQ
theorem at_tail {σ : DSt} {r : Rw} {t : Int} {c k x y z : Option D} {W : DW} (hr : r.length ≤ 1000) (hQ : Q (opD (atF r t)) G) :
    seqP (rowD r) G fun I G1 => I.xs.length ≤ 1000000 ∧ lcD I.ok (fun d ky kn G' => (Tgt.many [5, 6]).put d (dwipe [c, k, some (.int t), some (rowD r), x, y, z] [5, 6]) fun σ2 => varP σ2[5]? G' fun d G1 => dIx d (.int 0) G1 fun d G1 => varP σ2[2]? G1 fun e G2 =>
      dCmpI (fun i j => decide (i ≤ j)) d e G2 fun d G1 => blP d fun b => if b = true then varP σ2[6]? G1 ky else kn G1)
      (fun acc G2 => dEqX false (.kl acc) (.kl []) G2 fun d G1 => blP d fun b => if b = true then fg Q .non G1 else optP (atI acc (-1)) G1 (fg Q)) I.xs [] G1 := by
  have e0 : seqP (rowD r) G = seqP (.kl (r.map prD)) G := rfl
  rw [e0, r_seqK]
  refine ⟨by rw [List.length_map]; omega, lc_fm (f := fun p => decide (p.1.1 ≤ t)) (v := fun p => woD p.2) (fun p hp ky kn G hk => ?_) ?_⟩
  · exists prD, dwipe, setAll, ix_st0
    exact hk
  · rw [List.nil_append]
    have e1 : (r.filter fun p => decide (p.1.1 ≤ t)).map (fun p => woD p.2) = ((r.filter fun p => decide (p.1.1 ≤ t)).map (·.2)).map woD := by rw [List.map_map]; rfl
    rw [e1]
    refine i_eqX pure_wos pure_nil ?_
    rw [eqv_wos]
    unfold atF at hQ
    generalize ((r.filter fun p => decide (p.1.1 ≤ t)).map (·.2)) = l at hQ
    cases hl : l.isEmpty with
    | true =>
      have : l = [] := by cases l with | nil => rfl | cons _ _ => cases hl
      subst this
      exists if_true
      exact fg_in hQ
    | false =>
      exists if_true
      exact last_wos hl (fg_in hQ)
theorem at_ok (g : e.Good) (h : Shf e G c d m gt) (hk : Gk k) {t : Int} (hg : gt = .non ∨ ∃ i, gt = .int i ∧ i ≤ t) (hr : (getR m k).length ≤ 1000) (hQ : Q (opD (atF (getR m k) t)) G) : w_Shelf_at e [.ref c, .str k, .int t] G Q E := by
  unfold w_Shelf_at
  exists h.1
  refine ⟨rfl, vers_k g h hk ?_⟩
  exists if_true
  refine whole_ok ?_
  exists h.1, lk_g
  refine ⟨g.ok_Shelf_gone_till, ?_⟩
  rcases hg with rfl | ⟨i, rfl, hi⟩
  · exists if_true
    exact at_tail (σ := []) (W := W0) hr hQ
  · exists h.1, lk_g, show ¬ t < i by omega, decide_false
    exact ⟨g.ok_Shelf_gone_till, at_tail (σ := []) (W := W0) hr hQ⟩
/-- the newest worth -/
theorem newest_ok (g : e.Good) (h : Shf e G c d m gt) (hk : Gk k) (hQ : Q (opD (newF (getR m k))) G) : w_Shelf_newest e [.ref c, .str k] G Q E := by
  unfold w_Shelf_newest
  exists h.1
  refine ⟨rfl, vers_k g h hk ?_⟩
  exists if_true
  refine i_eqX pure_row pure_nil ?_
  rw [eqv_row]
  unfold newF at hQ
  cases hr : (getR m k).isEmpty with
  | true =>
    have h0 : getR m k = [] := by cases hg : getR m k with | nil => rfl | cons _ _ => rw [hg] at hr; cases hr
    rw [h0] at hQ
    exists if_true
    exact fg_in hQ
  | false =>
    obtain ⟨r, p, e1⟩ := snoc (l := getR m k) (by intro h0; rw [h0] at hr; cases hr)
    rw [e1, List.map_append, List.getLast?_append] at hQ
    exists if_true
    rw [e1]
    refine at_row ?_
    exists ix_pr1
    exact fg_in hQ
/-! ### a twin, all keys, how many -/
def keysOf (m : List (Str × Rw)) : List Str := m.map (·.1)
theorem strKeys_enc : ∀ {m : List (Str × Rw)}, strKeys (encK m) = some (keysOf m)
  | [] => rfl
  | p :: m => by
    show (strKeys (encK m)).map (p.1 :: ·) = _
    rw [strKeys_enc]; rfl
theorem keys_ok (g : e.Good) (h : Shf e G c d m gt) (hm : m.length < 64) (hQ : ∀ ys p G', ys.Perm (keysOf m) → PyProof.Rows.sortedS ys = true → G p = none → G' = put G p (.lst (ys.map D.str)) → Q (.ref p) G') : w_Shelf_all_keys e [.ref c] G Q E := by
  unfold w_Shelf_all_keys
  exists h.1, lk_r
  refine ⟨g.ok_Shelf_rows_of, ?_⟩
  exists h.2
  unfold srtO
  rw [strKeys_enc]
  refine ⟨by unfold keysOf; rw [List.length_map]; exact hm, fun ys h1 h2 p hp => fg_in (hQ ys p _ h1 h2 hp rfl)⟩
def many (m : List (Str × Rw)) : Nat := (m.map fun p => p.2.length).sum
theorem lcO_rows {ok : HD → Prop} {fin : List D → HD → Prop} {c : D} : ∀ {m : List (Str × Rw)} {acc : List D} {G : HD}, ok G → (∀ p ∈ m, p.2.length ≤ 1000) → (∀ acc', acc'.length = acc.length + many m → fin acc' G) →
    lcO ok (oStep (Tgt.one 1) dYes (jSeq (dVar 1)) (Tgt.one 2) dYes (dVar 2) [1, 2] [2] [some c, none, none]) fin (valsD (encK m)) acc G
  | [], acc, G, hk, _, hf => ⟨G, Le.refl _, hk, hf acc rfl⟩
  | p :: m, acc, G, hk, hr, hf => by
    refine ⟨G, Le.refl _, hk, ?_⟩
    unfold oStep
    exists dwipe
    show seqP (rowD p.2) G _
    have e0 : seqP (rowD p.2) G = seqP (.kl (p.2.map prD)) G := rfl
    rw [e0, r_seqK]
    refine ⟨by rw [List.length_map]; exact hr p List.mem_cons_self, lc_fm (f := fun _ => true) (v := prD) (fun x hx ky kn G hk => ?_) ?_⟩
    · unfold iStep
      exists dwipe
      simpa using hk
    · refine lcO_rows hk (fun q hq => hr q (List.mem_cons_of_mem _ hq)) fun acc' h => hf acc' ?_
      have e1 : (p.2.filter fun _ => true) = p.2 := List.filter_eq_self.mpr fun _ _ => rfl
      have e2 : many (p :: m) = p.2.length + many m := by unfold many; rw [List.map_cons, List.sum_cons]
      rw [h, e1, List.length_append, List.length_map, e2]
      omega
theorem len_ok (g : e.Good) (h : Shf e G c d m gt) (hm : m.length ≤ 1000) (hr : ∀ p ∈ m, p.2.length ≤ 1000) (hQ : Q (.int (many m : Nat)) G) : w_Shelf_len e [.ref c] G Q E := by
  unfold w_Shelf_len
  exists q_lockE
  refine ⟨d, encK m, h.2, fun ob mm => ?_⟩
  exists q_lc2V, put_ne h.ne, h.1, lk_r
  refine ⟨g.ok_Shelf_rows_of, by unfold valsD; rw [List.length_map, len_enc]; exact hm, lcO_rows put_same hr fun acc' hl => ⟨put_same, ?_⟩⟩
  rw [put_put, put_id h.2]
  rw [List.length_nil, Nat.zero_add] at hl
  rw [hl]
  exact fg_in hQ
/-! ### letting go -/
def cutF (r : Rw) (t : Int) : Rw := r.drop ((r.filter fun p => decide (p.1.1 ≤ t)).length - 1)
def cutP (t : Int) (p : Str × Rw) : Str × Rw := (p.1, cutF p.2 t)
theorem getR_mid {a b : List (Str × Rw)} {k : Str} {r : Rw} (h : ∀ p ∈ a, p.1 ≠ k) : getR (a ++ (k, r) :: b) k = r := by
  induction a with
  | nil => show (if k = k then r else _) = r; rw [if_pos rfl]
  | cons p a ih =>
    show (if p.1 = k then p.2 else getR (a ++ (k, r) :: b) k) = r
    rw [if_neg (h p List.mem_cons_self)]
    exact ih fun q hq => h q (List.mem_cons_of_mem _ hq)
theorem putR_mid {a b : List (Str × Rw)} {k : Str} {r r' : Rw} (h : ∀ p ∈ a, p.1 ≠ k) (h2 : ∀ p ∈ b, p.1 ≠ k) : putR (a ++ (k, r) :: b) k r' = a ++ (k, r') :: b := by
  unfold putR
  have e0 : hasR (a ++ (k, r) :: b) k = true := List.any_eq_true.mpr ⟨(k, r), by simp, by simp⟩
  rw [if_pos e0, List.map_append, List.map_cons]
  have e1 : a.map (fun p => if p.1 = k then (p.1, r') else p) = a := by
    rw [List.map_congr_left (g := id) fun q hq => by rw [if_neg (h q hq)]; rfl]; simp
  have e2 : b.map (fun p => if p.1 = k then (p.1, r') else p) = b := by
    rw [List.map_congr_left (g := id) fun q hq => by rw [if_neg (h2 q hq)]; rfl]; simp
  rw [e1, e2, if_pos rfl]
theorem valD_mid {a b : List (Str × Rw)} {k : Str} {r : Rw} (h : ∀ p ∈ a, p.1 ≠ k) : valD (encK (a ++ (k, r) :: b)) (.inr k) = some (rowD r) := by
  induction a with
  | nil => show (if (Sum.inr k : Key) = .inr k then some (rowD r) else _) = _; rw [if_pos rfl]
  | cons p a ih =>
    show (if (Sum.inr p.1 : Key) = .inr k then some (rowD p.2) else valD (encK (a ++ (k, r) :: b)) (.inr k)) = _
    rw [if_neg (fun z => h p List.mem_cons_self (Sum.inr.inj z))]
    exact ih fun q hq => h q (List.mem_cons_of_mem _ hq)
theorem cutD_from {l : List D} {n : Nat} : cutD l (some (n : Int)) none = l.drop n := by
  unfold cutD
  rw [HT.sIx_nat, HT.sIx_none]
  by_cases h : n ≤ l.length
  · rw [Nat.min_eq_left h]
    exact List.take_of_length_le (by rw [List.length_drop]; exact Nat.le_refl _)
  · rw [Nat.min_eq_right (by omega), List.drop_length, List.drop_eq_nil_of_le (by omega)]; simp
theorem go_ok (g : e.Good) (h : Shf e G c d m .non) {t : Int} (hm : m.length ≤ 1000) (hn : (keysOf m).Nodup) (hr : ∀ p ∈ m, p.2.length ≤ 1000) (hQ : ∀ G', Fr [c, d] G G' → Shf e G' c d (m.map (cutP t)) (.int t) → Q .non G') : w_Shelf_let_go e [.ref c, .int t] G Q E := by
  unfold w_Shelf_let_go
  exists if_true
  refine whole_ok ?_
  exists q_seqJ, h.1, lk_g
  refine ⟨g.ok_Shelf_gone_till, g.ok_Shelf_gone_till, (show 2 < 1000 by decide), ?_⟩
  have e2 : putD (Str.ofString "gone_till") (.int t) (fsS d .non) = fsS d (.int t) := rfl
  rw [e2]
  have h1 : Shf e (put G c (.ins e.C_Shelf (fsS d (.int t)))) c d m (.int t) := ⟨put_same, by rw [put_ne h.ne.symm]; exact h.2⟩
  have f1 : Fr [c, d] G (put G c (.ins e.C_Shelf (fsS d (.int t)))) := Fr.put List.mem_cons_self
  generalize put G c (.ins e.C_Shelf (fsS d (.int t))) = G1 at h1 f1
  exists h1.1, lk_r
  refine ⟨g.ok_Shelf_rows_of, ?_⟩
  exists h1.2
  refine newL_in fun p G2 hp _ hp2 l2 _ => ?_
  have h2 : Shf e G2 c d m (.int t) := ⟨l2 _ _ h1.1, l2 _ _ h1.2⟩
  have nc : p ≠ c := by rintro rfl; rw [h1.1] at hp; cases hp
  have nd : p ≠ d := by rintro rfl; rw [h1.2] at hp; cases hp
  exists hp2
  have ek : ∀ m : List (Str × Rw), keysD (encK m) = (keysOf m).map D.str := fun m => by unfold keysD encK keysOf; rw [List.map_map, List.map_map]; rfl
  refine forD_inv (fun l σ G' => ∃ a b x2 x3 x4 x5 x6, m = a ++ b ∧ l = keysD (encK b) ∧ σ = [some (.ref c), some (.int t), x2, x3, x4, x5, x6] ∧ Shf e G' c d (a.map (cutP t) ++ b) (.int t) ∧ G' p = some (.lst (keysD (encK m))) ∧ Fr [c, d] G G') (fun l σ G' ⟨a, b, _, _, _, _, _, _, _, _, _, z, _⟩ => z) (fun x l k σ G' hI hk => ?_) (fun σ G' hI => ?_) _ _ _ ⟨[], m, none, none, none, none, none, rfl, rfl, rfl, h2, hp2, f1.trans (.le l2)⟩
  · obtain ⟨a, b, x2, x3, x4, x5, x6, em, el, rfl, hS, hpp, hf⟩ := hI
    cases b with
    | nil => cases el
    | cons q b =>
      obtain ⟨ky, r⟩ := q
      have el' : x :: l = .str ky :: keysD (encK b) := el
      injection el' with e3 e4
      subst e3; subst e4
      have hnd : (keysOf a ++ ky :: keysOf b).Nodup := by rw [em] at hn; unfold keysOf at hn ⊢; simpa using hn
      have ha0 : ∀ p ∈ a, p.1 ≠ ky := fun q hq z => by
        have := (List.nodup_append.mp hnd).2.2 q.1 (List.mem_map.mpr ⟨q, hq, rfl⟩) ky List.mem_cons_self
        exact this z
      have hb0 : ∀ p ∈ b, p.1 ≠ ky := fun q hq z => by
        have h3 := (List.nodup_cons.mp (List.nodup_append.mp hnd).2.1).1
        exact h3 (List.mem_map.mpr ⟨q, hq, z⟩)
      have ha1 : ∀ p ∈ a.map (cutP t), p.1 ≠ ky := fun q hq z => by
        obtain ⟨q0, h3, rfl⟩ := List.mem_map.mp hq
        exact ha0 q0 h3 z
      have hrl : r.length ≤ 1000 := hr (ky, r) (by rw [em]; simp)
      unfold l_Shelf_let_go_1
      exists hS.1, lk_r
      refine ⟨g.ok_Shelf_rows_of, ?_⟩
      exists hS.2, valD_mid ha1
      show seqP (.kl (r.map prD)) _ _
      exists if_true
      refine ⟨by rw [List.length_map]; omega, lc_fm (f := fun p => decide (p.1.1 ≤ t)) (v := fun p => stD p.1) (fun p hp ky kn G hk => ?_) ?_⟩
      · exists prD, dwipe, setAll, ix_st0
        exact hk
      · rw [List.nil_append]
        exists List.length_map
        have ex : (if (((r.filter fun p => decide (p.1.1 ≤ t)).length : Nat) : Int) - 1 > 0 then (((r.filter fun p => decide (p.1.1 ≤ t)).length : Nat) : Int) - 1 else 0) = (((r.filter fun p => decide (p.1.1 ≤ t)).length - 1 : Nat) : Int) := by split <;> omega
        rw [ex]
        have es : ∀ Q : Post, Q (rowD (cutF r t)) G' → rSliceV (rowD r) (some (((r.filter fun p => decide (p.1.1 ≤ t)).length - 1 : Nat) : Int)) none G' Q := fun Q h => by
          unfold rowD
          exists cutD_from
          rw [← List.map_drop]
          exact h
        refine es _ ?_
        exists hS.1, lk_r
        refine ⟨g.ok_Shelf_rows_of, ?_⟩
        exists hS.2, put_enc
        have hp' : putR (a.map (cutP t) ++ (ky, r) :: b) ky (cutF r t) = a.map (cutP t) ++ (ky, cutF r t) :: b := putR_mid ha1 hb0
        refine ⟨by rw [len_enc]; have : m.length = (a.map (cutP t) ++ (ky, r) :: b).length := by { rw [em]; simp }; omega, hk _ _ ⟨a ++ [(ky, r)], b, _, _, _, _, _, by rw [em]; simp, rfl, rfl, ⟨?_, ?_⟩, ?_, ?_⟩⟩
        · rw [put_ne hS.ne]; exact hS.1
        · rw [put_same, hp', List.map_append]
          simp [cutP]
        · rw [put_ne nd]; exact hpp
        · exact hf.trans (Fr.put (by simp))
  · obtain ⟨a, b, x2, x3, x4, x5, x6, em, el, rfl, hS, hpp, hf⟩ := hI
    have hb : b = [] := by cases b with | nil => rfl | cons _ _ => cases el
    subst hb
    rw [List.append_nil] at em hS
    subst em
    exact fg_in (hQ _ hf hS)
/-! ### the law's draws -/
theorem lkey_ok {a : Addr} (hG : Row G a) (hQ : ∀ x G', Gk x → Row G' a → Fr [a] G G' → Q (.str x) G') : w_law_key e [.ref a] G Q E := by
  unfold w_law_key
  exists if_true
  refine take_ok (e := e) hG (by omega) (by omega) fun r G2 h0 h1 hR x2 => ?_
  exists if_true
  refine pickP h0 h1 fun v hv => ?_
  obtain ⟨x, rfl, hx⟩ := six hv
  exact fg_in (hQ x _ hx hR x2)
/-- a whole number of at most 40 figures -/
def Sm (i : Int) : Prop := -10 ^ 40 < i ∧ i < 10 ^ 40
def GoodW (w : List Int) : Prop := 1 ≤ w.length ∧ w.length ≤ 4 ∧ ∀ i ∈ w, Sm i
theorem lworth_ok {a : Addr} (hG : Row G a) (hQ : ∀ (ws : List Int) G', GoodW ws → Row G' a → Fr [a] G G' → Q (woD ws) G') : w_law_worth e [.ref a] G Q E := by
  unfold w_law_worth
  exists if_true
  refine newL_in fun p G1 hp _ h1 l1 _ => ?_
  have hR1 := hG.le l1
  have ne : a ≠ p := by
    obtain ⟨_, _, _, _, h⟩ := hG
    rintro rfl; rw [hp] at h; cases h
  exists if_true
  refine take_ok (e := e) hR1 (by omega) (by omega) fun r G2 ha0 ha1 hR2 x2 => ?_
  exists if_true
  have hp2 := x2 p _ (by simpa using ne.symm) h1
  refine ⟨by omega, by omega, ?_⟩
  have tr : ∀ b : Addr, ∀ o, b ∉ [a] → G b = some o → b ≠ p := fun b o _ hb => by rintro rfl; rw [hp] at hb; cases hb
  refine forR_inv (I := fun i σ G' => (∃ w, σ = [some (.ref a), some (.kl [.int 3, .int 1000000, .int 100000000000000000000000000000]), some (.ref p), w]) ∧ Row G' a ∧ Fr [a] G G' ∧ ∃ ws : List Int, G' p = some (.lst (ws.map D.int)) ∧ ws.length = i ∧ ∀ w ∈ ws, Sm w) (fun _ => trivial) (fun i k σ G' hi hI hk => ?_) (fun σ G' hI => ?_) ⟨⟨none, rfl⟩, hR2, (Fr.le l1).trans x2, [], hp2, rfl, by simp⟩
  · obtain ⟨⟨w, rfl⟩, hR, hF, ws, hpw, hl, hs⟩ := hI
    have hi4 : i < 5 := by omega
    unfold l_law_worth_1
    exists hpw
    refine ⟨⟨_, rfl⟩, ?_⟩
    refine take_ok (e := e) hR (by omega) (by omega) fun r1 G3 hb0 hb1 hR3 x3 => ?_
    exists if_true
    refine pickN 3 (10 ^ 29) hb0 hb1 (by decide +kernel) fun v hv0 hv1 => ?_
    refine take_ok (e := e) hR3 (by omega) (by omega) fun r2 G4 hc0 hc1 hR4 x4 => ?_
    exists if_true
    refine take_ok (e := e) hR4 (by omega) (by omega) fun r3 G5 hd0 hd1 hR5 x5 => ?_
    exists if_true
    have hp5 := x5 p _ (by simpa using ne.symm) (x4 p _ (by simpa using ne.symm) (x3 p _ (by simpa using ne.symm) hpw))
    exists hp5
    refine ⟨by simp; omega, hk _ _ ⟨⟨_, rfl⟩, hR5.fr (Fr.put (A := [p]) List.mem_cons_self) (by simpa using ne), ?_, ws ++ [r2 - r3], ?_, by simp [hl], ?_⟩⟩
    · intro b o hb hg
      rw [put_ne (tr b o hb hg)]
      exact (hF.trans (x3.trans (x4.trans x5))) b o hb hg
    · rw [put_same]; simp
    · intro w hw
      rcases List.mem_append.mp hw with hw | hw
      · exact hs w hw
      · simp at hw; subst hw; constructor <;> omega
  · obtain ⟨⟨w, rfl⟩, hR, hF, ws, hpw, hl, hs⟩ := hI
    exists if_true
    show rTuple [.ref p] G' (fg Q)
    unfold rTuple
    simp only [asQ, asL, hpw]
    exact fg_in (hQ ws G' ⟨by omega, by omega, hs⟩ hR hF)
/-! ### what was read -/
def seenD (x : Str × Int × Option (List Int)) : D := .tup [.str x.1, .int x.2.1, opD x.2.2]
theorem lay_ints : ∀ w : List Int, PyData.canLayAll0 ((w.map D.int).map (toPy 8)) = true
  | [] => rfl
  | i :: w => by
    show (true && PyData.canLayAll0 ((w.map D.int).map (toPy 8))) = true
    rw [lay_ints w]; rfl
theorem pure_op {v : Option (List Int)} : pureD 9 (opD v) = true := by
  cases v with
  | none => rfl
  | some w =>
    show (w.map D.int).all (pureD 8) = true
    rw [List.all_map]; exact List.all_eq_true.mpr fun _ _ => rfl
theorem eqv_op {v : Option (List Int)} : eqvD (opD v) (opD v) = true := by
  cases v with
  | none => decide +kernel
  | some w => exact PySem.SeqAt.eqv_refl _ (by show PyData.canLayAll0 ((w.map D.int).map (toPy 8)) = true; exact lay_ints w)
theorem lc_noneK {ok : HD → Prop} {step : D → (D → HD → Prop) → (HD → Prop) → HD → Prop} {fin : List D → HD → Prop} {G : HD} (hk : ok G) : ∀ {xs acc : List D}, (∀ x ∈ xs, ∀ (ky : D → HD → Prop) (kn : HD → Prop), kn G → step x ky kn G) → fin acc G → lcD ok step fin xs acc G
  | [], acc, _, hf => ⟨G, Le.refl _, hk, hf⟩
  | x :: xs, acc, h, hf => ⟨G, Le.refl _, hk, h x List.mem_cons_self _ _ (lc_noneK hk (fun y hy => h y (List.mem_cons_of_mem _ hy)) hf)⟩
/-- what was read so is read so -/
def Rds (m : List (Str × Rw)) (gt : D) (S : List (Str × Int × Option (List Int))) : Prop := ∀ x ∈ S, Gk x.1 ∧ x.2.2 = atF (getR m x.1) x.2.1 ∧ (gt = .non ∨ ∃ i, gt = .int i ∧ i ≤ x.2.1)
end
end P

namespace P
open PySem PySem.Spec L2 DL
local macro_rules | `(tactic| exists $es:term,*) => `(tactic| try simp only [q_disp, r_dkF, r_inF, q_augI, r_getP2, r_getO2, r_cmpA, q_makeK, q_enum, r_enumP, r_enumO, r_repK, r_addNK, r_inIK, r_inIT, q_get1, q_get2, q_dget, q_sdict, q_pop2, q_setd, q_dic, r_dictP, r_getS, r_getI, r_getO, r_dkS, r_dkI, r_dkO, r_inS, r_inI, r_inO, r_dpS, r_dpI, r_dpO, r_dicP, r_dicO, r_sortDic, r_listDic, r_dictDic, q_dapp, r_lstP, r_appP, r_appO, q_clear, r_clrP, r_clrO, q_truO, r_truOP, r_ownTru, r_boolOD, r_ownBool, q_notO, r_cmpTI, r_cmpT3, r_lenOD, r_ownLen, q_jkeys, q_jvals, r_fzP, r_fzO, q_jstr, r_strS, r_leXI, r_leXS, q_join, q_upper, r_joinP, r_upP, q_kw1, r_minT2, q_emp, q_mt1, r_isiEB, r_isiEb, r_isiEt, r_isiEs, r_isiEl, r_isiEd, r_isiER, r_isE_non, r_isX_non, r_isE_bl, r_isX_bl, r_isE_int, r_isX_int, r_isE_str, r_isX_str, r_isE_tup, r_isX_tup, r_isE_kl, r_isX_kl, r_isE_kc, r_isX_kc, r_isE_ref, r_isX_ref, r_rIsiET, r_rIsiER, r_rIsiXT, r_rIsiXR, r_isD_non_int, r_isD_non_bool, r_isD_non_tuple, r_isD_non_str, r_isD_non_list, r_isD_non_dict, r_isD_bl_int, r_isD_bl_bool, r_isD_bl_tuple, r_isD_bl_str, r_isD_bl_list, r_isD_bl_dict, r_isD_int_int, r_isD_int_bool, r_isD_int_tuple, r_isD_int_str, r_isD_int_list, r_isD_int_dict, r_isD_str_int, r_isD_str_bool, r_isD_str_tuple, r_isD_str_str, r_isD_str_list, r_isD_str_dict, r_isD_tup_int, r_isD_tup_bool, r_isD_tup_tuple, r_isD_tup_str, r_isD_tup_list, r_isD_tup_dict, r_isD_kl_int, r_isD_kl_bool, r_isD_kl_tuple, r_isD_kl_str, r_isD_kl_list, r_isD_kl_dict, r_isD_kc_int, r_isD_kc_bool, r_isD_kc_tuple, r_isD_kc_str, r_isD_kc_list, r_isD_kc_dict, r_isD_non_own, r_isD_bl_own, r_isD_int_own, r_isD_str_own, r_isD_tup_own, r_isD_kl_own, r_isD_kc_own, q_wpf, q_seq, q_set, q_ret, q_retN, q_if, q_drop, r_unp', r_par, q_next, q_brk, q_cont, q_for, sWhile, q_sub, sAug, q_rng1, r_rng1P, jRng2, q_jseq, r_seqT, r_seqK, r_seqR, r_seqL, r_ownP, q_op, r_var, r_varS, q_c, q_cons, q_nil, q_cb, q_tup, q_lst, r_test, r_tru, q_not, q_and, q_or, r_andV, r_orV, r_notV, q_if', q_un, q_call, q_slice, q_some, q_none, r_intP, r_chn, r_chnT, r_link, r_last, cp2, pw2, cp3, pw3, cp4, pw4, cp5, pw5, cp6, pw6, cp7, pw7, cp8, pw8, cp9, pw9, cp10, pw10, cp12, pw12, cp15, pw15, cp18, pw18, cp20, pw20, cp24, pw24, cp28, pw28, cp29, pw29, cp30, pw30, q_tryH, q_raise0, q_raiseX, q_xfld, r_xfld, q_setAs, q_setAs0, q_endsAs0, q_endsNx, q_endsRt, q_endsBk, q_endsCt, r_isNx, r_lcV, q_lstV, q_sliceV, q_frz, r_frzR, r_frzL, r_frzT, r_frzK, r_frzN, r_addVI, r_addVT, r_addVK, r_addVO, r_sliVK, r_sliVC, r_sliVT, r_sliVR, r_sliVL, r_listVK, r_listVC, r_listVT, r_truK, r_eqXS, r_eqXI, r_eqXT2, r_strI, r_seqC, r_ixC, r_lenC, r_sliC, q_lc, q_yes, q_make, r_nonP, q_fldg, r_eqT2, r_set0, r_set1, q_put1, q_putN, r_blP, r_boolP, r_unpP, r_parP, r_opt, r_pick, r_add, r_addT, r_addR, r_addL, r_sub, r_mul, r_div, r_mod, r_pow, r_cmp, r_lt, r_neg, r_isXB, r_isXN, r_isN, r_isNr, r_isNi, r_isNn, r_isNt, r_eqI, r_ixT, r_ixK, r_ixR, r_lstOf, r_sliT, r_sliK, r_sliR, r_sliL, r_truB, r_truI, r_truT, r_truN, r_truR, r_truL, r_max, r_min, r_intB, r_intI, r_abs, r_lenT, r_lenK, r_lenR, r_lenL, r_nat, r_set, r_setL, r_isI, r_isB, r_isT, r_fld, r_fldR, r_fldI, r_sfd, r_sfdR, r_sfdI, r_met, r_metR, r_met1, atI0, atI1, atI2, atI3, atI4, ixN1a, ixN2a, ixN2b, ixN3a, ixN3b, ixN3c, put_same, List.map_cons, List.map_nil, List.length_cons, List.length_nil, List.length_set, List.replicate, List.cons_append, List.nil_append, List.append_nil, List.getElem?_cons_zero, List.getElem?_cons_succ, List.set_cons_zero, List.set_cons_succ, true_and, and_true, Option.some.injEq, if_true, if_false, ite_true, ite_false, reduceIte, Bool.not_true, Bool.not_false, Bool.false_eq_true, Nat.reduceAdd, Nat.reduceLeDiff, $[$es:term],*])
/-! ### rows, by themselves -/
section
variable {m : List (Str × Rw)} {k k' : Str} {r r' : Rw} {s : St3} {w : List Int} {t u : Int}
theorem getR_none : ∀ {m : List (Str × Rw)}, ¬ hasR m k = true → getR m k = []
  | [], _ => rfl
  | p :: m, h => by
    have hp : ¬ p.1 = k := fun z => h (by unfold hasR; rw [List.any_cons, decide_eq_true z]; rfl)
    have hm : ¬ hasR m k = true := fun z => h (by unfold hasR at z ⊢; rw [List.any_cons, z, Bool.or_true])
    show (if p.1 = k then p.2 else getR m k) = []
    rw [if_neg hp]; exact getR_none hm
theorem getR_over : ∀ {m : List (Str × Rw)}, hasR m k = true → getR (m.map fun p => if p.1 = k then (p.1, r) else p) k' = if k' = k then r else getR m k'
  | [], h => by cases h
  | p :: m, h => by
    by_cases hp : p.1 = k
    · have e0 : ((p :: m).map fun p => if p.1 = k then (p.1, r) else p) = (p.1, r) :: (m.map fun p => if p.1 = k then (p.1, r) else p) := by rw [List.map_cons, if_pos hp]
      rw [e0]
      show (if p.1 = k' then r else getR (m.map fun p => if p.1 = k then (p.1, r) else p) k') = if k' = k then r else if p.1 = k' then p.2 else getR m k'
      by_cases h2 : p.1 = k'
      · rw [if_pos h2, if_pos (by rw [← h2]; exact hp)]
      · have h3 : ¬ k' = k := fun z => h2 (hp.trans z.symm)
        rw [if_neg h2, if_neg h3, if_neg h2]
        by_cases hm : hasR m k = true
        · rw [getR_over hm, if_neg h3]
        · have : (m.map fun p => if p.1 = k then (p.1, r) else p) = m := by
            have hm' : ∀ q ∈ m, ¬ q.1 = k := fun q hq z => hm (List.any_eq_true.mpr ⟨q, hq, decide_eq_true z⟩)
            rw [List.map_congr_left (g := id) fun q hq => by rw [if_neg (hm' q hq)]; rfl]; simp
          rw [this]
    · have hm : hasR m k = true := by
        unfold hasR at h ⊢
        rw [List.any_cons, decide_eq_false hp, Bool.false_or] at h
        exact h
      have e0 : ((p :: m).map fun p => if p.1 = k then (p.1, r) else p) = p :: (m.map fun p => if p.1 = k then (p.1, r) else p) := by rw [List.map_cons, if_neg hp]
      rw [e0]
      show (if p.1 = k' then p.2 else getR (m.map fun p => if p.1 = k then (p.1, r) else p) k') = if k' = k then r else if p.1 = k' then p.2 else getR m k'
      by_cases h2 : p.1 = k'
      · rw [if_pos h2, if_neg (by rw [← h2]; exact hp), if_pos h2]
      · rw [if_neg h2, if_neg h2]; exact getR_over hm
theorem getR_app : ∀ {m : List (Str × Rw)}, ¬ hasR m k = true → getR (m ++ [(k, r)]) k' = if k' = k then r else getR m k'
  | [], _ => by
    show (if k = k' then r else []) = if k' = k then r else []
    by_cases h : k' = k
    · rw [if_pos h, if_pos h.symm]
    · rw [if_neg h, if_neg (Ne.symm h)]
  | p :: m, h => by
    have hp : ¬ p.1 = k := fun z => h (by unfold hasR; rw [List.any_cons, decide_eq_true z]; rfl)
    have hm : ¬ hasR m k = true := fun z => h (by unfold hasR at z ⊢; rw [List.any_cons, z, Bool.or_true])
    show (if p.1 = k' then p.2 else getR (m ++ [(k, r)]) k') = if k' = k then r else if p.1 = k' then p.2 else getR m k'
    by_cases h2 : p.1 = k'
    · rw [if_pos h2, if_neg (by rw [← h2]; exact hp), if_pos h2]
    · rw [if_neg h2, if_neg h2]; exact getR_app hm
theorem getR_put : getR (putR m k r) k' = if k' = k then r else getR m k' := by
  unfold putR
  by_cases h : hasR m k = true
  · rw [if_pos h]; exact getR_over h
  · rw [if_neg h]; exact getR_app h
theorem keysOf_put : keysOf (putR m k r) = if hasR m k = true then keysOf m else keysOf m ++ [k] := by
  unfold putR
  by_cases h : hasR m k = true
  · rw [if_pos h, if_pos h]
    unfold keysOf
    rw [List.map_map]
    apply List.map_congr_left
    intro p _
    by_cases hp : p.1 = k <;> simp [hp]
  · rw [if_neg h, if_neg h]
    unfold keysOf
    rw [List.map_append]; rfl
theorem hasR_mem : hasR m k = true ↔ k ∈ keysOf m := by
  unfold hasR keysOf
  rw [List.any_eq_true]
  constructor
  · rintro ⟨p, h1, h2⟩; exact List.mem_map.mpr ⟨p, h1, of_decide_eq_true h2⟩
  · intro h
    obtain ⟨p, h1, h2⟩ := List.mem_map.mp h
    exact ⟨p, h1, decide_eq_true h2⟩
theorem nodup_put (h : (keysOf m).Nodup) : (keysOf (putR m k r)).Nodup := by
  rw [keysOf_put]
  by_cases hk : hasR m k = true
  · rw [if_pos hk]; exact h
  · rw [if_neg hk]
    refine List.nodup_append.mpr ⟨h, by simp, fun a ha b hb z => ?_⟩
    simp at hb
    subst hb; subst z
    exact hk (hasR_mem.mpr ha)
theorem getR_cut : getR (m.map (cutP t)) k = cutF (getR m k) t := by
  induction m with
  | nil => rfl
  | cons p m ih =>
    show (if p.1 = k then cutF p.2 t else getR (m.map (cutP t)) k) = cutF (if p.1 = k then p.2 else getR m k) t
    by_cases h : p.1 = k
    · rw [if_pos h, if_pos h]
    · rw [if_neg h, if_neg h]; exact ih
/-! ### the worth at a time -/
theorem atF_put (h : t < s.1) : atF (r ++ [(s, w)]) t = atF r t := by
  unfold atF
  rw [List.filter_append]
  have : ([(s, w)].filter fun p => decide (p.1.1 ≤ t)) = [] := by
    rw [List.filter_cons_of_neg (by simp; omega)]; rfl
  rw [this, List.append_nil]
/-- times ascend -/
def Asc (r : Rw) : Prop := r.Pairwise fun p q => p.1.1 ≤ q.1.1
theorem asc_split (h : Asc r) : ∃ a b, r = a ++ b ∧ (∀ p ∈ a, p.1.1 ≤ t) ∧ (∀ p ∈ b, t < p.1.1) ∧ (r.filter fun p => decide (p.1.1 ≤ t)) = a := by
  induction r with
  | nil => exact ⟨[], [], rfl, by simp, by simp, rfl⟩
  | cons p r ih =>
    obtain ⟨h1, h2⟩ := List.pairwise_cons.mp h
    by_cases hp : p.1.1 ≤ t
    · obtain ⟨a, b, e, ha, hb, hf⟩ := ih h2
      refine ⟨p :: a, b, by rw [e]; rfl, fun q hq => ?_, hb, by rw [List.filter_cons, if_pos (by simpa using hp), hf]⟩
      rcases List.mem_cons.mp hq with rfl | hq
      · exact hp
      · exact ha q hq
    · have hall : ∀ q ∈ p :: r, t < q.1.1 := fun q hq => by
        rcases List.mem_cons.mp hq with rfl | hq
        · omega
        · have := h1 q hq; omega
      refine ⟨[], p :: r, rfl, by simp, hall, ?_⟩
      exact List.filter_eq_nil_iff.mpr fun q hq => by have := hall q hq; simp; omega
theorem atF_cut (h : Asc r) (hu : t ≤ u) : atF (cutF r t) u = atF r u := by
  obtain ⟨a, b, e, ha, hb, hf⟩ := asc_split (t := t) h
  unfold cutF
  rw [hf]
  have e1 : r.drop (a.length - 1) = a.drop (a.length - 1) ++ b := by
    rw [e, List.drop_append_of_le_length (by omega)]
  rw [e1, e]
  unfold atF
  rw [List.filter_append, List.filter_append]
  have f1 : (a.filter fun p => decide (p.1.1 ≤ u)) = a := List.filter_eq_self.mpr fun p hp => decide_eq_true (by have := ha p hp; omega)
  have f2 : ((a.drop (a.length - 1)).filter fun p => decide (p.1.1 ≤ u)) = a.drop (a.length - 1) := List.filter_eq_self.mpr fun p hp => decide_eq_true (by have := ha p (List.mem_of_mem_drop hp); omega)
  rw [f1, f2, List.map_append, List.map_append, List.getLast?_append, List.getLast?_append]
  congr 1
  by_cases hn : a = []
  · subst hn; rfl
  · obtain ⟨c, x, rfl⟩ := snoc hn
    have : (c ++ [x]).length - 1 = c.length := by simp
    rw [this, List.drop_left]
    simp
end
end P
namespace P
open PySem PySem.Spec L2 DL
local macro_rules | `(tactic| exists $es:term,*) => `(tactic| try simp only [q_disp, r_dkF, r_inF, q_augI, r_getP2, r_getO2, r_cmpA, q_makeK, q_enum, r_enumP, r_enumO, r_repK, r_addNK, r_inIK, r_inIT, q_get1, q_get2, q_dget, q_sdict, q_pop2, q_setd, q_dic, r_dictP, r_getS, r_getI, r_getO, r_dkS, r_dkI, r_dkO, r_inS, r_inI, r_inO, r_dpS, r_dpI, r_dpO, r_dicP, r_dicO, r_sortDic, r_listDic, r_dictDic, q_dapp, r_lstP, r_appP, r_appO, q_clear, r_clrP, r_clrO, q_truO, r_truOP, r_ownTru, r_boolOD, r_ownBool, q_notO, r_cmpTI, r_cmpT3, r_lenOD, r_ownLen, q_jkeys, q_jvals, r_fzP, r_fzO, q_jstr, r_strS, r_leXI, r_leXS, q_join, q_upper, r_joinP, r_upP, q_kw1, r_minT2, q_emp, q_mt1, r_isiEB, r_isiEb, r_isiEt, r_isiEs, r_isiEl, r_isiEd, r_isiER, r_isE_non, r_isX_non, r_isE_bl, r_isX_bl, r_isE_int, r_isX_int, r_isE_str, r_isX_str, r_isE_tup, r_isX_tup, r_isE_kl, r_isX_kl, r_isE_kc, r_isX_kc, r_isE_ref, r_isX_ref, r_rIsiET, r_rIsiER, r_rIsiXT, r_rIsiXR, r_isD_non_int, r_isD_non_bool, r_isD_non_tuple, r_isD_non_str, r_isD_non_list, r_isD_non_dict, r_isD_bl_int, r_isD_bl_bool, r_isD_bl_tuple, r_isD_bl_str, r_isD_bl_list, r_isD_bl_dict, r_isD_int_int, r_isD_int_bool, r_isD_int_tuple, r_isD_int_str, r_isD_int_list, r_isD_int_dict, r_isD_str_int, r_isD_str_bool, r_isD_str_tuple, r_isD_str_str, r_isD_str_list, r_isD_str_dict, r_isD_tup_int, r_isD_tup_bool, r_isD_tup_tuple, r_isD_tup_str, r_isD_tup_list, r_isD_tup_dict, r_isD_kl_int, r_isD_kl_bool, r_isD_kl_tuple, r_isD_kl_str, r_isD_kl_list, r_isD_kl_dict, r_isD_kc_int, r_isD_kc_bool, r_isD_kc_tuple, r_isD_kc_str, r_isD_kc_list, r_isD_kc_dict, r_isD_non_own, r_isD_bl_own, r_isD_int_own, r_isD_str_own, r_isD_tup_own, r_isD_kl_own, r_isD_kc_own, q_wpf, q_seq, q_set, q_ret, q_retN, q_if, q_drop, r_unp', r_par, q_next, q_brk, q_cont, q_for, sWhile, q_sub, sAug, q_rng1, r_rng1P, jRng2, q_jseq, r_seqT, r_seqK, r_seqR, r_seqL, r_ownP, q_op, r_var, r_varS, q_c, q_cons, q_nil, q_cb, q_tup, q_lst, r_test, r_tru, q_not, q_and, q_or, r_andV, r_orV, r_notV, q_if', q_un, q_call, q_slice, q_some, q_none, r_intP, r_chn, r_chnT, r_link, r_last, cp2, pw2, cp3, pw3, cp4, pw4, cp5, pw5, cp6, pw6, cp7, pw7, cp8, pw8, cp9, pw9, cp10, pw10, cp12, pw12, cp15, pw15, cp18, pw18, cp20, pw20, cp24, pw24, cp28, pw28, cp29, pw29, cp30, pw30, q_tryH, q_raise0, q_raiseX, q_xfld, r_xfld, q_setAs, q_setAs0, q_endsAs0, q_endsNx, q_endsRt, q_endsBk, q_endsCt, r_isNx, r_lcV, q_lstV, q_sliceV, q_frz, r_frzR, r_frzL, r_frzT, r_frzK, r_frzN, r_addVI, r_addVT, r_addVK, r_addVO, r_sliVK, r_sliVC, r_sliVT, r_sliVR, r_sliVL, r_listVK, r_listVC, r_listVT, r_truK, r_eqXS, r_eqXI, r_eqXT2, r_strI, r_seqC, r_ixC, r_lenC, r_sliC, q_lc, q_yes, q_make, r_nonP, q_fldg, r_eqT2, r_set0, r_set1, q_put1, q_putN, r_blP, r_boolP, r_unpP, r_parP, r_opt, r_pick, r_add, r_addT, r_addR, r_addL, r_sub, r_mul, r_div, r_mod, r_pow, r_cmp, r_lt, r_neg, r_isXB, r_isXN, r_isN, r_isNr, r_isNi, r_isNn, r_isNt, r_eqI, r_ixT, r_ixK, r_ixR, r_lstOf, r_sliT, r_sliK, r_sliR, r_sliL, r_truB, r_truI, r_truT, r_truN, r_truR, r_truL, r_max, r_min, r_intB, r_intI, r_abs, r_lenT, r_lenK, r_lenR, r_lenL, r_nat, r_set, r_setL, r_isI, r_isB, r_isT, r_fld, r_fldR, r_fldI, r_sfd, r_sfdR, r_sfdI, r_met, r_metR, r_met1, atI0, atI1, atI2, atI3, atI4, ixN1a, ixN2a, ixN2b, ixN3a, ixN3b, ixN3c, put_same, List.map_cons, List.map_nil, List.length_cons, List.length_nil, List.length_set, List.replicate, List.cons_append, List.nil_append, List.append_nil, List.getElem?_cons_zero, List.getElem?_cons_succ, List.set_cons_zero, List.set_cons_succ, true_and, and_true, Option.some.injEq, if_true, if_false, ite_true, ite_false, reduceIte, Bool.not_true, Bool.not_false, Bool.false_eq_true, Nat.reduceAdd, Nat.reduceLeDiff, $[$es:term],*])
/-! ### how rows are shown -/
def GoodS (s : St3) : Prop := Sm s.1 ∧ Sm s.2.1 ∧ Sm s.2.2
def GoodR (r : Rw) : Prop := r.length ≤ 40 ∧ ∀ p ∈ r, GoodS p.1 ∧ GoodW p.2
section
variable {e : Env} {G G' : HD} {c d : Addr} {m : List (Str × Rw)} {gt : D} {Q : Post} {E : DX} {k : Str} {r : Rw}
theorem sm_s {n : Nat} {i : Int} (h : Sm i) : smallD n (.int i) = true := by
  cases n with
  | zero => rfl
  | succ n =>
    show decide (i.natAbs < 10 ^ 60) = true
    have h' := h.1
    have h'' := h.2
    have : i.natAbs < 10 ^ 40 := by omega
    exact decide_eq_true (Nat.lt_trans this (by decide +kernel))
theorem small_st {n : Nat} {s : St3} (h : GoodS s) : smallD (n + 1) (stD s) = true := by
  show (smallD n (.int s.1) && (smallD n (.int s.2.1) && (smallD n (.int s.2.2) && true))) = true
  rw [sm_s h.1, sm_s h.2.1, sm_s h.2.2]; rfl
theorem small_wo {n : Nat} {w : List Int} (h : ∀ i ∈ w, Sm i) : smallD (n + 1) (woD w) = true := by
  show (w.map D.int).all (smallD n) = true
  rw [List.all_map]; exact List.all_eq_true.mpr fun i hi => sm_s (h i hi)
theorem small_row {n : Nat} (h : GoodR r) : smallD (n + 3) (rowD r) = true := by
  show (r.map prD).all (smallD (n + 2)) = true
  rw [List.all_map]
  refine List.all_eq_true.mpr fun p hp => ?_
  show (smallD (n + 1) (stD p.1) && (smallD (n + 1) (woD p.2) && true)) = true
  rw [small_st (h.2 p hp).1, small_wo (h.2 p hp).2.2.2]; rfl
theorem cap_ints : ∀ ws : List Int, capDs (ws.map D.int) = ws.length * 604
  | [] => by simp only [List.map_nil, capDs, List.length_nil]
  | w :: ws => by simp only [List.map_cons, capDs, capD, List.length_cons, cap_ints ws]; omega
theorem cap_pr {p : St3 × List Int} (h : GoodW p.2) : capD (prD p) ≤ 5000 := by
  have h4 := h.2.1
  simp only [prD, stD, woD, capD, capDs, cap_ints]; omega
theorem cap_prs : ∀ {r : Rw}, (∀ p ∈ r, GoodW p.2) → capDs (r.map prD) ≤ r.length * 5002
  | [], _ => Nat.zero_le _
  | p :: r, h => by
    have h1 := cap_pr (h p List.mem_cons_self)
    have h2 := cap_prs (r := r) fun q hq => h q (List.mem_cons_of_mem _ hq)
    simp only [List.map_cons, capDs, List.length_cons]; omega
theorem cap_row (h : GoodR r) : capD (rowD r) ≤ 210000 := by
  have := cap_prs (r := r) fun p hp => (h.2 p hp).2
  have := h.1
  simp only [rowD, capD]; omega
theorem pure_rown {n : Nat} : pureD (n + 4) (rowD r) = true := by
  show (r.map prD).all (pureD (n + 3)) = true
  rw [List.all_map]
  refine List.all_eq_true.mpr fun p _ => ?_
  show (pureD (n + 2) (stD p.1) && (pureD (n + 2) (woD p.2) && true)) = true
  have h1 : pureD (n + 2) (stD p.1) = true := rfl
  have h2 : pureD (n + 2) (woD p.2) = true := by
    show (p.2.map D.int).all (pureD (n + 1)) = true
    rw [List.all_map]; exact List.all_eq_true.mpr fun _ _ => rfl
  rw [h1, h2]; rfl
theorem rep_row (h : GoodR r) (hQ : Q (.str (toPy 9 (rowD r)).shown) G) : rReprD [rowD r] G Q :=
  i_reprB pure_row (small_row (n := 6) h) (Nat.le_trans (cap_row h) (by decide)) hQ
/-- the six keys -/
def sixS : List Str := ["a", "b", "ab", "zzzzzz", "house", "q"]
def allL (m : List (Str × Rw)) : List D := sixS.map (fun k => rowD (getR m k)) ++ [.int (many m : Nat)]
def allT (m : List (Str × Rw)) : Str := (toPy 9 (.kl (allL m))).shown
theorem pure_all : pureD 9 (.kl (allL m)) = true := by
  show (allL m).all (pureD 8) = true
  unfold allL
  rw [List.all_append, List.all_map]
  have h1 : sixS.all (pureD 8 ∘ fun k => rowD (getR m k)) = true := List.all_eq_true.mpr fun k _ => pure_rown (n := 4)
  rw [h1]; rfl
theorem rep_all (h : ∀ k, GoodR (getR m k)) (hm : many m ≤ 1000000) (hQ : Q (.str (allT m)) G) : rReprD [.kl (allL m)] G Q := by
  refine i_reprB pure_all ?_ ?_ hQ
  · show (allL m).all (smallD 8) = true
    unfold allL
    rw [List.all_append, List.all_map]
    have h1 : sixS.all (smallD 8 ∘ fun k => rowD (getR m k)) = true := List.all_eq_true.mpr fun k _ => small_row (n := 5) (h k)
    have h2 : smallD 8 (.int (many m : Nat)) = true := sm_s (by constructor <;> omega)
    rw [h1]
    show (smallD 8 (.int (many m : Nat)) && true) = true
    rw [h2]; rfl
  · have hc : ∀ l : List Str, capDs (l.map (fun k => rowD (getR m k)) ++ [.int (many m : Nat)]) ≤ l.length * 210002 + 604 := by
      intro l
      induction l with
      | nil => simp only [List.map_nil, List.nil_append, capDs, capD, List.length_nil]; omega
      | cons k l ih =>
        have := cap_row (h k)
        simp only [List.map_cons, List.cons_append, capDs, List.length_cons]; omega
    have := hc sixS
    have e6 : sixS.length = 6 := rfl
    simp only [capD, allL]; omega
theorem lc_mapK {ok : HD → Prop} {step : D → (D → HD → Prop) → (HD → Prop) → HD → Prop} {fin : List D → HD → Prop} {f : D → D} (hk : ok G) : ∀ {xs acc : List D}, (∀ x ∈ xs, ∀ (ky : D → HD → Prop) (kn : HD → Prop), ky (f x) G → step x ky kn G) → fin (acc ++ xs.map f) G → lcD ok step fin xs acc G
  | [], acc, _, hf => ⟨G, Le.refl _, hk, by simpa using hf⟩
  | x :: xs, acc, h, hf => ⟨G, Le.refl _, hk, h x List.mem_cons_self _ _ (lc_mapK hk (fun y hy => h y (List.mem_cons_of_mem _ hy)) (by simpa using hf))⟩
def rowOf (m : List (Str × Rw)) : D → D
  | .str k => rowD (getR m k)
  | _ => .non
/-! ### what is held: rows, and a list of keys -/
def heldT (r : Rw) (ys : List Str) : Str := (toPy 9 (.kl [rowD r, .kl (ys.map D.str)])).shown
theorem pyD_held {q : Addr} {ys : List Str} (h : G q = some (.lst (ys.map D.str))) (hy : ∀ y ∈ ys, PyData.strOk y = true) : pyD 9 G (.kl [rowD r, .ref q]) = some (toPy 9 (.kl [rowD r, .kl (ys.map D.str)])) := by
  have h1 : pyD 8 G (rowD r) = some (toPy 8 (rowD r)) := pyD_pure 8 _ (pure_rown (n := 4))
  have h2 : pyD 8 G (.kl (ys.map D.str)) = some (toPy 8 (.kl (ys.map D.str))) := pyD_pure 8 _ (by
    show (ys.map D.str).all (pureD 7) = true
    rw [List.all_map]; exact List.all_eq_true.mpr fun y hy' => hy y hy')
  have h3 : pyD 8 G (.ref q) = some (toPy 8 (.kl (ys.map D.str))) := by
    rw [← h2]
    show (match G q with | some (.lst ds) => (ds.mapM (pyD 7 G)).map PyData.list | _ => none) = ((ys.map D.str).mapM (pyD 7 G)).map PyData.list
    rw [h]
  show ([rowD r, .ref q].mapM (pyD 8 G)).map PyData.list = _
  rw [List.mapM_cons, h1, List.mapM_cons, h3]
  rfl
theorem cap_strs : ∀ ys : List Str, capDs (ys.map D.str) = ys.length * 604
  | [] => by simp only [List.map_nil, capDs, List.length_nil]
  | w :: ws => by simp only [List.map_cons, capDs, capD, List.length_cons, cap_strs ws]; omega
theorem rep_held {q : Addr} {ys : List Str} (hr : GoodR r) (h : G q = some (.lst (ys.map D.str))) (hy : ∀ y ∈ ys, PyData.strOk y = true ∧ y.length ≤ 60) (hl : ys.length ≤ 100) (hQ : Q (.str (heldT r ys)) G) : rReprD [.kl [rowD r, .ref q]] G Q := by
  have e : repO G (.kl [rowD r, .ref q]) = some (toPy 9 (.kl [rowD r, .kl (ys.map D.str)])) := by
    unfold repO
    rw [pyD_held h fun y hy' => (hy y hy').1]
  have hs : smallD 9 (.kl [rowD r, .kl (ys.map D.str)]) = true := by
    show (smallD 8 (rowD r) && (smallD 8 (.kl (ys.map D.str)) && true)) = true
    have h2 : smallD 8 (.kl (ys.map D.str)) = true := by
      show (ys.map D.str).all (smallD 7) = true
      rw [List.all_map]
      refine List.all_eq_true.mpr fun y hy' => ?_
      show (PyData.strOk y && decide (y.length ≤ 60)) = true
      rw [(hy y hy').1, decide_eq_true (hy y hy').2]; rfl
    rw [small_row (n := 5) hr, h2]; rfl
  have hc : capD (.kl [rowD r, .kl (ys.map D.str)]) ≤ 16000000 := by
    have := cap_row hr
    simp only [capD, capDs, cap_strs]
    omega
  show rReprO (repO G (.kl [rowD r, .ref q])) G Q
  rw [e]
  exact ⟨(small_shown 9 _ hs).1, Nat.le_trans (small_shown 9 _ hs).2 (by rw [sizeLine_eq]; omega), hQ⟩
theorem held_ok {ys : List Str} (hy : ∀ y ∈ ys, PyData.strOk y = true) : PyData.strOk (heldT r ys) = true := shown_ok 9 _ (by
  show (pureD 8 (rowD r) && (pureD 8 (.kl (ys.map D.str)) && true)) = true
  have h2 : pureD 8 (.kl (ys.map D.str)) = true := by
    show (ys.map D.str).all (pureD 7) = true
    rw [List.all_map]; exact List.all_eq_true.mpr fun y hy' => hy y hy'
  rw [pure_rown (n := 4), h2]; rfl)
end
end P

namespace P
open PySem PySem.Spec L2 DL
local macro_rules | `(tactic| exists $es:term,*) => `(tactic| try simp only [q_disp, r_dkF, r_inF, q_augI, r_getP2, r_getO2, r_cmpA, q_makeK, q_enum, r_enumP, r_enumO, r_repK, r_addNK, r_inIK, r_inIT, q_get1, q_get2, q_dget, q_sdict, q_pop2, q_setd, q_dic, r_dictP, r_getS, r_getI, r_getO, r_dkS, r_dkI, r_dkO, r_inS, r_inI, r_inO, r_dpS, r_dpI, r_dpO, r_dicP, r_dicO, r_sortDic, r_listDic, r_dictDic, q_dapp, r_lstP, r_appP, r_appO, q_clear, r_clrP, r_clrO, q_truO, r_truOP, r_ownTru, r_boolOD, r_ownBool, q_notO, r_cmpTI, r_cmpT3, r_lenOD, r_ownLen, q_jkeys, q_jvals, r_fzP, r_fzO, q_jstr, r_strS, r_leXI, r_leXS, q_join, q_upper, r_joinP, r_upP, q_kw1, r_minT2, q_emp, q_mt1, r_isiEB, r_isiEb, r_isiEt, r_isiEs, r_isiEl, r_isiEd, r_isiER, r_isE_non, r_isX_non, r_isE_bl, r_isX_bl, r_isE_int, r_isX_int, r_isE_str, r_isX_str, r_isE_tup, r_isX_tup, r_isE_kl, r_isX_kl, r_isE_kc, r_isX_kc, r_isE_ref, r_isX_ref, r_rIsiET, r_rIsiER, r_rIsiXT, r_rIsiXR, r_isD_non_int, r_isD_non_bool, r_isD_non_tuple, r_isD_non_str, r_isD_non_list, r_isD_non_dict, r_isD_bl_int, r_isD_bl_bool, r_isD_bl_tuple, r_isD_bl_str, r_isD_bl_list, r_isD_bl_dict, r_isD_int_int, r_isD_int_bool, r_isD_int_tuple, r_isD_int_str, r_isD_int_list, r_isD_int_dict, r_isD_str_int, r_isD_str_bool, r_isD_str_tuple, r_isD_str_str, r_isD_str_list, r_isD_str_dict, r_isD_tup_int, r_isD_tup_bool, r_isD_tup_tuple, r_isD_tup_str, r_isD_tup_list, r_isD_tup_dict, r_isD_kl_int, r_isD_kl_bool, r_isD_kl_tuple, r_isD_kl_str, r_isD_kl_list, r_isD_kl_dict, r_isD_kc_int, r_isD_kc_bool, r_isD_kc_tuple, r_isD_kc_str, r_isD_kc_list, r_isD_kc_dict, r_isD_non_own, r_isD_bl_own, r_isD_int_own, r_isD_str_own, r_isD_tup_own, r_isD_kl_own, r_isD_kc_own, q_wpf, q_seq, q_set, q_ret, q_retN, q_if, q_drop, r_unp', r_par, q_next, q_brk, q_cont, q_for, sWhile, q_sub, sAug, q_rng1, r_rng1P, jRng2, q_jseq, r_seqT, r_seqK, r_seqR, r_seqL, r_ownP, q_op, r_var, r_varS, q_c, q_cons, q_nil, q_cb, q_tup, q_lst, r_test, r_tru, q_not, q_and, q_or, r_andV, r_orV, r_notV, q_if', q_un, q_call, q_slice, q_some, q_none, r_intP, r_chn, r_chnT, r_link, r_last, cp2, pw2, cp3, pw3, cp4, pw4, cp5, pw5, cp6, pw6, cp7, pw7, cp8, pw8, cp9, pw9, cp10, pw10, cp12, pw12, cp15, pw15, cp18, pw18, cp20, pw20, cp24, pw24, cp28, pw28, cp29, pw29, cp30, pw30, q_tryH, q_raise0, q_raiseX, q_xfld, r_xfld, q_setAs, q_setAs0, q_endsAs0, q_endsNx, q_endsRt, q_endsBk, q_endsCt, r_isNx, r_lcV, q_lstV, q_sliceV, q_frz, r_frzR, r_frzL, r_frzT, r_frzK, r_frzN, r_addVI, r_addVT, r_addVK, r_addVO, r_sliVK, r_sliVC, r_sliVT, r_sliVR, r_sliVL, r_listVK, r_listVC, r_listVT, r_truK, r_eqXS, r_eqXI, r_eqXT2, r_strI, r_seqC, r_ixC, r_lenC, r_sliC, q_lc, q_yes, q_make, r_nonP, q_fldg, r_eqT2, r_set0, r_set1, q_put1, q_putN, r_blP, r_boolP, r_unpP, r_parP, r_opt, r_pick, r_add, r_addT, r_addR, r_addL, r_sub, r_mul, r_div, r_mod, r_pow, r_cmp, r_lt, r_neg, r_isXB, r_isXN, r_isN, r_isNr, r_isNi, r_isNn, r_isNt, r_eqI, r_ixT, r_ixK, r_ixR, r_lstOf, r_sliT, r_sliK, r_sliR, r_sliL, r_truB, r_truI, r_truT, r_truN, r_truR, r_truL, r_max, r_min, r_intB, r_intI, r_abs, r_lenT, r_lenK, r_lenR, r_lenL, r_nat, r_set, r_setL, r_isI, r_isB, r_isT, r_fld, r_fldR, r_fldI, r_sfd, r_sfdR, r_sfdI, r_met, r_metR, r_met1, atI0, atI1, atI2, atI3, atI4, ixN1a, ixN2a, ixN2b, ixN3a, ixN3b, ixN3c, put_same, List.map_cons, List.map_nil, List.length_cons, List.length_nil, List.length_set, List.replicate, List.cons_append, List.nil_append, List.append_nil, List.getElem?_cons_zero, List.getElem?_cons_succ, List.set_cons_zero, List.set_cons_succ, true_and, and_true, Option.some.injEq, if_true, if_false, ite_true, ite_false, reduceIte, Bool.not_true, Bool.not_false, Bool.false_eq_true, Nat.reduceAdd, Nat.reduceLeDiff, $[$es:term],*])
/-! ### the law's stamps -/
/-- bounds of a stamp behind n puts -/
def Bd (n : Nat) (s : St3) : Prop := -2 ≤ s.1 ∧ s.1 ≤ 5 * n ∧ 0 ≤ s.2.1 ∧ s.2.1 ≤ 10 + n ∧ 0 ≤ s.2.2 ∧ s.2.2 ≤ 4
theorem int_in {v : D} {ds : List D} {P : Int → Prop} (h : v ∈ ds) (hd : ∀ d ∈ ds, ∃ i, d = .int i ∧ P i) : ∃ i, v = .int i ∧ P i := hd v h
section
variable {e : Env} {G G' : HD} {Q : Post} {E : DX}
theorem lstamp_ok {a : Addr} {n : Nat} {t u w : Int} (hn : n ≤ 1000) (hb : Bd n (t, u, w)) (hG : Row G a) (hQ : ∀ (s : St3) G', lt3 (t, u, w) s = true → Bd (n + 1) s → t ≤ s.1 → Row G' a → Fr [a] G G' → Q (stD s) G') : w_law_stamp e [.ref a, stD (t, u, w)] G Q E := by
  obtain ⟨b1, b2, b3, b4, b5, b6⟩ := hb
  simp only at b1 b2 b3 b4 b5 b6
  unfold w_law_stamp stD
  exists if_true
  refine take_ok (e := e) hG (by omega) (by omega) fun r1 G1 a0 a1 hR1 x1 => ?_
  exists if_true
  refine take_ok (e := e) hR1 (by omega) (by omega) fun r2 G2 c0 c1 hR2 x2 => ?_
  exists if_true
  refine pickP c0 c1 fun v hv => ?_
  obtain ⟨i, rfl, i0, i1⟩ : ∃ i, v = .int i ∧ 0 ≤ i ∧ i ≤ 5 := by
    simp only [List.mem_cons, List.not_mem_nil, or_false] at hv
    rcases hv with rfl | rfl | rfl | rfl
    · exact ⟨0, rfl, by omega, by omega⟩
    · exact ⟨0, rfl, by omega, by omega⟩
    · exact ⟨1, rfl, by omega, by omega⟩
    · exact ⟨r1, rfl, by omega, by omega⟩
  exists if_true
  refine take_ok (e := e) hR2 (by omega) (by omega) fun r3 G3 d0 d1 hR3 x3 => ?_
  exists if_true
  refine take_ok (e := e) hR3 (by omega) (by omega) fun r4 G4 e0 e1 hR4 x4 => ?_
  exists if_true
  refine pickP e0 e1 fun v hv => ?_
  obtain ⟨j, rfl, j0, j1⟩ : ∃ i, v = .int i ∧ 0 ≤ i ∧ i ≤ 11 + (n : Int) := by
    simp only [List.mem_cons, List.not_mem_nil, or_false] at hv
    rcases hv with rfl | rfl | rfl
    · exact ⟨u, rfl, by omega, by omega⟩
    · exact ⟨u + 1, rfl, by omega, by omega⟩
    · exact ⟨r3, rfl, by omega, by omega⟩
  exists if_true
  refine take_ok (e := e) hR4 (by omega) (by omega) fun r5 G5 f0 f1 hR5 x5 => ?_
  exists if_true
  have x := x1.trans (x2.trans (x3.trans (x4.trans x5)))
  by_cases hl : PySem.W.listLt [t, u, w] [t + i, j, r5] = true
  · exists hl
    refine fg_in (hQ (t + i, j, r5) _ hl ⟨?_, ?_, ?_, ?_, ?_, ?_⟩ ?_ hR5 x)
    all_goals (try simp only []); omega
  · rw [Bool.not_eq_true] at hl
    exists hl
    refine take_ok (e := e) hR5 (by omega) (by omega) fun r6 G6 g0 g1 hR6 x6 => ?_
    exists if_true
    refine fg_in (hQ (t, u + 1, r6) _ ?_ ⟨?_, ?_, ?_, ?_, ?_, ?_⟩ ?_ hR6 (x.trans x6))
    · unfold lt3
      simp only [PySem.W.listLt]
      rw [if_pos trivial, if_neg (by omega)]
      exact decide_eq_true (by omega)
    all_goals (try simp only []); omega
end
end P
namespace P
open PySem PySem.Spec L2 DL
local macro_rules | `(tactic| exists $es:term,*) => `(tactic| try simp only [q_disp, r_dkF, r_inF, q_augI, r_getP2, r_getO2, r_cmpA, q_makeK, q_enum, r_enumP, r_enumO, r_repK, r_addNK, r_inIK, r_inIT, q_get1, q_get2, q_dget, q_sdict, q_pop2, q_setd, q_dic, r_dictP, r_getS, r_getI, r_getO, r_dkS, r_dkI, r_dkO, r_inS, r_inI, r_inO, r_dpS, r_dpI, r_dpO, r_dicP, r_dicO, r_sortDic, r_listDic, r_dictDic, q_dapp, r_lstP, r_appP, r_appO, q_clear, r_clrP, r_clrO, q_truO, r_truOP, r_ownTru, r_boolOD, r_ownBool, q_notO, r_cmpTI, r_cmpT3, r_lenOD, r_ownLen, q_jkeys, q_jvals, r_fzP, r_fzO, q_jstr, r_strS, r_leXI, r_leXS, q_join, q_upper, r_joinP, r_upP, q_kw1, r_minT2, q_emp, q_mt1, r_isiEB, r_isiEb, r_isiEt, r_isiEs, r_isiEl, r_isiEd, r_isiER, r_isE_non, r_isX_non, r_isE_bl, r_isX_bl, r_isE_int, r_isX_int, r_isE_str, r_isX_str, r_isE_tup, r_isX_tup, r_isE_kl, r_isX_kl, r_isE_kc, r_isX_kc, r_isE_ref, r_isX_ref, r_rIsiET, r_rIsiER, r_rIsiXT, r_rIsiXR, r_isD_non_int, r_isD_non_bool, r_isD_non_tuple, r_isD_non_str, r_isD_non_list, r_isD_non_dict, r_isD_bl_int, r_isD_bl_bool, r_isD_bl_tuple, r_isD_bl_str, r_isD_bl_list, r_isD_bl_dict, r_isD_int_int, r_isD_int_bool, r_isD_int_tuple, r_isD_int_str, r_isD_int_list, r_isD_int_dict, r_isD_str_int, r_isD_str_bool, r_isD_str_tuple, r_isD_str_str, r_isD_str_list, r_isD_str_dict, r_isD_tup_int, r_isD_tup_bool, r_isD_tup_tuple, r_isD_tup_str, r_isD_tup_list, r_isD_tup_dict, r_isD_kl_int, r_isD_kl_bool, r_isD_kl_tuple, r_isD_kl_str, r_isD_kl_list, r_isD_kl_dict, r_isD_kc_int, r_isD_kc_bool, r_isD_kc_tuple, r_isD_kc_str, r_isD_kc_list, r_isD_kc_dict, r_isD_non_own, r_isD_bl_own, r_isD_int_own, r_isD_str_own, r_isD_tup_own, r_isD_kl_own, r_isD_kc_own, q_wpf, q_seq, q_set, q_ret, q_retN, q_if, q_drop, r_unp', r_par, q_next, q_brk, q_cont, q_for, sWhile, q_sub, sAug, q_rng1, r_rng1P, jRng2, q_jseq, r_seqT, r_seqK, r_seqR, r_seqL, r_ownP, q_op, r_var, r_varS, q_c, q_cons, q_nil, q_cb, q_tup, q_lst, r_test, r_tru, q_not, q_and, q_or, r_andV, r_orV, r_notV, q_if', q_un, q_call, q_slice, q_some, q_none, r_intP, r_chn, r_chnT, r_link, r_last, cp2, pw2, cp3, pw3, cp4, pw4, cp5, pw5, cp6, pw6, cp7, pw7, cp8, pw8, cp9, pw9, cp10, pw10, cp12, pw12, cp15, pw15, cp18, pw18, cp20, pw20, cp24, pw24, cp28, pw28, cp29, pw29, cp30, pw30, q_tryH, q_raise0, q_raiseX, q_xfld, r_xfld, q_setAs, q_setAs0, q_endsAs0, q_endsNx, q_endsRt, q_endsBk, q_endsCt, r_isNx, r_lcV, q_lstV, q_sliceV, q_frz, r_frzR, r_frzL, r_frzT, r_frzK, r_frzN, r_addVI, r_addVT, r_addVK, r_addVO, r_sliVK, r_sliVC, r_sliVT, r_sliVR, r_sliVL, r_listVK, r_listVC, r_listVT, r_truK, r_eqXS, r_eqXI, r_eqXT2, r_strI, r_seqC, r_ixC, r_lenC, r_sliC, q_lc, q_yes, q_make, r_nonP, q_fldg, r_eqT2, r_set0, r_set1, q_put1, q_putN, r_blP, r_boolP, r_unpP, r_parP, r_opt, r_pick, r_add, r_addT, r_addR, r_addL, r_sub, r_mul, r_div, r_mod, r_pow, r_cmp, r_lt, r_neg, r_isXB, r_isXN, r_isN, r_isNr, r_isNi, r_isNn, r_isNt, r_eqI, r_ixT, r_ixK, r_ixR, r_lstOf, r_sliT, r_sliK, r_sliR, r_sliL, r_truB, r_truI, r_truT, r_truN, r_truR, r_truL, r_max, r_min, r_intB, r_intI, r_abs, r_lenT, r_lenK, r_lenR, r_lenL, r_nat, r_set, r_setL, r_isI, r_isB, r_isT, r_fld, r_fldR, r_fldI, r_sfd, r_sfdR, r_sfdI, r_met, r_metR, r_met1, atI0, atI1, atI2, atI3, atI4, ixN1a, ixN2a, ixN2b, ixN3a, ixN3b, ixN3c, put_same, List.map_cons, List.map_nil, List.length_cons, List.length_nil, List.length_set, List.replicate, List.cons_append, List.nil_append, List.append_nil, List.getElem?_cons_zero, List.getElem?_cons_succ, List.set_cons_zero, List.set_cons_succ, true_and, and_true, Option.some.injEq, if_true, if_false, ite_true, ite_false, reduceIte, Bool.not_true, Bool.not_false, Bool.false_eq_true, Nat.reduceAdd, Nat.reduceLeDiff, $[$es:term],*])
section
variable {m : List (Str × Rw)} {n : Nat} {k : Str} {s : St3} {w : List Int}
theorem split_key : ∀ {m : List (Str × Rw)}, hasR m k = true → (keysOf m).Nodup → ∃ a r b, m = a ++ (k, r) :: b ∧ (∀ p ∈ a, p.1 ≠ k) ∧ ∀ p ∈ b, p.1 ≠ k
  | [], h, _ => by cases h
  | p :: m, h, hn => by
    have hn' : (p.1 :: keysOf m).Nodup := hn
    obtain ⟨h1, h2⟩ := List.nodup_cons.mp hn'
    by_cases hp : p.1 = k
    · refine ⟨[], p.2, m, by rw [← hp]; rfl, by simp, fun q hq z => h1 ?_⟩
      rw [hp, ← z]; exact List.mem_map.mpr ⟨q, hq, rfl⟩
    · have hm : hasR m k = true := by
        unfold hasR at h ⊢
        rw [List.any_cons, decide_eq_false hp, Bool.false_or] at h
        exact h
      obtain ⟨a, r, b, e, ha, hb⟩ := split_key hm h2
      refine ⟨p :: a, r, b, by rw [e]; rfl, fun q hq => ?_, hb⟩
      rcases List.mem_cons.mp hq with rfl | hq
      · exact hp
      · exact ha q hq
theorem many_app {a b : List (Str × Rw)} : many (a ++ b) = many a + many b := by unfold many; rw [List.map_append, List.sum_append]
theorem many_cons {p : Str × Rw} {b : List (Str × Rw)} : many (p :: b) = p.2.length + many b := by unfold many; rw [List.map_cons, List.sum_cons]
theorem mem_many : ∀ {m : List (Str × Rw)} {p : Str × Rw}, p ∈ m → p.2.length ≤ many m
  | q :: m, p, h => by
    rw [many_cons]
    rcases List.mem_cons.mp h with rfl | h
    · omega
    · have := mem_many h; omega
theorem many_put {x : St3 × List Int} (hn : (keysOf m).Nodup) : many (putR m k (getR m k ++ [x])) = many m + 1 := by
  by_cases h : hasR m k = true
  · obtain ⟨a, r, b, rfl, ha, hb⟩ := split_key h hn
    rw [getR_mid ha, putR_mid ha hb, many_app, many_app, many_cons, many_cons, List.length_append]
    simp; omega
  · unfold putR
    rw [if_neg h, getR_none h, many_app, many_cons]
    simp [many]
theorem len_put {r : Rw} : (putR m k r).length ≤ m.length + 1 := by
  unfold putR
  split
  · rw [List.length_map]; omega
  · simp
theorem gk_ok (h : Gk k) : PyData.strOk k = true ∧ k.length ≤ 60 := by
  refine ⟨?_, by have := h.2.1; omega⟩
  have h3 := h.2.2
  unfold PyData.strOk
  rw [Array.all_eq_true']
  intro x hx
  have := List.all_eq_true.mp h3 x (Array.mem_toList_iff.mpr hx)
  unfold letter at this
  have := of_decide_eq_true this
  exact decide_eq_true (by omega)
theorem lc_filterK {ok : HD → Prop} {step : D → (D → HD → Prop) → (HD → Prop) → HD → Prop} {fin : List D → HD → Prop} {f : D → Bool} {G : HD} (hk : ok G) : ∀ {xs acc : List D}, (∀ x ∈ xs, ∀ (ky : D → HD → Prop) (kn : HD → Prop), (if f x = true then ky x G else kn G) → step x ky kn G) → fin (acc ++ xs.filter f) G → lcD ok step fin xs acc G
  | [], acc, _, hf => ⟨G, Le.refl _, hk, by simpa using hf⟩
  | x :: xs, acc, h, hf => by
    refine ⟨G, Le.refl _, hk, h x List.mem_cons_self _ _ ?_⟩
    cases hx : f x with
    | true => rw [if_pos rfl]; exact lc_filterK hk (fun y hy => h y (List.mem_cons_of_mem _ hy)) (by rw [List.filter_cons_of_pos hx] at hf; simpa using hf)
    | false => rw [if_neg (by decide)]; exact lc_filterK hk (fun y hy => h y (List.mem_cons_of_mem _ hy)) (by rw [List.filter_cons_of_neg (by rw [hx]; decide)] at hf; exact hf)
/-- what was read at a time or later -/
theorem list_ref {G : HD} {p : Addr} {l : List D} {Q : Post} (h : G p = some (.lst l)) (hQ : Q (.kl l) G) : rListV [.ref p] G Q := by
  have e : asQ G (.ref p) = some l := by simp [asQ, asL, h]
  unfold rListV
  simp only [e]
  exact hQ
/-- rows that n puts have made -/
structure OkB (m : List (Str × Rw)) (n : Nat) : Prop where
  nd : (keysOf m).Nodup
  len : m.length ≤ n
  many : many m ≤ n
  key : ∀ x ∈ keysOf m, Gk x
  row : ∀ k, (getR m k).length ≤ n ∧ ∀ p ∈ getR m k, Bd n p.1 ∧ GoodW p.2
theorem okb_nil : OkB [] 0 := ⟨by simp [keysOf], Nat.le_refl _, Nat.le_refl _, by simp [keysOf], fun _ => ⟨Nat.le_refl _, by simp [getR]⟩⟩
theorem Bd.mono {n2 : Nat} (h : Bd n s) (hn : n ≤ n2) : Bd n2 s := by
  obtain ⟨h1, h2, h3, h4, h5, h6⟩ := h
  exact ⟨h1, by omega, h3, by omega, h5, h6⟩
theorem Bd.good (h : Bd n s) (hn : n ≤ 1000) : GoodS s := by
  obtain ⟨h1, h2, h3, h4, h5, h6⟩ := h
  exact ⟨⟨by omega, by omega⟩, ⟨by omega, by omega⟩, ⟨by omega, by omega⟩⟩
theorem OkB.mono {n2 : Nat} (h : OkB m n) (hn : n ≤ n2) : OkB m n2 := ⟨h.nd, Nat.le_trans h.len hn, Nat.le_trans h.many hn, h.key, fun k => ⟨Nat.le_trans (h.row k).1 hn, fun p hp => ⟨((h.row k).2 p hp).1.mono hn, ((h.row k).2 p hp).2⟩⟩⟩
theorem OkB.good (h : OkB m n) (hn : n ≤ 40) : ∀ k, GoodR (getR m k) := fun k => ⟨by have := (h.row k).1; omega, fun p hp => ⟨((h.row k).2 p hp).1.good (by omega), ((h.row k).2 p hp).2⟩⟩
theorem OkB.put (h : OkB m n) (hk : Gk k) (hs : Bd (n + 1) s) (hw : GoodW w) : OkB (putR m k (getR m k ++ [(s, w)])) (n + 1) where
  nd := nodup_put h.nd
  len := Nat.le_trans len_put (by have := h.len; omega)
  many := by rw [many_put h.nd]; have := h.many; omega
  key := fun x hx => by
    rw [keysOf_put] at hx
    split at hx
    · exact h.key x hx
    · rcases List.mem_append.mp hx with hx | hx
      · exact h.key x hx
      · simp at hx; subst hx; exact hk
  row := fun k2 => by
    rw [getR_put]
    split
    · refine ⟨by rw [List.length_append]; have := (h.row k).1; simp; omega, fun p hp => ?_⟩
      rcases List.mem_append.mp hp with hp | hp
      · exact ⟨((h.row k).2 p hp).1.mono (by omega), ((h.row k).2 p hp).2⟩
      · simp at hp; subst hp; exact ⟨hs, hw⟩
    · exact ⟨Nat.le_trans (h.row k2).1 (by omega), fun p hp => ⟨((h.row k2).2 p hp).1.mono (by omega), ((h.row k2).2 p hp).2⟩⟩
end
end P
namespace P
open PySem PySem.Spec L2 DL
local macro_rules | `(tactic| exists $es:term,*) => `(tactic| try simp only [q_disp, r_dkF, r_inF, q_augI, r_getP2, r_getO2, r_cmpA, q_makeK, q_enum, r_enumP, r_enumO, r_repK, r_addNK, r_inIK, r_inIT, q_get1, q_get2, q_dget, q_sdict, q_pop2, q_setd, q_dic, r_dictP, r_getS, r_getI, r_getO, r_dkS, r_dkI, r_dkO, r_inS, r_inI, r_inO, r_dpS, r_dpI, r_dpO, r_dicP, r_dicO, r_sortDic, r_listDic, r_dictDic, q_dapp, r_lstP, r_appP, r_appO, q_clear, r_clrP, r_clrO, q_truO, r_truOP, r_ownTru, r_boolOD, r_ownBool, q_notO, r_cmpTI, r_cmpT3, r_lenOD, r_ownLen, q_jkeys, q_jvals, r_fzP, r_fzO, q_jstr, r_strS, r_leXI, r_leXS, q_join, q_upper, r_joinP, r_upP, q_kw1, r_minT2, q_emp, q_mt1, r_isiEB, r_isiEb, r_isiEt, r_isiEs, r_isiEl, r_isiEd, r_isiER, r_isE_non, r_isX_non, r_isE_bl, r_isX_bl, r_isE_int, r_isX_int, r_isE_str, r_isX_str, r_isE_tup, r_isX_tup, r_isE_kl, r_isX_kl, r_isE_kc, r_isX_kc, r_isE_ref, r_isX_ref, r_rIsiET, r_rIsiER, r_rIsiXT, r_rIsiXR, r_isD_non_int, r_isD_non_bool, r_isD_non_tuple, r_isD_non_str, r_isD_non_list, r_isD_non_dict, r_isD_bl_int, r_isD_bl_bool, r_isD_bl_tuple, r_isD_bl_str, r_isD_bl_list, r_isD_bl_dict, r_isD_int_int, r_isD_int_bool, r_isD_int_tuple, r_isD_int_str, r_isD_int_list, r_isD_int_dict, r_isD_str_int, r_isD_str_bool, r_isD_str_tuple, r_isD_str_str, r_isD_str_list, r_isD_str_dict, r_isD_tup_int, r_isD_tup_bool, r_isD_tup_tuple, r_isD_tup_str, r_isD_tup_list, r_isD_tup_dict, r_isD_kl_int, r_isD_kl_bool, r_isD_kl_tuple, r_isD_kl_str, r_isD_kl_list, r_isD_kl_dict, r_isD_kc_int, r_isD_kc_bool, r_isD_kc_tuple, r_isD_kc_str, r_isD_kc_list, r_isD_kc_dict, r_isD_non_own, r_isD_bl_own, r_isD_int_own, r_isD_str_own, r_isD_tup_own, r_isD_kl_own, r_isD_kc_own, q_wpf, q_seq, q_set, q_ret, q_retN, q_if, q_drop, r_unp', r_par, q_next, q_brk, q_cont, q_for, sWhile, q_sub, sAug, q_rng1, r_rng1P, jRng2, q_jseq, r_seqT, r_seqK, r_seqR, r_seqL, r_ownP, q_op, r_var, r_varS, q_c, q_cons, q_nil, q_cb, q_tup, q_lst, r_test, r_tru, q_not, q_and, q_or, r_andV, r_orV, r_notV, q_if', q_un, q_call, q_slice, q_some, q_none, r_intP, r_chn, r_chnT, r_link, r_last, cp2, pw2, cp3, pw3, cp4, pw4, cp5, pw5, cp6, pw6, cp7, pw7, cp8, pw8, cp9, pw9, cp10, pw10, cp12, pw12, cp15, pw15, cp18, pw18, cp20, pw20, cp24, pw24, cp28, pw28, cp29, pw29, cp30, pw30, q_tryH, q_raise0, q_raiseX, q_xfld, r_xfld, q_setAs, q_setAs0, q_endsAs0, q_endsNx, q_endsRt, q_endsBk, q_endsCt, r_isNx, r_lcV, q_lstV, q_sliceV, q_frz, r_frzR, r_frzL, r_frzT, r_frzK, r_frzN, r_addVI, r_addVT, r_addVK, r_addVO, r_sliVK, r_sliVC, r_sliVT, r_sliVR, r_sliVL, r_listVK, r_listVC, r_listVT, r_truK, r_eqXS, r_eqXI, r_eqXT2, r_strI, r_seqC, r_ixC, r_lenC, r_sliC, q_lc, q_yes, q_make, r_nonP, q_fldg, r_eqT2, r_set0, r_set1, q_put1, q_putN, r_blP, r_boolP, r_unpP, r_parP, r_opt, r_pick, r_add, r_addT, r_addR, r_addL, r_sub, r_mul, r_div, r_mod, r_pow, r_cmp, r_lt, r_neg, r_isXB, r_isXN, r_isN, r_isNr, r_isNi, r_isNn, r_isNt, r_eqI, r_ixT, r_ixK, r_ixR, r_lstOf, r_sliT, r_sliK, r_sliR, r_sliL, r_truB, r_truI, r_truT, r_truN, r_truR, r_truL, r_max, r_min, r_intB, r_intI, r_abs, r_lenT, r_lenK, r_lenR, r_lenL, r_nat, r_set, r_setL, r_isI, r_isB, r_isT, r_fld, r_fldR, r_fldI, r_sfd, r_sfdR, r_sfdI, r_met, r_metR, r_met1, atI0, atI1, atI2, atI3, atI4, ixN1a, ixN2a, ixN2b, ixN3a, ixN3b, ixN3c, put_same, List.map_cons, List.map_nil, List.length_cons, List.length_nil, List.length_set, List.replicate, List.cons_append, List.nil_append, List.append_nil, List.getElem?_cons_zero, List.getElem?_cons_succ, List.set_cons_zero, List.set_cons_succ, true_and, and_true, Option.some.injEq, if_true, if_false, ite_true, ite_false, reduceIte, Bool.not_true, Bool.not_false, Bool.false_eq_true, Nat.reduceAdd, Nat.reduceLeDiff, $[$es:term],*])
section
variable {e : Env} {G G' : HD} {c d : Addr} {m : List (Str × Rw)} {gt : D} {Q : Post} {E : DX} {A : List Addr} {k : Str} {r : Rw}
/-! ### sorted keys -/
theorem str_ext {x y : Str} (h : x.cps.toList = y.cps.toList) : x = y := by
  cases x; cases y
  simp only [Str.mk.injEq] at h ⊢
  exact Array.ext' h
theorem rising_pw : ∀ (l : List Str) (p : Str), PyProof.Rows.risingS p l = true → (p :: l).Pairwise fun a b => ¬ b.cps.toList < a.cps.toList
  | [], p, _ => List.pairwise_singleton _ _
  | x :: l, p, h => by
    have h' : (!PySem.Spec.ltCps x.cps.toList p.cps.toList && PyProof.Rows.risingS x l) = true := h
    rw [Bool.and_eq_true] at h'
    have h1 : ¬ x.cps.toList < p.cps.toList := by
      have := h'.1
      rw [PyProof.Rows.ltCps_eq] at this
      simpa using this
    have h2 := rising_pw l x h'.2
    refine List.pairwise_cons.mpr ⟨fun y hy => ?_, h2⟩
    rcases List.mem_cons.mp hy with rfl | hy
    · exact h1
    · have h3 := (List.pairwise_cons.mp h2).1 y hy
      exact fun z => h3 (Std.lt_of_lt_of_le z (Std.not_lt.mp h1))
theorem sorted_pw : ∀ (l : List Str), PyProof.Rows.sortedS l = true → l.Pairwise fun a b => ¬ b.cps.toList < a.cps.toList
  | [], _ => List.Pairwise.nil
  | x :: l, h => rising_pw l x h
theorem sorted_uniq {l l2 : List Str} (hp : l.Perm l2) (h : PyProof.Rows.sortedS l = true) (h2 : PyProof.Rows.sortedS l2 = true) : l = l2 :=
  List.Perm.eq_of_pairwise (fun a b _ _ h3 h4 => str_ext (Std.le_antisymm (Std.not_lt.mp h3) (Std.not_lt.mp h4))) (sorted_pw l h) (sorted_pw l2 h2) hp
theorem sort_rows {p : Addr} (hp : G p = some (.dK (encK m))) (hm : m.length < 64) (hQ : ∀ ys q G', ys.Perm (keysOf m) → PyProof.Rows.sortedS ys = true → G q = none → G' = put G q (.lst (ys.map D.str)) → Q (.ref q) G') : rSortDic [.ref p] G Q := by
  rw [r_sortDic, r_dicP, hp, r_dicO]
  unfold srtO
  rw [strKeys_enc]
  exact ⟨by unfold keysOf; rw [List.length_map]; exact hm, fun ys h1 h2 q hq => hQ ys q _ h1 h2 hq rfl⟩
/-! ### the law's looks -/
theorem seq_row {R : ItD → HD → Prop} : seqP (rowD r) G R = R ⟨r.map prD, fun _ => True⟩ G := propext ⟨fun h => h, fun h => h⟩
theorem last_non {l : List (List Int)} (h : Q (opD l.getLast?) G) : optP (atI (D.non :: l.map woD) (-1)) G Q := by
  rcases List.eq_nil_or_concat l with rfl | ⟨l', x, rfl⟩
  · have := at_last (l := []) (x := D.non)
    rw [List.nil_append] at this
    rw [List.map_nil, this]
    exact h
  · rw [List.concat_eq_append] at h ⊢
    rw [List.map_append, List.map_cons, List.map_nil, ← List.cons_append, at_last]
    rw [List.getLast?_append] at h
    exact h
/-- a row gone through, each of its pairs kept as v tells -/
theorem lc_row {ok : HD → Prop} {step : D → (D → HD → Prop) → (HD → Prop) → HD → Prop} {fin : List D → HD → Prop} {v : St3 × List Int → D} (hk : ok G) (hs : ∀ p ∈ r, ∀ (ky : D → HD → Prop) (kn : HD → Prop), ky (v p) G → step (prD p) ky kn G) (hf : fin (r.map v) G) : lcD ok step fin (r.map prD) [] G := by
  have : ∀ {xs : Rw} {acc : List D}, (∀ p ∈ xs, p ∈ r) → fin (acc ++ xs.map v) G → lcD ok step fin (xs.map prD) acc G := by
    intro xs
    induction xs with
    | nil => intro acc _ h; exact ⟨G, Le.refl _, hk, by simpa using h⟩
    | cons x xs ih => intro acc h1 h; exact ⟨G, Le.refl _, hk, hs x (h1 x List.mem_cons_self) _ _ (ih (fun p hp => h1 p (List.mem_cons_of_mem _ hp)) (by simpa using h))⟩
  exact this (fun _ h => h) hf
theorem wos_map : r.map (fun p => woD p.2) = (r.map (·.2)).map woD := by rw [List.map_map]; rfl
/-- how many, by the law's own count -/
theorem val_mem : ∀ {m : List (Str × Rw)} {q : Str × Rw}, (keysOf m).Nodup → q ∈ m → valD (encK m) (.inr q.1) = some (rowD q.2)
  | p :: m, q, hn, hq => by
    obtain ⟨h1, h2⟩ := List.nodup_cons.mp (show (p.1 :: keysOf m).Nodup from hn)
    show (if (Sum.inr p.1 : Key) = .inr q.1 then some (rowD p.2) else valD (encK m) (.inr q.1)) = _
    rcases List.mem_cons.mp hq with rfl | hq
    · rw [if_pos rfl]
    · rw [if_neg (fun z => h1 (by rw [Sum.inr.inj z]; exact List.mem_map.mpr ⟨q, hq, rfl⟩))]
      exact val_mem h2 hq
theorem lc_lens {ok : HD → Prop} {step : D → (D → HD → Prop) → (HD → Prop) → HD → Prop} {fin : List D → HD → Prop} (hk : ok G) : ∀ {m : List (Str × Rw)} {acc : List D}, (∀ q ∈ m, ∀ (ky : D → HD → Prop) (kn : HD → Prop), ky (.int (q.2.length : Nat)) G → step (.str q.1) ky kn G) → fin (acc ++ m.map fun q => D.int (q.2.length : Nat)) G → lcD ok step fin (keysD (encK m)) acc G
  | [], acc, _, hf => ⟨G, Le.refl _, hk, by simpa using hf⟩
  | x :: m, acc, h, hf => ⟨G, Le.refl _, hk, h x List.mem_cons_self _ _ (lc_lens hk (fun y hy => h y (List.mem_cons_of_mem _ hy)) (by simpa using hf))⟩
theorem sum_lens : ∀ {m : List (Str × Rw)}, asInts (m.map fun q => D.int (q.2.length : Nat)) = some (m.map fun q => (q.2.length : Int)) ∧ (m.map fun q => (q.2.length : Int)).sum = (many m : Nat)
  | [] => ⟨rfl, rfl⟩
  | x :: m => by
    obtain ⟨h1, h2⟩ := sum_lens (m := m)
    constructor
    · rw [List.map_cons, List.map_cons]
      simp only [asInts, h1]; rfl
    · rw [List.map_cons, List.sum_cons, h2, many_cons]
      omega
theorem i_sum {xs : List D} {ns : List Int} (h : asInts xs = some ns) (q : Q (.int ns.sum) G) : rSumD [.kl xs] G Q := by
  unfold rSumD
  show (match asInts xs with | some ns => Q (.int ns.sum) G | none => False)
  rw [h]; exact q
end
end P

namespace P
open PySem PySem.Spec L2 DL
local macro_rules | `(tactic| exists $es:term,*) => `(tactic| try simp only [q_disp, r_dkF, r_inF, q_augI, r_getP2, r_getO2, r_cmpA, q_makeK, q_enum, r_enumP, r_enumO, r_repK, r_addNK, r_inIK, r_inIT, q_get1, q_get2, q_dget, q_sdict, q_pop2, q_setd, q_dic, r_dictP, r_getS, r_getI, r_getO, r_dkS, r_dkI, r_dkO, r_inS, r_inI, r_inO, r_dpS, r_dpI, r_dpO, r_dicP, r_dicO, r_sortDic, r_listDic, r_dictDic, q_dapp, r_lstP, r_appP, r_appO, q_clear, r_clrP, r_clrO, q_truO, r_truOP, r_ownTru, r_boolOD, r_ownBool, q_notO, r_cmpTI, r_cmpT3, r_lenOD, r_ownLen, q_jkeys, q_jvals, r_fzP, r_fzO, q_jstr, r_strS, r_leXI, r_leXS, q_join, q_upper, r_joinP, r_upP, q_kw1, r_minT2, q_emp, q_mt1, r_isiEB, r_isiEb, r_isiEt, r_isiEs, r_isiEl, r_isiEd, r_isiER, r_isE_non, r_isX_non, r_isE_bl, r_isX_bl, r_isE_int, r_isX_int, r_isE_str, r_isX_str, r_isE_tup, r_isX_tup, r_isE_kl, r_isX_kl, r_isE_kc, r_isX_kc, r_isE_ref, r_isX_ref, r_rIsiET, r_rIsiER, r_rIsiXT, r_rIsiXR, r_isD_non_int, r_isD_non_bool, r_isD_non_tuple, r_isD_non_str, r_isD_non_list, r_isD_non_dict, r_isD_bl_int, r_isD_bl_bool, r_isD_bl_tuple, r_isD_bl_str, r_isD_bl_list, r_isD_bl_dict, r_isD_int_int, r_isD_int_bool, r_isD_int_tuple, r_isD_int_str, r_isD_int_list, r_isD_int_dict, r_isD_str_int, r_isD_str_bool, r_isD_str_tuple, r_isD_str_str, r_isD_str_list, r_isD_str_dict, r_isD_tup_int, r_isD_tup_bool, r_isD_tup_tuple, r_isD_tup_str, r_isD_tup_list, r_isD_tup_dict, r_isD_kl_int, r_isD_kl_bool, r_isD_kl_tuple, r_isD_kl_str, r_isD_kl_list, r_isD_kl_dict, r_isD_kc_int, r_isD_kc_bool, r_isD_kc_tuple, r_isD_kc_str, r_isD_kc_list, r_isD_kc_dict, r_isD_non_own, r_isD_bl_own, r_isD_int_own, r_isD_str_own, r_isD_tup_own, r_isD_kl_own, r_isD_kc_own, q_wpf, q_seq, q_set, q_ret, q_retN, q_if, q_drop, r_unp', r_par, q_next, q_brk, q_cont, q_for, sWhile, q_sub, sAug, q_rng1, r_rng1P, jRng2, q_jseq, r_seqT, r_seqK, r_seqR, r_seqL, r_ownP, q_op, r_var, r_varS, q_c, q_cons, q_nil, q_cb, q_tup, q_lst, r_test, r_tru, q_not, q_and, q_or, r_andV, r_orV, r_notV, q_if', q_un, q_call, q_slice, q_some, q_none, r_intP, r_chn, r_chnT, r_link, r_last, cp2, pw2, cp3, pw3, cp4, pw4, cp5, pw5, cp6, pw6, cp7, pw7, cp8, pw8, cp9, pw9, cp10, pw10, cp12, pw12, cp15, pw15, cp18, pw18, cp20, pw20, cp24, pw24, cp28, pw28, cp29, pw29, cp30, pw30, q_tryH, q_raise0, q_raiseX, q_xfld, r_xfld, q_setAs, q_setAs0, q_endsAs0, q_endsNx, q_endsRt, q_endsBk, q_endsCt, r_isNx, r_lcV, q_lstV, q_sliceV, q_frz, r_frzR, r_frzL, r_frzT, r_frzK, r_frzN, r_addVI, r_addVT, r_addVK, r_addVO, r_sliVK, r_sliVC, r_sliVT, r_sliVR, r_sliVL, r_listVK, r_listVC, r_listVT, r_truK, r_eqXS, r_eqXI, r_eqXT2, r_strI, r_seqC, r_ixC, r_lenC, r_sliC, q_lc, q_yes, q_make, r_nonP, q_fldg, r_eqT2, r_set0, r_set1, q_put1, q_putN, r_blP, r_boolP, r_unpP, r_parP, r_opt, r_pick, r_add, r_addT, r_addR, r_addL, r_sub, r_mul, r_div, r_mod, r_pow, r_cmp, r_lt, r_neg, r_isXB, r_isXN, r_isN, r_isNr, r_isNi, r_isNn, r_isNt, r_eqI, r_ixT, r_ixK, r_ixR, r_lstOf, r_sliT, r_sliK, r_sliR, r_sliL, r_truB, r_truI, r_truT, r_truN, r_truR, r_truL, r_max, r_min, r_intB, r_intI, r_abs, r_lenT, r_lenK, r_lenR, r_lenL, r_nat, r_set, r_setL, r_isI, r_isB, r_isT, r_fld, r_fldR, r_fldI, r_sfd, r_sfdR, r_sfdI, r_met, r_metR, r_met1, atI0, atI1, atI2, atI3, atI4, ixN1a, ixN2a, ixN2b, ixN3a, ixN3b, ixN3c, put_same, List.map_cons, List.map_nil, List.length_cons, List.length_nil, List.length_set, List.replicate, List.cons_append, List.nil_append, List.append_nil, List.getElem?_cons_zero, List.getElem?_cons_succ, List.set_cons_zero, List.set_cons_succ, true_and, and_true, Option.some.injEq, if_true, if_false, ite_true, ite_false, reduceIte, Bool.not_true, Bool.not_false, Bool.false_eq_true, Nat.reduceAdd, Nat.reduceLeDiff, $[$es:term],*])
section
variable {e : Env} {G G' : HD} {c d p : Addr} {m : List (Str × Rw)} {gt : D} {Q : Post} {E : DX} {A : List Addr} {k : Str} {r : Rw} {n : Nat}
theorem pyD_lst {n : Nat} {p : Addr} {ds : List D} (h : G p = some (.lst ds)) : pyD (n + 1) G (.ref p) = pyD (n + 1) G (.kl ds) := by
  show (match G p with | some (.lst ds) => (ds.mapM (pyD n G)).map PyData.list | _ => none) = _
  rw [h]; rfl
theorem pure_strs {ys : List Str} (hy : ∀ y ∈ ys, PyData.strOk y = true) : pureD 9 (.kl (ys.map D.str)) = true := by
  show (ys.map D.str).all (pureD 8) = true
  rw [List.all_map]; exact List.all_eq_true.mpr fun y h => hy y h
/-- the last stamp -/
def lastS (r : Rw) (s : St3) : St3 := (r.map (·.1)).getLast?.getD s
theorem lastS_app {r : Rw} {x : St3 × List Int} {s : St3} : lastS (r ++ [x]) s = x.1 := by
  unfold lastS
  rw [List.map_append, List.getLast?_append]; rfl
theorem last_st {s : St3} (h : Q (stD (lastS r s)) G) : optP (atI (stD s :: r.map fun p => stD p.1) (-1)) G Q := by
  rcases List.eq_nil_or_concat r with rfl | ⟨r', x, rfl⟩
  · have := at_last (l := []) (x := stD s)
    rw [List.nil_append] at this
    rw [List.map_nil, this]
    exact h
  · rw [List.concat_eq_append] at h ⊢
    rw [lastS_app] at h
    rw [List.map_append, List.map_cons, List.map_nil, ← List.cons_append, at_last]
    exact h
theorem lstamp_ok' {a : Addr} {n : Nat} {s0 : St3} (hn : n ≤ 1000) (hb : Bd n s0) (hG : Row G a) (hQ : ∀ (s : St3) G', lt3 s0 s = true → Bd (n + 1) s → s0.1 ≤ s.1 → Row G' a → Fr [a] G G' → Q (stD s) G') : w_law_stamp e [.ref a, stD s0] G Q E := by
  obtain ⟨t, u, w⟩ := s0
  exact lstamp_ok hn hb hG hQ
end
end P
namespace P
open PySem PySem.Spec L2 DL
local macro_rules | `(tactic| exists $es:term,*) => `(tactic| try simp only [q_disp, r_dkF, r_inF, q_augI, r_getP2, r_getO2, r_cmpA, q_makeK, q_enum, r_enumP, r_enumO, r_repK, r_addNK, r_inIK, r_inIT, q_get1, q_get2, q_dget, q_sdict, q_pop2, q_setd, q_dic, r_dictP, r_getS, r_getI, r_getO, r_dkS, r_dkI, r_dkO, r_inS, r_inI, r_inO, r_dpS, r_dpI, r_dpO, r_dicP, r_dicO, r_sortDic, r_listDic, r_dictDic, q_dapp, r_lstP, r_appP, r_appO, q_clear, r_clrP, r_clrO, q_truO, r_truOP, r_ownTru, r_boolOD, r_ownBool, q_notO, r_cmpTI, r_cmpT3, r_lenOD, r_ownLen, q_jkeys, q_jvals, r_fzP, r_fzO, q_jstr, r_strS, r_leXI, r_leXS, q_join, q_upper, r_joinP, r_upP, q_kw1, r_minT2, q_emp, q_mt1, r_isiEB, r_isiEb, r_isiEt, r_isiEs, r_isiEl, r_isiEd, r_isiER, r_isE_non, r_isX_non, r_isE_bl, r_isX_bl, r_isE_int, r_isX_int, r_isE_str, r_isX_str, r_isE_tup, r_isX_tup, r_isE_kl, r_isX_kl, r_isE_kc, r_isX_kc, r_isE_ref, r_isX_ref, r_rIsiET, r_rIsiER, r_rIsiXT, r_rIsiXR, r_isD_non_int, r_isD_non_bool, r_isD_non_tuple, r_isD_non_str, r_isD_non_list, r_isD_non_dict, r_isD_bl_int, r_isD_bl_bool, r_isD_bl_tuple, r_isD_bl_str, r_isD_bl_list, r_isD_bl_dict, r_isD_int_int, r_isD_int_bool, r_isD_int_tuple, r_isD_int_str, r_isD_int_list, r_isD_int_dict, r_isD_str_int, r_isD_str_bool, r_isD_str_tuple, r_isD_str_str, r_isD_str_list, r_isD_str_dict, r_isD_tup_int, r_isD_tup_bool, r_isD_tup_tuple, r_isD_tup_str, r_isD_tup_list, r_isD_tup_dict, r_isD_kl_int, r_isD_kl_bool, r_isD_kl_tuple, r_isD_kl_str, r_isD_kl_list, r_isD_kl_dict, r_isD_kc_int, r_isD_kc_bool, r_isD_kc_tuple, r_isD_kc_str, r_isD_kc_list, r_isD_kc_dict, r_isD_non_own, r_isD_bl_own, r_isD_int_own, r_isD_str_own, r_isD_tup_own, r_isD_kl_own, r_isD_kc_own, q_wpf, q_seq, q_set, q_ret, q_retN, q_if, q_drop, r_unp', r_par, q_next, q_brk, q_cont, q_for, sWhile, q_sub, sAug, q_rng1, r_rng1P, jRng2, q_jseq, r_seqT, r_seqK, r_seqR, r_seqL, r_ownP, q_op, r_var, r_varS, q_c, q_cons, q_nil, q_cb, q_tup, q_lst, r_test, r_tru, q_not, q_and, q_or, r_andV, r_orV, r_notV, q_if', q_un, q_call, q_slice, q_some, q_none, r_intP, r_chn, r_chnT, r_link, r_last, cp2, pw2, cp3, pw3, cp4, pw4, cp5, pw5, cp6, pw6, cp7, pw7, cp8, pw8, cp9, pw9, cp10, pw10, cp12, pw12, cp15, pw15, cp18, pw18, cp20, pw20, cp24, pw24, cp28, pw28, cp29, pw29, cp30, pw30, q_tryH, q_raise0, q_raiseX, q_xfld, r_xfld, q_setAs, q_setAs0, q_endsAs0, q_endsNx, q_endsRt, q_endsBk, q_endsCt, r_isNx, r_lcV, q_lstV, q_sliceV, q_frz, r_frzR, r_frzL, r_frzT, r_frzK, r_frzN, r_addVI, r_addVT, r_addVK, r_addVO, r_sliVK, r_sliVC, r_sliVT, r_sliVR, r_sliVL, r_listVK, r_listVC, r_listVT, r_truK, r_eqXS, r_eqXI, r_eqXT2, r_strI, r_seqC, r_ixC, r_lenC, r_sliC, q_lc, q_yes, q_make, r_nonP, q_fldg, r_eqT2, r_set0, r_set1, q_put1, q_putN, r_blP, r_boolP, r_unpP, r_parP, r_opt, r_pick, r_add, r_addT, r_addR, r_addL, r_sub, r_mul, r_div, r_mod, r_pow, r_cmp, r_lt, r_neg, r_isXB, r_isXN, r_isN, r_isNr, r_isNi, r_isNn, r_isNt, r_eqI, r_ixT, r_ixK, r_ixR, r_lstOf, r_sliT, r_sliK, r_sliR, r_sliL, r_truB, r_truI, r_truT, r_truN, r_truR, r_truL, r_max, r_min, r_intB, r_intI, r_abs, r_lenT, r_lenK, r_lenR, r_lenL, r_nat, r_set, r_setL, r_isI, r_isB, r_isT, r_fld, r_fldR, r_fldI, r_sfd, r_sfdR, r_sfdI, r_met, r_metR, r_met1, atI0, atI1, atI2, atI3, atI4, ixN1a, ixN2a, ixN2b, ixN3a, ixN3b, ixN3c, put_same, List.map_cons, List.map_nil, List.length_cons, List.length_nil, List.length_set, List.replicate, List.cons_append, List.nil_append, List.append_nil, List.getElem?_cons_zero, List.getElem?_cons_succ, List.set_cons_zero, List.set_cons_succ, true_and, and_true, Option.some.injEq, if_true, if_false, ite_true, ite_false, reduceIte, Bool.not_true, Bool.not_false, Bool.false_eq_true, Nat.reduceAdd, Nat.reduceLeDiff, $[$es:term],*])
/-! ### things of other kinds -/
def isW : D → Bool
  | .int _ => true
  | _ => false
/-- a thing that is looked at -/
def Kd : D → Prop
  | .ty _ => False
  | .ref _ => False
  | .exc _ _ _ => False
  | .kc _ => False
  | _ => True
def isKey : D → Bool
  | .str x => decide (1 ≤ x.length ∧ x.length ≤ 6) && x.cps.toList.all letter
  | _ => false
def isWo : D → Bool
  | .tup l => decide (1 ≤ l.length ∧ l.length ≤ 4) && l.all isW
  | _ => false
def Tx (x : Str) (n : Nat) : Prop := PyData.strOk x = true ∧ x.length ≤ n
section
variable {e : Env} {G : HD} {Q : Post} {E : DX} {d a b c : D} {ds : List D} {x y : Str}
theorem whole_d (h : Kd d) (hQ : Q (.bl (isW d)) G) : w_is_whole e [d] G Q E := by
  unfold w_is_whole
  cases d with
  | ty _ => exact h.elim
  | ref _ => exact h.elim
  | kc _ => exact h.elim
  | exc _ _ _ => exact h.elim
  | _ =>
    exists if_true
    exact fg_in hQ
theorem isW_int (h : isW a = true) : ∃ i, a = .int i := by
  cases a <;> first | exact ⟨_, rfl⟩ | cases h
theorem key_d (h : Kd d) (hs : ∀ x, d = .str x → Tx x 60) (hQ : Q (.bl (isKey d)) G) : w_is_key e [d] G Q E := by
  unfold w_is_key
  cases d with
  | ty _ => exact h.elim
  | ref _ => exact h.elim
  | kc _ => exact h.elim
  | exc _ _ _ => exact h.elim
  | str x =>
    have hx := hs x rfl
    exists if_true
    refine i_lenS (by have := hx.2; omega) ?_
    exists if_true
    have hQ' : Q (.bl (decide (1 ≤ x.length ∧ x.length ≤ 6) && x.cps.toList.all letter)) G := hQ
    by_cases h1 : 1 ≤ x.length
    · by_cases h2 : x.length ≤ 6
      · exists show (1 : Int) ≤ (x.length : Nat) by omega, show ((x.length : Nat) : Int) ≤ 6 by omega, decide_true
        rw [decide_eq_true ⟨h1, h2⟩, Bool.true_and] at hQ'
        refine ⟨by rw [signs_len]; exact Nat.le_trans (show x.cps.size ≤ 60 from hx.2) (by decide), lc_map (f := fun d => .bl (letD d)) (fun z hz ky kn G hk => ?_) ?_⟩
        · exists dwipe
          unfold signs at hz
          obtain ⟨c, hc, rfl⟩ := List.mem_map.mp hz
          refine i_inS ?_
          rw [if_neg (by decide), mem_abc, ← letD_c]
          exact hk
        · have e1 : (signs x).map (fun d => D.bl (letD d)) = (x.cps.toList.map letter).map D.bl := by
            unfold signs
            rw [List.map_map, List.map_map]
            apply List.map_congr_left
            intro c _
            show D.bl (letD (.str ⟨#[c]⟩)) = D.bl (letter c)
            rw [letD_c]
          rw [List.nil_append, e1, r_allB]
          refine fg_in ?_
          rw [List.all_map]
          exact hQ'
      · exists show (1 : Int) ≤ (x.length : Nat) by omega, show ¬ ((x.length : Nat) : Int) ≤ 6 by omega, decide_true, decide_false
        rw [decide_eq_false (fun z => h2 z.2), Bool.false_and] at hQ'
        exact fg_in hQ'
    · exists show ¬ (1 : Int) ≤ (x.length : Nat) by omega, decide_false
      rw [decide_eq_false (fun z => h1 z.1), Bool.false_and] at hQ'
      exact fg_in hQ'
  | _ =>
    exists if_true
    exact fg_in hQ
theorem worth_d (h : Kd d) (hl : ∀ l, d = .tup l → ∀ x ∈ l, Kd x) (h9 : ∀ l, d = .tup l → l.length ≤ 100) (hQ : Q (.bl (isWo d)) G) : w_is_worth e [d] G Q E := by
  unfold w_is_worth
  cases d with
  | ty _ => exact h.elim
  | ref _ => exact h.elim
  | kc _ => exact h.elim
  | exc _ _ _ => exact h.elim
  | tup l =>
    exists if_true
    have hQ' : Q (.bl (decide (1 ≤ l.length ∧ l.length ≤ 4) && l.all isW)) G := hQ
    by_cases h1 : 1 ≤ l.length
    · by_cases h2 : l.length ≤ 4
      · exists show (1 : Int) ≤ (l.length : Nat) by omega, show ((l.length : Nat) : Int) ≤ 4 by omega, decide_true
        rw [decide_eq_true ⟨h1, h2⟩, Bool.true_and] at hQ'
        refine ⟨Nat.le_trans h2 (by decide), lc_map (f := fun d => .bl (isW d)) (fun z hz ky kn G hk => ?_) ?_⟩
        · exists dwipe
          exact whole_d (hl _ rfl z hz) hk
        · have e1 : l.map (fun d => D.bl (isW d)) = (l.map isW).map D.bl := by rw [List.map_map]; rfl
          rw [List.nil_append, e1, r_allB]
          refine fg_in ?_
          rw [List.all_map]
          exact hQ'
      · exists show (1 : Int) ≤ (l.length : Nat) by omega, show ¬ ((l.length : Nat) : Int) ≤ 4 by omega, decide_true, decide_false
        rw [decide_eq_false (fun z => h2 z.2), Bool.false_and] at hQ'
        exact fg_in hQ'
    · exists show ¬ (1 : Int) ≤ (l.length : Nat) by omega, decide_false
      rw [decide_eq_false (fun z => h1 z.1), Bool.false_and] at hQ'
      exact fg_in hQ'
  | _ =>
    exists if_true
    exact fg_in hQ
/-- what is no stamp -/
def NoSt : D → Prop
  | .tup l => (∀ x ∈ l, Kd x) ∧ (l.length = 2 ∨ l.length = 4 ∨ ∃ a b c, l = [a, b, c] ∧ ((l.all isW = false) ∨ ∃ i j n, a = .int i ∧ b = .int j ∧ c = .int n ∧ ¬ (0 ≤ j ∧ 0 ≤ n)))
  | d => Kd d
theorem nost_d (h : NoSt d) (hQ : Q (.bl false) G) : w_is_stamp e [d] G Q E := by
  unfold w_is_stamp
  cases d with
  | ty _ => exact h.elim
  | ref _ => exact h.elim
  | kc _ => exact h.elim
  | exc _ _ _ => exact h.elim
  | tup l =>
    obtain ⟨hk, h⟩ := h
    rcases h with h | h | ⟨a, b, c, rfl, h⟩
    · exists h, show ((2 : Nat) : Int) = 2 from rfl, show ¬ ((2 : Int) = 3) by decide, decide_false
      exact fg_in hQ
    · exists h, show ((4 : Nat) : Int) = 4 from rfl, show ¬ ((4 : Int) = 3) by decide, decide_false
      exact fg_in hQ
    · exists show ((3 : Nat) : Int) = 3 from rfl, decide_true
      refine lc_map (f := fun d => .bl (isW d)) (fun z hz ky kn G hk2 => ?_) ?_
      · exists dwipe
        exact whole_d (hk z hz) hk2
      · rw [List.nil_append]
        have e1 : [a, b, c].map (fun d => D.bl (isW d)) = ([a, b, c].map isW).map D.bl := by rw [List.map_map]; rfl
        rw [e1, r_allB, List.all_map]
        rcases h with h | ⟨i, j, n, rfl, rfl, rfl, h⟩
        · have h' : List.all [a, b, c] (id ∘ isW) = false := h
          exists h'
          exact fg_in hQ
        · have h' : List.all [D.int i, D.int j, D.int n] (id ∘ isW) = true := rfl
          exists h'
          by_cases hj : 0 ≤ j
          · have hn : ¬ 0 ≤ n := fun z => h ⟨hj, z⟩
            exists hj, hn, decide_true, decide_false
            exact fg_in hQ
          · exists hj, decide_false
            exact fg_in hQ
  | _ =>
    exists if_true
    exact fg_in hQ
end
/-! ### what the shelf refuses -/
section
variable {e : Env} {G G' : HD} {c d : Addr} {m : List (Str × Rw)} {gt : D} {Q : Post} {E : DX} {A : List Addr} {k : Str} {x y z : D}
/-- what is no key -/
structure BadK (x : D) : Prop where
  k : Kd x
  s : ∀ t, x = .str t → Tx t 60
  n : isKey x = false
  p : pureD 9 x = true ∨ (pureE 9 x = true ∧ isBox x = true)
  l : smallD 9 x = true
  c : capD x ≤ 1000000
theorem look_bad (h : BadK x) (hE : E (.ref e.C_NoKey) [("key", x)] G) : w_look_at_key e [x] G Q E := by
  unfold w_look_at_key
  exists if_true
  refine key_d h.k h.s ?_
  rw [h.n]
  exists if_true
  exact ⟨G, Le.refl _, hE⟩
theorem put_badk (h : BadK x) (hE : E (.ref e.C_NoKey) [("key", x)] G) : w_Shelf_put e [.ref c, x, y, z] G Q E := by
  unfold w_Shelf_put
  exists if_true
  exact look_bad h ⟨G, Le.refl _, hE⟩
theorem vers_badk (h : BadK x) (hE : E (.ref e.C_NoKey) [("key", x)] G) : w_Shelf_versions e [.ref c, x] G Q E := by
  unfold w_Shelf_versions
  exists if_true
  exact look_bad h ⟨G, Le.refl _, hE⟩
theorem at_badk (hS : Shf e G c d m gt) (h : BadK x) (hE : E (.ref e.C_NoKey) [("key", x)] G) : w_Shelf_at e [.ref c, x, y] G Q E := by
  unfold w_Shelf_at
  exists hS.1
  exact ⟨rfl, vers_badk h ⟨G, Le.refl _, hE⟩⟩
theorem newest_badk (hS : Shf e G c d m gt) (h : BadK x) (hE : E (.ref e.C_NoKey) [("key", x)] G) : w_Shelf_newest e [.ref c, x] G Q E := by
  unfold w_Shelf_newest
  exists hS.1
  exact ⟨rfl, vers_badk h ⟨G, Le.refl _, hE⟩⟩
/-- what is no stamp for a row -/
def BadS (r : Rw) (x : D) : Prop := NoSt x ∨ ∃ (s : St3) (r' : Rw) (p : St3 × List Int), x = stD s ∧ 0 ≤ s.2.1 ∧ 0 ≤ s.2.2 ∧ r = r' ++ [p] ∧ lt3 p.1 s = false
theorem put_bads (g : e.Good) (hS : Shf e G c d m gt) (hk : Gk k) (h : BadS (getR m k) x) (hE : E (.ref e.C_NoStamp) [] G) : w_Shelf_put e [.ref c, .str k, x, y] G Q E := by
  unfold w_Shelf_put
  exists if_true
  unfold w_look_at_key
  exists if_true
  refine key_ok hk ?_
  exists if_true
  refine fg_in ?_
  exists hS.1, lk_r
  refine ⟨g.ok_Shelf_rows_of, ⟨_, hS.2⟩, ?_⟩
  exists hS.2, val_enc
  rcases h with h | ⟨s, r', p, rfl, h1, h2, hr, hl⟩
  · refine nost_d h ?_
    exists if_true
    exact ⟨G, Le.refl _, hE⟩
  · refine stamp_ok h1 h2 ?_
    exists if_true
    refine i_eqX pure_row pure_nil ?_
    have hne : (getR m k).isEmpty = false := by rw [hr]; simp
    exists eqv_row, hne
    have e1 : ∀ Q : Post, Q (prD p) G → dIx (rowD (getR m k)) (.int (-1)) G Q := fun Q h => by rw [hr]; exact at_row h
    refine e1 _ ?_
    exists ix_pr0, cmp_st
    have e2 : PySem.W.listLt [p.1.1, p.1.2.1, p.1.2.2] [s.1, s.2.1, s.2.2] = false := hl
    exists e2
    exact ⟨G, Le.refl _, hE⟩
/-- what is no worth -/
structure BadW (x : D) : Prop where
  k : Kd x
  l : ∀ l, x = .tup l → ∀ x ∈ l, Kd x
  n : ∀ l, x = .tup l → l.length ≤ 100
  w : isWo x = false
theorem put_badw (g : e.Good) (hS : Shf e G c d m gt) (hk : Gk k) {s : St3} (h1 : 0 ≤ s.2.1) (h2 : 0 ≤ s.2.2) (hl : getR m k = [] ∨ ∃ r p, getR m k = r ++ [p] ∧ lt3 p.1 s = true) (h : BadW x) (hE : E (.ref e.C_NoWorth) [] G) : w_Shelf_put e [.ref c, .str k, stD s, x] G Q E := by
  unfold w_Shelf_put
  exists if_true
  unfold w_look_at_key
  exists if_true
  refine key_ok hk ?_
  exists if_true
  refine fg_in ?_
  exists hS.1, lk_r
  refine ⟨g.ok_Shelf_rows_of, ⟨_, hS.2⟩, ?_⟩
  exists hS.2, val_enc
  refine stamp_ok h1 h2 ?_
  exists if_true
  refine i_eqX pure_row pure_nil ?_
  rcases hl with hl | ⟨r, p, hl, hlt⟩
  · exists eqv_row, show (getR m k).isEmpty = true by rw [hl]; rfl
    refine worth_d h.k h.l h.n ?_
    rw [h.w]
    exists if_true
    exact ⟨G, Le.refl _, hE⟩
  · have hne : (getR m k).isEmpty = false := by rw [hl]; simp
    exists eqv_row, hne
    have e1 : ∀ Q : Post, Q (prD p) G → dIx (rowD (getR m k)) (.int (-1)) G Q := fun Q h => by rw [hl]; exact at_row h
    refine e1 _ ?_
    exists ix_pr0, cmp_st
    have e2 : PySem.W.listLt [p.1.1, p.1.2.1, p.1.2.2] [s.1, s.2.1, s.2.2] = true := hlt
    exists e2
    refine worth_d h.k h.l h.n ?_
    rw [h.w]
    exists if_true
    exact ⟨G, Le.refl _, hE⟩
theorem at_badt (g : e.Good) (hS : Shf e G c d m gt) (hk : Gk k) (h : Kd x) (hw : isW x = false) (hE : E (.ref e.C_NoNumber) [] G) : w_Shelf_at e [.ref c, .str k, x] G Q E := by
  unfold w_Shelf_at
  exists hS.1
  refine ⟨rfl, vers_k g hS hk ?_⟩
  exists if_true
  refine whole_d h ?_
  rw [hw]
  exists if_true
  exact ⟨G, Le.refl _, hE⟩
theorem go_badt (h : Kd x) (hw : isW x = false) (hE : E (.ref e.C_NoNumber) [] G) : w_Shelf_let_go e [.ref c, x] G Q E := by
  unfold w_Shelf_let_go
  exists if_true
  refine whole_d h ?_
  rw [hw]
  exists if_true
  exact ⟨G, Le.refl _, hE⟩
theorem at_gone (g : e.Good) {i : Int} (h : Shf e G c d m (.int i)) (hk : Gk k) {t : Int} (ht : t < i) (hE : E (.ref e.C_Gone) [("time", .int i)] G) : w_Shelf_at e [.ref c, .str k, .int t] G Q E := by
  unfold w_Shelf_at
  exists h.1
  refine ⟨rfl, vers_k g h hk ?_⟩
  exists if_true
  refine whole_ok ?_
  exists h.1, lk_g, ht, decide_true
  exact ⟨g.ok_Shelf_gone_till, g.ok_Shelf_gone_till, g.ok_Shelf_gone_till, ⟨G, Le.refl _, hE⟩⟩
end
end P
namespace P
open PySem PySem.Spec L2 DL
local macro_rules | `(tactic| exists $es:term,*) => `(tactic| try simp only [q_disp, r_dkF, r_inF, q_augI, r_getP2, r_getO2, r_cmpA, q_makeK, q_enum, r_enumP, r_enumO, r_repK, r_addNK, r_inIK, r_inIT, q_get1, q_get2, q_dget, q_sdict, q_pop2, q_setd, q_dic, r_dictP, r_getS, r_getI, r_getO, r_dkS, r_dkI, r_dkO, r_inS, r_inI, r_inO, r_dpS, r_dpI, r_dpO, r_dicP, r_dicO, r_sortDic, r_listDic, r_dictDic, q_dapp, r_lstP, r_appP, r_appO, q_clear, r_clrP, r_clrO, q_truO, r_truOP, r_ownTru, r_boolOD, r_ownBool, q_notO, r_cmpTI, r_cmpT3, r_lenOD, r_ownLen, q_jkeys, q_jvals, r_fzP, r_fzO, q_jstr, r_strS, r_leXI, r_leXS, q_join, q_upper, r_joinP, r_upP, q_kw1, r_minT2, q_emp, q_mt1, r_isiEB, r_isiEb, r_isiEt, r_isiEs, r_isiEl, r_isiEd, r_isiER, r_isE_non, r_isX_non, r_isE_bl, r_isX_bl, r_isE_int, r_isX_int, r_isE_str, r_isX_str, r_isE_tup, r_isX_tup, r_isE_kl, r_isX_kl, r_isE_kc, r_isX_kc, r_isE_ref, r_isX_ref, r_rIsiET, r_rIsiER, r_rIsiXT, r_rIsiXR, r_isD_non_int, r_isD_non_bool, r_isD_non_tuple, r_isD_non_str, r_isD_non_list, r_isD_non_dict, r_isD_bl_int, r_isD_bl_bool, r_isD_bl_tuple, r_isD_bl_str, r_isD_bl_list, r_isD_bl_dict, r_isD_int_int, r_isD_int_bool, r_isD_int_tuple, r_isD_int_str, r_isD_int_list, r_isD_int_dict, r_isD_str_int, r_isD_str_bool, r_isD_str_tuple, r_isD_str_str, r_isD_str_list, r_isD_str_dict, r_isD_tup_int, r_isD_tup_bool, r_isD_tup_tuple, r_isD_tup_str, r_isD_tup_list, r_isD_tup_dict, r_isD_kl_int, r_isD_kl_bool, r_isD_kl_tuple, r_isD_kl_str, r_isD_kl_list, r_isD_kl_dict, r_isD_kc_int, r_isD_kc_bool, r_isD_kc_tuple, r_isD_kc_str, r_isD_kc_list, r_isD_kc_dict, r_isD_non_own, r_isD_bl_own, r_isD_int_own, r_isD_str_own, r_isD_tup_own, r_isD_kl_own, r_isD_kc_own, q_wpf, q_seq, q_set, q_ret, q_retN, q_if, q_drop, r_unp', r_par, q_next, q_brk, q_cont, q_for, sWhile, q_sub, sAug, q_rng1, r_rng1P, jRng2, q_jseq, r_seqT, r_seqK, r_seqR, r_seqL, r_ownP, q_op, r_var, r_varS, q_c, q_cons, q_nil, q_cb, q_tup, q_lst, r_test, r_tru, q_not, q_and, q_or, r_andV, r_orV, r_notV, q_if', q_un, q_call, q_slice, q_some, q_none, r_intP, r_chn, r_chnT, r_link, r_last, cp2, pw2, cp3, pw3, cp4, pw4, cp5, pw5, cp6, pw6, cp7, pw7, cp8, pw8, cp9, pw9, cp10, pw10, cp12, pw12, cp15, pw15, cp18, pw18, cp20, pw20, cp24, pw24, cp28, pw28, cp29, pw29, cp30, pw30, q_tryH, q_raise0, q_raiseX, q_xfld, r_xfld, q_setAs, q_setAs0, q_endsAs0, q_endsNx, q_endsRt, q_endsBk, q_endsCt, r_isNx, r_lcV, q_lstV, q_sliceV, q_frz, r_frzR, r_frzL, r_frzT, r_frzK, r_frzN, r_addVI, r_addVT, r_addVK, r_addVO, r_sliVK, r_sliVC, r_sliVT, r_sliVR, r_sliVL, r_listVK, r_listVC, r_listVT, r_truK, r_eqXS, r_eqXI, r_eqXT2, r_strI, r_seqC, r_ixC, r_lenC, r_sliC, q_lc, q_yes, q_make, r_nonP, q_fldg, r_eqT2, r_set0, r_set1, q_put1, q_putN, r_blP, r_boolP, r_unpP, r_parP, r_opt, r_pick, r_add, r_addT, r_addR, r_addL, r_sub, r_mul, r_div, r_mod, r_pow, r_cmp, r_lt, r_neg, r_isXB, r_isXN, r_isN, r_isNr, r_isNi, r_isNn, r_isNt, r_eqI, r_ixT, r_ixK, r_ixR, r_lstOf, r_sliT, r_sliK, r_sliR, r_sliL, r_truB, r_truI, r_truT, r_truN, r_truR, r_truL, r_max, r_min, r_intB, r_intI, r_abs, r_lenT, r_lenK, r_lenR, r_lenL, r_nat, r_set, r_setL, r_isI, r_isB, r_isT, r_fld, r_fldR, r_fldI, r_sfd, r_sfdR, r_sfdI, r_met, r_metR, r_met1, atI0, atI1, atI2, atI3, atI4, ixN1a, ixN2a, ixN2b, ixN3a, ixN3b, ixN3c, put_same, List.map_cons, List.map_nil, List.length_cons, List.length_nil, List.length_set, List.replicate, List.cons_append, List.nil_append, List.append_nil, List.getElem?_cons_zero, List.getElem?_cons_succ, List.set_cons_zero, List.set_cons_succ, true_and, and_true, Option.some.injEq, if_true, if_false, ite_true, ite_false, reduceIte, Bool.not_true, Bool.not_false, Bool.false_eq_true, Nat.reduceAdd, Nat.reduceLeDiff, $[$es:term],*])
section
variable {e : Env} {G G' : HD} {c d : Addr} {m : List (Str × Rw)} {gt : D} {Q : Post} {E : DX} {A : List Addr} {k : Str} {x y z : D}
theorem kind_of {C : Addr} {ns : List Str} {ds : List D} {b1 b2 b3 : Bool} {t : Str} (h1 : e.ec C (.ref e.C_NoStamp) b1) (h2 : e.ec C (.ref e.C_NoWorth) b2) (h3 : e.ec C (.ref e.C_NoNumber) b3)
    (h5 : e.ec C (.type "ValueError") true) (hc : (b1 = true ∧ b2 = false ∧ b3 = false ∧ t = "stamp") ∨ (b1 = false ∧ b2 = true ∧ b3 = false ∧ t = "worth") ∨ (b1 = false ∧ b2 = false ∧ b3 = true ∧ t = "number")) (hQ : Q (.str t) G) : w_law_kind e [.exc C ns ds] G Q E := by
  unfold w_law_kind
  exists if_true
  refine ⟨_, h1, _, h2, _, h3, ?_⟩
  exists if_true
  rcases hc with ⟨rfl, rfl, rfl, rfl⟩ | ⟨rfl, rfl, rfl, rfl⟩ | ⟨rfl, rfl, rfl, rfl⟩
  · refine ⟨⟨_, rfl⟩, ?_⟩
    rw [pyD_pure 9 _ (by decide +kernel), pyD_pure 9 _ (by decide +kernel)]
    refine ⟨by decide +kernel, by decide +kernel, ?_⟩
    rw [show (List.countP (fun z => PyData.eqv z (toPy 9 (D.bl true))) (List.map (toPy 8) [D.bl true, D.bl false, D.bl false])) = 1 by decide +kernel]
    exists show ((1 : Nat) : Int) = 1 from rfl, decide_true
    refine ⟨_, h5, ?_⟩
    exists if_true
    refine ⟨⟨_, rfl⟩, ?_⟩
    rw [pyD_pure 9 _ (by decide +kernel), pyD_pure 9 _ (by decide +kernel)]
    refine ⟨by decide +kernel, by decide +kernel, 0, .bool true, rfl, by decide +kernel, fun m z h => absurd h (by omega), ?_⟩
    exists show ((0 : Nat) : Int) = 0 from rfl
    exact fg_in hQ
  · refine ⟨⟨_, rfl⟩, ?_⟩
    rw [pyD_pure 9 _ (by decide +kernel), pyD_pure 9 _ (by decide +kernel)]
    refine ⟨by decide +kernel, by decide +kernel, ?_⟩
    rw [show (List.countP (fun z => PyData.eqv z (toPy 9 (D.bl true))) (List.map (toPy 8) [D.bl false, D.bl true, D.bl false])) = 1 by decide +kernel]
    exists show ((1 : Nat) : Int) = 1 from rfl, decide_true
    refine ⟨_, h5, ?_⟩
    exists if_true
    refine ⟨⟨_, rfl⟩, ?_⟩
    rw [pyD_pure 9 _ (by decide +kernel), pyD_pure 9 _ (by decide +kernel)]
    refine ⟨by decide +kernel, by decide +kernel, 1, .bool true, rfl, by decide +kernel, fun m z h hz => ?_, ?_⟩
    · obtain rfl : m = 0 := by omega
      cases hz; decide +kernel
    exists show ((1 : Nat) : Int) = 1 from rfl
    exact fg_in hQ
  · refine ⟨⟨_, rfl⟩, ?_⟩
    rw [pyD_pure 9 _ (by decide +kernel), pyD_pure 9 _ (by decide +kernel)]
    refine ⟨by decide +kernel, by decide +kernel, ?_⟩
    rw [show (List.countP (fun z => PyData.eqv z (toPy 9 (D.bl true))) (List.map (toPy 8) [D.bl false, D.bl false, D.bl true])) = 1 by decide +kernel]
    exists show ((1 : Nat) : Int) = 1 from rfl, decide_true
    refine ⟨_, h5, ?_⟩
    exists if_true
    refine ⟨⟨_, rfl⟩, ?_⟩
    rw [pyD_pure 9 _ (by decide +kernel), pyD_pure 9 _ (by decide +kernel)]
    refine ⟨by decide +kernel, by decide +kernel, 2, .bool true, rfl, by decide +kernel, fun m z h hz => ?_, ?_⟩
    · obtain rfl | rfl : m = 0 ∨ m = 1 := by omega
      · cases hz; decide +kernel
      · cases hz; decide +kernel
    exists show ((2 : Nat) : Int) = 2 from rfl
    exact fg_in hQ
theorem kind_stamp (g : e.Good) {ns : List Str} {ds : List D} (hQ : Q (.str "stamp") G) : w_law_kind e [.exc e.C_NoStamp ns ds] G Q E :=
  kind_of g.ec_NoStamp_NoStamp g.ec_NoStamp_NoWorth g.ec_NoStamp_NoNumber g.ec_NoStamp_ValueError (.inl ⟨rfl, rfl, rfl, rfl⟩) hQ
theorem kind_worth (g : e.Good) {ns : List Str} {ds : List D} (hQ : Q (.str "worth") G) : w_law_kind e [.exc e.C_NoWorth ns ds] G Q E :=
  kind_of g.ec_NoWorth_NoStamp g.ec_NoWorth_NoWorth g.ec_NoWorth_NoNumber g.ec_NoWorth_ValueError (.inr (.inl ⟨rfl, rfl, rfl, rfl⟩)) hQ
theorem kind_number (g : e.Good) {ns : List Str} {ds : List D} (hQ : Q (.str "number") G) : w_law_kind e [.exc e.C_NoNumber ns ds] G Q E :=
  kind_of g.ec_NoNumber_NoStamp g.ec_NoNumber_NoWorth g.ec_NoNumber_NoNumber g.ec_NoNumber_ValueError (.inr (.inr ⟨rfl, rfl, rfl, rfl⟩)) hQ
/-! ### what is said -/
def kyD (x : D) : D := .kl [.str "key", .str (toPy 9 x).shown, .bl true]
theorem lk1 {n : Str} {x : D} : List.lookup n ([n].zip [x]) = some x := by simp [List.zip, List.zipWith, List.lookup]
theorem said_putk (g : e.Good) (hS : Shf e G c d m gt) (h : BadK x) (hQ : Q (kyD x) G) : w_law_said e [.ref c, .int 0, .tup [x, y, z]] G Q E := by
  unfold w_law_said
  exists q_seqJ, hS.1
  refine ⟨rfl, put_badk h (catch1 g.xm_NoKey_NoKey ?_)⟩
  exists if_true
  refine ⟨g.xf_NoKey_key, ?_⟩
  rw [lk1]
  exists if_true
  refine i_reprS h.p h.l h.c ?_
  exact ⟨_, g.ec_NoKey_KeyError, fg_in hQ⟩
theorem said_atk (g : e.Good) (hS : Shf e G c d m gt) (h : BadK x) (hQ : Q (kyD x) G) : w_law_said e [.ref c, .int 1, .tup [x, y]] G Q E := by
  unfold w_law_said
  exists q_seqJ, hS.1
  refine ⟨rfl, at_badk hS h (catch1 g.xm_NoKey_NoKey ?_)⟩
  exists if_true
  refine ⟨g.xf_NoKey_key, ?_⟩
  rw [lk1]
  exists if_true
  refine i_reprS h.p h.l h.c ?_
  exact ⟨_, g.ec_NoKey_KeyError, fg_in hQ⟩
theorem said_versk (g : e.Good) (hS : Shf e G c d m gt) (h : BadK x) (hQ : Q (kyD x) G) : w_law_said e [.ref c, .int 2, .tup [x, y]] G Q E := by
  unfold w_law_said
  exists q_seqJ, hS.1
  refine ⟨rfl, vers_badk h (catch1 g.xm_NoKey_NoKey ?_)⟩
  exists if_true
  refine ⟨g.xf_NoKey_key, ?_⟩
  rw [lk1]
  exists if_true
  refine i_reprS h.p h.l h.c ?_
  exact ⟨_, g.ec_NoKey_KeyError, fg_in hQ⟩
theorem said_newk (g : e.Good) (hS : Shf e G c d m gt) (h : BadK x) (hQ : Q (kyD x) G) : w_law_said e [.ref c, .int 3, .tup [x, y]] G Q E := by
  unfold w_law_said
  exists q_seqJ, hS.1
  refine ⟨rfl, newest_badk hS h (catch1 g.xm_NoKey_NoKey ?_)⟩
  exists if_true
  refine ⟨g.xf_NoKey_key, ?_⟩
  rw [lk1]
  exists if_true
  refine i_reprS h.p h.l h.c ?_
  exact ⟨_, g.ec_NoKey_KeyError, fg_in hQ⟩
theorem said_puts (g : e.Good) (hS : Shf e G c d m gt) (hk : Gk k) (h : BadS (getR m k) x) (hQ : Q (.kl [.str "stamp"]) G) : w_law_said e [.ref c, .int 0, .tup [.str k, x, y]] G Q E := by
  unfold w_law_said
  exists q_seqJ, hS.1
  refine ⟨rfl, put_bads g hS hk h (catch0 g.xm_NoKey_NoStamp (catch0 g.xm_Gone_NoStamp (catch1 g.xm_WaitError_NoStamp ?_)))⟩
  exists if_true
  refine kind_stamp g ?_
  exact fg_in hQ
theorem said_putw (g : e.Good) (hS : Shf e G c d m gt) (hk : Gk k) {s : St3} (h1 : 0 ≤ s.2.1) (h2 : 0 ≤ s.2.2) (hl : getR m k = [] ∨ ∃ r p, getR m k = r ++ [p] ∧ lt3 p.1 s = true) (h : BadW x) (hQ : Q (.kl [.str "worth"]) G) : w_law_said e [.ref c, .int 0, .tup [.str k, stD s, x]] G Q E := by
  unfold w_law_said
  exists q_seqJ, hS.1
  refine ⟨rfl, put_badw g hS hk h1 h2 hl h (catch0 g.xm_NoKey_NoWorth (catch0 g.xm_Gone_NoWorth (catch1 g.xm_WaitError_NoWorth ?_)))⟩
  exists if_true
  refine kind_worth g ?_
  exact fg_in hQ
theorem said_att (g : e.Good) (hS : Shf e G c d m gt) (hk : Gk k) (h : Kd x) (hw : isW x = false) (hQ : Q (.kl [.str "number"]) G) : w_law_said e [.ref c, .int 1, .tup [.str k, x]] G Q E := by
  unfold w_law_said
  exists q_seqJ, hS.1
  refine ⟨rfl, at_badt g hS hk h hw (catch0 g.xm_NoKey_NoNumber (catch0 g.xm_Gone_NoNumber (catch1 g.xm_WaitError_NoNumber ?_)))⟩
  exists if_true
  refine kind_number g ?_
  exact fg_in hQ
theorem said_got (g : e.Good) (hS : Shf e G c d m gt) (h : Kd x) (hw : isW x = false) (hQ : Q (.kl [.str "number"]) G) : w_law_said e [.ref c, .int 4, .tup [y, x]] G Q E := by
  unfold w_law_said
  exists q_seqJ, hS.1
  refine ⟨rfl, go_badt h hw (catch0 g.xm_NoKey_NoNumber (catch0 g.xm_Gone_NoNumber (catch1 g.xm_WaitError_NoNumber ?_)))⟩
  exists if_true
  refine kind_number g ?_
  exact fg_in hQ
theorem said_at (g : e.Good) (hS : Shf e G c d m gt) (hk : Gk k) {t : Int} (hg : gt = .non ∨ ∃ i, gt = .int i ∧ i ≤ t) (hr : (getR m k).length ≤ 1000) (hQ : Q (.kl [.str "told"]) G) : w_law_said e [.ref c, .int 1, .tup [.str k, .int t]] G Q E := by
  unfold w_law_said
  exists q_seqJ, hS.1
  refine ⟨rfl, at_ok g hS hk hg hr ?_⟩
  unfold w_law_kind
  exists if_true
  exact fg_in (fg_in hQ)
theorem said_put (g : e.Good) (hS : Shf e G c d m gt) (hk : Gk k) {s : St3} {w : List Int} (h1 : 0 ≤ s.2.1) (h2 : 0 ≤ s.2.2) (w1 : 1 ≤ w.length) (w4 : w.length ≤ 4) (hl : getR m k = [] ∨ ∃ r p, getR m k = r ++ [p] ∧ lt3 p.1 s = true) (hm : m.length < 1000) (hr : (getR m k).length ≤ 1000)
    (hQ : ∀ G', Fr [d] G G' → Shf e G' c d (putR m k (getR m k ++ [(s, w)])) gt → Q (.kl [.str "told"]) G') : w_law_said e [.ref c, .int 0, .tup [.str k, stD s, woD w]] G Q E := by
  unfold w_law_said
  exists q_seqJ, hS.1
  refine ⟨rfl, put_ok g hS hk h1 h2 w1 w4 hl hm hr fun G1 f1 hS1 => ?_⟩
  unfold w_law_kind
  exists if_true
  exact fg_in (fg_in (hQ _ f1 hS1))
theorem gone_ok (g : e.Good) (hS : Shf e G c d m (.int (-5))) (hk : Gk k) (hQ : Q (.bl true) G) : w_law_is_gone e [.ref c, .str k] G Q E := by
  unfold w_law_is_gone
  exists q_seqJ, hS.1
  refine ⟨rfl, at_gone g hS hk (by decide) (catch1 g.xm_Gone_Gone ?_)⟩
  exists if_true
  refine ⟨g.xf_Gone_time, ?_⟩
  rw [lk1]
  exists if_true
  exact fg_in hQ
end
end P
namespace P
open PySem PySem.Spec L2 DL
local macro_rules | `(tactic| exists $es:term,*) => `(tactic| try simp only [q_disp, r_dkF, r_inF, q_augI, r_getP2, r_getO2, r_cmpA, q_makeK, q_enum, r_enumP, r_enumO, r_repK, r_addNK, r_inIK, r_inIT, q_get1, q_get2, q_dget, q_sdict, q_pop2, q_setd, q_dic, r_dictP, r_getS, r_getI, r_getO, r_dkS, r_dkI, r_dkO, r_inS, r_inI, r_inO, r_dpS, r_dpI, r_dpO, r_dicP, r_dicO, r_sortDic, r_listDic, r_dictDic, q_dapp, r_lstP, r_appP, r_appO, q_clear, r_clrP, r_clrO, q_truO, r_truOP, r_ownTru, r_boolOD, r_ownBool, q_notO, r_cmpTI, r_cmpT3, r_lenOD, r_ownLen, q_jkeys, q_jvals, r_fzP, r_fzO, q_jstr, r_strS, r_leXI, r_leXS, q_join, q_upper, r_joinP, r_upP, q_kw1, r_minT2, q_emp, q_mt1, r_isiEB, r_isiEb, r_isiEt, r_isiEs, r_isiEl, r_isiEd, r_isiER, r_isE_non, r_isX_non, r_isE_bl, r_isX_bl, r_isE_int, r_isX_int, r_isE_str, r_isX_str, r_isE_tup, r_isX_tup, r_isE_kl, r_isX_kl, r_isE_kc, r_isX_kc, r_isE_ref, r_isX_ref, r_rIsiET, r_rIsiER, r_rIsiXT, r_rIsiXR, r_isD_non_int, r_isD_non_bool, r_isD_non_tuple, r_isD_non_str, r_isD_non_list, r_isD_non_dict, r_isD_bl_int, r_isD_bl_bool, r_isD_bl_tuple, r_isD_bl_str, r_isD_bl_list, r_isD_bl_dict, r_isD_int_int, r_isD_int_bool, r_isD_int_tuple, r_isD_int_str, r_isD_int_list, r_isD_int_dict, r_isD_str_int, r_isD_str_bool, r_isD_str_tuple, r_isD_str_str, r_isD_str_list, r_isD_str_dict, r_isD_tup_int, r_isD_tup_bool, r_isD_tup_tuple, r_isD_tup_str, r_isD_tup_list, r_isD_tup_dict, r_isD_kl_int, r_isD_kl_bool, r_isD_kl_tuple, r_isD_kl_str, r_isD_kl_list, r_isD_kl_dict, r_isD_kc_int, r_isD_kc_bool, r_isD_kc_tuple, r_isD_kc_str, r_isD_kc_list, r_isD_kc_dict, r_isD_non_own, r_isD_bl_own, r_isD_int_own, r_isD_str_own, r_isD_tup_own, r_isD_kl_own, r_isD_kc_own, q_wpf, q_seq, q_set, q_ret, q_retN, q_if, q_drop, r_unp', r_par, q_next, q_brk, q_cont, q_for, sWhile, q_sub, sAug, q_rng1, r_rng1P, jRng2, q_jseq, r_seqT, r_seqK, r_seqR, r_seqL, r_ownP, q_op, r_var, r_varS, q_c, q_cons, q_nil, q_cb, q_tup, q_lst, r_test, r_tru, q_not, q_and, q_or, r_andV, r_orV, r_notV, q_if', q_un, q_call, q_slice, q_some, q_none, r_intP, r_chn, r_chnT, r_link, r_last, cp2, pw2, cp3, pw3, cp4, pw4, cp5, pw5, cp6, pw6, cp7, pw7, cp8, pw8, cp9, pw9, cp10, pw10, cp12, pw12, cp15, pw15, cp18, pw18, cp20, pw20, cp24, pw24, cp28, pw28, cp29, pw29, cp30, pw30, q_tryH, q_raise0, q_raiseX, q_xfld, r_xfld, q_setAs, q_setAs0, q_endsAs0, q_endsNx, q_endsRt, q_endsBk, q_endsCt, r_isNx, r_lcV, q_lstV, q_sliceV, q_frz, r_frzR, r_frzL, r_frzT, r_frzK, r_frzN, r_addVI, r_addVT, r_addVK, r_addVO, r_sliVK, r_sliVC, r_sliVT, r_sliVR, r_sliVL, r_listVK, r_listVC, r_listVT, r_truK, r_eqXS, r_eqXI, r_eqXT2, r_strI, r_seqC, r_ixC, r_lenC, r_sliC, q_lc, q_yes, q_make, r_nonP, q_fldg, r_eqT2, r_set0, r_set1, q_put1, q_putN, r_blP, r_boolP, r_unpP, r_parP, r_opt, r_pick, r_add, r_addT, r_addR, r_addL, r_sub, r_mul, r_div, r_mod, r_pow, r_cmp, r_lt, r_neg, r_isXB, r_isXN, r_isN, r_isNr, r_isNi, r_isNn, r_isNt, r_eqI, r_ixT, r_ixK, r_ixR, r_lstOf, r_sliT, r_sliK, r_sliR, r_sliL, r_truB, r_truI, r_truT, r_truN, r_truR, r_truL, r_max, r_min, r_intB, r_intI, r_abs, r_lenT, r_lenK, r_lenR, r_lenL, r_nat, r_set, r_setL, r_isI, r_isB, r_isT, r_fld, r_fldR, r_fldI, r_sfd, r_sfdR, r_sfdI, r_met, r_metR, r_met1, atI0, atI1, atI2, atI3, atI4, ixN1a, ixN2a, ixN2b, ixN3a, ixN3b, ixN3c, put_same, List.map_cons, List.map_nil, List.length_cons, List.length_nil, List.length_set, List.replicate, List.cons_append, List.nil_append, List.append_nil, List.getElem?_cons_zero, List.getElem?_cons_succ, List.set_cons_zero, List.set_cons_succ, true_and, and_true, Option.some.injEq, if_true, if_false, ite_true, ite_false, reduceIte, Bool.not_true, Bool.not_false, Bool.false_eq_true, Nat.reduceAdd, Nat.reduceLeDiff, $[$es:term],*])
section
variable {e : Env} {G G' : HD} {c d : Addr} {m : List (Str × Rw)} {gt : D} {Q : Post} {E : DX} {A : List Addr} {k : Str} {x y z : D} {n : Nat} {l : List (Key × D)}
theorem getR_mem : ∀ {m : List (Str × Rw)} {x : Str × Rw}, (keysOf m).Nodup → x ∈ m → getR m x.1 = x.2
  | p :: m, x, hn, hx => by
    obtain ⟨h1, h2⟩ := List.nodup_cons.mp (show (p.1 :: keysOf m).Nodup from hn)
    show (if p.1 = x.1 then p.2 else getR m x.1) = x.2
    rcases List.mem_cons.mp hx with rfl | hx
    · rw [if_pos rfl]
    · rw [if_neg (fun z => h1 (by rw [z]; exact List.mem_map.mpr ⟨x, hx, rfl⟩))]
      exact getR_mem h2 hx
theorem cut_low (h : OkB m n) : m.map (cutP (-5)) = m := by
  rw [List.map_congr_left (g := id) fun p hp => ?_, List.map_id]
  show (p.1, cutF p.2 (-5)) = p
  have e0 : (p.2.filter fun q => decide (q.1.1 ≤ -5)) = [] := List.filter_eq_nil_iff.mpr fun q hq => by
    have := ((h.row p.1).2 q (by rw [getR_mem h.nd hp]; exact hq)).1.1
    simp; omega
  unfold cutF
  rw [e0]; rfl
/-! ### the last stamps -/
def LR (l : List (Key × D)) (m : List (Str × Rw)) : Prop := ∀ k, valD l (.inr k) = (getR m k).getLast?.map fun p => stD p.1
theorem lr_nil : LR [] [] := fun _ => rfl
theorem LR.put {s : St3} {w : List Int} (h : LR l m) : LR (putKD l (.inr k) (stD s)) (putR m k (getR m k ++ [(s, w)])) := fun k2 => by
  rw [valD_put, getR_put]
  by_cases hk : k2 = k
  · subst hk
    rw [if_pos rfl, if_pos rfl, List.getLast?_append]; rfl
  · rw [if_neg (fun z => hk (Sum.inr.inj z)), if_neg hk]; exact h k2
theorem LR.last (h : LR l m) : (valD l (.inr k)).getD (.tup [.int 0, .int 0, .int 0]) = stD (lastS (getR m k) (0, 0, 0)) := by
  rw [h k]
  unfold lastS
  cases hg : getR m k with
  | nil => rfl
  | cons a r =>
    obtain ⟨r', p, e1⟩ := snoc (l := a :: r) (by simp)
    rw [e1, List.map_append, List.getLast?_append, List.getLast?_append]; rfl
theorem last_lt {s : St3} {r : Rw} (h : lt3 (lastS r (0, 0, 0)) s = true) : r = [] ∨ ∃ r' p, r = r' ++ [p] ∧ lt3 p.1 s = true := by
  by_cases hr : r = []
  · exact .inl hr
  · obtain ⟨r', p, rfl⟩ := snoc hr
    rw [lastS_app] at h
    exact .inr ⟨r', p, rfl, h⟩
theorem bd_last (h : OkB m n) : Bd n (lastS (getR m k) (0, 0, 0)) := by
  by_cases hr : getR m k = []
  · rw [hr]; exact ⟨by decide, by show (0 : Int) ≤ _; omega, by decide, by show (0 : Int) ≤ _; omega, by decide, by decide⟩
  · obtain ⟨r', p, e1⟩ := snoc hr
    rw [e1, lastS_app]
    exact ((h.row k).2 p (by rw [e1]; simp)).1
theorem filled_ok (g : e.Good) {a : Addr} (hR : Row G a) (hS : Shf e G c d [] .non) (hac : a ≠ c) (had : a ≠ d) (hQ : ∀ p l m G', G' p = some (.dK l) → LR l m → OkB m 8 → Shf e G' c d m .non → Row G' a → Q (.ref p) G') : w_law_filled e [.ref a, .ref c] G Q E := by
  unfold w_law_filled
  exists if_true
  intro p hp
  have lp : Le G (put G p (.dK [])) := fun b o hb => by rw [put_ne (fun z => by rw [z, hp] at hb; cases hb)]; exact hb
  have hp1 : put G p (.dK []) p = some (.dK []) := put_same
  have n1 : p ≠ c := fun z => by rw [z, hS.1] at hp; cases hp
  have n2 : p ≠ d := fun z => by rw [z, hS.2] at hp; cases hp
  have n3 : a ≠ p := by obtain ⟨_, _, _, _, h1⟩ := hR; rintro rfl; rw [h1] at hp; cases hp
  have hS1 : Shf e (put G p (.dK [])) c d [] .non := ⟨lp _ _ hS.1, lp _ _ hS.2⟩
  have hR1 := hR.le lp
  generalize put G p (.dK []) = G1 at hp1 hS1 hR1
  refine take_ok (e := e) hR1 (by omega) (by omega) fun r G2 h0 h1 hR2 x2 => ?_
  exists if_true
  have hS2 := hS1.fr x2 (by simpa using hac.symm) (by simpa using had.symm)
  have hp2 := x2 _ _ (by simpa using n3.symm) hp1
  refine ⟨by omega, by omega, ?_⟩
  refine forR_inv (I := fun i σ G => ∃ (l : List (Key × D)) (m : List (Str × Rw)) (x3 x4 : Option D), σ = [some (.ref a), some (.ref c), some (.ref p), x3, x4] ∧ G p = some (.dK l) ∧ LR l m ∧ OkB m i ∧ Shf e G c d m .non ∧ Row G a ∧ l.length ≤ i) (fun _ => trivial) (fun i k σ G hi hI hk => ?_) (fun σ G hI => ?_) ⟨[], [], _, _, rfl, hp2, lr_nil, okb_nil, hS2, hR2, by simp⟩
  · obtain ⟨l, m, x3, x4, rfl, hp, hL, hO, hS, hR, hl⟩ := hI
    have hi8 : i < 8 := by omega
    unfold l_law_filled_1
    exists if_true
    refine lkey_ok hR fun ky G3 hky hR3 x3' => ?_
    exists if_true
    have hp3 := x3' _ _ (by simpa using n3.symm) hp
    have hS3 := hS.fr x3' (by simpa using hac.symm) (by simpa using had.symm)
    exists hp3
    rw [hL.last]
    refine ⟨⟨_, rfl⟩, lstamp_ok' (n := i) (by omega) (bd_last hO) hR3 fun s G4 hlt hb _ hR4 x4' => ?_⟩
    have hp4 := x4' _ _ (by simpa using n3.symm) hp3
    have hS4 := hS3.fr x4' (by simpa using hac.symm) (by simpa using had.symm)
    exists hp4
    refine ⟨by omega, ?_⟩
    have hp5 : put G4 p (.dK (putKD l (.inr ky) (stD s))) p = some (.dK (putKD l (.inr ky) (stD s))) := put_same
    have f5 : Fr [p] G4 (put G4 p (.dK (putKD l (.inr ky) (stD s)))) := Fr.put List.mem_cons_self
    have hS5 := hS4.fr f5 (by simpa using n1.symm) (by simpa using n2.symm)
    have hR5 := hR4.fr f5 (by simpa using n3)
    generalize put G4 p (.dK (putKD l (.inr ky) (stD s))) = G5 at hp5 hS5 hR5
    exists hS5.1, hp5
    refine ⟨rfl, ?_⟩
    have e1 : valD (putKD l (.inr ky) (stD s)) (.inr ky) = some (stD s) := by rw [valD_put, if_pos rfl]
    rw [e1]
    exists if_true
    refine lworth_ok hR5 fun ws G6 hws hR6 x6 => ?_
    exists if_true
    have hp6 := x6 _ _ (by simpa using n3.symm) hp5
    have hS6 := hS5.fr x6 (by simpa using hac.symm) (by simpa using had.symm)
    refine put_ok g hS6 hky hb.2.2.1 hb.2.2.2.2.1 hws.1 hws.2.1 (last_lt hlt) (by have := hO.len; omega) (by have := (hO.row ky).1; omega) fun G7 f7 hS7 => ?_
    refine hk _ _ ⟨_, _, _, _, rfl, f7 _ _ (by simpa using n2) hp6, hL.put (w := ws), hO.put hky hb hws, hS7, hR6.fr f7 (by simpa using had), ?_⟩
    unfold putKD
    split
    · rw [List.length_map]; omega
    · rw [List.length_append]; show _ + 1 ≤ _; omega
  · obtain ⟨l, m, x3, x4, rfl, hp, hL, hO, hS, hR, hl⟩ := hI
    exists if_true
    exact fg_in (hQ p l m _ hp hL (hO.mono (by omega)) hS hR)
/-! ### how a shelf stands -/
def stL (m : List (Str × Rw)) (ys : List Str) : List D := [.kl (ys.map D.str), .int (many m : Nat)] ++ sixS.map fun k => rowD (getR m k)
def stT (m : List (Str × Rw)) (ys : List Str) : Str := (toPy 9 (.kl (stL m ys))).shown
theorem pure_stL {ys : List Str} (hy : ∀ y ∈ ys, PyData.strOk y = true) : pureD 9 (.kl (stL m ys)) = true := by
  show (stL m ys).all (pureD 8) = true
  unfold stL
  rw [List.all_append, List.all_map]
  have h1 : sixS.all (pureD 8 ∘ fun k => rowD (getR m k)) = true := List.all_eq_true.mpr fun k _ => pure_rown (n := 4)
  have h2 : pureD 8 (.kl (ys.map D.str)) = true := by
    show (ys.map D.str).all (pureD 7) = true
    rw [List.all_map]; exact List.all_eq_true.mpr fun y h => hy y h
  rw [h1]
  show ((pureD 8 (.kl (ys.map D.str)) && true) && true) = true
  rw [h2]; rfl
theorem rep_st {q : Addr} {ys : List Str} (h : ∀ k, GoodR (getR m k)) (hm : many m ≤ 1000000) (hq : G q = some (.lst (ys.map D.str))) (hy : ∀ y ∈ ys, PyData.strOk y = true ∧ y.length ≤ 60) (hl : ys.length ≤ 100) (hQ : Q (.str (stT m ys)) G) : rReprX [.kl ([.ref q, .int (many m : Nat)] ++ sixS.map fun k => rowD (getR m k))] G Q := by
  have e1 : pyD 9 G (.kl ([.ref q, .int (many m : Nat)] ++ sixS.map fun k => rowD (getR m k))) = some (toPy 9 (.kl (stL m ys))) := by
    rw [← pyD_pure 9 (G := G) (.kl (stL m ys)) (pure_stL fun y h => (hy y h).1)]
    show (List.mapM (pyD 8 G) _).map PyData.list = (List.mapM (pyD 8 G) _).map PyData.list
    unfold stL
    simp only [List.cons_append, List.mapM_cons, pyD_lst hq]
  have e : repO G (.kl ([.ref q, .int (many m : Nat)] ++ sixS.map fun k => rowD (getR m k))) = some (toPy 9 (.kl (stL m ys))) := by
    unfold repO
    rw [e1]
  have hs : smallD 9 (.kl (stL m ys)) = true := by
    show (stL m ys).all (smallD 8) = true
    unfold stL
    rw [List.all_append, List.all_map]
    have h1 : sixS.all (smallD 8 ∘ fun k => rowD (getR m k)) = true := List.all_eq_true.mpr fun k _ => small_row (n := 5) (h k)
    have h2 : smallD 8 (.int (many m : Nat)) = true := sm_s (by constructor <;> omega)
    have h3 : smallD 8 (.kl (ys.map D.str)) = true := by
      show (ys.map D.str).all (smallD 7) = true
      rw [List.all_map]
      refine List.all_eq_true.mpr fun y hy' => ?_
      show (PyData.strOk y && decide (y.length ≤ 60)) = true
      rw [(hy y hy').1, decide_eq_true (hy y hy').2]; rfl
    rw [h1]
    show ((smallD 8 (.kl (ys.map D.str)) && (smallD 8 (.int (many m : Nat)) && true)) && true) = true
    rw [h2, h3]; rfl
  have hc : capD (.kl (stL m ys)) ≤ 16000000 := by
    have hc : ∀ l : List Str, capDs (l.map (fun k => rowD (getR m k))) ≤ l.length * 210002 := by
      intro l
      induction l with
      | nil => simp only [List.map_nil, capDs, List.length_nil]; omega
      | cons k l ih =>
        have := cap_row (h k)
        simp only [List.map_cons, capDs, List.length_cons]; omega
    have := hc sixS
    have e6 : sixS.length = 6 := rfl
    simp only [capD, stL, List.cons_append, List.nil_append, capDs, cap_strs]
    omega
  refine .inr ?_
  show rReprO (repO G _) G Q
  rw [e]
  exact ⟨(small_shown 9 _ hs).1, Nat.le_trans (small_shown 9 _ hs).2 (by rw [sizeLine_eq]; omega), hQ⟩
theorem st_str {ys : List Str} (hy : ∀ y ∈ ys, PyData.strOk y = true) : PyData.strOk (stT m ys) = true := shown_ok 9 _ (pure_stL hy)
theorem state_ok (g : e.Good) (hS : Shf e G c d m gt) (hO : OkB m n) (hn : n ≤ 40) (hQ : ∀ ys G', ys.Perm (keysOf m) → PyProof.Rows.sortedS ys = true → Le G G' → Q (.str (stT m ys)) G') : w_law_state e [.ref c] G Q E := by
  unfold w_law_state
  have hlen := hO.len
  have hmany := hO.many
  exists hS.1
  refine ⟨rfl, keys_ok g hS (by omega) fun ys p G1 hys hsr hp hG1 => ?_⟩
  subst hG1
  have hy : ∀ y ∈ ys, Gk y := fun y h => hO.key y (hys.mem_iff.mp h)
  have l1 : Le G (put G p (.lst (ys.map D.str))) := fun b o hb => by rw [put_ne (fun z => by rw [z, hp] at hb; cases hb)]; exact hb
  have hp1 : put G p (.lst (ys.map D.str)) p = some (.lst (ys.map D.str)) := put_same
  have hS1 : Shf e (put G p (.lst (ys.map D.str))) c d m gt := ⟨l1 _ _ hS.1, l1 _ _ hS.2⟩
  have hQ1 := hQ ys _ hys hsr l1
  generalize put G p (.lst (ys.map D.str)) = G1 at hp1 hS1 hQ1
  exists hS1.1
  refine ⟨⟨_, rfl⟩, len_ok g hS1 (by omega) (fun p hp => by have := mem_many hp; omega) ?_⟩
  exists if_true
  refine ⟨by omega, by omega, lc_mapK (f := rowOf m) trivial (fun z hz ky kn hk => ?_) ?_⟩
  · obtain ⟨x, rfl, hx⟩ := six hz
    exists dwipe, hS1.1
    exact ⟨rfl, vers_k g hS1 hx hk⟩
  · exists if_true
    refine ⟨million (by decide), ?_⟩
    refine rep_st (hO.good hn) (by omega) hp1 (fun y h => gk_ok (hy y h)) (by rw [hys.length_eq]; unfold keysOf; rw [List.length_map]; omega) ?_
    exact fg_in hQ1
end
end P
namespace P
open PySem PySem.Spec L2 DL
local macro_rules | `(tactic| exists $es:term,*) => `(tactic| try simp only [q_disp, r_dkF, r_inF, q_augI, r_getP2, r_getO2, r_cmpA, q_makeK, q_enum, r_enumP, r_enumO, r_repK, r_addNK, r_inIK, r_inIT, q_get1, q_get2, q_dget, q_sdict, q_pop2, q_setd, q_dic, r_dictP, r_getS, r_getI, r_getO, r_dkS, r_dkI, r_dkO, r_inS, r_inI, r_inO, r_dpS, r_dpI, r_dpO, r_dicP, r_dicO, r_sortDic, r_listDic, r_dictDic, q_dapp, r_lstP, r_appP, r_appO, q_clear, r_clrP, r_clrO, q_truO, r_truOP, r_ownTru, r_boolOD, r_ownBool, q_notO, r_cmpTI, r_cmpT3, r_lenOD, r_ownLen, q_jkeys, q_jvals, r_fzP, r_fzO, q_jstr, r_strS, r_leXI, r_leXS, q_join, q_upper, r_joinP, r_upP, q_kw1, r_minT2, q_emp, q_mt1, r_isiEB, r_isiEb, r_isiEt, r_isiEs, r_isiEl, r_isiEd, r_isiER, r_isE_non, r_isX_non, r_isE_bl, r_isX_bl, r_isE_int, r_isX_int, r_isE_str, r_isX_str, r_isE_tup, r_isX_tup, r_isE_kl, r_isX_kl, r_isE_kc, r_isX_kc, r_isE_ref, r_isX_ref, r_rIsiET, r_rIsiER, r_rIsiXT, r_rIsiXR, r_isD_non_int, r_isD_non_bool, r_isD_non_tuple, r_isD_non_str, r_isD_non_list, r_isD_non_dict, r_isD_bl_int, r_isD_bl_bool, r_isD_bl_tuple, r_isD_bl_str, r_isD_bl_list, r_isD_bl_dict, r_isD_int_int, r_isD_int_bool, r_isD_int_tuple, r_isD_int_str, r_isD_int_list, r_isD_int_dict, r_isD_str_int, r_isD_str_bool, r_isD_str_tuple, r_isD_str_str, r_isD_str_list, r_isD_str_dict, r_isD_tup_int, r_isD_tup_bool, r_isD_tup_tuple, r_isD_tup_str, r_isD_tup_list, r_isD_tup_dict, r_isD_kl_int, r_isD_kl_bool, r_isD_kl_tuple, r_isD_kl_str, r_isD_kl_list, r_isD_kl_dict, r_isD_kc_int, r_isD_kc_bool, r_isD_kc_tuple, r_isD_kc_str, r_isD_kc_list, r_isD_kc_dict, r_isD_non_own, r_isD_bl_own, r_isD_int_own, r_isD_str_own, r_isD_tup_own, r_isD_kl_own, r_isD_kc_own, q_wpf, q_seq, q_set, q_ret, q_retN, q_if, q_drop, r_unp', r_par, q_next, q_brk, q_cont, q_for, sWhile, q_sub, sAug, q_rng1, r_rng1P, jRng2, q_jseq, r_seqT, r_seqK, r_seqR, r_seqL, r_ownP, q_op, r_var, r_varS, q_c, q_cons, q_nil, q_cb, q_tup, q_lst, r_test, r_tru, q_not, q_and, q_or, r_andV, r_orV, r_notV, q_if', q_un, q_call, q_slice, q_some, q_none, r_intP, r_chn, r_chnT, r_link, r_last, cp2, pw2, cp3, pw3, cp4, pw4, cp5, pw5, cp6, pw6, cp7, pw7, cp8, pw8, cp9, pw9, cp10, pw10, cp12, pw12, cp15, pw15, cp18, pw18, cp20, pw20, cp24, pw24, cp28, pw28, cp29, pw29, cp30, pw30, q_tryH, q_raise0, q_raiseX, q_xfld, r_xfld, q_setAs, q_setAs0, q_endsAs0, q_endsNx, q_endsRt, q_endsBk, q_endsCt, r_isNx, r_lcV, q_lstV, q_sliceV, q_frz, r_frzR, r_frzL, r_frzT, r_frzK, r_frzN, r_addVI, r_addVT, r_addVK, r_addVO, r_sliVK, r_sliVC, r_sliVT, r_sliVR, r_sliVL, r_listVK, r_listVC, r_listVT, r_truK, r_eqXS, r_eqXI, r_eqXT2, r_strI, r_seqC, r_ixC, r_lenC, r_sliC, q_lc, q_yes, q_make, r_nonP, q_fldg, r_eqT2, r_set0, r_set1, q_put1, q_putN, r_blP, r_boolP, r_unpP, r_parP, r_opt, r_pick, r_add, r_addT, r_addR, r_addL, r_sub, r_mul, r_div, r_mod, r_pow, r_cmp, r_lt, r_neg, r_isXB, r_isXN, r_isN, r_isNr, r_isNi, r_isNn, r_isNt, r_eqI, r_ixT, r_ixK, r_ixR, r_lstOf, r_sliT, r_sliK, r_sliR, r_sliL, r_truB, r_truI, r_truT, r_truN, r_truR, r_truL, r_max, r_min, r_intB, r_intI, r_abs, r_lenT, r_lenK, r_lenR, r_lenL, r_nat, r_set, r_setL, r_isI, r_isB, r_isT, r_fld, r_fldR, r_fldI, r_sfd, r_sfdR, r_sfdI, r_met, r_metR, r_met1, atI0, atI1, atI2, atI3, atI4, ixN1a, ixN2a, ixN2b, ixN3a, ixN3b, ixN3c, put_same, List.map_cons, List.map_nil, List.length_cons, List.length_nil, List.length_set, List.replicate, List.cons_append, List.nil_append, List.append_nil, List.getElem?_cons_zero, List.getElem?_cons_succ, List.set_cons_zero, List.set_cons_succ, true_and, and_true, Option.some.injEq, if_true, if_false, ite_true, ite_false, reduceIte, Bool.not_true, Bool.not_false, Bool.false_eq_true, Nat.reduceAdd, Nat.reduceLeDiff, $[$es:term],*])
section
variable {e : Env} {G G' : HD} {c d : Addr} {m : List (Str × Rw)} {gt : D} {Q : Post} {E : DX} {A : List Addr} {k : Str} {x y z : D} {n : Nat} {l : List (Key × D)}
theorem bad_key (h : x ∈ [D.str "", .str "abcdefg", .str "A", .str "a b", .str "a1", .non, .int 5, .bl true, .kl [.str "a"], .tup [.str "a"], .emp, .str "a\n"]) : BadK x ∧ PyData.strOk (toPy 9 x).shown = true := by
  simp only [List.mem_cons, List.not_mem_nil, or_false] at h
  have hs : ∀ t : Str, PyData.strOk t = true → t.length ≤ 60 → isKey (.str t) = false → BadK (.str t) := fun t h1 h2 h3 => ⟨trivial, fun t' e => by cases e; exact ⟨h1, h2⟩, h3, .inl h1, by
    show (PyData.strOk t && decide (t.length ≤ 60)) = true
    rw [h1, decide_eq_true h2]; rfl, by simp only [capD]; decide⟩
  rcases h with rfl | rfl | rfl | rfl | rfl | rfl | rfl | rfl | rfl | rfl | rfl | rfl
  · exact ⟨hs _ (by decide +kernel) (by decide +kernel) (by decide +kernel), by decide +kernel⟩
  · exact ⟨hs _ (by decide +kernel) (by decide +kernel) (by decide +kernel), by decide +kernel⟩
  · exact ⟨hs _ (by decide +kernel) (by decide +kernel) (by decide +kernel), by decide +kernel⟩
  · exact ⟨hs _ (by decide +kernel) (by decide +kernel) (by decide +kernel), by decide +kernel⟩
  · exact ⟨hs _ (by decide +kernel) (by decide +kernel) (by decide +kernel), by decide +kernel⟩
  · exact ⟨⟨trivial, nofun, rfl, .inl rfl, rfl, by simp only [capD]; decide⟩, by decide +kernel⟩
  · exact ⟨⟨trivial, nofun, rfl, .inl rfl, by decide +kernel, by simp only [capD]; decide⟩, by decide +kernel⟩
  · exact ⟨⟨trivial, nofun, rfl, .inl rfl, rfl, by simp only [capD]; decide⟩, by decide +kernel⟩
  · exact ⟨⟨trivial, nofun, rfl, .inl (by decide +kernel), by decide +kernel, by simp only [capD, capDs]; decide⟩, by decide +kernel⟩
  · exact ⟨⟨trivial, nofun, rfl, .inl (by decide +kernel), by decide +kernel, by simp only [capD, capDs]; decide⟩, by decide +kernel⟩
  · exact ⟨⟨trivial, nofun, rfl, .inr ⟨rfl, rfl⟩, rfl, by simp only [capD]; decide⟩, by decide +kernel⟩
  · exact ⟨hs _ (by decide +kernel) (by decide +kernel) (by decide +kernel), by decide +kernel⟩
theorem bad_worth {w : List Int} (h : x ∈ [D.non, .tup [], .tup [.int 1, .int 2, .int 3, .int 4, .int 5], .kl (w.map D.int), .tup [.bl true], .tup [.str "1"], .tup [.non, .int 1], .int 5, .emp]) : BadW x := by
  simp only [List.mem_cons, List.not_mem_nil, or_false] at h
  rcases h with rfl | rfl | rfl | rfl | rfl | rfl | rfl | rfl | rfl
  · exact ⟨trivial, nofun, nofun, rfl⟩
  · exact ⟨trivial, fun l e x hx => by (cases e; simp at hx), fun l e => by (cases e; decide), rfl⟩
  · exact ⟨trivial, fun l e x hx => by (cases e; simp at hx; rcases hx with rfl | rfl | rfl | rfl | rfl <;> trivial), fun l e => by (cases e; decide), rfl⟩
  · exact ⟨trivial, nofun, nofun, rfl⟩
  · exact ⟨trivial, fun l e x hx => by (cases e; simp at hx; subst hx; trivial), fun l e => by (cases e; decide), rfl⟩
  · exact ⟨trivial, fun l e x hx => by (cases e; simp at hx; subst hx; trivial), fun l e => by (cases e; decide), rfl⟩
  · exact ⟨trivial, fun l e x hx => by (cases e; simp at hx; rcases hx with rfl | rfl <;> trivial), fun l e => by (cases e; decide), rfl⟩
  · exact ⟨trivial, nofun, nofun, rfl⟩
  · exact ⟨trivial, nofun, nofun, rfl⟩
theorem bad_time (h : x ∈ [D.non, .bl true, .str "1", .tup [.int 1], .kl [], .emp]) : Kd x ∧ isW x = false := by
  simp only [List.mem_cons, List.not_mem_nil, or_false] at h
  rcases h with rfl | rfl | rfl | rfl | rfl | rfl <;> exact ⟨trivial, rfl⟩
theorem lt3_self {s : St3} : lt3 s s = false := by
  unfold lt3
  simp [PySem.W.listLt]
theorem lt3_less {s : St3} {u v : Int} : lt3 s (s.1 - 1, u, v) = false := by
  unfold lt3
  simp only [PySem.W.listLt]
  rw [if_neg (by omega)]
  exact decide_eq_false (by omega)
def laterD (l : List (Key × D)) (k : Str) (s : St3) : D := if (valD l (.inr k)).isSome = true then .tup [.int ((lastS (getR m k) (0, 0, 0)).1 - 1), .int s.2.1, .int 3] else .int 7
theorem bad_stamp {s : St3} (hL : LR l m) (hO : OkB m n) (hs : 0 ≤ s.2.1) (h : x ∈ [D.non, .tup [.int s.1, .int s.2.1], .kl [.int s.1, .int s.2.1, .int s.2.2], .tup [.int s.1, .int s.2.1, .int s.2.2, .int 0], .tup [.int s.1, .int (-1), .int 0], .tup [.int s.1, .int s.2.1, .bl true], .str "1", (valD l (.inr k)).getD .non, laterD (m := m) l k s]) : BadS (getR m k) x := by
  simp only [List.mem_cons, List.not_mem_nil, or_false] at h
  have hlast : getR m k = [] ∨ ∃ r p, getR m k = r ++ [p] := by
    by_cases hr : getR m k = []
    · exact .inl hr
    · obtain ⟨r, p, e⟩ := snoc hr; exact .inr ⟨r, p, e⟩
  rcases h with rfl | rfl | rfl | rfl | rfl | rfl | rfl | rfl | rfl
  · exact .inl trivial
  · exact .inl ⟨fun x hx => by (simp at hx; rcases hx with rfl | rfl <;> trivial), .inl rfl⟩
  · exact .inl trivial
  · exact .inl ⟨fun x hx => by (simp at hx; rcases hx with rfl | rfl | rfl | rfl <;> trivial), .inr (.inl rfl)⟩
  · exact .inl ⟨fun x hx => by (simp at hx; rcases hx with rfl | rfl | rfl <;> trivial), .inr (.inr ⟨_, _, _, rfl, .inr ⟨_, _, _, rfl, rfl, rfl, by omega⟩⟩)⟩
  · exact .inl ⟨fun x hx => by (simp at hx; rcases hx with rfl | rfl | rfl <;> trivial), .inr (.inr ⟨_, _, _, rfl, .inl rfl⟩)⟩
  · exact .inl trivial
  · rw [hL k]
    rcases hlast with hr | ⟨r, p, hr⟩
    · rw [hr]; exact .inl trivial
    · have hb := ((hO.row k).2 p (by rw [hr]; simp)).1
      rw [hr, List.getLast?_append]
      exact .inr ⟨p.1, r, p, rfl, hb.2.2.1, hb.2.2.2.2.1, rfl, lt3_self⟩
  · unfold laterD
    rw [hL k]
    rcases hlast with hr | ⟨r, p, hr⟩
    · rw [hr]; exact .inl trivial
    · rw [hr, List.getLast?_append, lastS_app]
      exact .inr ⟨(p.1.1 - 1, s.2.1, 3), r, p, rfl, hs, by show (0 : Int) ≤ 3; decide, rfl, lt3_less⟩
/-- a row that is refused -/
def Rfs (e : Env) (c d : Addr) (m : List (Str × Rw)) (r : D) : Prop := ∃ way some due, r = .tup [way, some, due] ∧ pureD 9 due = true ∧ eqvD due due = true ∧ ∀ (G : HD) (Q : Post) (E : DX), Shf e G c d m (.int (-5)) → Q due G → w_law_said e [.ref c, way, some] G Q E
theorem pure_ky (h : PyData.strOk (toPy 9 x).shown = true) : pureD 9 (kyD x) = true := by
  show (PyData.strOk "key" && (PyData.strOk (toPy 9 x).shown && (true && true))) = true
  rw [h, show PyData.strOk "key" = true by decide +kernel]; rfl
theorem eqv_ky (h : PyData.strOk (toPy 9 x).shown = true) : eqvD (kyD x) (kyD x) = true := by
  have h2 : PyData.canLayAll0 [PyData.str "key", .str (toPy 9 x).shown, .bool true] = true := by simp [PyData.canLay0, PyData.canLayAll0, h]; decide +kernel
  exact PySem.SeqAt.eqv_refl _ h2
theorem rfs_ky {way some : D} (h : PyData.strOk (toPy 9 x).shown = true) (hs : ∀ (G : HD) (Q : Post) (E : DX), Shf e G c d m (.int (-5)) → Q (kyD x) G → w_law_said e [.ref c, way, some] G Q E) : Rfs e c d m (.tup [way, some, kyD x]) :=
  ⟨_, _, _, rfl, pure_ky h, eqv_ky h, hs⟩
theorem rfs_tx {way some : D} {t : Str} (h : PyData.strOk t = true) (hs : ∀ (G : HD) (Q : Post) (E : DX), Shf e G c d m (.int (-5)) → Q (.kl [.str t]) G → w_law_said e [.ref c, way, some] G Q E) : Rfs e c d m (.tup [way, some, .kl [.str t]]) :=
  ⟨_, _, _, rfl, by show (PyData.strOk t && true) = true; rw [h]; rfl, PySem.SeqAt.eqv_refl _ (by simp [toPy, PyData.canLay0, PyData.canLayAll0, h]), hs⟩
end
set_option maxHeartbeats 1000000 in
theorem main (e : P.Env) (g : e.Good) (ns : List Int) (h : ns.length ≤ 63) : w_law e [.kc (ns.map D.int)] (fun _ => none) (fun d _ => d = .bl true) fun _ _ _ => False := by
  unfold w_law
  exists if_true
  have hb : (0 : Int) ≤ (ns.map D.int).length ∧ ((ns.map D.int).length : Int) ≤ 63 := by rw [List.length_map]; omega
  generalize ((ns.map D.int).length : Int) = N at hb
  refine ⟨by split <;> split <;> omega, by split <;> split <;> omega, ?_⟩
  refine forR_inv (I := fun i σ G => ∃ x1 x2 x3 x4 x5 x6 x7 x8 x9 x10 x11 x12 x13 x14 x15 x16 x17 x18, σ = [some (.kc (ns.map D.int)), x1, x2, x3, x4, x5, x6, x7, x8, x9, x10, x11, x12, x13, x14, x15, x16, x17, x18]) (fun _ => trivial) (fun i k σ G hi hI hk => ?_) (fun σ G hI => ?_) ⟨_, _, _, _, _, _, _, _, _, _, _, _, _, _, _, _, _, _, rfl⟩
  · obtain ⟨x1, x2, x3, x4, x5, x6, x7, x8, x9, x10, x11, x12, x13, x14, x15, x16, x17, x18, rfl⟩ := hI
    have hi2 : i < 31 := by revert hi; split <;> split <;> omega
    unfold l_law_2
    exists Int.zero_add
    refine begun_ok (by omega) h fun a G1 hR1 _ _ => ?_
    exists if_true
    refine make_ok g fun c d G2 hc hd hS2 l2 => ?_
    have hR2 := hR1.le l2
    have hac : a ≠ c := hR2.ins hS2.1
    have had : a ≠ d := fun z => by obtain ⟨_, _, _, _, h1⟩ := hR2; rw [z, hS2.2] at h1; cases h1
    exists if_true
    refine filled_ok g hR2 hS2 hac had fun p l m G3 hp3 hL hO hS3 hR3 => ?_
    exists if_true
    refine lkey_ok hR3 fun ky G4 hky hR4 f4 => ?_
    exists if_true
    have ap : a ≠ p := by obtain ⟨_, _, _, _, h1⟩ := hR3; rintro rfl; rw [h1] at hp3; cases hp3
    have hp4 := f4 _ _ (by simpa using ap.symm) hp3
    have hS4 := hS3.fr f4 (by simpa using hac.symm) (by simpa using had.symm)
    exists hp4
    rw [hL.last]
    refine ⟨⟨_, rfl⟩, lstamp_ok' (n := 8) (by omega) (bd_last hO) hR4 fun s G5 hlt hb5 _ hR5 f5 => ?_⟩
    have hp5 := f5 _ _ (by simpa using ap.symm) hp4
    have hS5 := hS4.fr f5 (by simpa using hac.symm) (by simpa using had.symm)
    exists if_true
    refine lworth_ok hR5 fun ws G6 hws hR6 f6 => ?_
    exists if_true
    have hp6 := f6 _ _ (by simpa using ap.symm) hp5
    have hS6 := hS5.fr f6 (by simpa using hac.symm) (by simpa using had.symm)
    refine take_ok (e := e) hR6 (by omega) (by omega) fun r1 G7 a0 a1 hR7 f7 => ?_
    exists if_true
    refine pickP a0 a1 fun xb hxb => ?_
    have hp7 := f7 _ _ (by simpa using ap.symm) hp6
    have hS7 := hS6.fr f7 (by simpa using hac.symm) (by simpa using had.symm)
    obtain ⟨hbk, hbs⟩ := bad_key hxb
    unfold stD
    exists hp7
    have hcut : cutD [D.int s.1, .int s.2.1, .int s.2.2] none (some 2) = [.int s.1, .int s.2.1] := rfl
    exists hcut
    refine ⟨million (by decide), ?_⟩
    exists hp7
    refine ⟨⟨_, rfl⟩, ?_⟩
    cases hsm : (valD l (.inr ky)).isSome
    case' false =>
      exists if_true
    case' true =>
      exists hp7
      refine ⟨⟨_, rfl⟩, ?_⟩
      rw [hL.last]
      exists ix_st0
    all_goals
      refine ⟨million (by decide), ?_⟩
      refine take_ok (e := e) hR7 (by omega) (by omega) fun r2 G8 a2 a3 hR8 f8 => ?_
      exists if_true
      refine pickP a2 a3 fun xs hxs => ?_
      have hst : BadS (getR m ky) xs := bad_stamp (n := 8) (s := s) hL hO hb5.2.2.1 (by unfold laterD; rw [hsm]; exact hxs)
      have hp8 := f8 _ _ (by simpa using ap.symm) hp7
      have hS8 := hS7.fr f8 (by simpa using hac.symm) (by simpa using had.symm)
      unfold woD
      exists if_true
      refine take_ok (e := e) hR8 (by omega) (by omega) fun r3 G9 a4 a5 hR9 f9 => ?_
      exists if_true
      refine pickP a4 a5 fun xw hxw => ?_
      have hbw := bad_worth hxw
      have hS9 := hS8.fr f9 (by simpa using hac.symm) (by simpa using had.symm)
      refine take_ok (e := e) hR9 (by omega) (by omega) fun r4 G10 a6 a7 hR10 f10 => ?_
      exists if_true
      refine pickP a6 a7 fun xt hxt => ?_
      obtain ⟨ht1, ht2⟩ := bad_time hxt
      have hS10 := hS9.fr f10 (by simpa using hac.symm) (by simpa using had.symm)
      exists hS10.1
      refine ⟨rfl, go_ok g hS10 (by have := hO.len; omega) hO.nd (fun p hp => by have := mem_many hp; have := hO.many; omega) fun G11 f11 hS11 => ?_⟩
      rw [cut_low hO] at hS11
      exists if_true
      refine state_ok g hS11 hO (by omega) fun ys G12 hys hsr l12 => ?_
      have hS12 : Shf e G12 c d m (.int (-5)) := ⟨l12 _ _ hS11.1, l12 _ _ hS11.2⟩
      refine i_reprS hbk.p hbk.l hbk.c ?_
      exists if_true
      refine ⟨million (by decide), million (by decide), million (by decide), ?_⟩
      refine forD_inv (fun l σ G => ∃ x9' x15' x16 x17 x18, σ = [some (.kc (ns.map D.int)), some (.int i), some (.ref a), some (.ref c), some (.ref p), some (.str ky), some (stD s), some (woD ws), some xb, x9', some xs, some xw, some xt, some (.str (stT m ys)), some (kyD xb), x15', x16, x17, x18] ∧ (∀ r ∈ l, Rfs e c d m r) ∧ Shf e G c d m (.int (-5))) (fun _ _ _ _ => trivial) (fun r l k2 σ G hI hk2 => ?_) (fun σ G hI => ?_) _ _ _ ?_
      · obtain ⟨x9', x15', x16, x17, x18, rfl, hr, hS⟩ := hI
        obtain ⟨way, some, due, rfl, hpu, heq, hsd⟩ := hr _ List.mem_cons_self
        unfold l_law_1
        exists if_true
        refine hsd _ _ _ hS ?_
        refine i_eqX hpu hpu ?_
        exists heq
        refine state_ok g hS hO (by omega) fun ys2 G13 hys2 hsr2 l13 => ?_
        obtain rfl : ys2 = ys := sorted_uniq (hys2.trans hys.symm) hsr2 hsr
        exists decide_true
        exact hk2 _ _ ⟨_, _, _, _, _, rfl, fun r hr2 => hr r (List.mem_cons_of_mem _ hr2), l13 _ _ hS.1, l13 _ _ hS.2⟩
      · obtain ⟨x9', x15', x16, x17, x18, rfl, hr, hS⟩ := hI
        have htp : pureD 9 (.kl [.str "told"]) = true := by decide +kernel
        have hte : eqvD (.kl [.str "told"]) (.kl [.str "told"]) = true := by decide +kernel
        have hps : pureD 9 (prD (s, ws)) = true := by
          show (pureD 8 (stD s) && (pureD 8 (woD ws) && true)) = true
          rw [show pureD 8 (woD ws) = true by
            show (ws.map D.int).all (pureD 7) = true
            rw [List.all_map]; exact List.all_eq_true.mpr fun _ _ => rfl]; rfl
        have hss : smallD 9 (prD (s, ws)) = true := by
          show (smallD 8 (stD s) && (smallD 8 (woD ws) && true)) = true
          rw [small_st (hb5.good (by decide)), small_wo hws.2.2]; rfl
        have hcp : capD (prD (s, ws)) ≤ 1000000 := Nat.le_trans (cap_pr (p := (s, ws)) hws) (by decide)
        have hrl := (hO.row ky).1
        exists if_true
        refine said_at g hS hky (.inr ⟨-5, rfl, by decide⟩) (by omega) ?_
        refine i_eqX htp htp ?_
        exists hte
        refine said_put g hS hky hb5.2.2.1 hb5.2.2.2.2.1 hws.1 hws.2.1 (last_lt hlt) (by have := hO.len; omega) (by omega) fun G14 f14 hS14 => ?_
        refine i_eqX htp htp ?_
        exists hte, hS14.1
        refine ⟨rfl, vers_k g hS14 hky ?_⟩
        rw [getR_put, if_pos rfl]
        refine at_row ?_
        refine i_reprS (.inl hps) hss hcp ?_
        rw [show D.tup [stD s, woD ws] = prD (s, ws) from rfl]
        refine i_reprS (.inl hps) hss hcp ?_
        exists decide_true
        refine gone_ok g hS14 hky ?_
        exists if_true
        exact hk _ _ ⟨_, _, _, _, _, _, _, _, _, _, _, _, _, _, _, _, _, _, rfl⟩
      · refine ⟨_, _, _, _, _, rfl, fun r hr => ?_, hS12⟩
        simp only [List.mem_cons, List.not_mem_nil, or_false] at hr
        rcases hr with rfl | rfl | rfl | rfl | rfl | rfl | rfl | rfl | rfl | rfl | rfl
        · exact rfs_ky hbs fun G Q E hS hQ => said_putk g hS hbk hQ
        · exact rfs_ky hbs fun G Q E hS hQ => said_putk g hS hbk hQ
        · exact rfs_tx (by decide +kernel) fun G Q E hS hQ => said_puts g hS hky hst hQ
        · exact rfs_tx (by decide +kernel) fun G Q E hS hQ => said_puts g hS hky hst hQ
        · exact rfs_tx (by decide +kernel) fun G Q E hS hQ => said_putw (s := s) g hS hky hb5.2.2.1 hb5.2.2.2.2.1 (last_lt hlt) hbw hQ
        · exact rfs_ky hbs fun G Q E hS hQ => said_atk g hS hbk hQ
        · exact rfs_ky hbs fun G Q E hS hQ => said_atk g hS hbk hQ
        · exact rfs_tx (by decide +kernel) fun G Q E hS hQ => said_att g hS hky ht1 ht2 hQ
        · exact rfs_ky hbs fun G Q E hS hQ => said_versk g hS hbk hQ
        · exact rfs_ky hbs fun G Q E hS hQ => said_newk g hS hbk hQ
        · exact rfs_tx (by decide +kernel) fun G Q E hS hQ => said_got g hS ht1 ht2 hQ
  · obtain ⟨x1, x2, x3, x4, x5, x6, x7, x8, x9, x10, x11, x12, x13, x14, x15, x16, x17, x18, rfl⟩ := hI
    exists if_true
    exact fg_in rfl
end P

set_option maxHeartbeats 4000000
namespace P
open PySem PySem.Spec L2 DL
open PyProof.Rows hiding St
def top (i : Nat) : Stmt := PySem.Challenge.pw_stampedwait_k14_a_shelf_refuses.main.body.getD i (.Pass ⟨0, 0, 0, 0⟩)
abbrev s_law_begun : Stmt := top 20
abbrev N_law_begun : List Str := ["_law_script", "_law_k", "_law_cell", "_law_number", "_law_mixed"]
abbrev s_Shelf_init : Stmt := inClass (top 18) 0
abbrev N_Shelf_init : List Str := ["self"]
abbrev s_law_take : Stmt := top 21
abbrev N_law_take : List Str := ["_law_state_here", "_law_many", "_law_digit", "_law_made", "_law_turn"]
abbrev s_law_key : Stmt := top 22
abbrev N_law_key : List Str := ["_law_state_here"]
abbrev s_law_stamp : Stmt := top 24
abbrev N_law_stamp : List Str := ["_law_state_here", "_law_last", "_law_time", "_law_serial", "_law_stamp_here"]
abbrev s_is_key : Stmt := top 15
abbrev N_is_key : List Str := ["thing", "sign"]
abbrev s_look_at_key : Stmt := top 16
abbrev N_look_at_key : List Str := ["thing"]
abbrev s_is_whole : Stmt := top 9
abbrev N_is_whole : List Str := ["thing"]
abbrev s_is_worth : Stmt := top 17
abbrev N_is_worth : List Str := ["thing", "one"]
abbrev s_is_stamp : Stmt := top 10
abbrev N_is_stamp : List Str := ["thing", "one"]
abbrev s_Shelf_put : Stmt := inClass (top 18) 2
abbrev N_Shelf_put : List Str := ["self", "key", "stamp", "worth", "row"]
abbrev s_law_worth : Stmt := top 23
abbrev N_law_worth : List Str := ["_law_state_here", "_law_sizes", "_law_found", "_law_turn"]
abbrev s_law_filled : Stmt := top 29
abbrev N_law_filled : List Str := ["_law_state_here", "_law_shelf", "_law_last", "_law_turn", "_law_key_here"]
abbrev s_Shelf_let_go : Stmt := inClass (top 18) 7
abbrev N_Shelf_let_go : List Str := ["self", "time", "key", "row", "many", "stamp", "worth"]
abbrev s_Shelf_all_keys : Stmt := inClass (top 18) 4
abbrev N_Shelf_all_keys : List Str := ["self"]
abbrev s_Shelf_len : Stmt := inClass (top 18) 1
abbrev N_Shelf_len : List Str := ["self", "row", "pair"]
abbrev s_Shelf_versions : Stmt := inClass (top 18) 3
abbrev N_Shelf_versions : List Str := ["self", "key"]
abbrev s_law_state : Stmt := top 28
abbrev N_law_state : List Str := ["_law_shelf", "_law_some", "_law_key_here"]
abbrev s_law_kind : Stmt := top 26
abbrev N_law_kind : List Str := ["_law_error", "_law_kinds"]
abbrev s_Shelf_at : Stmt := inClass (top 18) 6
abbrev N_Shelf_at : List Str := ["self", "key", "time", "row", "found", "stamp", "worth"]
abbrev s_Shelf_newest : Stmt := inClass (top 18) 5
abbrev N_Shelf_newest : List Str := ["self", "key", "row"]
abbrev s_law_said : Stmt := top 27
abbrev N_law_said : List Str := ["_law_shelf", "_law_way", "_law_some", "_law_caught", "e"]
abbrev s_law_is_gone : Stmt := top 30
abbrev N_law_is_gone : List Str := ["_law_shelf", "_law_key_here", "e"]
abbrev s_law : Stmt := top 31
abbrev N_law : List Str := ["_law_script", "_law_k", "_law_state_here", "_law_shelf", "_law_last", "_law_key_here", "_law_good", "_law_worth_here", "_law_bad", "_law_odd", "_law_stamp_here", "_law_less", "_law_when", "_law_kept", "_law_refused", "_law_rows", "_law_way", "_law_some", "_law_due"]
abbrev s_NoKey_init : Stmt := inClass (top 6) 0
abbrev s_Gone_init : Stmt := inClass (top 7) 0
theorem bt_KeyError : bootBuiltins "KeyError" = some (.type "KeyError") := by decide +kernel
theorem bt_ValueError : bootBuiltins "ValueError" = some (.type "ValueError") := by decide +kernel
theorem bt_bool : bootBuiltins "bool" = some (.type "bool") := by decide +kernel
theorem bt_int : bootBuiltins "int" = some (.type "int") := by decide +kernel
theorem bt_list : bootBuiltins "list" = some (.type "list") := by decide +kernel
theorem bt_str : bootBuiltins "str" = some (.type "str") := by decide +kernel
theorem bt_tuple : bootBuiltins "tuple" = some (.type "tuple") := by decide +kernel
/-! ### what the top has left of them -/
structure Txt (K : PySem.W.Frag) (mg : Str → Option Value) (e : Env) : Prop where
  hok : ∀ C f, e.ok C f → AttrOk K C f
  hic : ∀ a c b, e.ic a c b → IsiOk K a c b
  hxm : ∀ c u b, e.xm c u b → PySem.W.exmOne K u c = some b
  hxf : ∀ C f, e.xf C f → XfOk K C f
  hec : ∀ C c b, e.ec C c b → EcOk K C c b
  gx_Gone : mg "Gone" = some (.ref e.C_Gone)
  gx_NoKey : mg "NoKey" = some (.ref e.C_NoKey)
  gx_NoNumber : mg "NoNumber" = some (.ref e.C_NoNumber)
  rs_NoNumber : RaiseF K mg "NoNumber" e.C_NoNumber
  gx_NoStamp : mg "NoStamp" = some (.ref e.C_NoStamp)
  rs_NoStamp : RaiseF K mg "NoStamp" e.C_NoStamp
  gx_NoWorth : mg "NoWorth" = some (.ref e.C_NoWorth)
  rs_NoWorth : RaiseF K mg "NoWorth" e.C_NoWorth
  gx_WaitError : mg "WaitError" = some (.ref e.C_WaitError)
  rs_WaitError : RaiseF K mg "WaitError" e.C_WaitError
  xi_NoKey : DX.OexB K "KeyError" "LookupError.__new__" [.type "KeyError", .type "LookupError", .type "Exception", .type "BaseException", .type "object"] e.C_NoKey
  xb_NoKey : BaseI K mg "KeyError" "KeyError.__init__"
  xn_NoKey : PySem.W.findIn K (.ref e.C_NoKey) "key" = some none
  xk_NoKey : PySem.W.keepIn K (.ref e.C_NoKey) = true ∧ PySem.W.subIn K (.ref e.C_NoKey) (.type "BaseException") = some true ∧ PySem.W.typeIn K (.ref e.C_NoKey) = some (.type "type")
  f_NoKey_init : MetF K e.C_NoKey "__init__" "NoKey.__init__" s_NoKey_init []
  xi_Gone : DX.OexB K "LookupError" "LookupError.__new__" [.type "LookupError", .type "Exception", .type "BaseException", .type "object"] e.C_Gone
  xb_Gone : BaseI K mg "LookupError" "LookupError.__init__"
  xn_Gone : PySem.W.findIn K (.ref e.C_Gone) "time" = some none
  xk_Gone : PySem.W.keepIn K (.ref e.C_Gone) = true ∧ PySem.W.subIn K (.ref e.C_Gone) (.type "BaseException") = some true ∧ PySem.W.typeIn K (.ref e.C_Gone) = some (.type "type")
  f_Gone_init : MetF K e.C_Gone "__init__" "Gone.__init__" s_Gone_init []
  n_KeyError : mg "KeyError" = none
  n_ValueError : mg "ValueError" = none
  n_all : mg "all" = none
  n_bool : mg "bool" = none
  n_int : mg "int" = none
  n_isinstance : mg "isinstance" = none
  n_len : mg "len" = none
  n_list : mg "list" = none
  n_max : mg "max" = none
  n_min : mg "min" = none
  n_range : mg "range" = none
  n_repr : mg "repr" = none
  n_sorted : mg "sorted" = none
  n_str : mg "str" = none
  n_tuple : mg "tuple" = none
  k_LETTERS : ConstF K mg "LETTERS" (.str "abcdefghijklmnopqrstuvwxyz")
  k_LONGEST : ConstF K mg "LONGEST" (.int 6)
  k_MOST_FIELDS : ConstF K mg "MOST_FIELDS" (.int 4)
  mg_Shelf : mg "Shelf" = some (.ref e.C_Shelf)
  cl_Shelf : Cls K e.C_Shelf
  mk_Shelf : PySem.W.makesIn K e.C_Shelf = true ∧ PySem.W.keepIn K (.ref e.C_Shelf) = true
  f_law_begun : DefF K mg "_law_begun" s_law_begun ([])
  f_Shelf_init : MetF K e.C_Shelf "__init__" "Shelf.__init__" s_Shelf_init ([])
  f_law_take : DefF K mg "_law_take" s_law_take ([])
  f_law_key : DefF K mg "_law_key" s_law_key ([])
  f_law_stamp : DefF K mg "_law_stamp" s_law_stamp ([])
  f_is_key : DefF K mg "is_key" s_is_key ([])
  f_look_at_key : DefF K mg "look_at_key" s_look_at_key ([])
  f_is_whole : DefF K mg "is_whole" s_is_whole ([])
  f_is_worth : DefF K mg "is_worth" s_is_worth ([])
  f_is_stamp : DefF K mg "is_stamp" s_is_stamp ([])
  f_Shelf_put : MetF K e.C_Shelf "put" "Shelf.put" s_Shelf_put ([])
  f_law_worth : DefF K mg "_law_worth" s_law_worth ([])
  f_law_filled : DefF K mg "_law_filled" s_law_filled ([])
  f_Shelf_let_go : MetF K e.C_Shelf "let_go" "Shelf.let_go" s_Shelf_let_go ([])
  f_Shelf_all_keys : MetF K e.C_Shelf "all_keys" "Shelf.all_keys" s_Shelf_all_keys ([])
  f_Shelf_len : MetF K e.C_Shelf "__len__" "Shelf.__len__" s_Shelf_len ([])
  f_Shelf_versions : MetF K e.C_Shelf "versions" "Shelf.versions" s_Shelf_versions ([])
  f_law_state : DefF K mg "_law_state" s_law_state ([])
  f_law_kind : DefF K mg "_law_kind" s_law_kind ([])
  f_Shelf_at : MetF K e.C_Shelf "at" "Shelf.at" s_Shelf_at ([])
  f_Shelf_newest : MetF K e.C_Shelf "newest" "Shelf.newest" s_Shelf_newest ([])
  f_law_said : DefF K mg "_law_said" s_law_said ([])
  f_law_is_gone : DefF K mg "_law_is_gone" s_law_is_gone ([])
  f_law : DefF K mg "law" s_law ([])
theorem gc_LETTERS {X : Cx} {e : Env} (T : Txt X.K X.mg e) (hg : Gl X "LETTERS" := by rfl) {pos : Pos} : DE X (.Name "LETTERS" pos) (dC (.str "abcdefghijklmnopqrstuvwxyz")) := T.k_LETTERS.de hg
theorem gc_LONGEST {X : Cx} {e : Env} (T : Txt X.K X.mg e) (hg : Gl X "LONGEST" := by rfl) {pos : Pos} : DE X (.Name "LONGEST" pos) (dC (.int 6)) := T.k_LONGEST.de hg
theorem gc_MOST_FIELDS {X : Cx} {e : Env} (T : Txt X.K X.mg e) (hg : Gl X "MOST_FIELDS" := by rfl) {pos : Pos} : DE X (.Name "MOST_FIELDS" pos) (dC (.int 4)) := T.k_MOST_FIELDS.de hg
section
variable {P : Program} {w : World} {K : PySem.W.Frag} {mg : Str → Option Value} {base : Heap} {e : Env}
theorem sc_NoKey_init : FnScope ["self", "key"] ["self", "key"] (defScope s_NoKey_init) := ⟨rfl, rfl, rfl, by decide +kernel, rfl, by decide +kernel, by decide +kernel⟩
theorem ri_NoKey (T : Txt K mg e) : RaiseI P w K mg base 1 "NoKey" e.C_NoKey ["key"] := by
    obtain ⟨f, fd, dvs, hdd, F, hm⟩ := T.f_NoKey_init
    obtain rfl : dvs = [] := List.eq_nil_of_length_eq_zero (hdd.rel (fun _ => none)).length
    exact ⟨⟨_, _, _, _, f, fd, T.xi_NoKey, DX.xb_KeyError, hm.at_, hm.fn, init1 (m := "no key") sc_NoKey_init F (fun cdv A outer s H E => pss_cons (ps_expr (pe_bin T.xi_NoKey DX.xb_KeyError T.xb_NoKey (by rfl) (pa_cons (pv 0) (pa_cons pe_str pa_nil)) (by decide +kernel))) (pss_one (ps_stB T.xi_NoKey T.xn_NoKey (pv 0) (pv 1)))), F.bindsN (ps := ["self", "key"]) fun _ _ _ _ _ _ us hl => match us, hl with | [_, _], _ => rfl⟩, T.gx_NoKey, T.xk_NoKey.1, T.xk_NoKey.2.1, T.xk_NoKey.2.2⟩
theorem sc_Gone_init : FnScope ["self", "time"] ["self", "time"] (defScope s_Gone_init) := ⟨rfl, rfl, rfl, by decide +kernel, rfl, by decide +kernel, by decide +kernel⟩
theorem ri_Gone (T : Txt K mg e) : RaiseI P w K mg base 1 "Gone" e.C_Gone ["time"] := by
    obtain ⟨f, fd, dvs, hdd, F, hm⟩ := T.f_Gone_init
    obtain rfl : dvs = [] := List.eq_nil_of_length_eq_zero (hdd.rel (fun _ => none)).length
    exact ⟨⟨_, _, _, _, f, fd, T.xi_Gone, (DX.XBase.of PySem.F.excBase_LookupError), hm.at_, hm.fn, init1 (m := "let go") sc_Gone_init F (fun cdv A outer s H E => pss_cons (ps_expr (pe_bin T.xi_Gone (DX.XBase.of PySem.F.excBase_LookupError) T.xb_Gone (by rfl) (pa_cons (pv 0) (pa_cons pe_str pa_nil)) (by decide +kernel))) (pss_one (ps_stB T.xi_Gone T.xn_Gone (pv 0) (pv 1)))), F.bindsN (ps := ["self", "time"]) fun _ _ _ _ _ _ us hl => match us, hl with | [_, _], _ => rfl⟩, T.gx_Gone, T.xk_Gone.1, T.xk_Gone.2.1, T.xk_Gone.2.2⟩
theorem sc_law_begun : FnScope N_law_begun ["_law_script", "_law_k"] (defScope s_law_begun) := ⟨rfl, rfl, rfl, by decide +kernel, rfl, by decide +kernel, by decide +kernel⟩
theorem ok_law_begun (T : Txt K mg e) {f : Addr} {fd : FuncData} {dvs : List V} (F : L2.FunD K "_law_begun" "_law_begun" (defArgs s_law_begun) (defBody s_law_begun) (defScope s_law_begun) dvs [] f fd) : FnK P w K mg base 1 f fd ["_law_script", "_law_k"] (w_law_begun e) :=
  fnd (k := 0) F sc_law_begun rfl rfl fun cdv A outer s H E hr =>
    (dss_cons (ds_set (i := 2) (de_item (de_addV (de_sliceV (dv 0) (do_some (dv 1)) (do_some (de_addV (dv 1) de_int))) (de_lstV (da_cons de_int da_nil))) de_int) sc_law_begun.nd)
    (dss_cons (ds_set (i := 3) (bc_max rfl T.n_max (da_cons (dv 2) (da_cons (de_sub (de_neg de_int) (dv 2)) da_nil))) sc_law_begun.nd)
    (dss_cons (ds_set (i := 4) (de_mod (de_addV (de_addV (de_addV (de_mod (dv 3) de_int) (de_mul de_int (dv 1))) (de_mul (de_mul de_int (dv 1)) (dv 1))) de_int) de_int) sc_law_begun.nd)
    (dss_one (ds_ret (de_lst (da_cons (dv 3) (da_cons (dv 4) (da_cons (de_c1 (c_ge hr.units) (dv 3) (de_pow de_int de_int)) da_nil)))))))))
theorem c_law_begun_2 (T : Txt K mg e) : DefK P w K mg base 1 "_law_begun" (w_law_begun e) [] := by
    obtain ⟨f, fd, dvs, hdd, F, hm⟩ := T.f_law_begun
    have hdl : dvs.length = 0 := (hdd.rel (fun _ => none)).length
    obtain ⟨ds, hv, hb⟩ : ∃ ds, Vals (dvs.drop 0) ds ∧ Binds K fd ["_law_script", "_law_k"] ds := by
      obtain rfl : dvs = [] := List.eq_nil_of_length_eq_zero hdl
      exact ⟨[], .nil, F.bindsN (ps := ["_law_script", "_law_k"]) fun _ _ _ _ _ _ us hl => match us, hl with | [_, _], _ => rfl⟩
    exact ⟨f, fd, _, _, _, ok_law_begun T F, hm, F.kp, hb, hv, hdd.drop 0, wpf_len⟩
theorem sc_Shelf_init : FnScope N_Shelf_init ["self"] (defScope s_Shelf_init) := ⟨rfl, rfl, rfl, by decide +kernel, rfl, by decide +kernel, by decide +kernel⟩
theorem ok_Shelf_init (T : Txt K mg e) {f : Addr} {fd : FuncData} {dvs : List V} (F : L2.FunD K "__init__" "Shelf.__init__" (defArgs s_Shelf_init) (defBody s_Shelf_init) (defScope s_Shelf_init) dvs [] f fd) : FnK P w K mg base 1 f fd ["self"] (w_Shelf_init e) :=
  fnd (k := 0) F sc_Shelf_init rfl rfl fun cdv A outer s H E hr =>
    (dss_cons (ds_fld T.hok (dv 0) de_dic)
    (dss_one (ds_fld T.hok (dv 0) de_non)))
theorem n_Shelf_1 (T : Txt K mg e) : MakK P w K mg base 1 "Shelf" e.C_Shelf (w_Shelf_init e) [] := by
    obtain ⟨f, fd, dvs, hdd, F, hm⟩ := T.f_Shelf_init
    have hdl : dvs.length = 0 := (hdd.rel (fun _ => none)).length
    obtain ⟨ds, hv, hb⟩ : ∃ ds, Vals (dvs.drop 0) ds ∧ Binds K fd ["self"] ds := by
      obtain rfl : dvs = [] := List.eq_nil_of_length_eq_zero hdl
      exact ⟨[], .nil, F.bindsN (ps := ["self"]) fun _ _ _ _ _ _ us hl => match us, hl with | [_], _ => rfl⟩
    exact ⟨f, fd, _, _, _, ⟨T.mk_Shelf.1, hm.at_, hm.fn, T.mk_Shelf.2⟩, ok_Shelf_init T F, T.mg_Shelf, hb, hv, hdd.drop 0, wpf_len⟩
theorem sc_law_take : FnScope N_law_take ["_law_state_here", "_law_many"] (defScope s_law_take) := ⟨rfl, rfl, rfl, by decide +kernel, rfl, by decide +kernel, by decide +kernel⟩
theorem ok_law_take (T : Txt K mg e) {f : Addr} {fd : FuncData} {dvs : List V} (F : L2.FunD K "_law_take" "_law_take" (defArgs s_law_take) (defBody s_law_take) (defScope s_law_take) dvs [] f fd) : FnK P w K mg base 1 f fd ["_law_state_here", "_law_many"] (w_law_take e) :=
  fnd (k := 0) F sc_law_take rfl rfl fun cdv A outer s H E hr =>
    (dss_cons (ds_if (dt_tru (de_item (dv 0) de_int))
    (dss_cons (ds_set (i := 2) (de_mod (de_item (dv 0) de_int) (dv 1)) sc_law_take.nd)
    (dss_cons (ds_sub set_list (sd_list _) (dv 0) de_int (de_div (de_item (dv 0) de_int) (dv 1)))
    (dss_cons (ds_sub set_list (sd_list _) (dv 0) de_int (de_c1 (c_gt hr.units) (de_item (dv 0) de_int) de_int))
    (dss_one (ds_ret (dv 2))))))
    dss_nil)
    (dss_cons (ds_set (i := 3) de_int sc_law_take.nd)
    (dss_cons (ds_for (passes_of rfl) rfl (di_range1 T.n_range (da_cons (de_addV de_int (bc_int T.n_int (da_cons (de_c1 (c_gt hr.units) (dv 1) (de_pow de_int de_int)) da_nil))) da_nil)) (tg_one sc_law_take.nd 4)
    (dss_cons (ds_sub set_list (sd_list _) (dv 0) de_int (de_mod (de_addV (de_mul (de_item (dv 0) de_int) de_int) de_int) de_int))
    (dss_one (ds_set (i := 3) (de_addV (de_mul (dv 3) de_int) (de_mod (de_mul (de_item (dv 0) de_int) (de_item (dv 0) de_int)) de_int)) sc_law_take.nd))))
    (dss_one (ds_ret (de_mod (de_div (dv 3) de_int) (dv 1)))))))
theorem c_law_take_2 (T : Txt K mg e) : DefK P w K mg base 1 "_law_take" (w_law_take e) [] := by
    obtain ⟨f, fd, dvs, hdd, F, hm⟩ := T.f_law_take
    have hdl : dvs.length = 0 := (hdd.rel (fun _ => none)).length
    obtain ⟨ds, hv, hb⟩ : ∃ ds, Vals (dvs.drop 0) ds ∧ Binds K fd ["_law_state_here", "_law_many"] ds := by
      obtain rfl : dvs = [] := List.eq_nil_of_length_eq_zero hdl
      exact ⟨[], .nil, F.bindsN (ps := ["_law_state_here", "_law_many"]) fun _ _ _ _ _ _ us hl => match us, hl with | [_, _], _ => rfl⟩
    exact ⟨f, fd, _, _, _, ok_law_take T F, hm, F.kp, hb, hv, hdd.drop 0, wpf_len⟩
theorem sc_law_key : FnScope N_law_key ["_law_state_here"] (defScope s_law_key) := ⟨rfl, rfl, rfl, by decide +kernel, rfl, by decide +kernel, by decide +kernel⟩
theorem ok_law_key (T : Txt K mg e) {f : Addr} {fd : FuncData} {dvs : List V} (F : L2.FunD K "_law_key" "_law_key" (defArgs s_law_key) (defBody s_law_key) (defScope s_law_key) dvs [] f fd) : FnK P w K mg base 2 f fd ["_law_state_here"] (w_law_key e) :=
  fnd (k := 1) F sc_law_key rfl rfl fun cdv A outer s H E hr =>
    (dss_one (ds_ret (de_item (de_lstV (da_cons de_str (da_cons de_str (da_cons de_str (da_cons de_str (da_cons de_str (da_cons de_str da_nil))))))) (dk_call (c_law_take_2 T) hr (da_cons (dv 0) (da_cons de_int da_nil))))))
theorem c_law_key_1 (T : Txt K mg e) : DefK P w K mg base 2 "_law_key" (w_law_key e) [] := by
    obtain ⟨f, fd, dvs, hdd, F, hm⟩ := T.f_law_key
    have hdl : dvs.length = 0 := (hdd.rel (fun _ => none)).length
    obtain ⟨ds, hv, hb⟩ : ∃ ds, Vals (dvs.drop 0) ds ∧ Binds K fd ["_law_state_here"] ds := by
      obtain rfl : dvs = [] := List.eq_nil_of_length_eq_zero hdl
      exact ⟨[], .nil, F.bindsN (ps := ["_law_state_here"]) fun _ _ _ _ _ _ us hl => match us, hl with | [_], _ => rfl⟩
    exact ⟨f, fd, _, _, _, ok_law_key T F, hm, F.kp, hb, hv, hdd.drop 0, wpf_len⟩
theorem sc_law_stamp : FnScope N_law_stamp ["_law_state_here", "_law_last"] (defScope s_law_stamp) := ⟨rfl, rfl, rfl, by decide +kernel, rfl, by decide +kernel, by decide +kernel⟩
theorem ok_law_stamp (T : Txt K mg e) {f : Addr} {fd : FuncData} {dvs : List V} (F : L2.FunD K "_law_stamp" "_law_stamp" (defArgs s_law_stamp) (defBody s_law_stamp) (defScope s_law_stamp) dvs [] f fd) : FnK P w K mg base 2 f fd ["_law_state_here", "_law_last"] (w_law_stamp e) :=
  fnd (k := 1) F sc_law_stamp rfl rfl fun cdv A outer s H E hr =>
    (dss_cons (ds_set (i := 2) (de_addV (de_item (dv 1) de_int) (de_item (de_lstV (da_cons de_int (da_cons de_int (da_cons de_int (da_cons (dk_call (c_law_take_2 T) hr (da_cons (dv 0) (da_cons de_int da_nil))) da_nil))))) (dk_call (c_law_take_2 T) hr (da_cons (dv 0) (da_cons de_int da_nil))))) sc_law_stamp.nd)
    (dss_cons (ds_set (i := 3) (de_item (de_lstV (da_cons (de_item (dv 1) de_int) (da_cons (de_addV (de_item (dv 1) de_int) de_int) (da_cons (dk_call (c_law_take_2 T) hr (da_cons (dv 0) (da_cons de_int da_nil))) da_nil)))) (dk_call (c_law_take_2 T) hr (da_cons (dv 0) (da_cons de_int da_nil)))) sc_law_stamp.nd)
    (dss_cons (ds_set (i := 4) (de_tup (da_cons (dv 2) (da_cons (dv 3) (da_cons (dk_call (c_law_take_2 T) hr (da_cons (dv 0) (da_cons de_int da_nil))) da_nil)))) sc_law_stamp.nd)
    (dss_cons (ds_if (dt_c1 (c_gtT hr.units) (dv 4) (dv 1))
    (dss_one (ds_ret (dv 4)))
    dss_nil)
    (dss_one (ds_ret (de_tup (da_cons (de_item (dv 1) de_int) (da_cons (de_addV (de_item (dv 1) de_int) de_int) (da_cons (dk_call (c_law_take_2 T) hr (da_cons (dv 0) (da_cons de_int da_nil))) da_nil))))))))))
theorem c_law_stamp_2 (T : Txt K mg e) : DefK P w K mg base 2 "_law_stamp" (w_law_stamp e) [] := by
    obtain ⟨f, fd, dvs, hdd, F, hm⟩ := T.f_law_stamp
    have hdl : dvs.length = 0 := (hdd.rel (fun _ => none)).length
    obtain ⟨ds, hv, hb⟩ : ∃ ds, Vals (dvs.drop 0) ds ∧ Binds K fd ["_law_state_here", "_law_last"] ds := by
      obtain rfl : dvs = [] := List.eq_nil_of_length_eq_zero hdl
      exact ⟨[], .nil, F.bindsN (ps := ["_law_state_here", "_law_last"]) fun _ _ _ _ _ _ us hl => match us, hl with | [_, _], _ => rfl⟩
    exact ⟨f, fd, _, _, _, ok_law_stamp T F, hm, F.kp, hb, hv, hdd.drop 0, wpf_len⟩
theorem sc_is_key : FnScope N_is_key ["thing"] (defScope s_is_key) := ⟨rfl, rfl, rfl, by decide +kernel, rfl, by decide +kernel, by decide +kernel⟩
theorem ok_is_key (T : Txt K mg e) {f : Addr} {fd : FuncData} {dvs : List V} (F : L2.FunD K "is_key" "is_key" (defArgs s_is_key) (defBody s_is_key) (defScope s_is_key) dvs [] f fd) : FnK P w K mg base 1 f fd ["thing"] (w_is_key e) :=
  fnd (k := 0) F sc_is_key rfl rfl fun cdv A outer s H E hr =>
    (dss_one (ds_ret (de_and (bc_isiE T.hic T.hec T.n_isinstance (da_cons (dv 0) (da_cons (de_bty rfl T.n_str bt_str) da_nil))) (de_and (de_chain de_int (dch_link (c_le hr.units) (bc_len T.n_len (da_cons (dv 0) da_nil)) (dch_last (c_le hr.units) (gc_LONGEST T)))) (de_one (bc_all rfl T.n_all (da_cons (de_lcV (own := [("sign", 1)]) rfl sc_is_key.nd (di_str (dv 0)) (blkOk_by (N := N_is_key) (sc := defScope s_is_key) (by decide +kernel)) (fun _ _ _ _ _ => pg_name (i := 1) sc_is_key.nd rfl (Or.inl rfl)) tr_one (by decide) (fun _ _ _ _ _ => dts_nil) (fun _ _ _ _ _ => (de_c1 c_inS (dv 1) (gc_LETTERS T)))) da_nil)))))))
theorem c_is_key_1 (T : Txt K mg e) : DefK P w K mg base 1 "is_key" (w_is_key e) [] := by
    obtain ⟨f, fd, dvs, hdd, F, hm⟩ := T.f_is_key
    have hdl : dvs.length = 0 := (hdd.rel (fun _ => none)).length
    obtain ⟨ds, hv, hb⟩ : ∃ ds, Vals (dvs.drop 0) ds ∧ Binds K fd ["thing"] ds := by
      obtain rfl : dvs = [] := List.eq_nil_of_length_eq_zero hdl
      exact ⟨[], .nil, F.bindsN (ps := ["thing"]) fun _ _ _ _ _ _ us hl => match us, hl with | [_], _ => rfl⟩
    exact ⟨f, fd, _, _, _, ok_is_key T F, hm, F.kp, hb, hv, hdd.drop 0, wpf_len⟩
theorem sc_look_at_key : FnScope N_look_at_key ["thing"] (defScope s_look_at_key) := ⟨rfl, rfl, rfl, by decide +kernel, rfl, by decide +kernel, by decide +kernel⟩
theorem ok_look_at_key (T : Txt K mg e) {f : Addr} {fd : FuncData} {dvs : List V} (F : L2.FunD K "look_at_key" "look_at_key" (defArgs s_look_at_key) (defBody s_look_at_key) (defScope s_look_at_key) dvs [] f fd) : FnK P w K mg base 3 f fd ["thing"] (w_look_at_key e) :=
  fnd (k := 2) F sc_look_at_key rfl rfl fun cdv A outer s H E hr =>
    (dss_one (ds_if (dt_not (dt_tru (dk_call (c_is_key_1 T) hr (da_cons (dv 0) da_nil))))
    (dss_one (ds_raiseX (ri_NoKey T) hr (da_cons (dv 0) da_nil) rfl))
    dss_nil))
theorem c_look_at_key_1 (T : Txt K mg e) : DefK P w K mg base 3 "look_at_key" (w_look_at_key e) [] := by
    obtain ⟨f, fd, dvs, hdd, F, hm⟩ := T.f_look_at_key
    have hdl : dvs.length = 0 := (hdd.rel (fun _ => none)).length
    obtain ⟨ds, hv, hb⟩ : ∃ ds, Vals (dvs.drop 0) ds ∧ Binds K fd ["thing"] ds := by
      obtain rfl : dvs = [] := List.eq_nil_of_length_eq_zero hdl
      exact ⟨[], .nil, F.bindsN (ps := ["thing"]) fun _ _ _ _ _ _ us hl => match us, hl with | [_], _ => rfl⟩
    exact ⟨f, fd, _, _, _, ok_look_at_key T F, hm, F.kp, hb, hv, hdd.drop 0, wpf_len⟩
theorem sc_is_whole : FnScope N_is_whole ["thing"] (defScope s_is_whole) := ⟨rfl, rfl, rfl, by decide +kernel, rfl, by decide +kernel, by decide +kernel⟩
theorem ok_is_whole (T : Txt K mg e) {f : Addr} {fd : FuncData} {dvs : List V} (F : L2.FunD K "is_whole" "is_whole" (defArgs s_is_whole) (defBody s_is_whole) (defScope s_is_whole) dvs [] f fd) : FnK P w K mg base 1 f fd ["thing"] (w_is_whole e) :=
  fnd (k := 0) F sc_is_whole rfl rfl fun cdv A outer s H E hr =>
    (dss_one (ds_ret (de_and (bc_isiE T.hic T.hec T.n_isinstance (da_cons (dv 0) (da_cons (de_bty rfl T.n_int bt_int) da_nil))) (de_one (de_not (bc_isiE T.hic T.hec T.n_isinstance (da_cons (dv 0) (da_cons (de_bty rfl T.n_bool bt_bool) da_nil))))))))
theorem c_is_whole_1 (T : Txt K mg e) : DefK P w K mg base 1 "is_whole" (w_is_whole e) [] := by
    obtain ⟨f, fd, dvs, hdd, F, hm⟩ := T.f_is_whole
    have hdl : dvs.length = 0 := (hdd.rel (fun _ => none)).length
    obtain ⟨ds, hv, hb⟩ : ∃ ds, Vals (dvs.drop 0) ds ∧ Binds K fd ["thing"] ds := by
      obtain rfl : dvs = [] := List.eq_nil_of_length_eq_zero hdl
      exact ⟨[], .nil, F.bindsN (ps := ["thing"]) fun _ _ _ _ _ _ us hl => match us, hl with | [_], _ => rfl⟩
    exact ⟨f, fd, _, _, _, ok_is_whole T F, hm, F.kp, hb, hv, hdd.drop 0, wpf_len⟩
theorem sc_is_worth : FnScope N_is_worth ["thing"] (defScope s_is_worth) := ⟨rfl, rfl, rfl, by decide +kernel, rfl, by decide +kernel, by decide +kernel⟩
theorem ok_is_worth (T : Txt K mg e) {f : Addr} {fd : FuncData} {dvs : List V} (F : L2.FunD K "is_worth" "is_worth" (defArgs s_is_worth) (defBody s_is_worth) (defScope s_is_worth) dvs [] f fd) : FnK P w K mg base 2 f fd ["thing"] (w_is_worth e) :=
  fnd (k := 1) F sc_is_worth rfl rfl fun cdv A outer s H E hr =>
    (dss_one (ds_ret (de_and (bc_isiE T.hic T.hec T.n_isinstance (da_cons (dv 0) (da_cons (de_bty rfl T.n_tuple bt_tuple) da_nil))) (de_and (de_chain de_int (dch_link (c_le hr.units) (bc_len T.n_len (da_cons (dv 0) da_nil)) (dch_last (c_le hr.units) (gc_MOST_FIELDS T)))) (de_one (bc_all rfl T.n_all (da_cons (de_lcV (own := [("one", 1)]) rfl sc_is_worth.nd (di_seq (dv 0)) (blkOk_by (N := N_is_worth) (sc := defScope s_is_worth) (by decide +kernel)) (fun _ _ _ _ _ => pg_name (i := 1) sc_is_worth.nd rfl (Or.inl rfl)) tr_one (by decide) (fun _ _ _ _ _ => dts_nil) (fun _ _ _ _ _ => (dk_call (c_is_whole_1 T) hr (da_cons (dv 1) da_nil)))) da_nil)))))))
theorem c_is_worth_1 (T : Txt K mg e) : DefK P w K mg base 2 "is_worth" (w_is_worth e) [] := by
    obtain ⟨f, fd, dvs, hdd, F, hm⟩ := T.f_is_worth
    have hdl : dvs.length = 0 := (hdd.rel (fun _ => none)).length
    obtain ⟨ds, hv, hb⟩ : ∃ ds, Vals (dvs.drop 0) ds ∧ Binds K fd ["thing"] ds := by
      obtain rfl : dvs = [] := List.eq_nil_of_length_eq_zero hdl
      exact ⟨[], .nil, F.bindsN (ps := ["thing"]) fun _ _ _ _ _ _ us hl => match us, hl with | [_], _ => rfl⟩
    exact ⟨f, fd, _, _, _, ok_is_worth T F, hm, F.kp, hb, hv, hdd.drop 0, wpf_len⟩
theorem sc_is_stamp : FnScope N_is_stamp ["thing"] (defScope s_is_stamp) := ⟨rfl, rfl, rfl, by decide +kernel, rfl, by decide +kernel, by decide +kernel⟩
theorem ok_is_stamp (T : Txt K mg e) {f : Addr} {fd : FuncData} {dvs : List V} (F : L2.FunD K "is_stamp" "is_stamp" (defArgs s_is_stamp) (defBody s_is_stamp) (defScope s_is_stamp) dvs [] f fd) : FnK P w K mg base 2 f fd ["thing"] (w_is_stamp e) :=
  fnd (k := 1) F sc_is_stamp rfl rfl fun cdv A outer s H E hr =>
    (dss_cons (ds_if (dt_w (dtw_or (dt_not (dt_tru (bc_isiE T.hic T.hec T.n_isinstance (da_cons (dv 0) (da_cons (de_bty rfl T.n_tuple bt_tuple) da_nil))))) (dtw_or (dt_c1 (c_neX hr.units) (bc_len T.n_len (da_cons (dv 0) da_nil)) de_int) (dtw_or1 (dt_not (dt_tru (bc_all rfl T.n_all (da_cons (de_lcV (own := [("one", 1)]) rfl sc_is_stamp.nd (di_seq (dv 0)) (blkOk_by (N := N_is_stamp) (sc := defScope s_is_stamp) (by decide +kernel)) (fun _ _ _ _ _ => pg_name (i := 1) sc_is_stamp.nd rfl (Or.inl rfl)) tr_one (by decide) (fun _ _ _ _ _ => dts_nil) (fun _ _ _ _ _ => (dk_call (c_is_whole_1 T) hr (da_cons (dv 1) da_nil)))) da_nil))))))))
    (dss_one (ds_ret de_bl))
    dss_nil)
    (dss_one (ds_ret (de_and (de_c1 (c_ge hr.units) (de_item (dv 0) de_int) de_int) (de_one (de_c1 (c_ge hr.units) (de_item (dv 0) de_int) de_int))))))
theorem c_is_stamp_1 (T : Txt K mg e) : DefK P w K mg base 2 "is_stamp" (w_is_stamp e) [] := by
    obtain ⟨f, fd, dvs, hdd, F, hm⟩ := T.f_is_stamp
    have hdl : dvs.length = 0 := (hdd.rel (fun _ => none)).length
    obtain ⟨ds, hv, hb⟩ : ∃ ds, Vals (dvs.drop 0) ds ∧ Binds K fd ["thing"] ds := by
      obtain rfl : dvs = [] := List.eq_nil_of_length_eq_zero hdl
      exact ⟨[], .nil, F.bindsN (ps := ["thing"]) fun _ _ _ _ _ _ us hl => match us, hl with | [_], _ => rfl⟩
    exact ⟨f, fd, _, _, _, ok_is_stamp T F, hm, F.kp, hb, hv, hdd.drop 0, wpf_len⟩
theorem sc_Shelf_put : FnScope N_Shelf_put ["self", "key", "stamp", "worth"] (defScope s_Shelf_put) := ⟨rfl, rfl, rfl, by decide +kernel, rfl, by decide +kernel, by decide +kernel⟩
theorem ok_Shelf_put (T : Txt K mg e) {f : Addr} {fd : FuncData} {dvs : List V} (F : L2.FunD K "put" "Shelf.put" (defArgs s_Shelf_put) (defBody s_Shelf_put) (defScope s_Shelf_put) dvs [] f fd) : FnK P w K mg base 4 f fd ["self", "key", "stamp", "worth"] (w_Shelf_put e) :=
  fnd (k := 3) F sc_Shelf_put rfl rfl fun cdv A outer s H E hr =>
    (dss_cons (ds_expr (dk_call (c_look_at_key_1 T) hr (da_cons (dv 1) da_nil)))
    (dss_cons (ds_set (i := 4) (de_get2 hr.units (de_fld T.hok (dv 0)) (dv 1) (de_lstV da_nil) ⟨rfl, rfl, rfl, rfl⟩) sc_Shelf_put.nd)
    (dss_cons (ds_if (dt_w (dtw_or (dt_not (dt_tru (dk_call (c_is_stamp_1 T) hr (da_cons (dv 2) da_nil)))) (dtw_or1 (dt_w (dtw_and (dt_c1 (c_neX hr.units) (dv 4) (de_lstV da_nil)) (dtw_and1 (dt_c1 (c_geT hr.units) (de_item (de_item (dv 4) (de_neg de_int)) de_int) (dv 2))))))))
    (dss_one (ds_raise T.rs_NoStamp rfl))
    dss_nil)
    (dss_cons (ds_if (dt_not (dt_tru (dk_call (c_is_worth_1 T) hr (da_cons (dv 3) da_nil))))
    (dss_one (ds_raise T.rs_NoWorth rfl))
    dss_nil)
    (dss_one (ds_dict hr.units (de_fld T.hok (dv 0)) (dv 1) (de_addV (dv 4) (de_lstV (da_cons (de_tup (da_cons (dv 2) (da_cons (dv 3) da_nil))) da_nil)))))))))
theorem m_Shelf_put_4 (T : Txt K mg e) : MetK P w K mg base 4 "put" e.C_Shelf (w_Shelf_put e) [] := by
    obtain ⟨f, fd, dvs, hdd, F, hm⟩ := T.f_Shelf_put
    have hdl : dvs.length = 0 := (hdd.rel (fun _ => none)).length
    obtain ⟨ds, hv, hb⟩ : ∃ ds, Vals (dvs.drop 0) ds ∧ Binds K fd ["self", "key", "stamp", "worth"] ds := by
      obtain rfl : dvs = [] := List.eq_nil_of_length_eq_zero hdl
      exact ⟨[], .nil, F.bindsN (ps := ["self", "key", "stamp", "worth"]) fun _ _ _ _ _ _ us hl => match us, hl with | [_, _, _, _], _ => rfl⟩
    exact ⟨f, fd, _, _, _, T.cl_Shelf, hm, ok_Shelf_put T F, hb, hv, hdd.drop 0, wpf_len⟩
theorem sc_law_worth : FnScope N_law_worth ["_law_state_here"] (defScope s_law_worth) := ⟨rfl, rfl, rfl, by decide +kernel, rfl, by decide +kernel, by decide +kernel⟩
theorem ok_law_worth (T : Txt K mg e) {f : Addr} {fd : FuncData} {dvs : List V} (F : L2.FunD K "_law_worth" "_law_worth" (defArgs s_law_worth) (defBody s_law_worth) (defScope s_law_worth) dvs [] f fd) : FnK P w K mg base 2 f fd ["_law_state_here"] (w_law_worth e) :=
  fnd (k := 1) F sc_law_worth rfl rfl fun cdv A outer s H E hr =>
    (dss_cons (ds_set (i := 1) (de_lstV (da_cons de_int (da_cons (de_pow de_int de_int) (da_cons (de_pow de_int de_int) da_nil)))) sc_law_worth.nd)
    (dss_cons (ds_set (i := 2) (de_lst da_nil) sc_law_worth.nd)
    (dss_cons (ds_for (passes_of rfl) rfl (di_range1 T.n_range (da_cons (de_addV de_int (dk_call (c_law_take_2 T) hr (da_cons (dv 0) (da_cons de_int da_nil)))) da_nil)) (tg_one sc_law_worth.nd 3)
    (dss_one (ds_expr (de_app (dv 2) (da_cons (de_sub (dk_call (c_law_take_2 T) hr (da_cons (dv 0) (da_cons (de_item (dv 1) (dk_call (c_law_take_2 T) hr (da_cons (dv 0) (da_cons de_int da_nil)))) da_nil))) (dk_call (c_law_take_2 T) hr (da_cons (dv 0) (da_cons de_int da_nil)))) da_nil)))))
    (dss_one (ds_ret (bc_tuple T.n_tuple (da_cons (dv 2) da_nil)))))))
theorem c_law_worth_1 (T : Txt K mg e) : DefK P w K mg base 2 "_law_worth" (w_law_worth e) [] := by
    obtain ⟨f, fd, dvs, hdd, F, hm⟩ := T.f_law_worth
    have hdl : dvs.length = 0 := (hdd.rel (fun _ => none)).length
    obtain ⟨ds, hv, hb⟩ : ∃ ds, Vals (dvs.drop 0) ds ∧ Binds K fd ["_law_state_here"] ds := by
      obtain rfl : dvs = [] := List.eq_nil_of_length_eq_zero hdl
      exact ⟨[], .nil, F.bindsN (ps := ["_law_state_here"]) fun _ _ _ _ _ _ us hl => match us, hl with | [_], _ => rfl⟩
    exact ⟨f, fd, _, _, _, ok_law_worth T F, hm, F.kp, hb, hv, hdd.drop 0, wpf_len⟩
theorem sc_law_filled : FnScope N_law_filled ["_law_state_here", "_law_shelf"] (defScope s_law_filled) := ⟨rfl, rfl, rfl, by decide +kernel, rfl, by decide +kernel, by decide +kernel⟩
theorem ok_law_filled (T : Txt K mg e) {f : Addr} {fd : FuncData} {dvs : List V} (F : L2.FunD K "_law_filled" "_law_filled" (defArgs s_law_filled) (defBody s_law_filled) (defScope s_law_filled) dvs [] f fd) : FnK P w K mg base 5 f fd ["_law_state_here", "_law_shelf"] (w_law_filled e) :=
  fnd (k := 4) F sc_law_filled rfl rfl fun cdv A outer s H E hr =>
    (dss_cons (ds_set (i := 2) de_dic sc_law_filled.nd)
    (dss_cons (ds_for (passes_of rfl) rfl (di_range1 T.n_range (da_cons (dk_call (c_law_take_2 T) hr (da_cons (dv 0) (da_cons de_int da_nil))) da_nil)) (tg_one sc_law_filled.nd 3)
    (dss_cons (ds_set (i := 4) (dk_call (c_law_key_1 T) hr (da_cons (dv 0) da_nil)) sc_law_filled.nd)
    (dss_cons (ds_dict hr.units (dv 2) (dv 4) (dk_call (c_law_stamp_2 T) hr (da_cons (dv 0) (da_cons (de_get2 hr.units (dv 2) (dv 4) (de_tup (da_cons de_int (da_cons de_int (da_cons de_int da_nil)))) ⟨rfl, rfl, rfl, rfl⟩) da_nil))))
    (dss_one (ds_expr (de_meth hr (Mets.all (metsC (m_Shelf_put_4 T) .nil)) (dv 1) (da_cons (dv 4) (da_cons (de_dget hr.units (dv 2) (dv 4)) (da_cons (dk_call (c_law_worth_1 T) hr (da_cons (dv 0) da_nil)) da_nil)))))))))
    (dss_one (ds_ret (dv 2)))))
theorem c_law_filled_2 (T : Txt K mg e) : DefK P w K mg base 5 "_law_filled" (w_law_filled e) [] := by
    obtain ⟨f, fd, dvs, hdd, F, hm⟩ := T.f_law_filled
    have hdl : dvs.length = 0 := (hdd.rel (fun _ => none)).length
    obtain ⟨ds, hv, hb⟩ : ∃ ds, Vals (dvs.drop 0) ds ∧ Binds K fd ["_law_state_here", "_law_shelf"] ds := by
      obtain rfl : dvs = [] := List.eq_nil_of_length_eq_zero hdl
      exact ⟨[], .nil, F.bindsN (ps := ["_law_state_here", "_law_shelf"]) fun _ _ _ _ _ _ us hl => match us, hl with | [_, _], _ => rfl⟩
    exact ⟨f, fd, _, _, _, ok_law_filled T F, hm, F.kp, hb, hv, hdd.drop 0, wpf_len⟩
theorem sc_Shelf_let_go : FnScope N_Shelf_let_go ["self", "time"] (defScope s_Shelf_let_go) := ⟨rfl, rfl, rfl, by decide +kernel, rfl, by decide +kernel, by decide +kernel⟩
theorem ok_Shelf_let_go (T : Txt K mg e) {f : Addr} {fd : FuncData} {dvs : List V} (F : L2.FunD K "let_go" "Shelf.let_go" (defArgs s_Shelf_let_go) (defBody s_Shelf_let_go) (defScope s_Shelf_let_go) dvs [] f fd) : FnK P w K mg base 2 f fd ["self", "time"] (w_Shelf_let_go e) :=
  fnd (k := 1) F sc_Shelf_let_go rfl rfl fun cdv A outer s H E hr =>
    (dss_cons (ds_if (dt_not (dt_tru (dk_call (c_is_whole_1 T) hr (da_cons (dv 1) da_nil))))
    (dss_one (ds_raise T.rs_NoNumber rfl))
    dss_nil)
    (dss_consJ (ds_if (dt_w (dtw_or (dt_c1 (c_isX hr.units) (de_fld T.hok (dv 0)) de_non) (dtw_or1 (dt_c1 (c_gt hr.units) (dv 1) (de_fld T.hok (dv 0))))))
    (dss_one (ds_fld T.hok (dv 0) (dv 1)))
    dss_nil)
    (dss_one (ds_for (passes_of rfl) rfl (di_seq (bc_listDic rfl T.n_list (da_cons (de_fld T.hok (dv 0)) da_nil))) (tg_one sc_Shelf_let_go.nd 2)
    (dss_cons (ds_set (i := 3) (de_dget hr.units (de_fld T.hok (dv 0)) (dv 2)) sc_Shelf_let_go.nd)
    (dss_cons (ds_set (i := 4) (bc_len T.n_len (da_cons (de_lcV (own := [("stamp", 5), ("worth", 6)]) rfl sc_Shelf_let_go.nd (di_seq (dv 3)) (blkOk_by (N := N_Shelf_let_go) (sc := defScope s_Shelf_let_go) (by decide +kernel)) (fun _ _ _ _ _ => pg_tup rfl (pgs_cons (pg_name (i := 5) sc_Shelf_let_go.nd rfl (Or.inl rfl)) (pgs_cons (pg_name (i := 6) sc_Shelf_let_go.nd rfl (Or.inl rfl)) pgs_nil))) tr_many (by decide) (fun _ _ _ _ _ => (dts_one (dt_c1 (c_le hr.units) (de_item (dv 5) de_int) (dv 1)))) (fun _ _ _ _ _ => (dv 5))) da_nil)) sc_Shelf_let_go.nd)
    (dss_one (ds_dict hr.units (de_fld T.hok (dv 0)) (dv 2) (de_sliceV (dv 3) (do_some (bc_max rfl T.n_max (da_cons de_int (da_cons (de_sub (dv 4) de_int) da_nil)))) do_none)))))))))
theorem m_Shelf_let_go_2 (T : Txt K mg e) : MetK P w K mg base 2 "let_go" e.C_Shelf (w_Shelf_let_go e) [] := by
    obtain ⟨f, fd, dvs, hdd, F, hm⟩ := T.f_Shelf_let_go
    have hdl : dvs.length = 0 := (hdd.rel (fun _ => none)).length
    obtain ⟨ds, hv, hb⟩ : ∃ ds, Vals (dvs.drop 0) ds ∧ Binds K fd ["self", "time"] ds := by
      obtain rfl : dvs = [] := List.eq_nil_of_length_eq_zero hdl
      exact ⟨[], .nil, F.bindsN (ps := ["self", "time"]) fun _ _ _ _ _ _ us hl => match us, hl with | [_, _], _ => rfl⟩
    exact ⟨f, fd, _, _, _, T.cl_Shelf, hm, ok_Shelf_let_go T F, hb, hv, hdd.drop 0, wpf_len⟩
theorem sc_Shelf_all_keys : FnScope N_Shelf_all_keys ["self"] (defScope s_Shelf_all_keys) := ⟨rfl, rfl, rfl, by decide +kernel, rfl, by decide +kernel, by decide +kernel⟩
theorem ok_Shelf_all_keys (T : Txt K mg e) {f : Addr} {fd : FuncData} {dvs : List V} (F : L2.FunD K "all_keys" "Shelf.all_keys" (defArgs s_Shelf_all_keys) (defBody s_Shelf_all_keys) (defScope s_Shelf_all_keys) dvs [] f fd) : FnK P w K mg base 1 f fd ["self"] (w_Shelf_all_keys e) :=
  fnd (k := 0) F sc_Shelf_all_keys rfl rfl fun cdv A outer s H E hr =>
    (dss_one (ds_ret (bc_sortDic rfl T.n_sorted (da_cons (de_fld T.hok (dv 0)) da_nil))))
theorem m_Shelf_all_keys_1 (T : Txt K mg e) : MetK P w K mg base 1 "all_keys" e.C_Shelf (w_Shelf_all_keys e) [] := by
    obtain ⟨f, fd, dvs, hdd, F, hm⟩ := T.f_Shelf_all_keys
    have hdl : dvs.length = 0 := (hdd.rel (fun _ => none)).length
    obtain ⟨ds, hv, hb⟩ : ∃ ds, Vals (dvs.drop 0) ds ∧ Binds K fd ["self"] ds := by
      obtain rfl : dvs = [] := List.eq_nil_of_length_eq_zero hdl
      exact ⟨[], .nil, F.bindsN (ps := ["self"]) fun _ _ _ _ _ _ us hl => match us, hl with | [_], _ => rfl⟩
    exact ⟨f, fd, _, _, _, T.cl_Shelf, hm, ok_Shelf_all_keys T F, hb, hv, hdd.drop 0, wpf_len⟩
theorem sc_Shelf_len : FnScope N_Shelf_len ["self"] (defScope s_Shelf_len) := ⟨rfl, rfl, rfl, by decide +kernel, rfl, by decide +kernel, by decide +kernel⟩
theorem ok_Shelf_len (T : Txt K mg e) {f : Addr} {fd : FuncData} {dvs : List V} (F : L2.FunD K "__len__" "Shelf.__len__" (defArgs s_Shelf_len) (defBody s_Shelf_len) (defScope s_Shelf_len) dvs [] f fd) : FnK P w K mg base 1 f fd ["self"] (w_Shelf_len e) :=
  fnd (k := 0) F sc_Shelf_len rfl rfl fun cdv A outer s H E hr =>
    (dss_one (ds_ret (bc_len T.n_len (da_cons (de_lock (de_lc2V (own := [("row", 1), ("pair", 2)]) (vs1 := [2]) rfl sc_Shelf_len.nd (di_vals (de_fld T.hok (dv 0))) (blkOk_by (N := N_Shelf_len) (sc := defScope s_Shelf_len) (by decide +kernel)) (by decide) (fun _ _ _ _ _ => pg_name (i := 1) sc_Shelf_len.nd rfl (Or.inl rfl)) tr_one (by decide) (fun _ _ _ _ _ => dts_nil) (fun _ _ _ _ _ => (di_seq (dv 1))) (fun _ _ _ _ _ => pg_name (i := 2) sc_Shelf_len.nd rfl (Or.inl rfl)) tr_one (by decide) (fun _ _ _ _ _ => dts_nil) (fun _ _ _ _ _ => (dv 2)))) da_nil))))
theorem m_Shelf_len_1 (T : Txt K mg e) : MetK P w K mg base 1 "__len__" e.C_Shelf (w_Shelf_len e) [] := by
    obtain ⟨f, fd, dvs, hdd, F, hm⟩ := T.f_Shelf_len
    have hdl : dvs.length = 0 := (hdd.rel (fun _ => none)).length
    obtain ⟨ds, hv, hb⟩ : ∃ ds, Vals (dvs.drop 0) ds ∧ Binds K fd ["self"] ds := by
      obtain rfl : dvs = [] := List.eq_nil_of_length_eq_zero hdl
      exact ⟨[], .nil, F.bindsN (ps := ["self"]) fun _ _ _ _ _ _ us hl => match us, hl with | [_], _ => rfl⟩
    exact ⟨f, fd, _, _, _, T.cl_Shelf, hm, ok_Shelf_len T F, hb, hv, hdd.drop 0, wpf_len⟩
theorem sc_Shelf_versions : FnScope N_Shelf_versions ["self", "key"] (defScope s_Shelf_versions) := ⟨rfl, rfl, rfl, by decide +kernel, rfl, by decide +kernel, by decide +kernel⟩
theorem ok_Shelf_versions (T : Txt K mg e) {f : Addr} {fd : FuncData} {dvs : List V} (F : L2.FunD K "versions" "Shelf.versions" (defArgs s_Shelf_versions) (defBody s_Shelf_versions) (defScope s_Shelf_versions) dvs [] f fd) : FnK P w K mg base 4 f fd ["self", "key"] (w_Shelf_versions e) :=
  fnd (k := 3) F sc_Shelf_versions rfl rfl fun cdv A outer s H E hr =>
    (dss_cons (ds_expr (dk_call (c_look_at_key_1 T) hr (da_cons (dv 1) da_nil)))
    (dss_one (ds_ret (bc_listV T.n_list (da_cons (de_get2 hr.units (de_fld T.hok (dv 0)) (dv 1) (de_lstV da_nil) ⟨rfl, rfl, rfl, rfl⟩) da_nil)))))
theorem m_Shelf_versions_2 (T : Txt K mg e) : MetK P w K mg base 4 "versions" e.C_Shelf (w_Shelf_versions e) [] := by
    obtain ⟨f, fd, dvs, hdd, F, hm⟩ := T.f_Shelf_versions
    have hdl : dvs.length = 0 := (hdd.rel (fun _ => none)).length
    obtain ⟨ds, hv, hb⟩ : ∃ ds, Vals (dvs.drop 0) ds ∧ Binds K fd ["self", "key"] ds := by
      obtain rfl : dvs = [] := List.eq_nil_of_length_eq_zero hdl
      exact ⟨[], .nil, F.bindsN (ps := ["self", "key"]) fun _ _ _ _ _ _ us hl => match us, hl with | [_, _], _ => rfl⟩
    exact ⟨f, fd, _, _, _, T.cl_Shelf, hm, ok_Shelf_versions T F, hb, hv, hdd.drop 0, wpf_len⟩
theorem sc_law_state : FnScope N_law_state ["_law_shelf"] (defScope s_law_state) := ⟨rfl, rfl, rfl, by decide +kernel, rfl, by decide +kernel, by decide +kernel⟩
theorem ok_law_state (T : Txt K mg e) {f : Addr} {fd : FuncData} {dvs : List V} (F : L2.FunD K "_law_state" "_law_state" (defArgs s_law_state) (defBody s_law_state) (defScope s_law_state) dvs [] f fd) : FnK P w K mg base 5 f fd ["_law_shelf"] (w_law_state e) :=
  fnd (k := 4) F sc_law_state rfl rfl fun cdv A outer s H E hr =>
    (dss_cons (ds_set (i := 1) (de_lstV (da_cons de_str (da_cons de_str (da_cons de_str (da_cons de_str (da_cons de_str (da_cons de_str da_nil))))))) sc_law_state.nd)
    (dss_one (ds_ret (bc_reprXU hr.gd hr.units T.n_repr (da_cons (de_addV (de_lstV (da_cons (de_meth0 hr (Mets.all (metsC (m_Shelf_all_keys_1 T) .nil)) (dv 0)) (da_cons (bc_lenO (m_Shelf_len_1 T) hr T.n_len (da_cons (dv 0) da_nil)) da_nil))) (de_lcV (own := [("_law_key_here", 2)]) rfl sc_law_state.nd (di_seq (dv 1)) (blkOk_by (N := N_law_state) (sc := defScope s_law_state) (by decide +kernel)) (fun _ _ _ _ _ => pg_name (i := 2) sc_law_state.nd rfl (Or.inl rfl)) tr_one (by decide) (fun _ _ _ _ _ => dts_nil) (fun _ _ _ _ _ => (de_meth hr (Mets.all (metsC (m_Shelf_versions_2 T) .nil)) (dv 0) (da_cons (dv 2) da_nil))))) da_nil)))))
theorem c_law_state_1 (T : Txt K mg e) : DefK P w K mg base 5 "_law_state" (w_law_state e) [] := by
    obtain ⟨f, fd, dvs, hdd, F, hm⟩ := T.f_law_state
    have hdl : dvs.length = 0 := (hdd.rel (fun _ => none)).length
    obtain ⟨ds, hv, hb⟩ : ∃ ds, Vals (dvs.drop 0) ds ∧ Binds K fd ["_law_shelf"] ds := by
      obtain rfl : dvs = [] := List.eq_nil_of_length_eq_zero hdl
      exact ⟨[], .nil, F.bindsN (ps := ["_law_shelf"]) fun _ _ _ _ _ _ us hl => match us, hl with | [_], _ => rfl⟩
    exact ⟨f, fd, _, _, _, ok_law_state T F, hm, F.kp, hb, hv, hdd.drop 0, wpf_len⟩
theorem sc_law_kind : FnScope N_law_kind ["_law_error"] (defScope s_law_kind) := ⟨rfl, rfl, rfl, by decide +kernel, rfl, by decide +kernel, by decide +kernel⟩
theorem ok_law_kind (T : Txt K mg e) {f : Addr} {fd : FuncData} {dvs : List V} (F : L2.FunD K "_law_kind" "_law_kind" (defArgs s_law_kind) (defBody s_law_kind) (defScope s_law_kind) dvs [] f fd) : FnK P w K mg base 1 f fd ["_law_error"] (w_law_kind e) :=
  fnd (k := 0) F sc_law_kind rfl rfl fun cdv A outer s H E hr =>
    (dss_cons (ds_if (dt_c1 (c_isX hr.units) (dv 0) de_non)
    (dss_one (ds_ret de_str))
    dss_nil)
    (dss_cons (ds_set (i := 1) (de_lstV (da_cons (bc_isiE T.hic T.hec T.n_isinstance (da_cons (dv 0) (da_cons (de_glob (d := .ref _) (v := .ref _) rfl T.gx_NoStamp rfl fun _ => rfl) da_nil))) (da_cons (bc_isiE T.hic T.hec T.n_isinstance (da_cons (dv 0) (da_cons (de_glob (d := .ref _) (v := .ref _) rfl T.gx_NoWorth rfl fun _ => rfl) da_nil))) (da_cons (bc_isiE T.hic T.hec T.n_isinstance (da_cons (dv 0) (da_cons (de_glob (d := .ref _) (v := .ref _) rfl T.gx_NoNumber rfl fun _ => rfl) da_nil))) da_nil)))) sc_law_kind.nd)
    (dss_cons (ds_if (dt_w (dtw_or (dt_c1 (c_neX hr.units) (de_count hr.units1 (dv 1) (da_cons de_bl da_nil)) de_int) (dtw_or1 (dt_not (dt_tru (bc_isiE T.hic T.hec T.n_isinstance (da_cons (dv 0) (da_cons (de_bty rfl T.n_ValueError bt_ValueError) da_nil))))))))
    (dss_one (ds_ret de_str))
    dss_nil)
    (dss_one (ds_ret (de_item (de_lstV (da_cons de_str (da_cons de_str (da_cons de_str da_nil)))) (de_index hr.units1 (dv 1) (da_cons de_bl da_nil))))))))
theorem c_law_kind_1 (T : Txt K mg e) : DefK P w K mg base 1 "_law_kind" (w_law_kind e) [] := by
    obtain ⟨f, fd, dvs, hdd, F, hm⟩ := T.f_law_kind
    have hdl : dvs.length = 0 := (hdd.rel (fun _ => none)).length
    obtain ⟨ds, hv, hb⟩ : ∃ ds, Vals (dvs.drop 0) ds ∧ Binds K fd ["_law_error"] ds := by
      obtain rfl : dvs = [] := List.eq_nil_of_length_eq_zero hdl
      exact ⟨[], .nil, F.bindsN (ps := ["_law_error"]) fun _ _ _ _ _ _ us hl => match us, hl with | [_], _ => rfl⟩
    exact ⟨f, fd, _, _, _, ok_law_kind T F, hm, F.kp, hb, hv, hdd.drop 0, wpf_len⟩
theorem sc_Shelf_at : FnScope N_Shelf_at ["self", "key", "time"] (defScope s_Shelf_at) := ⟨rfl, rfl, rfl, by decide +kernel, rfl, by decide +kernel, by decide +kernel⟩
theorem ok_Shelf_at (T : Txt K mg e) {f : Addr} {fd : FuncData} {dvs : List V} (F : L2.FunD K "at" "Shelf.at" (defArgs s_Shelf_at) (defBody s_Shelf_at) (defScope s_Shelf_at) dvs [] f fd) : FnK P w K mg base 5 f fd ["self", "key", "time"] (w_Shelf_at e) :=
  fnd (k := 4) F sc_Shelf_at rfl rfl fun cdv A outer s H E hr =>
    (dss_cons (ds_set (i := 3) (de_meth hr (Mets.all (metsC (m_Shelf_versions_2 T) .nil)) (dv 0) (da_cons (dv 1) da_nil)) sc_Shelf_at.nd)
    (dss_cons (ds_if (dt_not (dt_tru (dk_call (c_is_whole_1 T) hr (da_cons (dv 2) da_nil))))
    (dss_one (ds_raise T.rs_NoNumber rfl))
    dss_nil)
    (dss_cons (ds_if (dt_w (dtw_and (dt_c1 (c_isnotX hr.units) (de_fld T.hok (dv 0)) de_non) (dtw_and1 (dt_c1 (c_lt hr.units) (dv 2) (de_fld T.hok (dv 0))))))
    (dss_one (ds_raiseX (ri_Gone T) hr (da_cons (de_fld T.hok (dv 0)) da_nil) rfl))
    dss_nil)
    (dss_cons (ds_setLcV (i := 4) (own := [("stamp", 5), ("worth", 6)]) rfl sc_Shelf_at.nd rfl rfl (sw_true rfl rfl rfl (by decide +kernel)) (di_seq (dv 3)) (blkOk_by (N := N_Shelf_at) (sc := defScope s_Shelf_at) (by decide +kernel)) (fun _ _ _ _ _ => pg_tup rfl (pgs_cons (pg_name (i := 5) sc_Shelf_at.nd rfl (Or.inl rfl)) (pgs_cons (pg_name (i := 6) sc_Shelf_at.nd rfl (Or.inl rfl)) pgs_nil))) tr_many (by decide) (fun _ _ _ _ _ => (dts_one (dt_c1 (c_le hr.units) (de_item (dv 5) de_int) (dv 2)))) (fun _ _ _ _ _ => (dv 6)))
    (dss_cons (ds_if (dt_c1 (c_eqX hr.units) (dv 4) (de_lstV da_nil))
    (dss_one (ds_ret de_non))
    dss_nil)
    (dss_one (ds_ret (de_item (dv 4) (de_neg de_int)))))))))
theorem m_Shelf_at_3 (T : Txt K mg e) : MetK P w K mg base 5 "at" e.C_Shelf (w_Shelf_at e) [] := by
    obtain ⟨f, fd, dvs, hdd, F, hm⟩ := T.f_Shelf_at
    have hdl : dvs.length = 0 := (hdd.rel (fun _ => none)).length
    obtain ⟨ds, hv, hb⟩ : ∃ ds, Vals (dvs.drop 0) ds ∧ Binds K fd ["self", "key", "time"] ds := by
      obtain rfl : dvs = [] := List.eq_nil_of_length_eq_zero hdl
      exact ⟨[], .nil, F.bindsN (ps := ["self", "key", "time"]) fun _ _ _ _ _ _ us hl => match us, hl with | [_, _, _], _ => rfl⟩
    exact ⟨f, fd, _, _, _, T.cl_Shelf, hm, ok_Shelf_at T F, hb, hv, hdd.drop 0, wpf_len⟩
theorem sc_Shelf_newest : FnScope N_Shelf_newest ["self", "key"] (defScope s_Shelf_newest) := ⟨rfl, rfl, rfl, by decide +kernel, rfl, by decide +kernel, by decide +kernel⟩
theorem ok_Shelf_newest (T : Txt K mg e) {f : Addr} {fd : FuncData} {dvs : List V} (F : L2.FunD K "newest" "Shelf.newest" (defArgs s_Shelf_newest) (defBody s_Shelf_newest) (defScope s_Shelf_newest) dvs [] f fd) : FnK P w K mg base 5 f fd ["self", "key"] (w_Shelf_newest e) :=
  fnd (k := 4) F sc_Shelf_newest rfl rfl fun cdv A outer s H E hr =>
    (dss_cons (ds_set (i := 2) (de_meth hr (Mets.all (metsC (m_Shelf_versions_2 T) .nil)) (dv 0) (da_cons (dv 1) da_nil)) sc_Shelf_newest.nd)
    (dss_cons (ds_if (dt_c1 (c_eqX hr.units) (dv 2) (de_lstV da_nil))
    (dss_one (ds_ret de_non))
    dss_nil)
    (dss_one (ds_ret (de_item (de_item (dv 2) (de_neg de_int)) de_int)))))
theorem m_Shelf_newest_2 (T : Txt K mg e) : MetK P w K mg base 5 "newest" e.C_Shelf (w_Shelf_newest e) [] := by
    obtain ⟨f, fd, dvs, hdd, F, hm⟩ := T.f_Shelf_newest
    have hdl : dvs.length = 0 := (hdd.rel (fun _ => none)).length
    obtain ⟨ds, hv, hb⟩ : ∃ ds, Vals (dvs.drop 0) ds ∧ Binds K fd ["self", "key"] ds := by
      obtain rfl : dvs = [] := List.eq_nil_of_length_eq_zero hdl
      exact ⟨[], .nil, F.bindsN (ps := ["self", "key"]) fun _ _ _ _ _ _ us hl => match us, hl with | [_, _], _ => rfl⟩
    exact ⟨f, fd, _, _, _, T.cl_Shelf, hm, ok_Shelf_newest T F, hb, hv, hdd.drop 0, wpf_len⟩
theorem sc_law_said : FnScope N_law_said ["_law_shelf", "_law_way", "_law_some"] (defScope s_law_said) := ⟨rfl, rfl, rfl, by decide +kernel, rfl, by decide +kernel, by decide +kernel⟩
theorem ok_law_said (T : Txt K mg e) {f : Addr} {fd : FuncData} {dvs : List V} (F : L2.FunD K "_law_said" "_law_said" (defArgs s_law_said) (defBody s_law_said) (defScope s_law_said) dvs [] f fd) : FnK P w K mg base 6 f fd ["_law_shelf", "_law_way", "_law_some"] (w_law_said e) :=
  fnd (k := 5) F sc_law_said rfl rfl fun cdv A outer s H E hr =>
    (dss_cons (ds_set (i := 3) de_non sc_law_said.nd)
    (dss_consJ (ds_tryH rfl rfl sc_law_said.nd T.hxm (fun pn xe => (dss_one (ds_if (dt_c1 (c_eqX hr.units) (dv 1) de_int)
    (dss_one (ds_expr (de_meth hr (Mets.all (metsC (m_Shelf_put_4 T) .nil)) (dv 0) (da_cons (de_item (dv 2) de_int) (da_cons (de_item (dv 2) de_int) (da_cons (de_item (dv 2) de_int) da_nil))))))
    (dss_one (ds_if (dt_c1 (c_eqX hr.units) (dv 1) de_int)
    (dss_one (ds_expr (de_meth hr (Mets.all (metsC (m_Shelf_at_3 T) .nil)) (dv 0) (da_cons (de_item (dv 2) de_int) (da_cons (de_item (dv 2) de_int) da_nil)))))
    (dss_one (ds_if (dt_c1 (c_eqX hr.units) (dv 1) de_int)
    (dss_one (ds_expr (de_meth hr (Mets.all (metsC (m_Shelf_versions_2 T) .nil)) (dv 0) (da_cons (de_item (dv 2) de_int) da_nil))))
    (dss_one (ds_if (dt_c1 (c_eqX hr.units) (dv 1) de_int)
    (dss_one (ds_expr (de_meth hr (Mets.all (metsC (m_Shelf_newest_2 T) .nil)) (dv 0) (da_cons (de_item (dv 2) de_int) da_nil))))
    (dss_one (ds_expr (de_meth hr (Mets.all (metsC (m_Shelf_let_go_2 T) .nil)) (dv 0) (da_cons (de_item (dv 2) de_int) da_nil)))))))))))))
    (.as_ 4 ⟨rfl, rfl, .inl T.gx_NoKey⟩ rfl rfl (fun a pn => (dss_one (ds_ret (de_lstV (da_cons de_str (da_cons (bc_reprXU hr.gd hr.units T.n_repr (da_cons (de_xfld T.hxf (dv 4)) da_nil)) (da_cons (bc_isiE T.hic T.hec T.n_isinstance (da_cons (dv 4) (da_cons (de_bty rfl T.n_KeyError bt_KeyError) da_nil))) da_nil)))))))
    (.as_ 4 ⟨rfl, rfl, .inl T.gx_Gone⟩ rfl rfl (fun a pn => (dss_one (ds_ret (de_lstV (da_cons de_str (da_cons (de_xfld T.hxf (dv 4)) da_nil))))))
    (.as_ 4 ⟨rfl, rfl, .inl T.gx_WaitError⟩ rfl rfl (fun a pn => (dss_one (ds_set (i := 3) (dv 4) sc_law_said.nd)))
    .nil))))
    (dss_one (ds_ret (de_lstV (da_cons (dk_call (c_law_kind_1 T) hr (da_cons (dv 3) da_nil)) da_nil))))))
theorem c_law_said_3 (T : Txt K mg e) : DefK P w K mg base 6 "_law_said" (w_law_said e) [] := by
    obtain ⟨f, fd, dvs, hdd, F, hm⟩ := T.f_law_said
    have hdl : dvs.length = 0 := (hdd.rel (fun _ => none)).length
    obtain ⟨ds, hv, hb⟩ : ∃ ds, Vals (dvs.drop 0) ds ∧ Binds K fd ["_law_shelf", "_law_way", "_law_some"] ds := by
      obtain rfl : dvs = [] := List.eq_nil_of_length_eq_zero hdl
      exact ⟨[], .nil, F.bindsN (ps := ["_law_shelf", "_law_way", "_law_some"]) fun _ _ _ _ _ _ us hl => match us, hl with | [_, _, _], _ => rfl⟩
    exact ⟨f, fd, _, _, _, ok_law_said T F, hm, F.kp, hb, hv, hdd.drop 0, wpf_len⟩
theorem sc_law_is_gone : FnScope N_law_is_gone ["_law_shelf", "_law_key_here"] (defScope s_law_is_gone) := ⟨rfl, rfl, rfl, by decide +kernel, rfl, by decide +kernel, by decide +kernel⟩
theorem ok_law_is_gone (T : Txt K mg e) {f : Addr} {fd : FuncData} {dvs : List V} (F : L2.FunD K "_law_is_gone" "_law_is_gone" (defArgs s_law_is_gone) (defBody s_law_is_gone) (defScope s_law_is_gone) dvs [] f fd) : FnK P w K mg base 6 f fd ["_law_shelf", "_law_key_here"] (w_law_is_gone e) :=
  fnd (k := 5) F sc_law_is_gone rfl rfl fun cdv A outer s H E hr =>
    (dss_consJ (ds_tryH rfl rfl sc_law_is_gone.nd T.hxm (fun pn xe => (dss_one (ds_expr (de_meth hr (Mets.all (metsC (m_Shelf_at_3 T) .nil)) (dv 0) (da_cons (dv 1) (da_cons (de_neg de_int) da_nil))))))
    (.as_ 2 ⟨rfl, rfl, .inl T.gx_Gone⟩ rfl rfl (fun a pn => (dss_one (ds_ret (de_c1 (c_eqX hr.units) (de_xfld T.hxf (dv 2)) (de_neg de_int)))))
    .nil))
    (dss_one (ds_ret de_bl)))
theorem c_law_is_gone_2 (T : Txt K mg e) : DefK P w K mg base 6 "_law_is_gone" (w_law_is_gone e) [] := by
    obtain ⟨f, fd, dvs, hdd, F, hm⟩ := T.f_law_is_gone
    have hdl : dvs.length = 0 := (hdd.rel (fun _ => none)).length
    obtain ⟨ds, hv, hb⟩ : ∃ ds, Vals (dvs.drop 0) ds ∧ Binds K fd ["_law_shelf", "_law_key_here"] ds := by
      obtain rfl : dvs = [] := List.eq_nil_of_length_eq_zero hdl
      exact ⟨[], .nil, F.bindsN (ps := ["_law_shelf", "_law_key_here"]) fun _ _ _ _ _ _ us hl => match us, hl with | [_, _], _ => rfl⟩
    exact ⟨f, fd, _, _, _, ok_law_is_gone T F, hm, F.kp, hb, hv, hdd.drop 0, wpf_len⟩
theorem sc_law : FnScope N_law ["_law_script"] (defScope s_law) := ⟨rfl, rfl, rfl, by decide +kernel, rfl, by decide +kernel, by decide +kernel⟩
theorem ok_law (T : Txt K mg e) {f : Addr} {fd : FuncData} {dvs : List V} (F : L2.FunD K "law" "law" (defArgs s_law) (defBody s_law) (defScope s_law) dvs [] f fd) : FnK P w K mg base 7 f fd ["_law_script"] (w_law e) :=
  fnd (k := 6) F sc_law rfl rfl fun cdv A outer s H E hr =>
    (dss_cons (ds_for (passes_of rfl) rfl (di_range1 T.n_range (da_cons (bc_max rfl T.n_max (da_cons de_int (da_cons (bc_min rfl T.n_min (da_cons de_int (da_cons (bc_len T.n_len (da_cons (dv 0) da_nil)) da_nil))) da_nil))) da_nil)) (tg_one sc_law.nd 1)
    (dss_cons (ds_set (i := 2) (dk_call (c_law_begun_2 T) hr (da_cons (dv 0) (da_cons (dv 1) da_nil))) sc_law.nd)
    (dss_cons (ds_set (i := 3) (dk_make0 (n_Shelf_1 T) hr) sc_law.nd)
    (dss_cons (ds_set (i := 4) (dk_call (c_law_filled_2 T) hr (da_cons (dv 2) (da_cons (dv 3) da_nil))) sc_law.nd)
    (dss_cons (ds_set (i := 5) (dk_call (c_law_key_1 T) hr (da_cons (dv 2) da_nil)) sc_law.nd)
    (dss_cons (ds_set (i := 6) (dk_call (c_law_stamp_2 T) hr (da_cons (dv 2) (da_cons (de_get2 hr.units (dv 4) (dv 5) (de_tup (da_cons de_int (da_cons de_int (da_cons de_int da_nil)))) ⟨rfl, rfl, rfl, rfl⟩) da_nil))) sc_law.nd)
    (dss_cons (ds_set (i := 7) (dk_call (c_law_worth_1 T) hr (da_cons (dv 2) da_nil)) sc_law.nd)
    (dss_cons (ds_set (i := 8) (de_item (de_lstV (da_cons de_str (da_cons de_str (da_cons de_str (da_cons de_str (da_cons de_str (da_cons de_non (da_cons de_int (da_cons de_bl (da_cons (de_lstV (da_cons de_str da_nil)) (da_cons (de_tup (da_cons de_str da_nil)) (da_cons de_emp (da_cons de_str da_nil))))))))))))) (dk_call (c_law_take_2 T) hr (da_cons (dv 2) (da_cons de_int da_nil)))) sc_law.nd)
    (dss_cons (ds_set (i := 9) (de_lstV (da_cons de_non (da_cons (de_sliceV (dv 6) do_none (do_some de_int)) (da_cons (bc_listV T.n_list (da_cons (dv 6) da_nil)) (da_cons (de_addV (dv 6) (de_tup (da_cons de_int da_nil))) (da_cons (de_tup (da_cons (de_item (dv 6) de_int) (da_cons (de_neg de_int) (da_cons de_int da_nil)))) (da_cons (de_tup (da_cons (de_item (dv 6) de_int) (da_cons (de_item (dv 6) de_int) (da_cons de_bl da_nil)))) (da_cons de_str da_nil)))))))) sc_law.nd)
    (dss_cons (ds_set (i := 9) (de_addV (dv 9) (de_lstV (da_cons (de_get2 hr.units (dv 4) (dv 5) de_non ⟨rfl, rfl, rfl, rfl⟩) (da_cons (de_ifExp (dt_c1 (c_din hr.units) (dv 5) (dv 4)) (de_tup (da_cons (de_sub (de_item (de_get2 hr.units (dv 4) (dv 5) (de_tup (da_cons de_int (da_cons de_int (da_cons de_int da_nil)))) ⟨rfl, rfl, rfl, rfl⟩) de_int) de_int) (da_cons (de_item (dv 6) de_int) (da_cons de_int da_nil)))) de_int) da_nil)))) sc_law.nd)
    (dss_cons (ds_set (i := 10) (de_item (dv 9) (dk_call (c_law_take_2 T) hr (da_cons (dv 2) (da_cons de_int da_nil)))) sc_law.nd)
    (dss_cons (ds_set (i := 11) (de_item (de_lstV (da_cons de_non (da_cons (de_tup da_nil) (da_cons (de_tup (da_cons de_int (da_cons de_int (da_cons de_int (da_cons de_int (da_cons de_int da_nil)))))) (da_cons (bc_listV T.n_list (da_cons (dv 7) da_nil)) (da_cons (de_tup (da_cons de_bl da_nil)) (da_cons (de_tup (da_cons de_str da_nil)) (da_cons (de_tup (da_cons de_non (da_cons de_int da_nil))) (da_cons de_int (da_cons de_emp da_nil)))))))))) (dk_call (c_law_take_2 T) hr (da_cons (dv 2) (da_cons de_int da_nil)))) sc_law.nd)
    (dss_cons (ds_set (i := 12) (de_item (de_lstV (da_cons de_non (da_cons de_bl (da_cons de_str (da_cons (de_tup (da_cons de_int da_nil)) (da_cons (de_lstV da_nil) (da_cons de_emp da_nil))))))) (dk_call (c_law_take_2 T) hr (da_cons (dv 2) (da_cons de_int da_nil)))) sc_law.nd)
    (dss_cons (ds_expr (de_meth hr (Mets.all (metsC (m_Shelf_let_go_2 T) .nil)) (dv 3) (da_cons (de_neg de_int) da_nil)))
    (dss_cons (ds_set (i := 13) (dk_call (c_law_state_1 T) hr (da_cons (dv 3) da_nil)) sc_law.nd)
    (dss_cons (ds_set (i := 14) (de_lstV (da_cons de_str (da_cons (bc_reprXU hr.gd hr.units T.n_repr (da_cons (dv 8) da_nil)) (da_cons de_bl da_nil)))) sc_law.nd)
    (dss_cons (ds_set (i := 15) (de_lstV (da_cons (de_tup (da_cons de_int (da_cons (de_tup (da_cons (dv 8) (da_cons (dv 10) (da_cons (dv 11) da_nil)))) (da_cons (dv 14) da_nil)))) (da_cons (de_tup (da_cons de_int (da_cons (de_tup (da_cons (dv 8) (da_cons (dv 6) (da_cons (dv 7) da_nil)))) (da_cons (dv 14) da_nil)))) (da_cons (de_tup (da_cons de_int (da_cons (de_tup (da_cons (dv 5) (da_cons (dv 10) (da_cons (dv 11) da_nil)))) (da_cons (de_lstV (da_cons de_str da_nil)) da_nil)))) da_nil)))) sc_law.nd)
    (dss_cons (ds_set (i := 15) (de_addV (dv 15) (de_lstV (da_cons (de_tup (da_cons de_int (da_cons (de_tup (da_cons (dv 5) (da_cons (dv 10) (da_cons (dv 7) da_nil)))) (da_cons (de_lstV (da_cons de_str da_nil)) da_nil)))) (da_cons (de_tup (da_cons de_int (da_cons (de_tup (da_cons (dv 5) (da_cons (dv 6) (da_cons (dv 11) da_nil)))) (da_cons (de_lstV (da_cons de_str da_nil)) da_nil)))) da_nil)))) sc_law.nd)
    (dss_cons (ds_set (i := 15) (de_addV (dv 15) (de_lstV (da_cons (de_tup (da_cons de_int (da_cons (de_tup (da_cons (dv 8) (da_cons (dv 12) da_nil))) (da_cons (dv 14) da_nil)))) (da_cons (de_tup (da_cons de_int (da_cons (de_tup (da_cons (dv 8) (da_cons (de_neg de_int) da_nil))) (da_cons (dv 14) da_nil)))) (da_cons (de_tup (da_cons de_int (da_cons (de_tup (da_cons (dv 5) (da_cons (dv 12) da_nil))) (da_cons (de_lstV (da_cons de_str da_nil)) da_nil)))) da_nil))))) sc_law.nd)
    (dss_cons (ds_set (i := 15) (de_addV (dv 15) (de_lstV (da_cons (de_tup (da_cons de_int (da_cons (de_tup (da_cons (dv 8) (da_cons de_int da_nil))) (da_cons (dv 14) da_nil)))) (da_cons (de_tup (da_cons de_int (da_cons (de_tup (da_cons (dv 8) (da_cons de_int da_nil))) (da_cons (dv 14) da_nil)))) (da_cons (de_tup (da_cons de_int (da_cons (de_tup (da_cons (dv 5) (da_cons (dv 12) da_nil))) (da_cons (de_lstV (da_cons de_str da_nil)) da_nil)))) da_nil))))) sc_law.nd)
    (dss_cons (ds_for (passes_of rfl) rfl (di_seq (dv 15)) (tg_many rfl (.one sc_law.nd 16 (.one sc_law.nd 17 (.one sc_law.nd 18 .nil))))
    (dss_one (ds_if (dt_w (dtw_or (dt_c1 (c_neX hr.units) (dk_call (c_law_said_3 T) hr (da_cons (dv 3) (da_cons (dv 16) (da_cons (dv 17) da_nil)))) (dv 18)) (dtw_or1 (dt_c1 (c_neX hr.units) (dk_call (c_law_state_1 T) hr (da_cons (dv 3) da_nil)) (dv 13)))))
    (dss_one (ds_ret de_bl))
    dss_nil)))
    (dss_cons (ds_if (dt_w (dtw_or (dt_c1 (c_neX hr.units) (dk_call (c_law_said_3 T) hr (da_cons (dv 3) (da_cons de_int (da_cons (de_tup (da_cons (dv 5) (da_cons de_int da_nil))) da_nil)))) (de_lstV (da_cons de_str da_nil))) (dtw_or1 (dt_c1 (c_neX hr.units) (dk_call (c_law_said_3 T) hr (da_cons (dv 3) (da_cons de_int (da_cons (de_tup (da_cons (dv 5) (da_cons (dv 6) (da_cons (dv 7) da_nil)))) da_nil)))) (de_lstV (da_cons de_str da_nil))))))
    (dss_one (ds_ret de_bl))
    dss_nil)
    (dss_one (ds_if (dt_w (dtw_or (dt_c1 (c_neX hr.units) (bc_reprXU hr.gd hr.units T.n_repr (da_cons (de_item (de_meth hr (Mets.all (metsC (m_Shelf_versions_2 T) .nil)) (dv 3) (da_cons (dv 5) da_nil)) (de_neg de_int)) da_nil)) (bc_reprXU hr.gd hr.units T.n_repr (da_cons (de_tup (da_cons (dv 6) (da_cons (dv 7) da_nil))) da_nil))) (dtw_or1 (dt_not (dt_tru (dk_call (c_law_is_gone_2 T) hr (da_cons (dv 3) (da_cons (dv 5) da_nil))))))))
    (dss_one (ds_ret de_bl))
    dss_nil))))))))))))))))))))))))
    (dss_one (ds_ret de_bl)))
end
/-! ### each fact, as the head has it -/
theorem all_mk {l : PySem.W.OpenLaw} {w : World} {K : PySem.W.Frag} {h : Heap} {mg : Str → Option Value} {fa : Addr} (X : K.In h) (G : h.Ns mainGlobals mg) (hfa : mg "law" = some (.ref fa)) (hmain : ∀ e : Env, e.Good → ∀ ns : List Int, ns.length ≤ 63 → w_law e [.kc (ns.map D.int)] (fun _ => none) (fun d _ => d = .bl true) fun _ _ _ => False)
    {C_Shelf C_Gone C_NoKey C_NoNumber C_NoStamp C_NoWorth C_WaitError f_XNoKey f_XGone f_law_begun f_Shelf_init f_law_take f_law_key f_law_stamp f_is_key f_look_at_key f_is_whole f_is_worth f_is_stamp f_Shelf_put f_law_worth f_law_filled f_Shelf_let_go f_Shelf_all_keys f_Shelf_len f_Shelf_versions f_law_state f_law_kind f_Shelf_at f_Shelf_newest f_law_said f_law_is_gone f_law : Addr}  {od_XNoKey an_XNoKey od_XGone an_XGone od_law_begun an_law_begun od_Shelf_init an_Shelf_init od_law_take an_law_take od_law_key an_law_key od_law_stamp an_law_stamp od_is_key an_is_key od_look_at_key an_look_at_key od_is_whole an_is_whole od_is_worth an_is_worth od_is_stamp an_is_stamp od_Shelf_put an_Shelf_put od_law_worth an_law_worth od_law_filled an_law_filled od_Shelf_let_go an_Shelf_let_go od_Shelf_all_keys an_Shelf_all_keys od_Shelf_len an_Shelf_len od_Shelf_versions an_Shelf_versions od_law_state an_law_state od_law_kind an_law_kind od_Shelf_at an_Shelf_at od_Shelf_newest an_Shelf_newest od_law_said an_law_said od_law_is_gone an_law_is_gone od_law an_law : Option Addr} {sl_XNoKey sl_XGone sl_law_begun sl_Shelf_init sl_law_take sl_law_key sl_law_stamp sl_is_key sl_look_at_key sl_is_whole sl_is_worth sl_is_stamp sl_Shelf_put sl_law_worth sl_law_filled sl_Shelf_let_go sl_Shelf_all_keys sl_Shelf_len sl_Shelf_versions sl_law_state sl_law_kind sl_Shelf_at sl_Shelf_newest sl_law_said sl_law_is_gone sl_law : Array (Option Value)} {oc_XNoKey dV_XNoKey kV_XNoKey dc_XNoKey pm_XNoKey cd_XNoKey ct_XNoKey oc_XGone dV_XGone kV_XGone dc_XGone pm_XGone cd_XGone ct_XGone u_LETTERS u_LONGEST u_MOST_FIELDS oc_law_begun dV_law_begun kV_law_begun dc_law_begun pm_law_begun cd_law_begun ct_law_begun oc_Shelf_init dV_Shelf_init kV_Shelf_init dc_Shelf_init pm_Shelf_init cd_Shelf_init ct_Shelf_init oc_law_take dV_law_take kV_law_take dc_law_take pm_law_take cd_law_take ct_law_take oc_law_key dV_law_key kV_law_key dc_law_key pm_law_key cd_law_key ct_law_key oc_law_stamp dV_law_stamp kV_law_stamp dc_law_stamp pm_law_stamp cd_law_stamp ct_law_stamp oc_is_key dV_is_key kV_is_key dc_is_key pm_is_key cd_is_key ct_is_key oc_look_at_key dV_look_at_key kV_look_at_key dc_look_at_key pm_look_at_key cd_look_at_key ct_look_at_key oc_is_whole dV_is_whole kV_is_whole dc_is_whole pm_is_whole cd_is_whole ct_is_whole oc_is_worth dV_is_worth kV_is_worth dc_is_worth pm_is_worth cd_is_worth ct_is_worth oc_is_stamp dV_is_stamp kV_is_stamp dc_is_stamp pm_is_stamp cd_is_stamp ct_is_stamp oc_Shelf_put dV_Shelf_put kV_Shelf_put dc_Shelf_put pm_Shelf_put cd_Shelf_put ct_Shelf_put oc_law_worth dV_law_worth kV_law_worth dc_law_worth pm_law_worth cd_law_worth ct_law_worth oc_law_filled dV_law_filled kV_law_filled dc_law_filled pm_law_filled cd_law_filled ct_law_filled oc_Shelf_let_go dV_Shelf_let_go kV_Shelf_let_go dc_Shelf_let_go pm_Shelf_let_go cd_Shelf_let_go ct_Shelf_let_go oc_Shelf_all_keys dV_Shelf_all_keys kV_Shelf_all_keys dc_Shelf_all_keys pm_Shelf_all_keys cd_Shelf_all_keys ct_Shelf_all_keys oc_Shelf_len dV_Shelf_len kV_Shelf_len dc_Shelf_len pm_Shelf_len cd_Shelf_len ct_Shelf_len oc_Shelf_versions dV_Shelf_versions kV_Shelf_versions dc_Shelf_versions pm_Shelf_versions cd_Shelf_versions ct_Shelf_versions oc_law_state dV_law_state kV_law_state dc_law_state pm_law_state cd_law_state ct_law_state oc_law_kind dV_law_kind kV_law_kind dc_law_kind pm_law_kind cd_law_kind ct_law_kind oc_Shelf_at dV_Shelf_at kV_Shelf_at dc_Shelf_at pm_Shelf_at cd_Shelf_at ct_Shelf_at oc_Shelf_newest dV_Shelf_newest kV_Shelf_newest dc_Shelf_newest pm_Shelf_newest cd_Shelf_newest ct_Shelf_newest oc_law_said dV_law_said kV_law_said dc_law_said pm_law_said cd_law_said ct_law_said oc_law_is_gone dV_law_is_gone kV_law_is_gone dc_law_is_gone pm_law_is_gone cd_law_is_gone ct_law_is_gone oc_law dV_law kV_law dc_law pm_law cd_law ct_law : Value}
    (z_KeyError : PySem.W.nsIn K mainGlobals "KeyError" = some none)
    (z_ValueError : PySem.W.nsIn K mainGlobals "ValueError" = some none)
    (z_all : PySem.W.nsIn K mainGlobals "all" = some none)
    (z_bool : PySem.W.nsIn K mainGlobals "bool" = some none)
    (z_int : PySem.W.nsIn K mainGlobals "int" = some none)
    (z_isinstance : PySem.W.nsIn K mainGlobals "isinstance" = some none)
    (z_len : PySem.W.nsIn K mainGlobals "len" = some none)
    (z_list : PySem.W.nsIn K mainGlobals "list" = some none)
    (z_max : PySem.W.nsIn K mainGlobals "max" = some none)
    (z_min : PySem.W.nsIn K mainGlobals "min" = some none)
    (z_range : PySem.W.nsIn K mainGlobals "range" = some none)
    (z_repr : PySem.W.nsIn K mainGlobals "repr" = some none)
    (z_sorted : PySem.W.nsIn K mainGlobals "sorted" = some none)
    (z_str : PySem.W.nsIn K mainGlobals "str" = some none)
    (z_tuple : PySem.W.nsIn K mainGlobals "tuple" = some none)
    (a_Shelf : PySem.W.nsIn K mainGlobals "Shelf" = some (some (.ref C_Shelf)))
    (pg_Shelf : PySem.W.plainGet K C_Shelf Str.empty = true)
    (hd_Shelf : PySem.W.hasDictIn K C_Shelf = true)
    (po_Shelf : PySem.W.plainOver K C_Shelf = true)
    (sa_Shelf : PySem.W.findIn K (.ref C_Shelf) "__setattr__" = some (some (.builtin "object.__setattr__")))
    (mk_Shelf : PySem.W.makesIn K C_Shelf = true)
    (kc_Shelf : PySem.W.keepIn K (.ref C_Shelf) = true)
    (na_Shelf_gone_till : PySem.W.findIn K (.ref C_Shelf) "gone_till" = some none)
    (na_Shelf_rows_of : PySem.W.findIn K (.ref C_Shelf) "rows_of" = some none)
    (a_Gone : PySem.W.nsIn K mainGlobals "Gone" = some (some (.ref C_Gone)))
    (ek_Gone : PySem.W.keepIn K (.ref C_Gone) = true)
    (es_Gone : PySem.W.subIn K (.ref C_Gone) (.type "BaseException") = some true)
    (et_Gone : PySem.W.typeIn K (.ref C_Gone) = some (.type "type"))
    (ej_Gone : PySem.W.isClsIn K C_Gone = true)
    (a_NoKey : PySem.W.nsIn K mainGlobals "NoKey" = some (some (.ref C_NoKey)))
    (ek_NoKey : PySem.W.keepIn K (.ref C_NoKey) = true)
    (es_NoKey : PySem.W.subIn K (.ref C_NoKey) (.type "BaseException") = some true)
    (et_NoKey : PySem.W.typeIn K (.ref C_NoKey) = some (.type "type"))
    (ej_NoKey : PySem.W.isClsIn K C_NoKey = true)
    (a_NoNumber : PySem.W.nsIn K mainGlobals "NoNumber" = some (some (.ref C_NoNumber)))
    (ei_NoNumber : PySem.W.excIn K C_NoNumber [.type "ValueError", .type "Exception", .type "BaseException", .type "object"] "ValueError.__new__" = true)
    (ek_NoNumber : PySem.W.keepIn K (.ref C_NoNumber) = true)
    (es_NoNumber : PySem.W.subIn K (.ref C_NoNumber) (.type "BaseException") = some true)
    (et_NoNumber : PySem.W.typeIn K (.ref C_NoNumber) = some (.type "type"))
    (ej_NoNumber : PySem.W.isClsIn K C_NoNumber = true)
    (a_NoStamp : PySem.W.nsIn K mainGlobals "NoStamp" = some (some (.ref C_NoStamp)))
    (ei_NoStamp : PySem.W.excIn K C_NoStamp [.type "ValueError", .type "Exception", .type "BaseException", .type "object"] "ValueError.__new__" = true)
    (ek_NoStamp : PySem.W.keepIn K (.ref C_NoStamp) = true)
    (es_NoStamp : PySem.W.subIn K (.ref C_NoStamp) (.type "BaseException") = some true)
    (et_NoStamp : PySem.W.typeIn K (.ref C_NoStamp) = some (.type "type"))
    (ej_NoStamp : PySem.W.isClsIn K C_NoStamp = true)
    (a_NoWorth : PySem.W.nsIn K mainGlobals "NoWorth" = some (some (.ref C_NoWorth)))
    (ei_NoWorth : PySem.W.excIn K C_NoWorth [.type "ValueError", .type "Exception", .type "BaseException", .type "object"] "ValueError.__new__" = true)
    (ek_NoWorth : PySem.W.keepIn K (.ref C_NoWorth) = true)
    (es_NoWorth : PySem.W.subIn K (.ref C_NoWorth) (.type "BaseException") = some true)
    (et_NoWorth : PySem.W.typeIn K (.ref C_NoWorth) = some (.type "type"))
    (ej_NoWorth : PySem.W.isClsIn K C_NoWorth = true)
    (a_WaitError : PySem.W.nsIn K mainGlobals "WaitError" = some (some (.ref C_WaitError)))
    (ei_WaitError : PySem.W.excIn K C_WaitError [.type "ValueError", .type "Exception", .type "BaseException", .type "object"] "ValueError.__new__" = true)
    (ek_WaitError : PySem.W.keepIn K (.ref C_WaitError) = true)
    (es_WaitError : PySem.W.subIn K (.ref C_WaitError) (.type "BaseException") = some true)
    (et_WaitError : PySem.W.typeIn K (.ref C_WaitError) = some (.type "type"))
    (ej_WaitError : PySem.W.isClsIn K C_WaitError = true)
    (eu_Gone_Gone : PySem.W.subIn K (.ref C_Gone) (.ref C_Gone) = some true)
    (eu_Gone_NoKey : PySem.W.subIn K (.ref C_NoKey) (.ref C_Gone) = some false)
    (eu_Gone_NoNumber : PySem.W.subIn K (.ref C_NoNumber) (.ref C_Gone) = some false)
    (eu_Gone_NoStamp : PySem.W.subIn K (.ref C_NoStamp) (.ref C_Gone) = some false)
    (eu_Gone_NoWorth : PySem.W.subIn K (.ref C_NoWorth) (.ref C_Gone) = some false)
    (eu_Gone_WaitError : PySem.W.subIn K (.ref C_WaitError) (.ref C_Gone) = some false)
    (xga_Gone : PySem.W.findIn K (.ref C_Gone) "__getattribute__" = some (some (.builtin "BaseException.__getattribute__")))
    (xgg_Gone : PySem.W.findIn K (.ref C_Gone) "__getattr__" = some none)
    (xhd_Gone : PySem.W.hasDictIn K C_Gone = true)
    (xno_Gone_time : PySem.W.findIn K (.ref C_Gone) "time" = some none)
    (xcl_Gone : PySem.W.findIn K (.ref C_Gone) "__class__" = some (some (.builtin "object.__class__")))
    (xmr_Gone : PySem.W.mroIn K C_Gone (.type "object") = some true)
    (xko_Gone_KeyError : PySem.W.kitOne K (.ref C_Gone) (.type "KeyError") = some false)
    (xko_Gone_NoNumber : PySem.W.kitOne K (.ref C_Gone) (.ref C_NoNumber) = some false)
    (xko_Gone_NoStamp : PySem.W.kitOne K (.ref C_Gone) (.ref C_NoStamp) = some false)
    (xko_Gone_NoWorth : PySem.W.kitOne K (.ref C_Gone) (.ref C_NoWorth) = some false)
    (xko_Gone_ValueError : PySem.W.kitOne K (.ref C_Gone) (.type "ValueError") = some false)
    (eu_NoKey_Gone : PySem.W.subIn K (.ref C_Gone) (.ref C_NoKey) = some false)
    (eu_NoKey_NoKey : PySem.W.subIn K (.ref C_NoKey) (.ref C_NoKey) = some true)
    (eu_NoKey_NoNumber : PySem.W.subIn K (.ref C_NoNumber) (.ref C_NoKey) = some false)
    (eu_NoKey_NoStamp : PySem.W.subIn K (.ref C_NoStamp) (.ref C_NoKey) = some false)
    (eu_NoKey_NoWorth : PySem.W.subIn K (.ref C_NoWorth) (.ref C_NoKey) = some false)
    (eu_NoKey_WaitError : PySem.W.subIn K (.ref C_WaitError) (.ref C_NoKey) = some false)
    (xga_NoKey : PySem.W.findIn K (.ref C_NoKey) "__getattribute__" = some (some (.builtin "BaseException.__getattribute__")))
    (xgg_NoKey : PySem.W.findIn K (.ref C_NoKey) "__getattr__" = some none)
    (xhd_NoKey : PySem.W.hasDictIn K C_NoKey = true)
    (xno_NoKey_key : PySem.W.findIn K (.ref C_NoKey) "key" = some none)
    (xcl_NoKey : PySem.W.findIn K (.ref C_NoKey) "__class__" = some (some (.builtin "object.__class__")))
    (xmr_NoKey : PySem.W.mroIn K C_NoKey (.type "object") = some true)
    (xko_NoKey_KeyError : PySem.W.kitOne K (.ref C_NoKey) (.type "KeyError") = some true)
    (xko_NoKey_NoNumber : PySem.W.kitOne K (.ref C_NoKey) (.ref C_NoNumber) = some false)
    (xko_NoKey_NoStamp : PySem.W.kitOne K (.ref C_NoKey) (.ref C_NoStamp) = some false)
    (xko_NoKey_NoWorth : PySem.W.kitOne K (.ref C_NoKey) (.ref C_NoWorth) = some false)
    (xko_NoKey_ValueError : PySem.W.kitOne K (.ref C_NoKey) (.type "ValueError") = some false)
    (eu_NoNumber_Gone : PySem.W.subIn K (.ref C_Gone) (.ref C_NoNumber) = some false)
    (eu_NoNumber_NoKey : PySem.W.subIn K (.ref C_NoKey) (.ref C_NoNumber) = some false)
    (eu_NoNumber_NoNumber : PySem.W.subIn K (.ref C_NoNumber) (.ref C_NoNumber) = some true)
    (eu_NoNumber_NoStamp : PySem.W.subIn K (.ref C_NoStamp) (.ref C_NoNumber) = some false)
    (eu_NoNumber_NoWorth : PySem.W.subIn K (.ref C_NoWorth) (.ref C_NoNumber) = some false)
    (eu_NoNumber_WaitError : PySem.W.subIn K (.ref C_WaitError) (.ref C_NoNumber) = some false)
    (xga_NoNumber : PySem.W.findIn K (.ref C_NoNumber) "__getattribute__" = some (some (.builtin "BaseException.__getattribute__")))
    (xgg_NoNumber : PySem.W.findIn K (.ref C_NoNumber) "__getattr__" = some none)
    (xhd_NoNumber : PySem.W.hasDictIn K C_NoNumber = true)
    (xcl_NoNumber : PySem.W.findIn K (.ref C_NoNumber) "__class__" = some (some (.builtin "object.__class__")))
    (xmr_NoNumber : PySem.W.mroIn K C_NoNumber (.type "object") = some true)
    (xko_NoNumber_KeyError : PySem.W.kitOne K (.ref C_NoNumber) (.type "KeyError") = some false)
    (xko_NoNumber_NoNumber : PySem.W.kitOne K (.ref C_NoNumber) (.ref C_NoNumber) = some true)
    (xko_NoNumber_NoStamp : PySem.W.kitOne K (.ref C_NoNumber) (.ref C_NoStamp) = some false)
    (xko_NoNumber_NoWorth : PySem.W.kitOne K (.ref C_NoNumber) (.ref C_NoWorth) = some false)
    (xko_NoNumber_ValueError : PySem.W.kitOne K (.ref C_NoNumber) (.type "ValueError") = some true)
    (eu_NoStamp_Gone : PySem.W.subIn K (.ref C_Gone) (.ref C_NoStamp) = some false)
    (eu_NoStamp_NoKey : PySem.W.subIn K (.ref C_NoKey) (.ref C_NoStamp) = some false)
    (eu_NoStamp_NoNumber : PySem.W.subIn K (.ref C_NoNumber) (.ref C_NoStamp) = some false)
    (eu_NoStamp_NoStamp : PySem.W.subIn K (.ref C_NoStamp) (.ref C_NoStamp) = some true)
    (eu_NoStamp_NoWorth : PySem.W.subIn K (.ref C_NoWorth) (.ref C_NoStamp) = some false)
    (eu_NoStamp_WaitError : PySem.W.subIn K (.ref C_WaitError) (.ref C_NoStamp) = some false)
    (xga_NoStamp : PySem.W.findIn K (.ref C_NoStamp) "__getattribute__" = some (some (.builtin "BaseException.__getattribute__")))
    (xgg_NoStamp : PySem.W.findIn K (.ref C_NoStamp) "__getattr__" = some none)
    (xhd_NoStamp : PySem.W.hasDictIn K C_NoStamp = true)
    (xcl_NoStamp : PySem.W.findIn K (.ref C_NoStamp) "__class__" = some (some (.builtin "object.__class__")))
    (xmr_NoStamp : PySem.W.mroIn K C_NoStamp (.type "object") = some true)
    (xko_NoStamp_KeyError : PySem.W.kitOne K (.ref C_NoStamp) (.type "KeyError") = some false)
    (xko_NoStamp_NoNumber : PySem.W.kitOne K (.ref C_NoStamp) (.ref C_NoNumber) = some false)
    (xko_NoStamp_NoStamp : PySem.W.kitOne K (.ref C_NoStamp) (.ref C_NoStamp) = some true)
    (xko_NoStamp_NoWorth : PySem.W.kitOne K (.ref C_NoStamp) (.ref C_NoWorth) = some false)
    (xko_NoStamp_ValueError : PySem.W.kitOne K (.ref C_NoStamp) (.type "ValueError") = some true)
    (eu_NoWorth_Gone : PySem.W.subIn K (.ref C_Gone) (.ref C_NoWorth) = some false)
    (eu_NoWorth_NoKey : PySem.W.subIn K (.ref C_NoKey) (.ref C_NoWorth) = some false)
    (eu_NoWorth_NoNumber : PySem.W.subIn K (.ref C_NoNumber) (.ref C_NoWorth) = some false)
    (eu_NoWorth_NoStamp : PySem.W.subIn K (.ref C_NoStamp) (.ref C_NoWorth) = some false)
    (eu_NoWorth_NoWorth : PySem.W.subIn K (.ref C_NoWorth) (.ref C_NoWorth) = some true)
    (eu_NoWorth_WaitError : PySem.W.subIn K (.ref C_WaitError) (.ref C_NoWorth) = some false)
    (xga_NoWorth : PySem.W.findIn K (.ref C_NoWorth) "__getattribute__" = some (some (.builtin "BaseException.__getattribute__")))
    (xgg_NoWorth : PySem.W.findIn K (.ref C_NoWorth) "__getattr__" = some none)
    (xhd_NoWorth : PySem.W.hasDictIn K C_NoWorth = true)
    (xcl_NoWorth : PySem.W.findIn K (.ref C_NoWorth) "__class__" = some (some (.builtin "object.__class__")))
    (xmr_NoWorth : PySem.W.mroIn K C_NoWorth (.type "object") = some true)
    (xko_NoWorth_KeyError : PySem.W.kitOne K (.ref C_NoWorth) (.type "KeyError") = some false)
    (xko_NoWorth_NoNumber : PySem.W.kitOne K (.ref C_NoWorth) (.ref C_NoNumber) = some false)
    (xko_NoWorth_NoStamp : PySem.W.kitOne K (.ref C_NoWorth) (.ref C_NoStamp) = some false)
    (xko_NoWorth_NoWorth : PySem.W.kitOne K (.ref C_NoWorth) (.ref C_NoWorth) = some true)
    (xko_NoWorth_ValueError : PySem.W.kitOne K (.ref C_NoWorth) (.type "ValueError") = some true)
    (eu_WaitError_Gone : PySem.W.subIn K (.ref C_Gone) (.ref C_WaitError) = some false)
    (eu_WaitError_NoKey : PySem.W.subIn K (.ref C_NoKey) (.ref C_WaitError) = some false)
    (eu_WaitError_NoNumber : PySem.W.subIn K (.ref C_NoNumber) (.ref C_WaitError) = some true)
    (eu_WaitError_NoStamp : PySem.W.subIn K (.ref C_NoStamp) (.ref C_WaitError) = some true)
    (eu_WaitError_NoWorth : PySem.W.subIn K (.ref C_NoWorth) (.ref C_WaitError) = some true)
    (eu_WaitError_WaitError : PySem.W.subIn K (.ref C_WaitError) (.ref C_WaitError) = some true)
    (xga_WaitError : PySem.W.findIn K (.ref C_WaitError) "__getattribute__" = some (some (.builtin "BaseException.__getattribute__")))
    (xgg_WaitError : PySem.W.findIn K (.ref C_WaitError) "__getattr__" = some none)
    (xhd_WaitError : PySem.W.hasDictIn K C_WaitError = true)
    (xcl_WaitError : PySem.W.findIn K (.ref C_WaitError) "__class__" = some (some (.builtin "object.__class__")))
    (xmr_WaitError : PySem.W.mroIn K C_WaitError (.type "object") = some true)
    (xko_WaitError_KeyError : PySem.W.kitOne K (.ref C_WaitError) (.type "KeyError") = some false)
    (xko_WaitError_NoNumber : PySem.W.kitOne K (.ref C_WaitError) (.ref C_NoNumber) = some false)
    (xko_WaitError_NoStamp : PySem.W.kitOne K (.ref C_WaitError) (.ref C_NoStamp) = some false)
    (xko_WaitError_NoWorth : PySem.W.kitOne K (.ref C_WaitError) (.ref C_NoWorth) = some false)
    (xko_WaitError_ValueError : PySem.W.kitOne K (.ref C_WaitError) (.type "ValueError") = some true)
    (xsp : PySem.W.specialIn K (.builtin "object.__class__") "__get__" = some (some (.builtin "getset_descriptor.__get__")))
    (xtk : PySem.W.takesIn K (.builtin "object.__class__") = some true)
    (xin_NoKey : PySem.W.excInitIn K C_NoKey [.type "KeyError", .type "LookupError", .type "Exception", .type "BaseException", .type "object"] "LookupError.__new__" = true)
    (xov_NoKey : PySem.W.excOver K C_NoKey [.type "KeyError", .type "LookupError", .type "Exception", .type "BaseException", .type "object"] = true)
    (xsa_NoKey : PySem.W.findIn K (.ref C_NoKey) "__setattr__" = some (some (.builtin "object.__setattr__")))
    (xa_NoKey : PySem.W.findIn K (.ref C_NoKey) "__init__" = some (some (.ref f_XNoKey)))
    (xi_NoKey : PySem.W.isFn K (.ref f_XNoKey) = true)
    (xl_NoKey : K.lookup f_XNoKey = some ⟨oc_XNoKey, od_XNoKey, .func (PySem.W.fnOf "__init__" "NoKey.__init__" (defArgs s_NoKey_init) (defBody s_NoKey_init) (defScope s_NoKey_init) dV_XNoKey kV_XNoKey dc_XNoKey pm_XNoKey an_XNoKey cd_XNoKey ct_XNoKey), sl_XNoKey⟩)
    (xc_NoKey : PySem.W.codeIn K cd_XNoKey "NoKey.__init__" = true)
    (xk_NoKey : PySem.W.keepIn K (.ref f_XNoKey) = true)
    (e_XNoKey : dV_XNoKey = .none)
    (xq3_KeyError : PySem.W.findCls K (.type "KeyError") (.type "type") "__init__" = some (.val (.builtin "KeyError.__init__")))
    (xin_Gone : PySem.W.excInitIn K C_Gone [.type "LookupError", .type "Exception", .type "BaseException", .type "object"] "LookupError.__new__" = true)
    (xov_Gone : PySem.W.excOver K C_Gone [.type "LookupError", .type "Exception", .type "BaseException", .type "object"] = true)
    (xsa_Gone : PySem.W.findIn K (.ref C_Gone) "__setattr__" = some (some (.builtin "object.__setattr__")))
    (xa_Gone : PySem.W.findIn K (.ref C_Gone) "__init__" = some (some (.ref f_XGone)))
    (xi_Gone : PySem.W.isFn K (.ref f_XGone) = true)
    (xl_Gone : K.lookup f_XGone = some ⟨oc_XGone, od_XGone, .func (PySem.W.fnOf "__init__" "Gone.__init__" (defArgs s_Gone_init) (defBody s_Gone_init) (defScope s_Gone_init) dV_XGone kV_XGone dc_XGone pm_XGone an_XGone cd_XGone ct_XGone), sl_XGone⟩)
    (xc_Gone : PySem.W.codeIn K cd_XGone "Gone.__init__" = true)
    (xk_Gone : PySem.W.keepIn K (.ref f_XGone) = true)
    (e_XGone : dV_XGone = .none)
    (z_LookupError : PySem.W.nsIn K mainGlobals "LookupError" = some none)
    (xq3_LookupError : PySem.W.findCls K (.type "LookupError") (.type "type") "__init__" = some (.val (.builtin "LookupError.__init__")))
    (a_LETTERS : PySem.W.nsIn K mainGlobals "LETTERS" = some (some u_LETTERS))
    (t_LETTERS : ScaF u_LETTERS (.str "abcdefghijklmnopqrstuvwxyz"))
    (a_LONGEST : PySem.W.nsIn K mainGlobals "LONGEST" = some (some u_LONGEST))
    (t_LONGEST : ScaF u_LONGEST (.int 6))
    (a_MOST_FIELDS : PySem.W.nsIn K mainGlobals "MOST_FIELDS" = some (some u_MOST_FIELDS))
    (t_MOST_FIELDS : ScaF u_MOST_FIELDS (.int 4))
    (a_law_begun : PySem.W.nsIn K mainGlobals "_law_begun" = some (some (.ref f_law_begun)))
    (l_law_begun : K.lookup f_law_begun = some ⟨oc_law_begun, od_law_begun, .func (PySem.W.fnOf "_law_begun" "_law_begun" (defArgs s_law_begun) (defBody s_law_begun) (defScope s_law_begun) dV_law_begun kV_law_begun dc_law_begun pm_law_begun an_law_begun cd_law_begun ct_law_begun), sl_law_begun⟩)
    (c_law_begun : PySem.W.codeIn K cd_law_begun "_law_begun" = true)
    (k_law_begun : PySem.W.keepIn K (.ref f_law_begun) = true)
    (e_law_begun : dV_law_begun = .none)
    (a_Shelf_init : PySem.W.findIn K (.ref C_Shelf) "__init__" = some (some (.ref f_Shelf_init)))
    (i_Shelf_init : PySem.W.isFn K (.ref f_Shelf_init) = true)
    (l_Shelf_init : K.lookup f_Shelf_init = some ⟨oc_Shelf_init, od_Shelf_init, .func (PySem.W.fnOf "__init__" "Shelf.__init__" (defArgs s_Shelf_init) (defBody s_Shelf_init) (defScope s_Shelf_init) dV_Shelf_init kV_Shelf_init dc_Shelf_init pm_Shelf_init an_Shelf_init cd_Shelf_init ct_Shelf_init), sl_Shelf_init⟩)
    (c_Shelf_init : PySem.W.codeIn K cd_Shelf_init "Shelf.__init__" = true)
    (k_Shelf_init : PySem.W.keepIn K (.ref f_Shelf_init) = true)
    (e_Shelf_init : dV_Shelf_init = .none)
    (a_law_take : PySem.W.nsIn K mainGlobals "_law_take" = some (some (.ref f_law_take)))
    (l_law_take : K.lookup f_law_take = some ⟨oc_law_take, od_law_take, .func (PySem.W.fnOf "_law_take" "_law_take" (defArgs s_law_take) (defBody s_law_take) (defScope s_law_take) dV_law_take kV_law_take dc_law_take pm_law_take an_law_take cd_law_take ct_law_take), sl_law_take⟩)
    (c_law_take : PySem.W.codeIn K cd_law_take "_law_take" = true)
    (k_law_take : PySem.W.keepIn K (.ref f_law_take) = true)
    (e_law_take : dV_law_take = .none)
    (a_law_key : PySem.W.nsIn K mainGlobals "_law_key" = some (some (.ref f_law_key)))
    (l_law_key : K.lookup f_law_key = some ⟨oc_law_key, od_law_key, .func (PySem.W.fnOf "_law_key" "_law_key" (defArgs s_law_key) (defBody s_law_key) (defScope s_law_key) dV_law_key kV_law_key dc_law_key pm_law_key an_law_key cd_law_key ct_law_key), sl_law_key⟩)
    (c_law_key : PySem.W.codeIn K cd_law_key "_law_key" = true)
    (k_law_key : PySem.W.keepIn K (.ref f_law_key) = true)
    (e_law_key : dV_law_key = .none)
    (a_law_stamp : PySem.W.nsIn K mainGlobals "_law_stamp" = some (some (.ref f_law_stamp)))
    (l_law_stamp : K.lookup f_law_stamp = some ⟨oc_law_stamp, od_law_stamp, .func (PySem.W.fnOf "_law_stamp" "_law_stamp" (defArgs s_law_stamp) (defBody s_law_stamp) (defScope s_law_stamp) dV_law_stamp kV_law_stamp dc_law_stamp pm_law_stamp an_law_stamp cd_law_stamp ct_law_stamp), sl_law_stamp⟩)
    (c_law_stamp : PySem.W.codeIn K cd_law_stamp "_law_stamp" = true)
    (k_law_stamp : PySem.W.keepIn K (.ref f_law_stamp) = true)
    (e_law_stamp : dV_law_stamp = .none)
    (a_is_key : PySem.W.nsIn K mainGlobals "is_key" = some (some (.ref f_is_key)))
    (l_is_key : K.lookup f_is_key = some ⟨oc_is_key, od_is_key, .func (PySem.W.fnOf "is_key" "is_key" (defArgs s_is_key) (defBody s_is_key) (defScope s_is_key) dV_is_key kV_is_key dc_is_key pm_is_key an_is_key cd_is_key ct_is_key), sl_is_key⟩)
    (c_is_key : PySem.W.codeIn K cd_is_key "is_key" = true)
    (k_is_key : PySem.W.keepIn K (.ref f_is_key) = true)
    (e_is_key : dV_is_key = .none)
    (a_look_at_key : PySem.W.nsIn K mainGlobals "look_at_key" = some (some (.ref f_look_at_key)))
    (l_look_at_key : K.lookup f_look_at_key = some ⟨oc_look_at_key, od_look_at_key, .func (PySem.W.fnOf "look_at_key" "look_at_key" (defArgs s_look_at_key) (defBody s_look_at_key) (defScope s_look_at_key) dV_look_at_key kV_look_at_key dc_look_at_key pm_look_at_key an_look_at_key cd_look_at_key ct_look_at_key), sl_look_at_key⟩)
    (c_look_at_key : PySem.W.codeIn K cd_look_at_key "look_at_key" = true)
    (k_look_at_key : PySem.W.keepIn K (.ref f_look_at_key) = true)
    (e_look_at_key : dV_look_at_key = .none)
    (a_is_whole : PySem.W.nsIn K mainGlobals "is_whole" = some (some (.ref f_is_whole)))
    (l_is_whole : K.lookup f_is_whole = some ⟨oc_is_whole, od_is_whole, .func (PySem.W.fnOf "is_whole" "is_whole" (defArgs s_is_whole) (defBody s_is_whole) (defScope s_is_whole) dV_is_whole kV_is_whole dc_is_whole pm_is_whole an_is_whole cd_is_whole ct_is_whole), sl_is_whole⟩)
    (c_is_whole : PySem.W.codeIn K cd_is_whole "is_whole" = true)
    (k_is_whole : PySem.W.keepIn K (.ref f_is_whole) = true)
    (e_is_whole : dV_is_whole = .none)
    (a_is_worth : PySem.W.nsIn K mainGlobals "is_worth" = some (some (.ref f_is_worth)))
    (l_is_worth : K.lookup f_is_worth = some ⟨oc_is_worth, od_is_worth, .func (PySem.W.fnOf "is_worth" "is_worth" (defArgs s_is_worth) (defBody s_is_worth) (defScope s_is_worth) dV_is_worth kV_is_worth dc_is_worth pm_is_worth an_is_worth cd_is_worth ct_is_worth), sl_is_worth⟩)
    (c_is_worth : PySem.W.codeIn K cd_is_worth "is_worth" = true)
    (k_is_worth : PySem.W.keepIn K (.ref f_is_worth) = true)
    (e_is_worth : dV_is_worth = .none)
    (a_is_stamp : PySem.W.nsIn K mainGlobals "is_stamp" = some (some (.ref f_is_stamp)))
    (l_is_stamp : K.lookup f_is_stamp = some ⟨oc_is_stamp, od_is_stamp, .func (PySem.W.fnOf "is_stamp" "is_stamp" (defArgs s_is_stamp) (defBody s_is_stamp) (defScope s_is_stamp) dV_is_stamp kV_is_stamp dc_is_stamp pm_is_stamp an_is_stamp cd_is_stamp ct_is_stamp), sl_is_stamp⟩)
    (c_is_stamp : PySem.W.codeIn K cd_is_stamp "is_stamp" = true)
    (k_is_stamp : PySem.W.keepIn K (.ref f_is_stamp) = true)
    (e_is_stamp : dV_is_stamp = .none)
    (a_Shelf_put : PySem.W.findIn K (.ref C_Shelf) "put" = some (some (.ref f_Shelf_put)))
    (i_Shelf_put : PySem.W.isFn K (.ref f_Shelf_put) = true)
    (l_Shelf_put : K.lookup f_Shelf_put = some ⟨oc_Shelf_put, od_Shelf_put, .func (PySem.W.fnOf "put" "Shelf.put" (defArgs s_Shelf_put) (defBody s_Shelf_put) (defScope s_Shelf_put) dV_Shelf_put kV_Shelf_put dc_Shelf_put pm_Shelf_put an_Shelf_put cd_Shelf_put ct_Shelf_put), sl_Shelf_put⟩)
    (c_Shelf_put : PySem.W.codeIn K cd_Shelf_put "Shelf.put" = true)
    (k_Shelf_put : PySem.W.keepIn K (.ref f_Shelf_put) = true)
    (e_Shelf_put : dV_Shelf_put = .none)
    (a_law_worth : PySem.W.nsIn K mainGlobals "_law_worth" = some (some (.ref f_law_worth)))
    (l_law_worth : K.lookup f_law_worth = some ⟨oc_law_worth, od_law_worth, .func (PySem.W.fnOf "_law_worth" "_law_worth" (defArgs s_law_worth) (defBody s_law_worth) (defScope s_law_worth) dV_law_worth kV_law_worth dc_law_worth pm_law_worth an_law_worth cd_law_worth ct_law_worth), sl_law_worth⟩)
    (c_law_worth : PySem.W.codeIn K cd_law_worth "_law_worth" = true)
    (k_law_worth : PySem.W.keepIn K (.ref f_law_worth) = true)
    (e_law_worth : dV_law_worth = .none)
    (a_law_filled : PySem.W.nsIn K mainGlobals "_law_filled" = some (some (.ref f_law_filled)))
    (l_law_filled : K.lookup f_law_filled = some ⟨oc_law_filled, od_law_filled, .func (PySem.W.fnOf "_law_filled" "_law_filled" (defArgs s_law_filled) (defBody s_law_filled) (defScope s_law_filled) dV_law_filled kV_law_filled dc_law_filled pm_law_filled an_law_filled cd_law_filled ct_law_filled), sl_law_filled⟩)
    (c_law_filled : PySem.W.codeIn K cd_law_filled "_law_filled" = true)
    (k_law_filled : PySem.W.keepIn K (.ref f_law_filled) = true)
    (e_law_filled : dV_law_filled = .none)
    (a_Shelf_let_go : PySem.W.findIn K (.ref C_Shelf) "let_go" = some (some (.ref f_Shelf_let_go)))
    (i_Shelf_let_go : PySem.W.isFn K (.ref f_Shelf_let_go) = true)
    (l_Shelf_let_go : K.lookup f_Shelf_let_go = some ⟨oc_Shelf_let_go, od_Shelf_let_go, .func (PySem.W.fnOf "let_go" "Shelf.let_go" (defArgs s_Shelf_let_go) (defBody s_Shelf_let_go) (defScope s_Shelf_let_go) dV_Shelf_let_go kV_Shelf_let_go dc_Shelf_let_go pm_Shelf_let_go an_Shelf_let_go cd_Shelf_let_go ct_Shelf_let_go), sl_Shelf_let_go⟩)
    (c_Shelf_let_go : PySem.W.codeIn K cd_Shelf_let_go "Shelf.let_go" = true)
    (k_Shelf_let_go : PySem.W.keepIn K (.ref f_Shelf_let_go) = true)
    (e_Shelf_let_go : dV_Shelf_let_go = .none)
    (a_Shelf_all_keys : PySem.W.findIn K (.ref C_Shelf) "all_keys" = some (some (.ref f_Shelf_all_keys)))
    (i_Shelf_all_keys : PySem.W.isFn K (.ref f_Shelf_all_keys) = true)
    (l_Shelf_all_keys : K.lookup f_Shelf_all_keys = some ⟨oc_Shelf_all_keys, od_Shelf_all_keys, .func (PySem.W.fnOf "all_keys" "Shelf.all_keys" (defArgs s_Shelf_all_keys) (defBody s_Shelf_all_keys) (defScope s_Shelf_all_keys) dV_Shelf_all_keys kV_Shelf_all_keys dc_Shelf_all_keys pm_Shelf_all_keys an_Shelf_all_keys cd_Shelf_all_keys ct_Shelf_all_keys), sl_Shelf_all_keys⟩)
    (c_Shelf_all_keys : PySem.W.codeIn K cd_Shelf_all_keys "Shelf.all_keys" = true)
    (k_Shelf_all_keys : PySem.W.keepIn K (.ref f_Shelf_all_keys) = true)
    (e_Shelf_all_keys : dV_Shelf_all_keys = .none)
    (a_Shelf_len : PySem.W.findIn K (.ref C_Shelf) "__len__" = some (some (.ref f_Shelf_len)))
    (i_Shelf_len : PySem.W.isFn K (.ref f_Shelf_len) = true)
    (l_Shelf_len : K.lookup f_Shelf_len = some ⟨oc_Shelf_len, od_Shelf_len, .func (PySem.W.fnOf "__len__" "Shelf.__len__" (defArgs s_Shelf_len) (defBody s_Shelf_len) (defScope s_Shelf_len) dV_Shelf_len kV_Shelf_len dc_Shelf_len pm_Shelf_len an_Shelf_len cd_Shelf_len ct_Shelf_len), sl_Shelf_len⟩)
    (c_Shelf_len : PySem.W.codeIn K cd_Shelf_len "Shelf.__len__" = true)
    (k_Shelf_len : PySem.W.keepIn K (.ref f_Shelf_len) = true)
    (e_Shelf_len : dV_Shelf_len = .none)
    (a_Shelf_versions : PySem.W.findIn K (.ref C_Shelf) "versions" = some (some (.ref f_Shelf_versions)))
    (i_Shelf_versions : PySem.W.isFn K (.ref f_Shelf_versions) = true)
    (l_Shelf_versions : K.lookup f_Shelf_versions = some ⟨oc_Shelf_versions, od_Shelf_versions, .func (PySem.W.fnOf "versions" "Shelf.versions" (defArgs s_Shelf_versions) (defBody s_Shelf_versions) (defScope s_Shelf_versions) dV_Shelf_versions kV_Shelf_versions dc_Shelf_versions pm_Shelf_versions an_Shelf_versions cd_Shelf_versions ct_Shelf_versions), sl_Shelf_versions⟩)
    (c_Shelf_versions : PySem.W.codeIn K cd_Shelf_versions "Shelf.versions" = true)
    (k_Shelf_versions : PySem.W.keepIn K (.ref f_Shelf_versions) = true)
    (e_Shelf_versions : dV_Shelf_versions = .none)
    (a_law_state : PySem.W.nsIn K mainGlobals "_law_state" = some (some (.ref f_law_state)))
    (l_law_state : K.lookup f_law_state = some ⟨oc_law_state, od_law_state, .func (PySem.W.fnOf "_law_state" "_law_state" (defArgs s_law_state) (defBody s_law_state) (defScope s_law_state) dV_law_state kV_law_state dc_law_state pm_law_state an_law_state cd_law_state ct_law_state), sl_law_state⟩)
    (c_law_state : PySem.W.codeIn K cd_law_state "_law_state" = true)
    (k_law_state : PySem.W.keepIn K (.ref f_law_state) = true)
    (e_law_state : dV_law_state = .none)
    (a_law_kind : PySem.W.nsIn K mainGlobals "_law_kind" = some (some (.ref f_law_kind)))
    (l_law_kind : K.lookup f_law_kind = some ⟨oc_law_kind, od_law_kind, .func (PySem.W.fnOf "_law_kind" "_law_kind" (defArgs s_law_kind) (defBody s_law_kind) (defScope s_law_kind) dV_law_kind kV_law_kind dc_law_kind pm_law_kind an_law_kind cd_law_kind ct_law_kind), sl_law_kind⟩)
    (c_law_kind : PySem.W.codeIn K cd_law_kind "_law_kind" = true)
    (k_law_kind : PySem.W.keepIn K (.ref f_law_kind) = true)
    (e_law_kind : dV_law_kind = .none)
    (a_Shelf_at : PySem.W.findIn K (.ref C_Shelf) "at" = some (some (.ref f_Shelf_at)))
    (i_Shelf_at : PySem.W.isFn K (.ref f_Shelf_at) = true)
    (l_Shelf_at : K.lookup f_Shelf_at = some ⟨oc_Shelf_at, od_Shelf_at, .func (PySem.W.fnOf "at" "Shelf.at" (defArgs s_Shelf_at) (defBody s_Shelf_at) (defScope s_Shelf_at) dV_Shelf_at kV_Shelf_at dc_Shelf_at pm_Shelf_at an_Shelf_at cd_Shelf_at ct_Shelf_at), sl_Shelf_at⟩)
    (c_Shelf_at : PySem.W.codeIn K cd_Shelf_at "Shelf.at" = true)
    (k_Shelf_at : PySem.W.keepIn K (.ref f_Shelf_at) = true)
    (e_Shelf_at : dV_Shelf_at = .none)
    (a_Shelf_newest : PySem.W.findIn K (.ref C_Shelf) "newest" = some (some (.ref f_Shelf_newest)))
    (i_Shelf_newest : PySem.W.isFn K (.ref f_Shelf_newest) = true)
    (l_Shelf_newest : K.lookup f_Shelf_newest = some ⟨oc_Shelf_newest, od_Shelf_newest, .func (PySem.W.fnOf "newest" "Shelf.newest" (defArgs s_Shelf_newest) (defBody s_Shelf_newest) (defScope s_Shelf_newest) dV_Shelf_newest kV_Shelf_newest dc_Shelf_newest pm_Shelf_newest an_Shelf_newest cd_Shelf_newest ct_Shelf_newest), sl_Shelf_newest⟩)
    (c_Shelf_newest : PySem.W.codeIn K cd_Shelf_newest "Shelf.newest" = true)
    (k_Shelf_newest : PySem.W.keepIn K (.ref f_Shelf_newest) = true)
    (e_Shelf_newest : dV_Shelf_newest = .none)
    (a_law_said : PySem.W.nsIn K mainGlobals "_law_said" = some (some (.ref f_law_said)))
    (l_law_said : K.lookup f_law_said = some ⟨oc_law_said, od_law_said, .func (PySem.W.fnOf "_law_said" "_law_said" (defArgs s_law_said) (defBody s_law_said) (defScope s_law_said) dV_law_said kV_law_said dc_law_said pm_law_said an_law_said cd_law_said ct_law_said), sl_law_said⟩)
    (c_law_said : PySem.W.codeIn K cd_law_said "_law_said" = true)
    (k_law_said : PySem.W.keepIn K (.ref f_law_said) = true)
    (e_law_said : dV_law_said = .none)
    (a_law_is_gone : PySem.W.nsIn K mainGlobals "_law_is_gone" = some (some (.ref f_law_is_gone)))
    (l_law_is_gone : K.lookup f_law_is_gone = some ⟨oc_law_is_gone, od_law_is_gone, .func (PySem.W.fnOf "_law_is_gone" "_law_is_gone" (defArgs s_law_is_gone) (defBody s_law_is_gone) (defScope s_law_is_gone) dV_law_is_gone kV_law_is_gone dc_law_is_gone pm_law_is_gone an_law_is_gone cd_law_is_gone ct_law_is_gone), sl_law_is_gone⟩)
    (c_law_is_gone : PySem.W.codeIn K cd_law_is_gone "_law_is_gone" = true)
    (k_law_is_gone : PySem.W.keepIn K (.ref f_law_is_gone) = true)
    (e_law_is_gone : dV_law_is_gone = .none)
    (a_law : PySem.W.nsIn K mainGlobals "law" = some (some (.ref f_law)))
    (l_law : K.lookup f_law = some ⟨oc_law, od_law, .func (PySem.W.fnOf "law" "law" (defArgs s_law) (defBody s_law) (defScope s_law) dV_law kV_law dc_law pm_law an_law cd_law ct_law), sl_law⟩)
    (c_law : PySem.W.codeIn K cd_law "law" = true)
    (k_law : PySem.W.keepIn K (.ref f_law) = true)
    (e_law : dV_law = .none)
    : ∃ fd : FuncData, (∀ (s : Shared) (v : Value), BindsTo s fd ⟨[v], []⟩ [("_law_script", v)]) ∧ ∀ base : Heap, K.In base → base.Ns mainGlobals mg → FnG l.prog w K mg base 7 fa fd ["_law_script"] (lawSp K) := by
  have q0 : f_law = fa := by
    have q := (PySem.W.mg_of X G a_law).symm.trans hfa
    injection q with q; injection q
  subst q0
  subst e_law_begun
  subst e_Shelf_init
  subst e_law_take
  subst e_law_key
  subst e_law_stamp
  subst e_is_key
  subst e_look_at_key
  subst e_is_whole
  subst e_is_worth
  subst e_is_stamp
  subst e_Shelf_put
  subst e_law_worth
  subst e_law_filled
  subst e_Shelf_let_go
  subst e_Shelf_all_keys
  subst e_Shelf_len
  subst e_Shelf_versions
  subst e_law_state
  subst e_law_kind
  subst e_Shelf_at
  subst e_Shelf_newest
  subst e_law_said
  subst e_law_is_gone
  subst e_law
  subst e_XNoKey
  subst e_XGone
  have cl_Shelf : Cls K C_Shelf := ⟨pg_Shelf, hd_Shelf, po_Shelf, sa_Shelf⟩
  let e : Env := { C_Shelf := C_Shelf, C_Gone := C_Gone, C_NoKey := C_NoKey, C_NoNumber := C_NoNumber, C_NoStamp := C_NoStamp, C_NoWorth := C_NoWorth, C_WaitError := C_WaitError, xm := fun c u b => PySem.W.exmOne K u c = some b, xf := XfOk K, ec := EcOk K, ok := AttrOk K, ic := IsiOk K }
  have gd : e.Good := ⟨trivial, ⟨cl_Shelf, na_Shelf_gone_till⟩, ⟨cl_Shelf, na_Shelf_rows_of⟩, exm_of es_Gone ej_Gone et_Gone eu_Gone_Gone, exm_of es_Gone ej_Gone et_Gone eu_Gone_NoKey, exm_of es_Gone ej_Gone et_Gone eu_Gone_NoNumber, exm_of es_Gone ej_Gone et_Gone eu_Gone_NoStamp, exm_of es_Gone ej_Gone et_Gone eu_Gone_NoWorth, exm_of es_Gone ej_Gone et_Gone eu_Gone_WaitError, exm_of es_NoKey ej_NoKey et_NoKey eu_NoKey_Gone, exm_of es_NoKey ej_NoKey et_NoKey eu_NoKey_NoKey, exm_of es_NoKey ej_NoKey et_NoKey eu_NoKey_NoNumber, exm_of es_NoKey ej_NoKey et_NoKey eu_NoKey_NoStamp, exm_of es_NoKey ej_NoKey et_NoKey eu_NoKey_NoWorth, exm_of es_NoKey ej_NoKey et_NoKey eu_NoKey_WaitError, exm_of es_NoNumber ej_NoNumber et_NoNumber eu_NoNumber_Gone, exm_of es_NoNumber ej_NoNumber et_NoNumber eu_NoNumber_NoKey, exm_of es_NoNumber ej_NoNumber et_NoNumber eu_NoNumber_NoNumber, exm_of es_NoNumber ej_NoNumber et_NoNumber eu_NoNumber_NoStamp, exm_of es_NoNumber ej_NoNumber et_NoNumber eu_NoNumber_NoWorth, exm_of es_NoNumber ej_NoNumber et_NoNumber eu_NoNumber_WaitError, exm_of es_NoStamp ej_NoStamp et_NoStamp eu_NoStamp_Gone, exm_of es_NoStamp ej_NoStamp et_NoStamp eu_NoStamp_NoKey, exm_of es_NoStamp ej_NoStamp et_NoStamp eu_NoStamp_NoNumber, exm_of es_NoStamp ej_NoStamp et_NoStamp eu_NoStamp_NoStamp, exm_of es_NoStamp ej_NoStamp et_NoStamp eu_NoStamp_NoWorth, exm_of es_NoStamp ej_NoStamp et_NoStamp eu_NoStamp_WaitError, exm_of es_NoWorth ej_NoWorth et_NoWorth eu_NoWorth_Gone, exm_of es_NoWorth ej_NoWorth et_NoWorth eu_NoWorth_NoKey, exm_of es_NoWorth ej_NoWorth et_NoWorth eu_NoWorth_NoNumber, exm_of es_NoWorth ej_NoWorth et_NoWorth eu_NoWorth_NoStamp, exm_of es_NoWorth ej_NoWorth et_NoWorth eu_NoWorth_NoWorth, exm_of es_NoWorth ej_NoWorth et_NoWorth eu_NoWorth_WaitError, exm_of es_WaitError ej_WaitError et_WaitError eu_WaitError_Gone, exm_of es_WaitError ej_WaitError et_WaitError eu_WaitError_NoKey, exm_of es_WaitError ej_WaitError et_WaitError eu_WaitError_NoNumber, exm_of es_WaitError ej_WaitError et_WaitError eu_WaitError_NoStamp, exm_of es_WaitError ej_WaitError et_WaitError eu_WaitError_NoWorth, exm_of es_WaitError ej_WaitError et_WaitError eu_WaitError_WaitError, ⟨⟨xga_Gone, xgg_Gone, es_Gone, xhd_Gone⟩, xno_Gone_time⟩, ⟨⟨⟨xga_Gone, xgg_Gone, es_Gone, xhd_Gone⟩, xcl_Gone, xsp, xtk, xmr_Gone⟩, xko_Gone_KeyError⟩, ⟨⟨⟨xga_Gone, xgg_Gone, es_Gone, xhd_Gone⟩, xcl_Gone, xsp, xtk, xmr_Gone⟩, xko_Gone_NoNumber⟩, ⟨⟨⟨xga_Gone, xgg_Gone, es_Gone, xhd_Gone⟩, xcl_Gone, xsp, xtk, xmr_Gone⟩, xko_Gone_NoStamp⟩, ⟨⟨⟨xga_Gone, xgg_Gone, es_Gone, xhd_Gone⟩, xcl_Gone, xsp, xtk, xmr_Gone⟩, xko_Gone_NoWorth⟩, ⟨⟨⟨xga_Gone, xgg_Gone, es_Gone, xhd_Gone⟩, xcl_Gone, xsp, xtk, xmr_Gone⟩, xko_Gone_ValueError⟩, ⟨⟨xga_NoKey, xgg_NoKey, es_NoKey, xhd_NoKey⟩, xno_NoKey_key⟩, ⟨⟨⟨xga_NoKey, xgg_NoKey, es_NoKey, xhd_NoKey⟩, xcl_NoKey, xsp, xtk, xmr_NoKey⟩, xko_NoKey_KeyError⟩, ⟨⟨⟨xga_NoKey, xgg_NoKey, es_NoKey, xhd_NoKey⟩, xcl_NoKey, xsp, xtk, xmr_NoKey⟩, xko_NoKey_NoNumber⟩, ⟨⟨⟨xga_NoKey, xgg_NoKey, es_NoKey, xhd_NoKey⟩, xcl_NoKey, xsp, xtk, xmr_NoKey⟩, xko_NoKey_NoStamp⟩, ⟨⟨⟨xga_NoKey, xgg_NoKey, es_NoKey, xhd_NoKey⟩, xcl_NoKey, xsp, xtk, xmr_NoKey⟩, xko_NoKey_NoWorth⟩, ⟨⟨⟨xga_NoKey, xgg_NoKey, es_NoKey, xhd_NoKey⟩, xcl_NoKey, xsp, xtk, xmr_NoKey⟩, xko_NoKey_ValueError⟩, ⟨⟨⟨xga_NoNumber, xgg_NoNumber, es_NoNumber, xhd_NoNumber⟩, xcl_NoNumber, xsp, xtk, xmr_NoNumber⟩, xko_NoNumber_KeyError⟩, ⟨⟨⟨xga_NoNumber, xgg_NoNumber, es_NoNumber, xhd_NoNumber⟩, xcl_NoNumber, xsp, xtk, xmr_NoNumber⟩, xko_NoNumber_NoNumber⟩, ⟨⟨⟨xga_NoNumber, xgg_NoNumber, es_NoNumber, xhd_NoNumber⟩, xcl_NoNumber, xsp, xtk, xmr_NoNumber⟩, xko_NoNumber_NoStamp⟩, ⟨⟨⟨xga_NoNumber, xgg_NoNumber, es_NoNumber, xhd_NoNumber⟩, xcl_NoNumber, xsp, xtk, xmr_NoNumber⟩, xko_NoNumber_NoWorth⟩, ⟨⟨⟨xga_NoNumber, xgg_NoNumber, es_NoNumber, xhd_NoNumber⟩, xcl_NoNumber, xsp, xtk, xmr_NoNumber⟩, xko_NoNumber_ValueError⟩, ⟨⟨⟨xga_NoStamp, xgg_NoStamp, es_NoStamp, xhd_NoStamp⟩, xcl_NoStamp, xsp, xtk, xmr_NoStamp⟩, xko_NoStamp_KeyError⟩, ⟨⟨⟨xga_NoStamp, xgg_NoStamp, es_NoStamp, xhd_NoStamp⟩, xcl_NoStamp, xsp, xtk, xmr_NoStamp⟩, xko_NoStamp_NoNumber⟩, ⟨⟨⟨xga_NoStamp, xgg_NoStamp, es_NoStamp, xhd_NoStamp⟩, xcl_NoStamp, xsp, xtk, xmr_NoStamp⟩, xko_NoStamp_NoStamp⟩, ⟨⟨⟨xga_NoStamp, xgg_NoStamp, es_NoStamp, xhd_NoStamp⟩, xcl_NoStamp, xsp, xtk, xmr_NoStamp⟩, xko_NoStamp_NoWorth⟩, ⟨⟨⟨xga_NoStamp, xgg_NoStamp, es_NoStamp, xhd_NoStamp⟩, xcl_NoStamp, xsp, xtk, xmr_NoStamp⟩, xko_NoStamp_ValueError⟩, ⟨⟨⟨xga_NoWorth, xgg_NoWorth, es_NoWorth, xhd_NoWorth⟩, xcl_NoWorth, xsp, xtk, xmr_NoWorth⟩, xko_NoWorth_KeyError⟩, ⟨⟨⟨xga_NoWorth, xgg_NoWorth, es_NoWorth, xhd_NoWorth⟩, xcl_NoWorth, xsp, xtk, xmr_NoWorth⟩, xko_NoWorth_NoNumber⟩, ⟨⟨⟨xga_NoWorth, xgg_NoWorth, es_NoWorth, xhd_NoWorth⟩, xcl_NoWorth, xsp, xtk, xmr_NoWorth⟩, xko_NoWorth_NoStamp⟩, ⟨⟨⟨xga_NoWorth, xgg_NoWorth, es_NoWorth, xhd_NoWorth⟩, xcl_NoWorth, xsp, xtk, xmr_NoWorth⟩, xko_NoWorth_NoWorth⟩, ⟨⟨⟨xga_NoWorth, xgg_NoWorth, es_NoWorth, xhd_NoWorth⟩, xcl_NoWorth, xsp, xtk, xmr_NoWorth⟩, xko_NoWorth_ValueError⟩, ⟨⟨⟨xga_WaitError, xgg_WaitError, es_WaitError, xhd_WaitError⟩, xcl_WaitError, xsp, xtk, xmr_WaitError⟩, xko_WaitError_KeyError⟩, ⟨⟨⟨xga_WaitError, xgg_WaitError, es_WaitError, xhd_WaitError⟩, xcl_WaitError, xsp, xtk, xmr_WaitError⟩, xko_WaitError_NoNumber⟩, ⟨⟨⟨xga_WaitError, xgg_WaitError, es_WaitError, xhd_WaitError⟩, xcl_WaitError, xsp, xtk, xmr_WaitError⟩, xko_WaitError_NoStamp⟩, ⟨⟨⟨xga_WaitError, xgg_WaitError, es_WaitError, xhd_WaitError⟩, xcl_WaitError, xsp, xtk, xmr_WaitError⟩, xko_WaitError_NoWorth⟩, ⟨⟨⟨xga_WaitError, xgg_WaitError, es_WaitError, xhd_WaitError⟩, xcl_WaitError, xsp, xtk, xmr_WaitError⟩, xko_WaitError_ValueError⟩⟩
  obtain ⟨dvs_XNoKey, hdd_XNoKey, F_XNoKey⟩ := fun_nd xl_NoKey xc_NoKey xk_NoKey
  obtain ⟨dvs_XGone, hdd_XGone, F_XGone⟩ := fun_nd xl_Gone xc_Gone xk_Gone
  obtain ⟨dvs_law_begun, hdd_law_begun, F_law_begun⟩ := fun_nd l_law_begun c_law_begun k_law_begun
  obtain ⟨dvs_Shelf_init, hdd_Shelf_init, F_Shelf_init⟩ := fun_nd l_Shelf_init c_Shelf_init k_Shelf_init
  obtain ⟨dvs_law_take, hdd_law_take, F_law_take⟩ := fun_nd l_law_take c_law_take k_law_take
  obtain ⟨dvs_law_key, hdd_law_key, F_law_key⟩ := fun_nd l_law_key c_law_key k_law_key
  obtain ⟨dvs_law_stamp, hdd_law_stamp, F_law_stamp⟩ := fun_nd l_law_stamp c_law_stamp k_law_stamp
  obtain ⟨dvs_is_key, hdd_is_key, F_is_key⟩ := fun_nd l_is_key c_is_key k_is_key
  obtain ⟨dvs_look_at_key, hdd_look_at_key, F_look_at_key⟩ := fun_nd l_look_at_key c_look_at_key k_look_at_key
  obtain ⟨dvs_is_whole, hdd_is_whole, F_is_whole⟩ := fun_nd l_is_whole c_is_whole k_is_whole
  obtain ⟨dvs_is_worth, hdd_is_worth, F_is_worth⟩ := fun_nd l_is_worth c_is_worth k_is_worth
  obtain ⟨dvs_is_stamp, hdd_is_stamp, F_is_stamp⟩ := fun_nd l_is_stamp c_is_stamp k_is_stamp
  obtain ⟨dvs_Shelf_put, hdd_Shelf_put, F_Shelf_put⟩ := fun_nd l_Shelf_put c_Shelf_put k_Shelf_put
  obtain ⟨dvs_law_worth, hdd_law_worth, F_law_worth⟩ := fun_nd l_law_worth c_law_worth k_law_worth
  obtain ⟨dvs_law_filled, hdd_law_filled, F_law_filled⟩ := fun_nd l_law_filled c_law_filled k_law_filled
  obtain ⟨dvs_Shelf_let_go, hdd_Shelf_let_go, F_Shelf_let_go⟩ := fun_nd l_Shelf_let_go c_Shelf_let_go k_Shelf_let_go
  obtain ⟨dvs_Shelf_all_keys, hdd_Shelf_all_keys, F_Shelf_all_keys⟩ := fun_nd l_Shelf_all_keys c_Shelf_all_keys k_Shelf_all_keys
  obtain ⟨dvs_Shelf_len, hdd_Shelf_len, F_Shelf_len⟩ := fun_nd l_Shelf_len c_Shelf_len k_Shelf_len
  obtain ⟨dvs_Shelf_versions, hdd_Shelf_versions, F_Shelf_versions⟩ := fun_nd l_Shelf_versions c_Shelf_versions k_Shelf_versions
  obtain ⟨dvs_law_state, hdd_law_state, F_law_state⟩ := fun_nd l_law_state c_law_state k_law_state
  obtain ⟨dvs_law_kind, hdd_law_kind, F_law_kind⟩ := fun_nd l_law_kind c_law_kind k_law_kind
  obtain ⟨dvs_Shelf_at, hdd_Shelf_at, F_Shelf_at⟩ := fun_nd l_Shelf_at c_Shelf_at k_Shelf_at
  obtain ⟨dvs_Shelf_newest, hdd_Shelf_newest, F_Shelf_newest⟩ := fun_nd l_Shelf_newest c_Shelf_newest k_Shelf_newest
  obtain ⟨dvs_law_said, hdd_law_said, F_law_said⟩ := fun_nd l_law_said c_law_said k_law_said
  obtain ⟨dvs_law_is_gone, hdd_law_is_gone, F_law_is_gone⟩ := fun_nd l_law_is_gone c_law_is_gone k_law_is_gone
  obtain ⟨dvs_law, hdd_law, F_law⟩ := fun_nd l_law c_law k_law
  have T : Txt K mg e := ⟨fun _ _ h => h,
    fun _ _ _ h => h,
    fun _ _ _ h => h,
    fun _ _ h => h,
    fun _ _ _ h => h,
    PySem.W.mg_of X G a_Gone,
    PySem.W.mg_of X G a_NoKey,
    PySem.W.mg_of X G a_NoNumber,
    ⟨⟨_, _, _, _, PySem.F.excBase_ValueError, ei_NoNumber⟩, PySem.W.mg_of X G a_NoNumber, ek_NoNumber, es_NoNumber, et_NoNumber⟩,
    PySem.W.mg_of X G a_NoStamp,
    ⟨⟨_, _, _, _, PySem.F.excBase_ValueError, ei_NoStamp⟩, PySem.W.mg_of X G a_NoStamp, ek_NoStamp, es_NoStamp, et_NoStamp⟩,
    PySem.W.mg_of X G a_NoWorth,
    ⟨⟨_, _, _, _, PySem.F.excBase_ValueError, ei_NoWorth⟩, PySem.W.mg_of X G a_NoWorth, ek_NoWorth, es_NoWorth, et_NoWorth⟩,
    PySem.W.mg_of X G a_WaitError,
    ⟨⟨_, _, _, _, PySem.F.excBase_ValueError, ei_WaitError⟩, PySem.W.mg_of X G a_WaitError, ek_WaitError, es_WaitError, et_WaitError⟩,
    ⟨xin_NoKey, xov_NoKey, xhd_NoKey, xsa_NoKey, DX.st_KeyError⟩,
    ⟨.inl ⟨"KeyError", PySem.W.mg_none_of X G z_KeyError, by decide +kernel, by decide, by kernel_rfl, by decide +kernel, xq3_KeyError⟩⟩,
    xno_NoKey_key,
    ⟨ek_NoKey, es_NoKey, et_NoKey⟩,
    ⟨f_XNoKey, _, dvs_XNoKey, hdd_XNoKey, F_XNoKey, ⟨xa_NoKey, xi_NoKey, xk_NoKey⟩⟩,
    ⟨xin_Gone, xov_Gone, xhd_Gone, xsa_Gone, PySem.F.store_LookupError⟩,
    ⟨.inl ⟨"LookupError", PySem.W.mg_none_of X G z_LookupError, by decide +kernel, by decide, by kernel_rfl, by decide +kernel, xq3_LookupError⟩⟩,
    xno_Gone_time,
    ⟨ek_Gone, es_Gone, et_Gone⟩,
    ⟨f_XGone, _, dvs_XGone, hdd_XGone, F_XGone, ⟨xa_Gone, xi_Gone, xk_Gone⟩⟩,
    PySem.W.mg_none_of X G z_KeyError,
    PySem.W.mg_none_of X G z_ValueError,
    PySem.W.mg_none_of X G z_all,
    PySem.W.mg_none_of X G z_bool,
    PySem.W.mg_none_of X G z_int,
    PySem.W.mg_none_of X G z_isinstance,
    PySem.W.mg_none_of X G z_len,
    PySem.W.mg_none_of X G z_list,
    PySem.W.mg_none_of X G z_max,
    PySem.W.mg_none_of X G z_min,
    PySem.W.mg_none_of X G z_range,
    PySem.W.mg_none_of X G z_repr,
    PySem.W.mg_none_of X G z_sorted,
    PySem.W.mg_none_of X G z_str,
    PySem.W.mg_none_of X G z_tuple,
    t_LETTERS.cf (PySem.W.mg_of X G a_LETTERS),
    t_LONGEST.cf (PySem.W.mg_of X G a_LONGEST),
    t_MOST_FIELDS.cf (PySem.W.mg_of X G a_MOST_FIELDS),
    PySem.W.mg_of X G a_Shelf,
    cl_Shelf,
    ⟨mk_Shelf, kc_Shelf⟩,
    ⟨f_law_begun, _, dvs_law_begun, hdd_law_begun, F_law_begun, PySem.W.mg_of X G a_law_begun⟩,
    ⟨f_Shelf_init, _, dvs_Shelf_init, hdd_Shelf_init, F_Shelf_init, ⟨a_Shelf_init, i_Shelf_init, k_Shelf_init⟩⟩,
    ⟨f_law_take, _, dvs_law_take, hdd_law_take, F_law_take, PySem.W.mg_of X G a_law_take⟩,
    ⟨f_law_key, _, dvs_law_key, hdd_law_key, F_law_key, PySem.W.mg_of X G a_law_key⟩,
    ⟨f_law_stamp, _, dvs_law_stamp, hdd_law_stamp, F_law_stamp, PySem.W.mg_of X G a_law_stamp⟩,
    ⟨f_is_key, _, dvs_is_key, hdd_is_key, F_is_key, PySem.W.mg_of X G a_is_key⟩,
    ⟨f_look_at_key, _, dvs_look_at_key, hdd_look_at_key, F_look_at_key, PySem.W.mg_of X G a_look_at_key⟩,
    ⟨f_is_whole, _, dvs_is_whole, hdd_is_whole, F_is_whole, PySem.W.mg_of X G a_is_whole⟩,
    ⟨f_is_worth, _, dvs_is_worth, hdd_is_worth, F_is_worth, PySem.W.mg_of X G a_is_worth⟩,
    ⟨f_is_stamp, _, dvs_is_stamp, hdd_is_stamp, F_is_stamp, PySem.W.mg_of X G a_is_stamp⟩,
    ⟨f_Shelf_put, _, dvs_Shelf_put, hdd_Shelf_put, F_Shelf_put, ⟨a_Shelf_put, i_Shelf_put, k_Shelf_put⟩⟩,
    ⟨f_law_worth, _, dvs_law_worth, hdd_law_worth, F_law_worth, PySem.W.mg_of X G a_law_worth⟩,
    ⟨f_law_filled, _, dvs_law_filled, hdd_law_filled, F_law_filled, PySem.W.mg_of X G a_law_filled⟩,
    ⟨f_Shelf_let_go, _, dvs_Shelf_let_go, hdd_Shelf_let_go, F_Shelf_let_go, ⟨a_Shelf_let_go, i_Shelf_let_go, k_Shelf_let_go⟩⟩,
    ⟨f_Shelf_all_keys, _, dvs_Shelf_all_keys, hdd_Shelf_all_keys, F_Shelf_all_keys, ⟨a_Shelf_all_keys, i_Shelf_all_keys, k_Shelf_all_keys⟩⟩,
    ⟨f_Shelf_len, _, dvs_Shelf_len, hdd_Shelf_len, F_Shelf_len, ⟨a_Shelf_len, i_Shelf_len, k_Shelf_len⟩⟩,
    ⟨f_Shelf_versions, _, dvs_Shelf_versions, hdd_Shelf_versions, F_Shelf_versions, ⟨a_Shelf_versions, i_Shelf_versions, k_Shelf_versions⟩⟩,
    ⟨f_law_state, _, dvs_law_state, hdd_law_state, F_law_state, PySem.W.mg_of X G a_law_state⟩,
    ⟨f_law_kind, _, dvs_law_kind, hdd_law_kind, F_law_kind, PySem.W.mg_of X G a_law_kind⟩,
    ⟨f_Shelf_at, _, dvs_Shelf_at, hdd_Shelf_at, F_Shelf_at, ⟨a_Shelf_at, i_Shelf_at, k_Shelf_at⟩⟩,
    ⟨f_Shelf_newest, _, dvs_Shelf_newest, hdd_Shelf_newest, F_Shelf_newest, ⟨a_Shelf_newest, i_Shelf_newest, k_Shelf_newest⟩⟩,
    ⟨f_law_said, _, dvs_law_said, hdd_law_said, F_law_said, PySem.W.mg_of X G a_law_said⟩,
    ⟨f_law_is_gone, _, dvs_law_is_gone, hdd_law_is_gone, F_law_is_gone, PySem.W.mg_of X G a_law_is_gone⟩,
    ⟨f_law, _, dvs_law, hdd_law, F_law, PySem.W.mg_of X G a_law⟩⟩
  refine ⟨_, ?_, fun base _ _ => FnG.imp (ok_law (P := l.prog) (w := w) (base := base) T F_law) (law_lift (hmain e gd))⟩
  exact fun s v => .of_eq rfl
theorem walk {l : PySem.W.OpenLaw} {q : Program} {loose : List Str} {XP : (Str → Option Value) → Heap → Prop} {YP : World → Heap → Prop} {d : DefRec} {K : Params → PySem.W.Frag} (hn : l.most = some 63) (hdf : d.params.defaults = [])
    (hY : ∀ (w : World) (h : Heap), YP w h → (K w.params).In h)
    (F : ∀ (w : World) (mg : Str → Option Value) (fa : Addr) (h : Heap), (K w.params).In h → h.Ns mainGlobals mg → mg d.name = some (.ref fa) →
      ∃ fd : FuncData, (∀ (s : Shared) (u : Value), BindsTo s fd ⟨[u], []⟩ [("_law_script", u)]) ∧ ∀ base : Heap, (K w.params).In base → base.Ns mainGlobals mg → FnG l.prog w (K w.params) mg base 7 fa fd ["_law_script"] (lawSp (K w.params))) :
    PySem.W.WalkO q loose XP YP l.row.toRowW d [] (fun f vs => PySem.call f vs) :=
  walkG (k := 7) (x := "_law_script") (sp := fun w => lawSp (K w.params)) hn hdf ⟨⟨rfl, by decide, by decide⟩, rfl⟩ hY F (fun _ H a ns hl ho hS => ⟨a, ns, rfl, hl, ho, hS, fun _ => rfl⟩)
    fun _ _ _ _ _ ⟨_, _, _, _, _, _, _, _, _, _, _, _, z⟩ => z
end P
open PySem PySem.W PyProof.Rows
set_option maxRecDepth 100000 in
set_option maxHeartbeats 0 in
theorem PySem.Challenge.cw_stampedwait_k14_a_shelf_refuses_holds : PySem.Challenge.rw_stampedwait_k14_a_shelf_refuses.Holds := by
  w_on; o_law; k_head; (case hw => w_witness2)
  k_fill
  refine P.walk (l := PySem.Challenge.rw_stampedwait_k14_a_shelf_refuses) rfl rfl (fun w h Y => PySem.W.kIn_of Y) ?F
  case F =>
    intro w mg fa h KX G hmg
    refine' P.all_mk KX G hmg P.main ?z_KeyError ?z_ValueError ?z_all ?z_bool ?z_int ?z_isinstance ?z_len ?z_list ?z_max ?z_min ?z_range ?z_repr ?z_sorted ?z_str ?z_tuple ?a_Shelf ?pg_Shelf ?hd_Shelf ?po_Shelf ?sa_Shelf ?mk_Shelf ?kc_Shelf ?na_Shelf_gone_till ?na_Shelf_rows_of ?a_Gone ?ek_Gone ?es_Gone ?et_Gone ?ej_Gone ?a_NoKey ?ek_NoKey ?es_NoKey ?et_NoKey ?ej_NoKey ?a_NoNumber ?ei_NoNumber ?ek_NoNumber ?es_NoNumber ?et_NoNumber ?ej_NoNumber ?a_NoStamp ?ei_NoStamp ?ek_NoStamp ?es_NoStamp ?et_NoStamp ?ej_NoStamp ?a_NoWorth ?ei_NoWorth ?ek_NoWorth ?es_NoWorth ?et_NoWorth ?ej_NoWorth ?a_WaitError ?ei_WaitError ?ek_WaitError ?es_WaitError ?et_WaitError ?ej_WaitError ?eu_Gone_Gone ?eu_Gone_NoKey ?eu_Gone_NoNumber ?eu_Gone_NoStamp ?eu_Gone_NoWorth ?eu_Gone_WaitError ?xga_Gone ?xgg_Gone ?xhd_Gone ?xno_Gone_time ?xcl_Gone ?xmr_Gone ?xko_Gone_KeyError ?xko_Gone_NoNumber ?xko_Gone_NoStamp ?xko_Gone_NoWorth ?xko_Gone_ValueError ?eu_NoKey_Gone ?eu_NoKey_NoKey ?eu_NoKey_NoNumber ?eu_NoKey_NoStamp ?eu_NoKey_NoWorth ?eu_NoKey_WaitError ?xga_NoKey ?xgg_NoKey ?xhd_NoKey ?xno_NoKey_key ?xcl_NoKey ?xmr_NoKey ?xko_NoKey_KeyError ?xko_NoKey_NoNumber ?xko_NoKey_NoStamp ?xko_NoKey_NoWorth ?xko_NoKey_ValueError ?eu_NoNumber_Gone ?eu_NoNumber_NoKey ?eu_NoNumber_NoNumber ?eu_NoNumber_NoStamp ?eu_NoNumber_NoWorth ?eu_NoNumber_WaitError ?xga_NoNumber ?xgg_NoNumber ?xhd_NoNumber ?xcl_NoNumber ?xmr_NoNumber ?xko_NoNumber_KeyError ?xko_NoNumber_NoNumber ?xko_NoNumber_NoStamp ?xko_NoNumber_NoWorth ?xko_NoNumber_ValueError ?eu_NoStamp_Gone ?eu_NoStamp_NoKey ?eu_NoStamp_NoNumber ?eu_NoStamp_NoStamp ?eu_NoStamp_NoWorth ?eu_NoStamp_WaitError ?xga_NoStamp ?xgg_NoStamp ?xhd_NoStamp ?xcl_NoStamp ?xmr_NoStamp ?xko_NoStamp_KeyError ?xko_NoStamp_NoNumber ?xko_NoStamp_NoStamp ?xko_NoStamp_NoWorth ?xko_NoStamp_ValueError ?eu_NoWorth_Gone ?eu_NoWorth_NoKey ?eu_NoWorth_NoNumber ?eu_NoWorth_NoStamp ?eu_NoWorth_NoWorth ?eu_NoWorth_WaitError ?xga_NoWorth ?xgg_NoWorth ?xhd_NoWorth ?xcl_NoWorth ?xmr_NoWorth ?xko_NoWorth_KeyError ?xko_NoWorth_NoNumber ?xko_NoWorth_NoStamp ?xko_NoWorth_NoWorth ?xko_NoWorth_ValueError ?eu_WaitError_Gone ?eu_WaitError_NoKey ?eu_WaitError_NoNumber ?eu_WaitError_NoStamp ?eu_WaitError_NoWorth ?eu_WaitError_WaitError ?xga_WaitError ?xgg_WaitError ?xhd_WaitError ?xcl_WaitError ?xmr_WaitError ?xko_WaitError_KeyError ?xko_WaitError_NoNumber ?xko_WaitError_NoStamp ?xko_WaitError_NoWorth ?xko_WaitError_ValueError ?xsp ?xtk ?xin_NoKey ?xov_NoKey ?xsa_NoKey ?xa_NoKey ?xi_NoKey ?xl_NoKey ?xc_NoKey ?xk_NoKey ?e_XNoKey ?xq3_KeyError ?xin_Gone ?xov_Gone ?xsa_Gone ?xa_Gone ?xi_Gone ?xl_Gone ?xc_Gone ?xk_Gone ?e_XGone ?z_LookupError ?xq3_LookupError ?a_LETTERS ?t_LETTERS ?a_LONGEST ?t_LONGEST ?a_MOST_FIELDS ?t_MOST_FIELDS ?a_law_begun ?l_law_begun ?c_law_begun ?k_law_begun ?e_law_begun ?a_Shelf_init ?i_Shelf_init ?l_Shelf_init ?c_Shelf_init ?k_Shelf_init ?e_Shelf_init ?a_law_take ?l_law_take ?c_law_take ?k_law_take ?e_law_take ?a_law_key ?l_law_key ?c_law_key ?k_law_key ?e_law_key ?a_law_stamp ?l_law_stamp ?c_law_stamp ?k_law_stamp ?e_law_stamp ?a_is_key ?l_is_key ?c_is_key ?k_is_key ?e_is_key ?a_look_at_key ?l_look_at_key ?c_look_at_key ?k_look_at_key ?e_look_at_key ?a_is_whole ?l_is_whole ?c_is_whole ?k_is_whole ?e_is_whole ?a_is_worth ?l_is_worth ?c_is_worth ?k_is_worth ?e_is_worth ?a_is_stamp ?l_is_stamp ?c_is_stamp ?k_is_stamp ?e_is_stamp ?a_Shelf_put ?i_Shelf_put ?l_Shelf_put ?c_Shelf_put ?k_Shelf_put ?e_Shelf_put ?a_law_worth ?l_law_worth ?c_law_worth ?k_law_worth ?e_law_worth ?a_law_filled ?l_law_filled ?c_law_filled ?k_law_filled ?e_law_filled ?a_Shelf_let_go ?i_Shelf_let_go ?l_Shelf_let_go ?c_Shelf_let_go ?k_Shelf_let_go ?e_Shelf_let_go ?a_Shelf_all_keys ?i_Shelf_all_keys ?l_Shelf_all_keys ?c_Shelf_all_keys ?k_Shelf_all_keys ?e_Shelf_all_keys ?a_Shelf_len ?i_Shelf_len ?l_Shelf_len ?c_Shelf_len ?k_Shelf_len ?e_Shelf_len ?a_Shelf_versions ?i_Shelf_versions ?l_Shelf_versions ?c_Shelf_versions ?k_Shelf_versions ?e_Shelf_versions ?a_law_state ?l_law_state ?c_law_state ?k_law_state ?e_law_state ?a_law_kind ?l_law_kind ?c_law_kind ?k_law_kind ?e_law_kind ?a_Shelf_at ?i_Shelf_at ?l_Shelf_at ?c_Shelf_at ?k_Shelf_at ?e_Shelf_at ?a_Shelf_newest ?i_Shelf_newest ?l_Shelf_newest ?c_Shelf_newest ?k_Shelf_newest ?e_Shelf_newest ?a_law_said ?l_law_said ?c_law_said ?k_law_said ?e_law_said ?a_law_is_gone ?l_law_is_gone ?c_law_is_gone ?k_law_is_gone ?e_law_is_gone ?a_law ?l_law ?c_law ?k_law ?e_law
    (case z_KeyError => k_is)
    (case z_ValueError => k_is)
    (case z_all => k_is)
    (case z_bool => k_is)
    (case z_int => k_is)
    (case z_isinstance => k_is)
    (case z_len => k_is)
    (case z_list => k_is)
    (case z_max => k_is)
    (case z_min => k_is)
    (case z_range => k_is)
    (case z_repr => k_is)
    (case z_sorted => k_is)
    (case z_str => k_is)
    (case z_tuple => k_is)
    (case a_Shelf => k_is)
    (case pg_Shelf => k_is)
    (case hd_Shelf => k_is)
    (case po_Shelf => k_is)
    (case sa_Shelf => k_is)
    (case mk_Shelf => k_is)
    (case kc_Shelf => k_is)
    (case na_Shelf_gone_till => k_is)
    (case na_Shelf_rows_of => k_is)
    (case a_Gone => k_is)
    (case ek_Gone => k_is)
    (case es_Gone => k_is)
    (case et_Gone => k_is)
    (case ej_Gone => k_is)
    (case a_NoKey => k_is)
    (case ek_NoKey => k_is)
    (case es_NoKey => k_is)
    (case et_NoKey => k_is)
    (case ej_NoKey => k_is)
    (case a_NoNumber => k_is)
    (case ei_NoNumber => k_exc)
    (case ek_NoNumber => k_is)
    (case es_NoNumber => k_is)
    (case et_NoNumber => k_is)
    (case ej_NoNumber => k_is)
    (case a_NoStamp => k_is)
    (case ei_NoStamp => k_exc)
    (case ek_NoStamp => k_is)
    (case es_NoStamp => k_is)
    (case et_NoStamp => k_is)
    (case ej_NoStamp => k_is)
    (case a_NoWorth => k_is)
    (case ei_NoWorth => k_exc)
    (case ek_NoWorth => k_is)
    (case es_NoWorth => k_is)
    (case et_NoWorth => k_is)
    (case ej_NoWorth => k_is)
    (case a_WaitError => k_is)
    (case ei_WaitError => k_exc)
    (case ek_WaitError => k_is)
    (case es_WaitError => k_is)
    (case et_WaitError => k_is)
    (case ej_WaitError => k_is)
    (case eu_Gone_Gone => first | rfl | k_is)
    (case eu_Gone_NoKey => first | rfl | k_is)
    (case eu_Gone_NoNumber => first | rfl | k_is)
    (case eu_Gone_NoStamp => first | rfl | k_is)
    (case eu_Gone_NoWorth => first | rfl | k_is)
    (case eu_Gone_WaitError => first | rfl | k_is)
    (case xga_Gone => k_is)
    (case xgg_Gone => k_is)
    (case xhd_Gone => k_is)
    (case xno_Gone_time => k_is)
    (case xcl_Gone => k_is)
    (case xmr_Gone => k_is)
    (case xko_Gone_KeyError => kit_is)
    (case xko_Gone_NoNumber => kit_is)
    (case xko_Gone_NoStamp => kit_is)
    (case xko_Gone_NoWorth => kit_is)
    (case xko_Gone_ValueError => kit_is)
    (case eu_NoKey_Gone => first | rfl | k_is)
    (case eu_NoKey_NoKey => first | rfl | k_is)
    (case eu_NoKey_NoNumber => first | rfl | k_is)
    (case eu_NoKey_NoStamp => first | rfl | k_is)
    (case eu_NoKey_NoWorth => first | rfl | k_is)
    (case eu_NoKey_WaitError => first | rfl | k_is)
    (case xga_NoKey => k_is)
    (case xgg_NoKey => k_is)
    (case xhd_NoKey => k_is)
    (case xno_NoKey_key => k_is)
    (case xcl_NoKey => k_is)
    (case xmr_NoKey => k_is)
    (case xko_NoKey_KeyError => kit_is)
    (case xko_NoKey_NoNumber => kit_is)
    (case xko_NoKey_NoStamp => kit_is)
    (case xko_NoKey_NoWorth => kit_is)
    (case xko_NoKey_ValueError => kit_is)
    (case eu_NoNumber_Gone => first | rfl | k_is)
    (case eu_NoNumber_NoKey => first | rfl | k_is)
    (case eu_NoNumber_NoNumber => first | rfl | k_is)
    (case eu_NoNumber_NoStamp => first | rfl | k_is)
    (case eu_NoNumber_NoWorth => first | rfl | k_is)
    (case eu_NoNumber_WaitError => first | rfl | k_is)
    (case xga_NoNumber => k_is)
    (case xgg_NoNumber => k_is)
    (case xhd_NoNumber => k_is)
    (case xcl_NoNumber => k_is)
    (case xmr_NoNumber => k_is)
    (case xko_NoNumber_KeyError => kit_is)
    (case xko_NoNumber_NoNumber => kit_is)
    (case xko_NoNumber_NoStamp => kit_is)
    (case xko_NoNumber_NoWorth => kit_is)
    (case xko_NoNumber_ValueError => kit_is)
    (case eu_NoStamp_Gone => first | rfl | k_is)
    (case eu_NoStamp_NoKey => first | rfl | k_is)
    (case eu_NoStamp_NoNumber => first | rfl | k_is)
    (case eu_NoStamp_NoStamp => first | rfl | k_is)
    (case eu_NoStamp_NoWorth => first | rfl | k_is)
    (case eu_NoStamp_WaitError => first | rfl | k_is)
    (case xga_NoStamp => k_is)
    (case xgg_NoStamp => k_is)
    (case xhd_NoStamp => k_is)
    (case xcl_NoStamp => k_is)
    (case xmr_NoStamp => k_is)
    (case xko_NoStamp_KeyError => kit_is)
    (case xko_NoStamp_NoNumber => kit_is)
    (case xko_NoStamp_NoStamp => kit_is)
    (case xko_NoStamp_NoWorth => kit_is)
    (case xko_NoStamp_ValueError => kit_is)
    (case eu_NoWorth_Gone => first | rfl | k_is)
    (case eu_NoWorth_NoKey => first | rfl | k_is)
    (case eu_NoWorth_NoNumber => first | rfl | k_is)
    (case eu_NoWorth_NoStamp => first | rfl | k_is)
    (case eu_NoWorth_NoWorth => first | rfl | k_is)
    (case eu_NoWorth_WaitError => first | rfl | k_is)
    (case xga_NoWorth => k_is)
    (case xgg_NoWorth => k_is)
    (case xhd_NoWorth => k_is)
    (case xcl_NoWorth => k_is)
    (case xmr_NoWorth => k_is)
    (case xko_NoWorth_KeyError => kit_is)
    (case xko_NoWorth_NoNumber => kit_is)
    (case xko_NoWorth_NoStamp => kit_is)
    (case xko_NoWorth_NoWorth => kit_is)
    (case xko_NoWorth_ValueError => kit_is)
    (case eu_WaitError_Gone => first | rfl | k_is)
    (case eu_WaitError_NoKey => first | rfl | k_is)
    (case eu_WaitError_NoNumber => first | rfl | k_is)
    (case eu_WaitError_NoStamp => first | rfl | k_is)
    (case eu_WaitError_NoWorth => first | rfl | k_is)
    (case eu_WaitError_WaitError => first | rfl | k_is)
    (case xga_WaitError => k_is)
    (case xgg_WaitError => k_is)
    (case xhd_WaitError => k_is)
    (case xcl_WaitError => k_is)
    (case xmr_WaitError => k_is)
    (case xko_WaitError_KeyError => kit_is)
    (case xko_WaitError_NoNumber => kit_is)
    (case xko_WaitError_NoStamp => kit_is)
    (case xko_WaitError_NoWorth => kit_is)
    (case xko_WaitError_ValueError => kit_is)
    (case xsp => k_is)
    (case xtk => k_is)
    (case xin_NoKey => first | k_is | k_exc | rfl)
    (case xov_NoKey => first | k_is | k_exc | rfl)
    (case xsa_NoKey => k_is)
    (case xa_NoKey => k_is)
    (case xi_NoKey => k_is)
    (case xl_NoKey => k_is)
    (case xc_NoKey => k_is)
    (case xk_NoKey => k_is)
    (case e_XNoKey => rfl)
    (case xq3_KeyError => k_is)
    (case xin_Gone => first | k_is | k_exc | rfl)
    (case xov_Gone => first | k_is | k_exc | rfl)
    (case xsa_Gone => k_is)
    (case xa_Gone => k_is)
    (case xi_Gone => k_is)
    (case xl_Gone => k_is)
    (case xc_Gone => k_is)
    (case xk_Gone => k_is)
    (case e_XGone => rfl)
    (case z_LookupError => k_is)
    (case xq3_LookupError => k_is)
    (case a_LETTERS => k_is)
    (case t_LETTERS => exact .str)
    (case a_LONGEST => k_is)
    (case t_LONGEST => exact .int)
    (case a_MOST_FIELDS => k_is)
    (case t_MOST_FIELDS => exact .int)
    (case a_law_begun => k_is)
    (case l_law_begun => k_is)
    (case c_law_begun => k_is)
    (case k_law_begun => k_is)
    (case e_law_begun => rfl)
    (case a_Shelf_init => k_is)
    (case i_Shelf_init => k_is)
    (case l_Shelf_init => k_is)
    (case c_Shelf_init => k_is)
    (case k_Shelf_init => k_is)
    (case e_Shelf_init => rfl)
    (case a_law_take => k_is)
    (case l_law_take => k_is)
    (case c_law_take => k_is)
    (case k_law_take => k_is)
    (case e_law_take => rfl)
    (case a_law_key => k_is)
    (case l_law_key => k_is)
    (case c_law_key => k_is)
    (case k_law_key => k_is)
    (case e_law_key => rfl)
    (case a_law_stamp => k_is)
    (case l_law_stamp => k_is)
    (case c_law_stamp => k_is)
    (case k_law_stamp => k_is)
    (case e_law_stamp => rfl)
    (case a_is_key => k_is)
    (case l_is_key => k_is)
    (case c_is_key => k_is)
    (case k_is_key => k_is)
    (case e_is_key => rfl)
    (case a_look_at_key => k_is)
    (case l_look_at_key => k_is)
    (case c_look_at_key => k_is)
    (case k_look_at_key => k_is)
    (case e_look_at_key => rfl)
    (case a_is_whole => k_is)
    (case l_is_whole => k_is)
    (case c_is_whole => k_is)
    (case k_is_whole => k_is)
    (case e_is_whole => rfl)
    (case a_is_worth => k_is)
    (case l_is_worth => k_is)
    (case c_is_worth => k_is)
    (case k_is_worth => k_is)
    (case e_is_worth => rfl)
    (case a_is_stamp => k_is)
    (case l_is_stamp => k_is)
    (case c_is_stamp => k_is)
    (case k_is_stamp => k_is)
    (case e_is_stamp => rfl)
    (case a_Shelf_put => k_is)
    (case i_Shelf_put => k_is)
    (case l_Shelf_put => k_is)
    (case c_Shelf_put => k_is)
    (case k_Shelf_put => k_is)
    (case e_Shelf_put => rfl)
    (case a_law_worth => k_is)
    (case l_law_worth => k_is)
    (case c_law_worth => k_is)
    (case k_law_worth => k_is)
    (case e_law_worth => rfl)
    (case a_law_filled => k_is)
    (case l_law_filled => k_is)
    (case c_law_filled => k_is)
    (case k_law_filled => k_is)
    (case e_law_filled => rfl)
    (case a_Shelf_let_go => k_is)
    (case i_Shelf_let_go => k_is)
    (case l_Shelf_let_go => k_is)
    (case c_Shelf_let_go => k_is)
    (case k_Shelf_let_go => k_is)
    (case e_Shelf_let_go => rfl)
    (case a_Shelf_all_keys => k_is)
    (case i_Shelf_all_keys => k_is)
    (case l_Shelf_all_keys => k_is)
    (case c_Shelf_all_keys => k_is)
    (case k_Shelf_all_keys => k_is)
    (case e_Shelf_all_keys => rfl)
    (case a_Shelf_len => k_is)
    (case i_Shelf_len => k_is)
    (case l_Shelf_len => k_is)
    (case c_Shelf_len => k_is)
    (case k_Shelf_len => k_is)
    (case e_Shelf_len => rfl)
    (case a_Shelf_versions => k_is)
    (case i_Shelf_versions => k_is)
    (case l_Shelf_versions => k_is)
    (case c_Shelf_versions => k_is)
    (case k_Shelf_versions => k_is)
    (case e_Shelf_versions => rfl)
    (case a_law_state => k_is)
    (case l_law_state => k_is)
    (case c_law_state => k_is)
    (case k_law_state => k_is)
    (case e_law_state => rfl)
    (case a_law_kind => k_is)
    (case l_law_kind => k_is)
    (case c_law_kind => k_is)
    (case k_law_kind => k_is)
    (case e_law_kind => rfl)
    (case a_Shelf_at => k_is)
    (case i_Shelf_at => k_is)
    (case l_Shelf_at => k_is)
    (case c_Shelf_at => k_is)
    (case k_Shelf_at => k_is)
    (case e_Shelf_at => rfl)
    (case a_Shelf_newest => k_is)
    (case i_Shelf_newest => k_is)
    (case l_Shelf_newest => k_is)
    (case c_Shelf_newest => k_is)
    (case k_Shelf_newest => k_is)
    (case e_Shelf_newest => rfl)
    (case a_law_said => k_is)
    (case l_law_said => k_is)
    (case c_law_said => k_is)
    (case k_law_said => k_is)
    (case e_law_said => rfl)
    (case a_law_is_gone => k_is)
    (case l_law_is_gone => k_is)
    (case c_law_is_gone => k_is)
    (case k_law_is_gone => k_is)
    (case e_law_is_gone => rfl)
    (case a_law => k_is)
    (case l_law => k_is)
    (case c_law => k_is)
    (case k_law => k_is)
    (case e_law => rfl)

