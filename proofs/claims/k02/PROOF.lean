import PyProof.Rows.All
import Wide.All
import OpenK.AllK
import Wide.FinOn
import PyProof.EqAt
import PyProof.EqKinds
import PyProof.TupleCall
import HandS.ForMost
import HandS.Exc
import HandS.TryOnly
import HandS.ExcOwn
import HandS.WordsExc
import HandS.Wide
import HandS.TupAny
import HandS.Flow
import HandS.IsInst
import HandS.TupLe
import HandS.Defaults
import HandS.CallSlots
import HandS.DictComp
import HandS.OwnEq
import HandS.More
import PySem.Challenge.RW_stampedwait_k02_true_ticks_behind_a_coun
set_option Elab.async false
set_option linter.all false
set_option maxRecDepth 100000
namespace DL
open PySem PySem.Spec L2
open PyProof.Rows hiding St

/-! ### data: tuples by value, mutable objects by address; kl: a list that never changes -/
inductive D where
  | non | bl (b : Bool) | int (i : Int) | str (x : Str) | ty (n : String) | ref (a : Addr) | tup (ds : List D) | kl (ds : List D)

inductive MO where
  | lst (xs : List D)
  | dK (kvs : List (Key × D))
  | dT (kvs : List (List Key × D))
  | ins (C : Addr) (fs : List (Str × D))
  | fz (u : MO)

abbrev HD := Addr → Option MO
def put (H : HD) (a : Addr) (o : MO) : HD := fun b => if b = a then some o else H b
theorem put_same {H : HD} {a : Addr} {o : MO} : put H a o a = some o := if_pos rfl
theorem put_ne {H : HD} {a b : Addr} {o : MO} (h : b ≠ a) : put H a o b = H b := if_neg h
theorem put_put {H : HD} {a : Addr} {o u : MO} : put (put H a o) a u = put H a u := by
  funext b; unfold put; split <;> rfl
theorem put_comm {H : HD} {a b : Addr} {o u : MO} (h : a ≠ b) : put (put H a o) b u = put (put H b u) a o := by
  funext c; unfold put
  by_cases h1 : c = a
  · subst h1; rw [if_neg h, if_pos rfl]
    simp
  · rw [if_neg h1]
    simp [h1]
theorem put_id {H : HD} {a : Addr} {o : MO} (h : H a = some o) : put H a o = H := by
  funext b; unfold put; split
  · rename_i e; rw [e, h]
  · rfl
/-- a part of a heap -/
def Le (H H' : HD) : Prop := ∀ a o, H a = some o → H' a = some o
theorem Le.refl (H : HD) : Le H H := fun _ _ h => h
theorem Le.trans {A B C : HD} (x : Le A B) (y : Le B C) : Le A C := fun a o h => y a o (x a o h)
theorem Le.no {H H' : HD} (x : Le H H') {a : Addr} (h : H' a = none) : H a = none := by
  cases q : H a with
  | none => rfl
  | some o => rw [x a o q] at h; cases h
theorem Le.putB {H H' : HD} (x : Le H H') (a : Addr) (o : MO) : Le (put H a o) (put H' a o) := fun b u h => by
  by_cases e : b = a
  · subst e; rw [put_same] at h ⊢; exact h
  · rw [put_ne e] at h ⊢; exact x b u h
theorem Le.newB {H : HD} {a : Addr} {o : MO} (h : H a = none) : Le H (put H a o) := fun b u e => by
  rw [put_ne (by rintro rfl; rw [h] at e; cases e)]; exact e

mutual
def Rp (K : PySem.W.Frag) (H : Hp) : D → V → Prop
  | .non, v => v = .non
  | .bl b, v => v = .bl b
  | .int i, v => v = .int i
  | .str x, v => v = .str x
  | .ty n, v => v = .ty n
  | .ref a, v => v = .ref a
  | .tup ds, v => ∃ a vs, v = .ref a ∧ SqT K H a vs ∧ Rps K H ds vs
  | .kl ds, v => ∃ a vs, v = .ref a ∧ ((∃ o, H a = some (.frz o (.lst vs))) ∨ ∃ (o : Obj) (its : Array Value) (n : Nat), K.lookup a = some o ∧ o.cls = .type "list" ∧ o.dict = none ∧ o.data = .seq its n ∧ its.size ≤ sizeLine ∧ Vals vs its.toList) ∧ Rps K H ds vs
def Rps (K : PySem.W.Frag) (H : Hp) : List D → List V → Prop
  | [], vs => vs = []
  | d :: ds, vs => ∃ v r, vs = v :: r ∧ Rp K H d v ∧ Rps K H ds r
end

/-- names (keys) and values -/
def RKV {κ : Type} (K : PySem.W.Frag) (H : Hp) : List (κ × D) → List (κ × V) → Prop
  | [], l => l = []
  | p :: ps, l => ∃ v r, l = (p.1, v) :: r ∧ Rp K H p.2 v ∧ RKV K H ps r

def RO (K : PySem.W.Frag) (H : Hp) : MO → HO → Prop
  | .lst ds, o => ∃ vs, o = .lst vs ∧ Rps K H ds vs
  | .dK kvs, o => ∃ l, o = .dK l ∧ RKV K H kvs l
  | .dT kvs, o => ∃ l, o = .dT l ∧ RKV K H kvs l
  | .ins C fs, o => ∃ dx l, o = .ins C dx l ∧ RKV K H fs l
  | .fz u, o => ∃ ob w, o = .frz ob w ∧ RO K H u w ∧ (∀ vs, w ≠ .lst vs) ∧ (∀ vs, w ≠ .tup vs)

def Sim (K : PySem.W.Frag) (G : HD) (H : Hp) : Prop := ∀ a o, G a = some o → ∃ o', H a = some o' ∧ RO K H o o'
/-- what is not of ours stays -/
def Ext (G : HD) (H : Hp) (G' : HD) (H' : Hp) : Prop := ∀ a o, G a = none → H a = some o → H' a = some o ∧ G' a = none

section
variable {K : PySem.W.Frag} {G G' G1 G2 : HD} {H H' H1 H2 : Hp}
theorem Sim.le (s : Sim K G H) (l : Le G' G) : Sim K G' H := fun a o e => s a o (l a o e)
theorem Sim.no (s : Sim K G H) {a : Addr} (h : H a = none) : G a = none := by
  cases q : G a with
  | none => rfl
  | some o => obtain ⟨o', e, _⟩ := s a o q; rw [h] at e; cases e
theorem Ext.refl : Ext G H G H := fun _ _ g h => ⟨h, g⟩
theorem Ext.trans (x : Ext G H G1 H1) (y : Ext G1 H1 G2 H2) : Ext G H G2 H2 := fun a o g h =>
  let ⟨h1, g1⟩ := x a o g h
  y a o g1 h1
theorem Ext.le (x : Ext G H G1 H1) (l : Le G2 G1) : Ext G H G2 H1 := fun a o g h =>
  let ⟨h1, g1⟩ := x a o g h
  ⟨h1, l.no g1⟩
theorem Ext.of_le (l : Le G' G) : Ext G H G' H := Ext.refl.le l

theorem Sim.tup (s : Sim K G H) {a : Addr} {vs : List V} (h : H a = some (.tup vs)) : G a = none := by
  cases q : G a with
  | none => rfl
  | some o =>
    obtain ⟨o', e, r⟩ := s a o q
    rw [h] at e; cases e
    cases o with
    | lst ds => obtain ⟨_, e, _⟩ := r; cases e
    | dK ds => obtain ⟨_, e, _⟩ := r; cases e
    | dT ds => obtain ⟨_, e, _⟩ := r; cases e
    | ins C fs => obtain ⟨_, _, e, _⟩ := r; cases e
    | fz u => obtain ⟨_, _, e, _⟩ := r; cases e
theorem Sim.frzT (s : Sim K G H) {a : Addr} {ob : Obj} {vs : List V} (h : H a = some (.frz ob (.tup vs))) : G a = none := by
  cases q : G a with
  | none => rfl
  | some o =>
    obtain ⟨o', e, r⟩ := s a o q
    rw [h] at e; cases e
    cases o with
    | lst ds => obtain ⟨_, e, _⟩ := r; cases e
    | dK ds => obtain ⟨_, e, _⟩ := r; cases e
    | dT ds => obtain ⟨_, e, _⟩ := r; cases e
    | ins C fs => obtain ⟨_, _, e, _⟩ := r; cases e
    | fz u => obtain ⟨_, _, e, _, _, z⟩ := r; cases e; exact (z _ rfl).elim
theorem Sim.frzL (s : Sim K G H) {a : Addr} {ob : Obj} {vs : List V} (h : H a = some (.frz ob (.lst vs))) : G a = none := by
  cases q : G a with
  | none => rfl
  | some o =>
    obtain ⟨o', e, r⟩ := s a o q
    rw [h] at e; cases e
    cases o with
    | lst ds => obtain ⟨_, e, _⟩ := r; cases e
    | dK ds => obtain ⟨_, e, _⟩ := r; cases e
    | dT ds => obtain ⟨_, e, _⟩ := r; cases e
    | ins C fs => obtain ⟨_, _, e, _⟩ := r; cases e
    | fz u => obtain ⟨_, _, e, _, z, _⟩ := r; cases e; exact (z _ rfl).elim
theorem SqT.ext {a : Addr} {vs : List V} (s : Sim K G H) (x : Ext G H G' H') (h : SqT K H a vs) : SqT K H' a vs := by
  rcases h with (h | ⟨o, h⟩) | h
  · exact .inl (.inl (x a _ (s.tup h) h).1)
  · exact .inl (.inr ⟨o, (x a _ (s.frzT h) h).1⟩)
  · exact .inr h
mutual
theorem Rp.ext (s : Sim K G H) (x : Ext G H G' H') : ∀ (d : D) (v : V), Rp K H d v → Rp K H' d v
  | .non, _, h => h
  | .bl _, _, h => h
  | .int _, _, h => h
  | .str _, _, h => h
  | .ty _, _, h => h
  | .ref _, _, h => h
  | .tup ds, v, h => by
    obtain ⟨a, vs, e, t, r⟩ := h
    exact ⟨a, vs, e, SqT.ext s x t, Rps.ext s x ds vs r⟩
  | .kl ds, v, h => by
    obtain ⟨a, vs, e, t, r⟩ := h
    refine ⟨a, vs, e, ?_, Rps.ext s x ds vs r⟩
    rcases t with ⟨o, t⟩ | t
    · exact .inl ⟨o, (x a _ (s.frzL t) t).1⟩
    · exact .inr t
theorem Rps.ext (s : Sim K G H) (x : Ext G H G' H') : ∀ (ds : List D) (vs : List V), Rps K H ds vs → Rps K H' ds vs
  | [], _, h => h
  | d :: ds, vs, h => by
    obtain ⟨v, r, e, h1, h2⟩ := h
    exact ⟨v, r, e, Rp.ext s x d v h1, Rps.ext s x ds r h2⟩
end
theorem RKV.ext {κ : Type} (s : Sim K G H) (x : Ext G H G' H') : ∀ (l : List (κ × D)) (m : List (κ × V)), RKV K H l m → RKV K H' l m
  | [], _, h => h
  | p :: ps, m, h => by
    obtain ⟨v, r, e, h1, h2⟩ := h
    exact ⟨v, r, e, h1.ext s x _ _, RKV.ext s x ps r h2⟩
theorem RO.ext (s : Sim K G H) (x : Ext G H G' H') : ∀ (o : MO) (o' : HO), RO K H o o' → RO K H' o o'
  | .lst ds, _, h => let ⟨vs, e, r⟩ := h; ⟨vs, e, r.ext s x _ _⟩
  | .dK _, _, h => let ⟨vs, e, r⟩ := h; ⟨vs, e, r.ext s x _ _⟩
  | .dT _, _, h => let ⟨vs, e, r⟩ := h; ⟨vs, e, r.ext s x _ _⟩
  | .ins _ _, _, h => let ⟨dx, vs, e, r⟩ := h; ⟨dx, vs, e, r.ext s x _ _⟩
  | .fz u, _, h => let ⟨ob, w, e, r, z⟩ := h; ⟨ob, w, e, RO.ext s x u w r, z⟩
/-- a new object that we do not name (a tuple ..) -/
theorem Ext.new {p : Addr} {o : HO} (h : H p = none) (g : G p = none) : Ext G H G (upd H p o) := fun a u ga e =>
  ⟨by rw [upd_ne (by rintro rfl; rw [h] at e; cases e)]; exact e, ga⟩
theorem Sim.newO {p : Addr} {o : HO} (s : Sim K G H) (h : H p = none) : Sim K G (upd H p o) := fun a u e => by
  obtain ⟨o', e1, r⟩ := s a u e
  have hn : a ≠ p := by rintro rfl; rw [h] at e1; cases e1
  exact ⟨o', by rw [upd_ne hn]; exact e1, r.ext s (Ext.new h (s.no h)) _ _⟩
/-- a new object of ours -/
theorem Ext.newM {p : Addr} {o : HO} {m : MO} (h : H p = none) : Ext G H (put G p m) (upd H p o) := fun a u ga e => by
  have hn : a ≠ p := by rintro rfl; rw [h] at e; cases e
  exact ⟨by rw [upd_ne hn]; exact e, by rw [put_ne hn]; exact ga⟩
theorem Sim.newM {p : Addr} {o : HO} {m : MO} (s : Sim K G H) (h : H p = none) (r : RO K H m o) : Sim K (put G p m) (upd H p o) := fun a u e => by
  by_cases hn : a = p
  · subst hn
    rw [put_same] at e; cases e
    exact ⟨o, upd_same, r.ext s (Ext.newM (m := m) (o := o) h) _ _⟩
  · rw [put_ne hn] at e
    obtain ⟨o', e1, r1⟩ := s a u e
    exact ⟨o', by rw [upd_ne hn]; exact e1, r1.ext s (Ext.newM (m := m) (o := o) h) _ _⟩
/-- an object of ours is written -/
theorem Ext.wr {p : Addr} {o : HO} {m m0 : MO} (g : G p = some m0) : Ext G H (put G p m) (upd H p o) := fun a u ga e => by
  have hn : a ≠ p := by rintro rfl; rw [g] at ga; cases ga
  exact ⟨by rw [upd_ne hn]; exact e, by rw [put_ne hn]; exact ga⟩
theorem Sim.wr {p : Addr} {o : HO} {m m0 : MO} (s : Sim K G H) (g : G p = some m0) (r : RO K H m o) : Sim K (put G p m) (upd H p o) := fun a u e => by
  by_cases hn : a = p
  · subst hn
    rw [put_same] at e; cases e
    exact ⟨o, upd_same, r.ext s (Ext.wr (m := m) (o := o) g) _ _⟩
  · rw [put_ne hn] at e
    obtain ⟨o', e1, r1⟩ := s a u e
    exact ⟨o', by rw [upd_ne hn]; exact e1, r1.ext s (Ext.wr (m := m) (o := o) g) _ _⟩
theorem Sim.lst (s : Sim K G H) {a : Addr} {ds : List D} (g : G a = some (.lst ds)) : ∃ vs, H a = some (.lst vs) ∧ Rps K H ds vs := by
  obtain ⟨o', e, vs, rfl, r⟩ := s a _ g
  exact ⟨vs, e, r⟩
theorem Sim.ins (s : Sim K G H) {a C : Addr} {fs : List (Str × D)} (g : G a = some (.ins C fs)) : ∃ dx l, H a = some (.ins C dx l) ∧ RKV K H fs l := by
  obtain ⟨o', e, dx, l, rfl, r⟩ := s a _ g
  exact ⟨dx, l, e, r⟩
theorem Sim.dK (s : Sim K G H) {a : Addr} {l : List (Key × D)} (g : G a = some (.dK l)) : ∃ m, H a = some (.dK m) ∧ RKV K H l m := by
  obtain ⟨o', e, vs, rfl, r⟩ := s a _ g
  exact ⟨vs, e, r⟩
theorem Sim.dT (s : Sim K G H) {a : Addr} {l : List (List Key × D)} (g : G a = some (.dT l)) : ∃ m, H a = some (.dT m) ∧ RKV K H l m := by
  obtain ⟨o', e, vs, rfl, r⟩ := s a _ g
  exact ⟨vs, e, r⟩

/-! lists -/
theorem Rps.length : ∀ {ds : List D} {vs : List V}, Rps K H ds vs → vs.length = ds.length
  | [], _, h => by cases h; rfl
  | d :: ds, _, h => by obtain ⟨v, r, rfl, _, h2⟩ := h; simp [Rps.length h2]
theorem Rps.cons {d : D} {ds : List D} {v : V} {vs : List V} (h : Rp K H d v) (t : Rps K H ds vs) : Rps K H (d :: ds) (v :: vs) := ⟨v, vs, rfl, h, t⟩
theorem Rps.nil : Rps K H [] [] := rfl
theorem Rps.get : ∀ {ds : List D} {vs : List V} {i : Nat} {d : D}, Rps K H ds vs → ds[i]? = some d → ∃ v, vs[i]? = some v ∧ Rp K H d v
  | [], _, _, _, _, e => by simp at e
  | d :: ds, _, 0, _, h, e => by obtain ⟨v, r, rfl, h1, _⟩ := h; cases e; exact ⟨v, rfl, h1⟩
  | d :: ds, _, i + 1, _, h, e => by obtain ⟨v, r, rfl, _, h2⟩ := h; exact Rps.get (i := i) h2 e
theorem Rps.app : ∀ {ds es : List D} {vs ws : List V}, Rps K H ds vs → Rps K H es ws → Rps K H (ds ++ es) (vs ++ ws)
  | [], _, _, _, h, k => by cases h; exact k
  | d :: ds, _, _, _, h, k => by obtain ⟨v, r, rfl, h1, h2⟩ := h; exact ⟨v, _, rfl, h1, Rps.app h2 k⟩
theorem Rps.set : ∀ {ds : List D} {vs : List V} {i : Nat} {d : D} {v : V}, Rps K H ds vs → Rp K H d v → Rps K H (ds.set i d) (vs.set i v)
  | [], _, _, _, _, h, _ => by cases h; exact rfl
  | d :: ds, _, 0, _, _, h, k => by obtain ⟨v, r, rfl, h1, h2⟩ := h; exact ⟨_, r, rfl, k, h2⟩
  | d :: ds, _, i + 1, _, _, h, k => by obtain ⟨v, r, rfl, h1, h2⟩ := h; exact ⟨v, _, rfl, h1, Rps.set (i := i) h2 k⟩
theorem Rps.take : ∀ {ds : List D} {vs : List V} (n : Nat), Rps K H ds vs → Rps K H (ds.take n) (vs.take n)
  | _, _, 0, _ => by simp; exact rfl
  | [], _, n + 1, h => by cases h; exact rfl
  | d :: ds, _, n + 1, h => by obtain ⟨v, r, rfl, h1, h2⟩ := h; exact ⟨v, _, rfl, h1, Rps.take n h2⟩
theorem Rps.drop : ∀ {ds : List D} {vs : List V} (n : Nat), Rps K H ds vs → Rps K H (ds.drop n) (vs.drop n)
  | _, _, 0, h => by simpa using h
  | [], _, n + 1, h => by cases h; exact rfl
  | d :: ds, _, n + 1, h => by obtain ⟨v, r, rfl, h1, h2⟩ := h; exact Rps.drop n h2
theorem Rps.uncons {d : D} {ds : List D} {vs : List V} (h : Rps K H (d :: ds) vs) : ∃ v r, vs = v :: r ∧ Rp K H d v ∧ Rps K H ds r := h
theorem Rps.ints : ∀ {ns : List Int} {vs : List V}, Rps K H (ns.map D.int) vs → vs = ns.map V.int
  | [], _, h => h
  | n :: ns, _, h => by obtain ⟨v, r, rfl, h1, h2⟩ := h; cases h1; rw [Rps.ints h2]; rfl
theorem Rps.ofInts : ∀ (ns : List Int), Rps K H (ns.map D.int) (ns.map V.int)
  | [] => rfl
  | n :: ns => ⟨_, _, rfl, rfl, Rps.ofInts ns⟩
theorem Rps.bls : ∀ {ns : List Bool} {vs : List V}, Rps K H (ns.map D.bl) vs → vs = ns.map V.bl
  | [], _, h => h
  | n :: ns, _, h => by obtain ⟨v, r, rfl, h1, h2⟩ := h; cases h1; rw [Rps.bls h2]; rfl
/-! names and values -/
theorem RKV.length {κ : Type} : ∀ {l : List (κ × D)} {m : List (κ × V)}, RKV K H l m → m.length = l.length
  | [], _, h => by cases h; rfl
  | p :: l, _, h => by obtain ⟨v, r, rfl, _, h2⟩ := h; simp [RKV.length h2]
theorem RKV.keys {κ : Type} : ∀ {l : List (κ × D)} {m : List (κ × V)}, RKV K H l m → m.map (·.1) = l.map (·.1)
  | [], _, h => by cases h; rfl
  | p :: l, _, h => by obtain ⟨v, r, rfl, _, h2⟩ := h; simp [RKV.keys h2]
theorem RKV.lookup {f : Str} : ∀ {l : List (Str × D)} {m : List (Str × V)} {d : D}, RKV K H l m → l.lookup f = some d → ∃ v, m.lookup f = some v ∧ Rp K H d v
  | [], _, _, _, e => by simp at e
  | (n, d) :: l, _, _, h, e => by
    obtain ⟨v, r, rfl, h1, h2⟩ := h
    rw [List.lookup_cons] at e ⊢
    show ∃ w, (match f == n with | true => some v | false => List.lookup f r) = some w ∧ _
    cases q : f == n with
    | true => rw [q] at e; cases e; exact ⟨v, rfl, h1⟩
    | false => rw [q] at e; exact RKV.lookup h2 e
theorem RKV.lookup_none {f : Str} : ∀ {l : List (Str × D)} {m : List (Str × V)}, RKV K H l m → l.lookup f = none → m.lookup f = none
  | [], _, h, _ => by cases h; rfl
  | (n, d) :: l, _, h, e => by
    obtain ⟨v, r, rfl, h1, h2⟩ := h
    rw [List.lookup_cons] at e ⊢
    show (match f == n with | true => some v | false => List.lookup f r) = none
    cases q : f == n with
    | true => rw [q] at e; cases e
    | false => rw [q] at e; exact RKV.lookup_none h2 e
end
/-- a field is stored -/
def putD (f : Str) (d : D) : List (Str × D) → List (Str × D)
  | [] => [(f, d)]
  | (n, e) :: r => if n = f then (n, d) :: r else (n, e) :: putD f d r
end DL

namespace DL
open PySem PySem.Spec L2
open PyProof.Rows hiding St

/-! ### readings over data -/
abbrev DSt := List (Option D)
abbrev Post := D → HD → Prop
abbrev DX := Value → List (Str × D) → HD → Prop
abbrev DW := Value → List (Str × D) → DSt → HD → Prop
abbrev TD := DW → DSt → HD → Post → Prop
abbrev TDT := DW → DSt → HD → (Bool → HD → Prop) → Prop
abbrev TDA := DW → DSt → HD → (List D → HD → Prop) → Prop
structure DEnds where
  nx : DSt → HD → Prop
  rt : Post
  bk : DSt → HD → Prop := fun _ _ => False
  ct : DSt → HD → Prop := fun _ _ => False
abbrev TDS := DW → DEnds → DSt → HD → Prop

def RpS (K : PySem.W.Frag) (H : Hp) : DSt → St → Prop
  | [], l => l = []
  | o :: r, l => ∃ w t, l = w :: t ∧ (∀ d, o = some d → ∃ v, w = some v ∧ Rp K H d v) ∧ RpS K H r t
/-- an exception's own fields -/
def XF (K : PySem.W.Frag) (H : Hp) (fs : List (Str × D)) : Option Addr → Prop
  | none => fs = []
  | some a => ∃ l, H a = some (.xd l) ∧ RKV K H fs l
def liftQ (K : PySem.W.Frag) (G : HD) (H : Hp) (Q : Post) : VK := fun v H' => ∃ d G', Rp K H' d v ∧ Sim K G' H' ∧ Ext G H G' H' ∧ Q d G'
def liftB (K : PySem.W.Frag) (G : HD) (H : Hp) (Q : Bool → HD → Prop) : Bool → Hp → Prop := fun b H' => ∃ G', Sim K G' H' ∧ Ext G H G' H' ∧ Q b G'
def liftA (K : PySem.W.Frag) (G : HD) (H : Hp) (Q : List D → HD → Prop) : List V → Hp → Prop := fun vs H' => ∃ ds G', Rps K H' ds vs ∧ Sim K G' H' ∧ Ext G H G' H' ∧ Q ds G'
def liftN (K : PySem.W.Frag) (G : HD) (H : Hp) (Q : DSt → HD → Prop) : St → Hp → Prop := fun t H' => ∃ σ G', RpS K H' σ t ∧ Sim K G' H' ∧ Ext G H G' H' ∧ Q σ G'
def liftW (K : PySem.W.Frag) (G : HD) (H : Hp) (W : DW) : WX := fun c dd t H' => ∃ σ fs G', RpS K H' σ t ∧ XF K H' fs dd ∧ Sim K G' H' ∧ Ext G H G' H' ∧ W c fs σ G'
def liftX (K : PySem.W.Frag) (G : HD) (H : Hp) (E : DX) : XK := fun c dd H' => ∃ fs G', XF K H' fs dd ∧ Sim K G' H' ∧ Ext G H G' H' ∧ E c fs G'
def liftD (K : PySem.W.Frag) (G : HD) (H : Hp) (D : DEnds) : Ends := { nx := liftN K G H D.nx, rt := liftQ K G H D.rt, bk := liftN K G H D.bk, ct := liftN K G H D.ct }

section
variable {K : PySem.W.Frag} {G G' G1 G2 : HD} {H H' H1 H2 : Hp}
theorem RpS.ext (s : Sim K G H) (x : Ext G H G' H') : ∀ (σ : DSt) (t : St), RpS K H σ t → RpS K H' σ t
  | [], _, h => h
  | o :: r, _, h => by
    obtain ⟨w, t, rfl, h1, h2⟩ := h
    refine ⟨w, t, rfl, fun d e => ?_, RpS.ext s x r t h2⟩
    obtain ⟨v, e1, e2⟩ := h1 d e
    exact ⟨v, e1, e2.ext s x _ _⟩
theorem RpS.get : ∀ {σ : DSt} {t : St} {i : Nat} {d : D}, RpS K H σ t → σ[i]? = some (some d) → ∃ v, t[i]? = some (some v) ∧ Rp K H d v
  | [], _, _, _, _, e => by simp at e
  | o :: r, _, 0, d, h, e => by
    obtain ⟨w, t, rfl, h1, _⟩ := h
    have e' : o = some d := by simpa using e
    obtain ⟨v, rfl, r1⟩ := h1 d e'
    exact ⟨v, rfl, r1⟩
  | o :: r, _, i + 1, d, h, e => by
    obtain ⟨w, t, rfl, _, h2⟩ := h
    exact RpS.get (i := i) h2 (by simpa using e)
theorem RpS.set : ∀ {σ : DSt} {t : St} {i : Nat} {d : D} {v : V}, RpS K H σ t → Rp K H d v → RpS K H (σ.set i (some d)) (t.set i (some v))
  | [], _, _, _, _, h, _ => by cases h; exact rfl
  | o :: r, _, 0, d, v, h, k => by
    obtain ⟨w, t, rfl, _, h2⟩ := h
    exact ⟨_, t, rfl, fun e q => ⟨v, rfl, by cases q; exact k⟩, h2⟩
  | o :: r, _, i + 1, d, v, h, k => by
    obtain ⟨w, t, rfl, h1, h2⟩ := h
    exact ⟨w, _, rfl, h1, RpS.set (i := i) h2 k⟩
theorem RpS.drop1 : ∀ {σ : DSt} {t : St} {i : Nat} {w : Option V}, RpS K H σ t → RpS K H (σ.set i none) (t.set i w)
  | [], _, _, _, h => by cases h; exact rfl
  | o :: r, _, 0, _, h => by
    obtain ⟨w, t, rfl, _, h2⟩ := h
    exact ⟨_, t, rfl, (fun e q => by cases q), h2⟩
  | o :: r, _, i + 1, _, h => by
    obtain ⟨w, t, rfl, h1, h2⟩ := h
    exact ⟨w, _, rfl, h1, RpS.drop1 (i := i) h2⟩
theorem RpS.start : ∀ {ds : List D} {vs : List V} (n : Nat), Rps K H ds vs → RpS K H (ds.map some ++ List.replicate n none) (vs.map some ++ List.replicate n none)
  | [], _, 0, h => by cases h; exact rfl
  | [], _, n + 1, h => by
    have ih := RpS.start (ds := []) n h
    cases h
    exact ⟨none, _, rfl, (fun _ q => nomatch q), ih⟩
  | d :: ds, _, n, h => by
    obtain ⟨v, r, rfl, h1, h2⟩ := h
    exact ⟨some v, _, rfl, (fun e q => ⟨v, rfl, by cases q; exact h1⟩), RpS.start n h2⟩

theorem liftQ.of {Q : Post} {d : D} {v : V} (r : Rp K H' d v) (s : Sim K G' H') (x : Ext G H G' H') (q : Q d G') : liftQ K G H Q v H' := ⟨d, G', r, s, x, q⟩
theorem liftQ.up {Q : Post} {v : V} (x : Ext G H G1 H1) (h : liftQ K G1 H1 Q v H2) : liftQ K G H Q v H2 := by
  obtain ⟨d, G', r, s, y, q⟩ := h
  exact ⟨d, G', r, s, x.trans y, q⟩
theorem liftB.up {Q : Bool → HD → Prop} {v : Bool} (x : Ext G H G1 H1) (h : liftB K G1 H1 Q v H2) : liftB K G H Q v H2 := by
  obtain ⟨G', s, y, q⟩ := h
  exact ⟨G', s, x.trans y, q⟩
theorem liftA.up {Q : List D → HD → Prop} {v : List V} (x : Ext G H G1 H1) (h : liftA K G1 H1 Q v H2) : liftA K G H Q v H2 := by
  obtain ⟨d, G', r, s, y, q⟩ := h
  exact ⟨d, G', r, s, x.trans y, q⟩
theorem liftN.up {Q : DSt → HD → Prop} {t : St} (x : Ext G H G1 H1) (h : liftN K G1 H1 Q t H2) : liftN K G H Q t H2 := by
  obtain ⟨d, G', r, s, y, q⟩ := h
  exact ⟨d, G', r, s, x.trans y, q⟩
theorem liftW.up {W : DW} {c : Value} {dd : Option Addr} {t : St} (x : Ext G H G1 H1) (h : liftW K G1 H1 W c dd t H2) : liftW K G H W c dd t H2 := by
  obtain ⟨σ, fs, G', r, f, s, y, q⟩ := h
  exact ⟨σ, fs, G', r, f, s, x.trans y, q⟩
theorem liftX.up {W : DX} {c : Value} {dd : Option Addr} (x : Ext G H G1 H1) (h : liftX K G1 H1 W c dd H2) : liftX K G H W c dd H2 := by
  obtain ⟨fs, G', f, s, y, q⟩ := h
  exact ⟨fs, G', f, s, x.trans y, q⟩
end

/-! ### what an expression, a statement is worth, by the model itself -/
section
variable (X : Cx)
def semE (e : Expr) : TE := fun σ H Q => ∀ (pins : List (Addr × Obj)) (s : Shared), Inv X pins σ H s → wpAny (model X.prog X.w) X.A (eval e X.env) (EP X pins σ Q) X.xe s
def semT (e : Expr) : TT := fun σ H Q => ∀ (pins : List (Addr × Obj)) (s : Shared), Inv X pins σ H s → wpAny (model X.prog X.w) X.A (isTrue e X.env (eval e X.env)) (TP X pins σ Q) X.xe s
def semTw (e : Expr) : TT := fun σ H Q => ∀ (wh : Sem Value) (pins : List (Addr × Obj)) (s : Shared), Inv X pins σ H s → wpAny (model X.prog X.w) X.A (isTrue e X.env wh) (TP X pins σ Q) X.xe s
def semA (es : List Expr) : TA := fun σ H Q => ∀ (pos : Pos) (pins : List (Addr × Obj)) (s : Shared), Inv X pins σ H s → wpAny (model X.prog X.w) X.A (spliced (backTo pos (starEach es X.env))) (AP X pins σ Q) X.xe s
def semS (st : Stmt) : TS := fun D σ H => ∀ (pins : List (Addr × Obj)) (s : Shared), Inv X pins σ H s → wpAny (model X.prog X.w) X.A (exec st X.env) (SP X pins D) X.xe s
def semSs (st : List Stmt) : TS := fun D σ H => ∀ (pins : List (Addr × Obj)) (s : Shared), Inv X pins σ H s → wpAny (model X.prog X.w) X.A (execs st X.env) (SP X pins D) X.xe s
end
section
variable {X : Cx} {e : Expr} {st : Stmt} {sts : List Stmt} {es : List Expr} {σ : St} {H : Hp}
theorem peSem : PE X e (semE X e) := ⟨fun pins s _ _ _ I h => h pins s I⟩
theorem ptSem : PT X e (semT X e) := ⟨fun pins s _ _ _ I h => h pins s I⟩
theorem pwSem : PW X e (semTw X e) := ⟨fun wh pins s _ _ _ I h => h wh pins s I⟩
theorem paSem : PA X es (semA X es) := ⟨fun pos pins s _ _ _ I h => h pos pins s I⟩
theorem psSem : PS X st (semS X st) := ⟨fun pins s _ _ _ I h => h pins s I⟩
theorem pssSem : PSs X sts (semSs X sts) := ⟨fun pins s _ _ _ I h => h pins s I⟩
theorem semE.of {t : TE} {Q : VK} (p : PE X e t) (h : t σ H Q) : semE X e σ H Q := fun pins s I => p.run pins s σ H Q I h
theorem semT.of {t : TT} {Q : Bool → Hp → Prop} (p : PT X e t) (h : t σ H Q) : semT X e σ H Q := fun pins s I => p.run pins s σ H Q I h
theorem semTw.of {t : TT} {Q : Bool → Hp → Prop} (p : PW X e t) (h : t σ H Q) : semTw X e σ H Q := fun wh pins s I => p.run wh pins s σ H Q I h
theorem semA.of {t : TA} {Q : List V → Hp → Prop} (p : PA X es t) (h : t σ H Q) : semA X es σ H Q := fun pos pins s I => p.run pos pins s σ H Q I h
theorem semS.of {t : TS} {D : Ends} (p : PS X st t) (h : t D σ H) : semS X st D σ H := fun pins s I => p.run pins s σ H D I h
theorem semSs.of {t : TS} {D : Ends} (p : PSs X sts t) (h : t D σ H) : semSs X sts D σ H := fun pins s I => p.run pins s σ H D I h
theorem semE.imp {Q Q' : VK} (h : semE X e σ H Q) (q : ∀ v H', Q v H' → Q' v H') : semE X e σ H Q' := fun pins s I =>
  thn (h pins s I) fun _ _ ⟨v, H', I', r, z⟩ => ⟨v, H', I', r, q v H' z⟩
theorem semT.imp {Q Q' : Bool → Hp → Prop} (h : semT X e σ H Q) (q : ∀ v H', Q v H' → Q' v H') : semT X e σ H Q' := fun pins s I =>
  thn (h pins s I) fun b _ ⟨H', I', z⟩ => ⟨H', I', q b H' z⟩
theorem semTw.imp {Q Q' : Bool → Hp → Prop} (h : semTw X e σ H Q) (q : ∀ v H', Q v H' → Q' v H') : semTw X e σ H Q' := fun wh pins s I =>
  thn (h wh pins s I) fun b _ ⟨H', I', z⟩ => ⟨H', I', q b H' z⟩
theorem semA.imp {Q Q' : List V → Hp → Prop} (h : semA X es σ H Q) (q : ∀ v H', Q v H' → Q' v H') : semA X es σ H Q' := fun pos pins s I =>
  thn (h pos pins s I) fun _ _ ⟨v, H', I', r, z⟩ => ⟨v, H', I', r, q v H' z⟩
/-- ends that are implied -/
structure EndsLe (D D' : Ends) : Prop where
  nx : ∀ t H', D.nx t H' → D'.nx t H'
  rt : ∀ v H', D.rt v H' → D'.rt v H'
  bk : ∀ t H', D.bk t H' → D'.bk t H'
  ct : ∀ t H', D.ct t H' → D'.ct t H'
theorem spLe {pins : List (Addr × Obj)} {D D' : Ends} (l : EndsLe D D') (f : Flow) (s' : Shared) (h : SP X pins D f s') : SP X pins D' f s' := by
  cases f with
  | next => obtain ⟨a, b, c, d⟩ := h; exact ⟨a, b, c, l.nx _ _ d⟩
  | brk => obtain ⟨a, b, c, d⟩ := h; exact ⟨a, b, c, l.bk _ _ d⟩
  | cont => obtain ⟨a, b, c, d⟩ := h; exact ⟨a, b, c, l.ct _ _ d⟩
  | ret u => obtain ⟨v, a, b, c, r, d⟩ := h; exact ⟨v, a, b, c, r, l.rt _ _ d⟩
theorem semS.imp {D D' : Ends} (h : semS X st D σ H) (l : EndsLe D D') : semS X st D' σ H := fun pins s I => thn (h pins s I) (spLe l)
theorem semSs.imp {D D' : Ends} (h : semSs X sts D σ H) (l : EndsLe D D') : semSs X sts D' σ H := fun pins s I => thn (h pins s I) (spLe l)
end

/-! ### the judgements -/
structure SR (X : Cx) (G : HD) (H : Hp) (σ : DSt) (t : St) (W : DW) : Prop where
  sim : Sim X.K G H
  slots : RpS X.K H σ t
  takes : Takes X (liftW X.K G H W)
section
variable {X : Cx} {G G1 : HD} {H H1 : Hp} {σ : DSt} {t : St} {W : DW}
theorem SR.ext (r : SR X G H σ t W) (s : Sim X.K G1 H1) (x : Ext G H G1 H1) : SR X G1 H1 σ t W :=
  ⟨s, r.slots.ext r.sim x _ _, r.takes.imp fun _ _ _ _ h => h.up x⟩
theorem SR.slot (r : SR X G H σ t W) {σ' : DSt} {t' : St} (h : RpS X.K H σ' t') : SR X G H σ' t' W := ⟨r.sim, h, r.takes⟩
end
structure DE (X : Cx) (e : Expr) (t : TD) : Prop where
  run : ∀ (G : HD) (H : Hp) (σ : DSt) (τ : St) (W : DW) (Q : Post), SR X G H σ τ W → t W σ G Q → semE X e τ H (liftQ X.K G H Q)
structure DT (X : Cx) (e : Expr) (t : TDT) : Prop where
  run : ∀ (G : HD) (H : Hp) (σ : DSt) (τ : St) (W : DW) (Q : Bool → HD → Prop), SR X G H σ τ W → t W σ G Q → semT X e τ H (liftB X.K G H Q)
structure DTw (X : Cx) (e : Expr) (t : TDT) : Prop where
  run : ∀ (G : HD) (H : Hp) (σ : DSt) (τ : St) (W : DW) (Q : Bool → HD → Prop), SR X G H σ τ W → t W σ G Q → semTw X e τ H (liftB X.K G H Q)
structure DA (X : Cx) (es : List Expr) (t : TDA) : Prop where
  run : ∀ (G : HD) (H : Hp) (σ : DSt) (τ : St) (W : DW) (Q : List D → HD → Prop), SR X G H σ τ W → t W σ G Q → semA X es τ H (liftA X.K G H Q)
structure DS (X : Cx) (st : Stmt) (t : TDS) : Prop where
  run : ∀ (G : HD) (H : Hp) (σ : DSt) (τ : St) (W : DW) (D : DEnds), SR X G H σ τ W → t W D σ G → semS X st (liftD X.K G H D) τ H
structure DSs (X : Cx) (st : List Stmt) (t : TDS) : Prop where
  run : ∀ (G : HD) (H : Hp) (σ : DSt) (τ : St) (W : DW) (D : DEnds), SR X G H σ τ W → t W D σ G → semSs X st (liftD X.K G H D) τ H

section
variable {X : Cx} {a b e : Expr} {ta tb : TD} {es : List Expr} {ts : TDA}
/-- then: the next expression, in the state behind the first -/
theorem DE.then (h : DE X a ta) {G : HD} {H : Hp} {σ : DSt} {τ : St} {W : DW} {R : D → HD → Prop} {Q : VK} (r : SR X G H σ τ W) (q : ta W σ G R)
    (k : ∀ d v G1 H1, SR X G1 H1 σ τ W → Ext G H G1 H1 → Rp X.K H1 d v → R d G1 → Q v H1) : semE X a τ H Q :=
  (h.run G H σ τ W R r q).imp fun v H1 ⟨d, G1, r1, s1, x1, q1⟩ => k d v G1 H1 (r.ext s1 x1) x1 r1 q1
theorem DT.then {t : TDT} (h : DT X a t) {G : HD} {H : Hp} {σ : DSt} {τ : St} {W : DW} {R : Bool → HD → Prop} {Q : Bool → Hp → Prop} (r : SR X G H σ τ W) (q : t W σ G R)
    (k : ∀ d G1 H1, SR X G1 H1 σ τ W → Ext G H G1 H1 → R d G1 → Q d H1) : semT X a τ H Q :=
  (h.run G H σ τ W R r q).imp fun v H1 ⟨G1, s1, x1, q1⟩ => k v G1 H1 (r.ext s1 x1) x1 q1
theorem DTw.then {t : TDT} (h : DTw X a t) {G : HD} {H : Hp} {σ : DSt} {τ : St} {W : DW} {R : Bool → HD → Prop} {Q : Bool → Hp → Prop} (r : SR X G H σ τ W) (q : t W σ G R)
    (k : ∀ d G1 H1, SR X G1 H1 σ τ W → Ext G H G1 H1 → R d G1 → Q d H1) : semTw X a τ H Q :=
  (h.run G H σ τ W R r q).imp fun v H1 ⟨G1, s1, x1, q1⟩ => k v G1 H1 (r.ext s1 x1) x1 q1
theorem DA.then (h : DA X es ts) {G : HD} {H : Hp} {σ : DSt} {τ : St} {W : DW} {R : List D → HD → Prop} {Q : List V → Hp → Prop} (r : SR X G H σ τ W) (q : ts W σ G R)
    (k : ∀ ds vs G1 H1, SR X G1 H1 σ τ W → Ext G H G1 H1 → Rps X.K H1 ds vs → R ds G1 → Q vs H1) : semA X es τ H Q :=
  (h.run G H σ τ W R r q).imp fun v H1 ⟨d, G1, r1, s1, x1, q1⟩ => k d v G1 H1 (r.ext s1 x1) x1 r1 q1

/-! ### names, constants -/
def dVar (i : Nat) : TD := fun _ σ G Q => match σ[i]? with
  | some (some d) => Q d G
  | _ => False
def dC (d : D) : TD := fun _ _ G Q => Q d G
theorem de_var {i : Nat} {x : Str} {pos : Pos} (p : PE X (.Name x pos) (tVar i)) : DE X (.Name x pos) (dVar i) := ⟨fun G H σ τ W Q r h => by
  refine semE.of p ?_
  unfold dVar at h
  split at h
  · rename_i d e
    obtain ⟨v, e1, r1⟩ := r.slots.get e
    exact ⟨v, e1, .of r1 r.sim .refl h⟩
  · exact h.elim⟩
/-- a slot -/
theorem dv (i : Nat) {x : Str} {pos : Pos} (hN : X.N[i]? = some x := by rfl) (hv : Vis X.env.scope x := by first | exact Or.inl rfl | exact Or.inr (Or.inl rfl) | exact Or.inr (Or.inr rfl)) (hd : (x == ("__debug__" : Str)) = false := by decide)
    (hcd : (x == ("__classdict__" : Str)) = false := by decide) : DE X (.Name x pos) (dVar i) := de_var (pe_var hN hv hd hcd)
theorem de_const {v : V} {d : D} (p : PE X e (tC v)) (h : ∀ K H, Rp K H d v) : DE X e (dC d) := ⟨fun G H σ τ W Q r q => semE.of p (.of (h _ _) r.sim .refl q)⟩
theorem de_int {i j pos} : DE X (.Constant (.int i) j pos) (dC (.int i)) := de_const pe_int fun _ _ => rfl
theorem de_bl {i j pos} : DE X (.Constant (.bool i) j pos) (dC (.bl i)) := de_const pe_bl fun _ _ => rfl
theorem de_non {j pos} : DE X (.Constant .none j pos) (dC .non) := de_const pe_non fun _ _ => rfl
theorem de_str {i j pos} : DE X (.Constant (.str i) j pos) (dC (.str i)) := de_const pe_str fun _ _ => rfl
/-- a constant of the module -/
theorem de_glob {x : Str} {d : D} {v : V} {u : Value} {pos : Pos} (hg : Gl X x) (hm : X.mg x = some u) (r : RelV v u) (h : ∀ H, Rp X.K H d v) (hd : (x == ("__debug__" : Str)) = false := by decide) : DE X (.Name x pos) (dC d) :=
  ⟨fun G H σ τ W Q r' q => semE.of (pe_glob hg hm r hd) (.of (h _) r'.sim .refl q)⟩
/-- a built-in type by its name -/
theorem de_bty {x : Str} {n : String} {pos : Pos} (hg : Gl X x) (hm : X.mg x = none) (hv : bootBuiltins x = some (.type n)) (hn : x ≠ "__name__" := by decide) (hd : (x == ("__debug__" : Str)) = false := by decide) : DE X (.Name x pos) (dC (.ty n)) :=
  ⟨fun G H σ τ W Q r' q => semE.of (pe_bltn (v := .ty n) hg hm hv rfl hn hd) (.of (d := .ty n) (show Rp X.K H (.ty n) (.ty n) from rfl) r'.sim .refl q)⟩

/-! ### operators by values -/
/-- a reading of values over data -/
def OpD (K : PySem.W.Frag) (r : R2) (rd : D → D → HD → Post → Prop) : Prop :=
  ∀ (G : HD) (H : Hp) (d e : D) (x y : V) (Q : Post) (Q' : VK), Sim K G H → Rp K H d x → Rp K H e y → (∀ v H', liftQ K G H Q v H' → Q' v H') → rd d e G Q → r x y H Q'
def dOp (rd : D → D → HD → Post → Prop) (ta tb : TD) : TD := fun W σ G Q => ta W σ G fun d G1 => tb W σ G1 fun e G2 => rd d e G2 Q
theorem de_two {r : R2} {rd : D → D → HD → Post → Prop} (hd : OpD X.K r rd) (p : PE X e (tOp r (semE X a) (semE X b))) (ha : DE X a ta) (hb : DE X b tb) : DE X e (dOp rd ta tb) :=
  ⟨fun G H σ τ W Q r0 h => semE.of p (ha.then r0 h fun d x G1 H1 r1 x1 k1 q1 => hb.then r1 q1 fun d2 y G2 H2 r2 x2 k2 q2 =>
    hd G2 H2 d d2 x y Q _ r2.sim (k1.ext r1.sim x2 _ _) k2 (fun _ _ z => z.up (x1.trans x2)) q2)⟩
theorem de_op {op : Operator} {r : R2} {rd : D → D → HD → Post → Prop} {pos : Pos} (ho : OpR X (binaryOp op) r) (hd : OpD X.K r rd) (ha : DE X a ta) (hb : DE X b tb) : DE X (.BinOp a op b pos) (dOp rd ta tb) :=
  de_two hd (pe_op ho peSem peSem) ha hb
theorem de_cmp {op : CmpOp} {r : R2} {rd : D → D → HD → Post → Prop} {pos : Pos} (ho : OpR X (compareOp op) r) (hd : OpD X.K r rd) (ha : DE X a ta) (hb : DE X b tb) (hm : behindInMarks op b = false) : DE X (.Compare a [op] [b] pos) (dOp rd ta tb) :=
  de_two hd (pe_cmpR ho peSem peSem hm) ha hb
theorem de_ix {r : R2} {rd : D → D → HD → Post → Prop} {pos : Pos} (ho : IxR X r) (hd : OpD X.K r rd) (ha : DE X a ta) (hb : DE X b tb) (hs : PlainIx b) : DE X (.Subscript a b pos) (dOp rd ta tb) :=
  de_two hd (pe_ix ho peSem peSem hs) ha hb
def dTest (t : TD) : TDT := fun W σ G Q => t W σ G fun d G1 => match d with
  | .bl k => Q k G1
  | _ => False
theorem dt_cmp {op : CmpOp} {r : R2} {rd : D → D → HD → Post → Prop} {pos : Pos} (ho : OpR X (compareOp op) r) (hd : OpD X.K r rd) (ha : DE X a ta) (hb : DE X b tb) (hm : behindInMarks op b = false) : DT X (.Compare a [op] [b] pos) (dTest (dOp rd ta tb)) :=
  ⟨fun G H σ τ W Q r0 h => semT.of (pt_cmpR ho peSem peSem hm) (ha.then r0 h fun d x G1 H1 r1 x1 k1 q1 => hb.then r1 q1 fun d2 y G2 H2 r2 x2 k2 q2 =>
    hd G2 H2 d d2 x y _ _ r2.sim (k1.ext r1.sim x2 _ _) k2 (fun v H' ⟨d3, G3, k3, s3, x3, q3⟩ => by
      cases d3 with
      | bl k => exact ⟨k, k3, G3, s3, (x1.trans x2).trans x3, q3⟩
      | _ => exact q3.elim) q2)⟩
theorem OpD.or {K : PySem.W.Frag} {r r' : R2} {rd : D → D → HD → Post → Prop} {rd' : D → D → HD → Post → Prop} (h : OpD K r rd) (h' : OpD K r' rd') :
    OpD K (fun x y H Q => r x y H Q ∨ r' x y H Q) (fun d e G Q => rd d e G Q ∨ rd' d e G Q) := fun G H d e x y Q Q' s k1 k2 f q => q.elim (fun z => .inl (h G H d e x y Q Q' s k1 k2 f z)) fun z => .inr (h' G H d e x y Q Q' s k1 k2 f z)
end
end DL

namespace DL
open PySem PySem.Spec L2
open PyProof.Rows hiding St

section
variable {K : PySem.W.Frag} {G : HD} {H : Hp}
/-- a list that is read: one of ours, or one that never changes -/
def asL (G : HD) : D → Option (List D)
  | .kl ds => some ds
  | .ref a => match G a with
    | some (.lst ds) => some ds
    | _ => none
  | _ => none
def asQ (G : HD) : D → Option (List D)
  | .tup ds => some ds
  | d => asL G d
theorem Rp.lst (s : Sim K G H) {d : D} {v : V} {ds : List D} (r : Rp K H d v) (h : asL G d = some ds) : ∃ a vs, v = .ref a ∧ SqL K H a vs ∧ Rps K H ds vs := by
  cases d with
  | kl es =>
    cases h
    obtain ⟨a, vs, rfl, t, q⟩ := r
    refine ⟨a, vs, rfl, ?_, q⟩
    rcases t with ⟨o, t⟩ | t
    · exact .inl (.inr ⟨o, t⟩)
    · exact .inr t
  | ref a =>
    cases (show v = .ref a from r)
    simp only [asL] at h
    split at h
    · rename_i es e
      cases h
      obtain ⟨vs, e1, r1⟩ := s.lst e
      exact ⟨a, vs, rfl, .of e1, r1⟩
    · cases h
  | non => cases h
  | bl _ => cases h
  | int _ => cases h
  | str _ => cases h
  | ty _ => cases h
  | tup _ => cases h
theorem Rp.seq (s : Sim K G H) {d : D} {v : V} {ds : List D} (r : Rp K H d v) (h : asQ G d = some ds) : ∃ a vs, v = .ref a ∧ (SqL K H a vs ∨ SqT K H a vs) ∧ Rps K H ds vs := by
  by_cases z : ∃ es, d = .tup es
  · obtain ⟨es, rfl⟩ := z
    cases h
    obtain ⟨a, vs, rfl, t, q⟩ := r
    exact ⟨a, vs, rfl, .inr t, q⟩
  · have h' : asL G d = some ds := by
      cases d with
      | tup es => exact (z ⟨es, rfl⟩).elim
      | _ => exact h
    obtain ⟨a, vs, e, t, q⟩ := r.lst s h'
    exact ⟨a, vs, e, .inl t, q⟩
end
/-- a new list -/
def newL (G : HD) (ds : List D) (Q : Post) : Prop := ∀ p, G p = none → Q (.ref p) (put G p (.lst ds))
theorem newL.fin {K : PySem.W.Frag} {G : HD} {H : Hp} {ds : List D} {vs : List V} {Q : Post} {Q' : VK} (s : Sim K G H) (r : Rps K H ds vs) (f : ∀ v H', liftQ K G H Q v H' → Q' v H') (q : newL G ds Q) :
    ∀ p, H p = none → Q' (.ref p) (upd H p (.lst vs)) := fun p hp =>
  f _ _ (.of (d := .ref p) rfl (s.newM (m := .lst ds) hp ⟨vs, rfl, r⟩) (.newM hp) (q p (s.no hp)))
theorem newT.fin {K : PySem.W.Frag} {G : HD} {H : Hp} {ds : List D} {vs : List V} {Q : Post} {Q' : VK} (s : Sim K G H) (r : Rps K H ds vs) (f : ∀ v H', liftQ K G H Q v H' → Q' v H') (q : Q (.tup ds) G) :
    ∀ p, H p = none → Q' (.ref p) (upd H p (.tup vs)) := fun p hp =>
  f _ _ (.of (d := .tup ds) ⟨p, vs, rfl, .of upd_same, r.ext s (Ext.new hp (s.no hp)) _ _⟩ (s.newO hp) (.new hp (s.no hp)) q)

/-! ### + - * // % ** -/
def dAdd : D → D → HD → Post → Prop := fun d e G Q => match d, e with
  | .int i, .int j => Q (.int (i + j)) G
  | .str x, .str y => x.length + y.length ≤ sizeLine ∧ Q (.str (x ++ y)) G
  | .tup xs, .tup ys => xs.length + ys.length ≤ sizeLine ∧ Q (.tup (xs ++ ys)) G
  | .ref a, .ref b => match G a, G b with
    | some (.lst xs), some (.lst ys) => xs.length + ys.length ≤ sizeLine ∧ newL G (xs ++ ys) Q
    | _, _ => False
  | _, _ => False
def rAddU (K : PySem.W.Frag) : R2 := fun x y H Q => rI0 (fun i j => .int (i + j)) x y H Q ∨ (∃ i j, x = .str i ∧ y = .str j ∧ i.length + j.length ≤ sizeLine ∧ Q (.str (i ++ j)) H) ∨ rCatA K x y H Q ∨ rCat x y H Q
theorem od_add (K : PySem.W.Frag) : OpD K (rAddU K) dAdd := fun G H d e x y Q Q' s k1 k2 f q => by
  unfold dAdd at q
  split at q
  · cases k1; cases k2
    exact .inl ⟨_, _, rfl, rfl, f _ _ (.of (d := .int _) rfl s .refl q)⟩
  · cases k1; cases k2
    exact .inr (.inl ⟨_, _, rfl, rfl, q.1, f _ _ (.of (d := .str _) rfl s .refl q.2)⟩)
  · rename_i xs ys
    obtain ⟨a, vs, rfl, t1, r1⟩ := id k1
    obtain ⟨b, ws, rfl, t2, r2⟩ := id k2
    refine .inr (.inr (.inl ⟨a, b, vs, ws, rfl, rfl, t1, t2, by rw [r1.length, r2.length]; exact q.1, fun e => ?_, fun _ e => ?_, fun _ _ => newT.fin s (r1.app r2) f q.2⟩))
    · subst e
      have e1 : xs = [] := List.eq_nil_of_length_eq_zero (by rw [← r1.length]; rfl)
      subst e1
      exact f _ _ (.of (d := .tup ys) k2 s .refl q.2)
    · subst e
      have e1 : ys = [] := List.eq_nil_of_length_eq_zero (by rw [← r2.length]; rfl)
      subst e1
      exact f _ _ (.of (d := .tup xs) k1 s .refl (by simpa using q.2))
  · split at q
    · rename_i xs ys e1 e2
      cases k1; cases k2
      obtain ⟨vs, g1, r1⟩ := s.lst e1
      obtain ⟨ws, g2, r2⟩ := s.lst e2
      exact .inr (.inr (.inr ⟨_, _, vs, ws, rfl, rfl, g1, g2, by rw [r1.length, r2.length]; exact q.1, newL.fin s (r1.app r2) f q.2⟩))
    · exact q.elim
  · exact q.elim
def dSub : D → D → HD → Post → Prop := fun d e G Q => match d, e with
  | .int i, .int j => Q (.int (i - j)) G
  | _, _ => False
theorem od_int {K : PySem.W.Frag} {C : Int → Int → Prop} {g : Int → Int → V} {gd : Int → Int → D} (hg : ∀ i j K H, Rp K H (gd i j) (g i j)) :
    OpD K (rI C g) (fun d e G Q => match d, e with | .int i, .int j => C i j ∧ Q (gd i j) G | _, _ => False) := fun G H d e x y Q Q' s k1 k2 f q => by
  dsimp only at q
  split at q
  · cases k1; cases k2
    exact ⟨_, _, rfl, rfl, q.1, f _ _ (.of (hg _ _ _ _) s .refl q.2)⟩
  · exact q.elim
theorem od_int0 {K : PySem.W.Frag} {g : Int → Int → V} {gd : Int → Int → D} (hg : ∀ i j K H, Rp K H (gd i j) (g i j)) :
    OpD K (rI0 g) (fun d e G Q => match d, e with | .int i, .int j => Q (gd i j) G | _, _ => False) := fun G H d e x y Q Q' s k1 k2 f q => by
  dsimp only at q
  split at q
  · cases k1; cases k2
    exact ⟨_, _, rfl, rfl, f _ _ (.of (hg _ _ _ _) s .refl q)⟩
  · exact q.elim
theorem od_sub (K : PySem.W.Frag) : OpD K (rI0 fun i j => .int (i - j)) dSub := od_int0 (gd := fun i j => .int (i - j)) fun _ _ _ _ => rfl
def MulOk (i j : Int) : Prop := CMul i j ∨ CMulW i j
def dMul : D → D → HD → Post → Prop := fun d e G Q => match d, e with
  | .int i, .int j => MulOk i j ∧ Q (.int (i * j)) G
  | _, _ => False
def rMulU : R2 := fun x y H Q => rI CMul (fun i j => .int (i * j)) x y H Q ∨ rI CMulW (fun i j => .int (i * j)) x y H Q
theorem od_mul (K : PySem.W.Frag) : OpD K rMulU dMul := fun G H d e x y Q Q' s k1 k2 f q => by
  unfold dMul at q
  split at q
  · cases k1; cases k2
    exact q.1.elim (fun z => .inl ⟨_, _, rfl, rfl, z, f _ _ (.of (d := .int _) rfl s .refl q.2)⟩) fun z => .inr ⟨_, _, rfl, rfl, z, f _ _ (.of (d := .int _) rfl s .refl q.2)⟩
  · exact q.elim
def dDiv : D → D → HD → Post → Prop := fun d e G Q => match d, e with
  | .int i, .int j => CDivW i j ∧ Q (.int (i / j)) G
  | _, _ => False
theorem od_div (K : PySem.W.Frag) : OpD K (rI CDivW fun i j => .int (i / j)) dDiv := od_int (gd := fun i j => .int (i / j)) fun _ _ _ _ => rfl
def dMod : D → D → HD → Post → Prop := fun d e G Q => match d, e with
  | .int i, .int j => 0 < j ∧ Q (.int (i % j)) G
  | _, _ => False
theorem od_mod (K : PySem.W.Frag) : OpD K (rI (fun _ j => 0 < j) fun i j => .int (i % j)) dMod := od_int (gd := fun i j => .int (i % j)) fun _ _ _ _ => rfl
def dPow : D → D → HD → Post → Prop := fun d e G Q => match d, e with
  | .int i, .int j => CPow i j ∧ Q (.int (i ^ j.toNat)) G
  | _, _ => False
theorem od_pow (K : PySem.W.Frag) : OpD K (rI CPow fun i j => .int (i ^ j.toNat)) dPow := od_int (gd := fun i j => .int (i ^ j.toNat)) fun _ _ _ _ => rfl
section
variable {X : Cx} {a b : Expr} {ta tb : TD} {pos : Pos}
theorem de_add (ha : DE X a ta) (hb : DE X b tb) : DE X (.BinOp a .Add b pos) (dOp dAdd ta tb) := de_op (op_add.or (op_add_str.or (op_catA.or op_cat))) (od_add X.K) ha hb
theorem de_sub (ha : DE X a ta) (hb : DE X b tb) : DE X (.BinOp a .Sub b pos) (dOp dSub ta tb) := de_op op_sub (od_sub X.K) ha hb
theorem de_mul (ha : DE X a ta) (hb : DE X b tb) : DE X (.BinOp a .Mult b pos) (dOp dMul ta tb) := de_op (op_mul.or op_mulW) (od_mul X.K) ha hb
theorem de_div (ha : DE X a ta) (hb : DE X b tb) : DE X (.BinOp a .FloorDiv b pos) (dOp dDiv ta tb) := de_op op_fdivW (od_div X.K) ha hb
theorem de_mod (ha : DE X a ta) (hb : DE X b tb) : DE X (.BinOp a .Mod b pos) (dOp dMod ta tb) := de_op op_mod (od_mod X.K) ha hb
theorem de_pow (ha : DE X a ta) (hb : DE X b tb) : DE X (.BinOp a .Pow b pos) (dOp dPow ta tb) := de_op op_pow (od_pow X.K) ha hb
end

/-! ### comparisons -/
def dCmpI (p : Int → Int → Bool) : D → D → HD → Post → Prop := fun d e G Q => match d, e with
  | .int i, .int j => Q (.bl (p i j)) G
  | _, _ => False
theorem od_cmpI (K : PySem.W.Frag) (p : Int → Int → Bool) : OpD K (rI0 fun i j => .bl (p i j)) (dCmpI p) := od_int0 (gd := fun i j => .bl (p i j)) fun _ _ _ _ => rfl
def isNon : D → Bool
  | .non => true
  | _ => false
theorem isNon_of {K : PySem.W.Frag} {H : Hp} {d : D} {v : V} (r : Rp K H d v) : decide (v = .non) = isNon d := by
  cases d with
  | non => cases r; rfl
  | bl _ => cases r; rfl
  | int _ => cases r; rfl
  | str _ => cases r; rfl
  | ty _ => cases r; rfl
  | ref _ => cases r; rfl
  | tup _ => obtain ⟨_, _, rfl, _⟩ := r; rfl
  | kl _ => obtain ⟨_, _, rfl, _⟩ := r; rfl
def dIsN (neg : Bool) : D → D → HD → Post → Prop := fun d e G Q => match e with
  | .non => Q (.bl (if neg then !isNon d else isNon d)) G
  | _ => False
theorem od_isN (K : PySem.W.Frag) : OpD K (fun x y H Q => y = .non ∧ Q (.bl (decide (x = .non))) H) (dIsN false) := fun G H d e x y Q Q' s k1 k2 f q => by
  unfold dIsN at q
  split at q
  · cases k2
    refine ⟨rfl, f _ _ (.of (d := .bl (isNon d)) ?_ s .refl q)⟩
    rw [isNon_of k1]; exact rfl
  · exact q.elim
theorem od_notN (K : PySem.W.Frag) : OpD K (fun x y H Q => y = .non ∧ Q (.bl (!decide (x = .non))) H) (dIsN true) := fun G H d e x y Q Q' s k1 k2 f q => by
  unfold dIsN at q
  split at q
  · cases k2
    refine ⟨rfl, f _ _ (.of (d := .bl (!isNon d)) ?_ s .refl q)⟩
    rw [isNon_of k1]; exact rfl
  · exact q.elim

/-! == and != of data -/
/-- data by value, as the library's PyData; fuel: its depth -/
def pyD : Nat → HD → D → Option PyData
  | 0, _, _ => none
  | n + 1, G, d => match d with
    | .non => some .none
    | .bl b => some (.bool b)
    | .int i => some (.int i)
    | .str x => if PyData.strOk x = true then some (.str x) else none
    | .tup ds => (ds.mapM (pyD n G)).map .tuple
    | .kl ds => (ds.mapM (pyD n G)).map .list
    | .ref a => match G a with
      | some (.lst ds) => (ds.mapM (pyD n G)).map .list
      | _ => none
    | .ty _ => none
section
variable {K : PySem.W.Frag} {G : HD} {H : Hp}
theorem mapM_cons_some {α β : Type} {f : α → Option β} {a : α} {l : List α} {ys : List β} (h : (a :: l).mapM f = some ys) : ∃ y zs, f a = some y ∧ l.mapM f = some zs ∧ ys = y :: zs := by
  rw [List.mapM_cons] at h
  cases e : f a with
  | none => rw [e] at h; cases h
  | some y =>
    rw [e] at h
    cases e2 : l.mapM f with
    | none => rw [e2] at h; cases h
    | some zs => rw [e2] at h; cases h; exact ⟨y, zs, rfl, rfl, rfl⟩
theorem pyDs_dp {n : Nat} (s : Sim K G H) (ih : ∀ (d : D) (v : V) (p : PyData), pyD n G d = some p → Rp K H d v → Dp K H v p ∧ p.canLay0 = true ∧ p.depth ≤ n) :
    ∀ (ds : List D) (vs : List V) (ps : List PyData), ds.mapM (pyD n G) = some ps → Rps K H ds vs → DpAll K H vs ps ∧ PyData.canLayAll0 ps = true ∧ PyData.depthAll ps ≤ n
  | [], vs, ps, h, r => by
    cases r
    simp only [List.mapM_nil, Option.pure_def, Option.some.injEq] at h
    subst h
    exact ⟨.nil, by simp only [PyData.canLayAll0], by simp only [PyData.depthAll]; exact Nat.zero_le _⟩
  | d :: ds, vs, ps, h, r => by
    obtain ⟨y, zs, e1, e2, rfl⟩ := mapM_cons_some h
    obtain ⟨v, r', rfl, h1, h2⟩ := r
    obtain ⟨a1, a2, a3⟩ := ih d v y e1 h1
    obtain ⟨b1, b2, b3⟩ := pyDs_dp s ih ds r' zs e2 h2
    refine ⟨.cons a1 b1, by simp only [PyData.canLayAll0, a2, b2, Bool.and_self], ?_⟩
    simp only [PyData.depthAll]
    omega
theorem pyD_dp (s : Sim K G H) : ∀ (n : Nat) (d : D) (v : V) (p : PyData), pyD n G d = some p → Rp K H d v → Dp K H v p ∧ p.canLay0 = true ∧ p.depth ≤ n
  | 0, _, _, _, h, _ => by cases h
  | n + 1, d, v, p, h, r => by
    cases d with
    | non => cases h; cases r; exact ⟨.non, by simp only [PyData.canLay0], by simp only [PyData.depth]; omega⟩
    | bl b => cases h; cases r; exact ⟨.bl b, by simp only [PyData.canLay0], by simp only [PyData.depth]; omega⟩
    | int i => cases h; cases r; exact ⟨.int i, by simp only [PyData.canLay0], by simp only [PyData.depth]; omega⟩
    | str x =>
      unfold pyD at h
      simp only at h
      split at h
      · rename_i hx
        cases h; cases r; exact ⟨.str x, by simp only [PyData.canLay0, hx], by simp only [PyData.depth]; omega⟩
      · cases h
    | ty _ => cases h
    | tup ds =>
      unfold pyD at h
      simp only [Option.map_eq_some_iff] at h
      obtain ⟨ps, e, rfl⟩ := h
      obtain ⟨a, vs, rfl, t, r2⟩ := r
      obtain ⟨x1, x2, x3⟩ := pyDs_dp s (pyD_dp s n) ds vs ps e r2
      exact ⟨.tup t x1, by simp only [PyData.canLay0, x2], by simp only [PyData.depth]; omega⟩
    | kl ds =>
      have r0 := r
      unfold pyD at h
      simp only [Option.map_eq_some_iff] at h
      obtain ⟨ps, e, rfl⟩ := h
      obtain ⟨a, vs, rfl, t, r2⟩ := Rp.lst (ds := ds) s r rfl
      obtain ⟨x1, x2, x3⟩ := pyDs_dp s (pyD_dp s n) ds vs ps e r2
      exact ⟨.lst t x1, by simp only [PyData.canLay0, x2], by simp only [PyData.depth]; omega⟩
    | ref a =>
      unfold pyD at h
      simp only at h
      split at h
      · rename_i ds eg
        simp only [Option.map_eq_some_iff] at h
        obtain ⟨ps, e, rfl⟩ := h
        cases r
        obtain ⟨vs, e1, r2⟩ := s.lst eg
        obtain ⟨x1, x2, x3⟩ := pyDs_dp s (pyD_dp s n) ds vs ps e r2
        exact ⟨.lst (.of e1) x1, by simp only [PyData.canLay0, x2], by simp only [PyData.depth]; omega⟩
      · cases h
theorem pyD_shaped {n : Nat} (s : Sim K G H) {d : D} {v : V} {p : PyData} (h : pyD n G d = some p) (hn : n ≤ 64) (r : Rp K H d v) : Dp K H v p ∧ SeqAt.shaped p = true := by
  obtain ⟨a, b, c⟩ := pyD_dp s n d v p h r
  exact ⟨a, by unfold SeqAt.shaped; rw [b, decide_eq_true (Nat.le_trans c hn)]; rfl⟩
end
/-- the answer of == -/
def eqO (G : HD) (d e : D) : Option Bool := match pyD 9 G d, pyD 9 G e with
  | some p, some q => some (PyData.eqv p q)
  | _, _ => none
def dEq (neg : Bool) : D → D → HD → Post → Prop := fun d e G Q => match eqO G d e with
  | some b => Q (.bl (if neg then !b else b)) G
  | none => False
theorem eqO_some {G : HD} {d e : D} {b : Bool} (h : eqO G d e = some b) : ∃ p q, pyD 9 G d = some p ∧ pyD 9 G e = some q ∧ b = PyData.eqv p q := by
  unfold eqO at h
  split at h
  · rename_i p q e1 e2
    cases h
    exact ⟨p, q, e1, e2, rfl⟩
  · cases h
theorem od_eq (K : PySem.W.Frag) : OpD K (rEqD K) (dEq false) := fun G H d e x y Q Q' s k1 k2 f q => by
  unfold dEq at q
  split at q
  · rename_i b hb
    obtain ⟨p1, p2, e1, e2, rfl⟩ := eqO_some hb
    obtain ⟨a1, a2⟩ := pyD_shaped s e1 (by decide) k1
    obtain ⟨b1, b2⟩ := pyD_shaped s e2 (by decide) k2
    exact ⟨p1, p2, a1, b1, a2, b2, f _ _ (.of (d := .bl _) rfl s .refl q)⟩
  · exact q.elim
theorem od_ne (K : PySem.W.Frag) : OpD K (rNeD K) (dEq true) := fun G H d e x y Q Q' s k1 k2 f q => by
  unfold dEq at q
  split at q
  · rename_i b hb
    obtain ⟨p1, p2, e1, e2, rfl⟩ := eqO_some hb
    obtain ⟨a1, a2⟩ := pyD_shaped s e1 (by decide) k1
    obtain ⟨b1, b2⟩ := pyD_shaped s e2 (by decide) k2
    exact ⟨p1, p2, a1, b1, a2, b2, f _ _ (.of (d := .bl _) rfl s .refl q)⟩
  · exact q.elim

/-! ### items -/
theorem ixN_len {n m : Nat} (h : n = m) (i : Int) : ixN n i = ixN m i := by rw [h]
theorem Rps.at {K : PySem.W.Frag} {H : Hp} {ds : List D} {vs : List V} {i : Int} {d : D} (r : Rps K H ds vs) (h : atI ds i = some d) : ∃ v, atI vs i = some v ∧ Rp K H d v := by
  unfold atI at h ⊢
  rw [r.length]
  cases e : ixN ds.length i with
  | none => rw [e] at h; cases h
  | some j => rw [e] at h; exact r.get h
def dIx : D → D → HD → Post → Prop := fun d e G Q => match e with
  | .int i => match d with
    | .str z => z.length ≤ sizeLine ∧ match atI z.cps.toList i with
      | some c => Q (.str ⟨#[c]⟩) G
      | none => False
    | _ => match asQ G d with
      | some ds => match atI ds i with
        | some v => Q v G
        | none => False
      | none => False
  | _ => False
theorem od_ix (K : PySem.W.Frag) : OpD K (rIx K) dIx := fun G H d e x y Q Q' s k1 k2 f q => by
  unfold dIx at q
  split at q
  · cases k2
    split at q
    · obtain ⟨hz, q⟩ := q
      split at q
      · rename_i c hc
        cases k1
        exact .inr (.inr ⟨_, _, c, rfl, rfl, hz, hc, f _ _ (.of (d := .str _) rfl s .refl q)⟩)
      · exact q.elim
    · split at q
      · rename_i ds hd
        split at q
        · rename_i v hv
          obtain ⟨a, vs, rfl, t, r⟩ := k1.seq s hd
          obtain ⟨v', h1, h2⟩ := r.at hv
          rcases t with t | t
          · exact .inl ⟨a, vs, _, v', rfl, rfl, t, h1, f _ _ (.of h2 s .refl q)⟩
          · exact .inr (.inl ⟨a, vs, _, v', rfl, rfl, t, h1, f _ _ (.of h2 s .refl q)⟩)
        · exact q.elim
      · exact q.elim
  · exact q.elim
section
variable {X : Cx} {a b : Expr} {ta tb : TD} {pos : Pos}
theorem de_item (ha : DE X a ta) (hb : DE X b tb) (hs : PlainIx b := by intro _ _; rfl) : DE X (.Subscript a b pos) (dOp dIx ta tb) := de_ix ix_seq (od_ix X.K) ha hb hs
end
end DL

namespace DL
open PySem PySem.Spec L2
open PyProof.Rows hiding St

/-! ### argument lists, displays -/
section
variable {X : Cx} {a b e : Expr} {ta tb : TD} {es : List Expr} {ts : TDA} {pos : Pos}
def dNil : TDA := fun _ _ G Q => Q [] G
def dCons (ta : TD) (tr : TDA) : TDA := fun W σ G Q => ta W σ G fun d G1 => tr W σ G1 fun ds G2 => Q (d :: ds) G2
theorem da_nil : DA X [] dNil := ⟨fun G H σ τ W Q r q => semA.of pa_nil ⟨[], G, rfl, r.sim, .refl, q⟩⟩
theorem da_cons (ha : DE X e ta) (hr : DA X es ts) (hs : starEach (e :: es) X.env = (false, eval e X.env) :: starEach es X.env := by rfl) : DA X (e :: es) (dCons ta ts) :=
  ⟨fun G H σ τ W Q r0 h => semA.of (pa_cons peSem paSem hs) (ha.then r0 h fun d v G1 H1 r1 x1 k1 q1 => hr.then r1 q1 fun ds vs G2 H2 r2 x2 k2 q2 =>
    ⟨d :: ds, G2, .cons (k1.ext r1.sim x2 _ _) k2, r2.sim, x1.trans x2, q2⟩)⟩
def dTup (ts : TDA) : TD := fun W σ G Q => ts W σ G fun ds G1 => ds.length ≤ 1000 ∧ Q (.tup ds) G1
def dLst (ts : TDA) : TD := fun W σ G Q => ts W σ G fun ds G1 => ds.length ≤ 1000 ∧ newL G1 ds Q
theorem le1000 {n : Nat} (h : n ≤ 1000) : n ≤ sizeLine := Nat.le_of_lt (small1000 h)
theorem de_tup {x1} (h : DA X es ts) : DE X (.Tuple es x1 pos) (dTup ts) :=
  ⟨fun G H σ τ W Q r0 q => semE.of (pe_tup paSem) (h.then r0 q fun ds vs G1 H1 r1 x1 k1 q1 => ⟨by rw [k1.length]; exact le1000 q1.1, newT.fin r1.sim k1 (fun _ _ z => z.up x1) q1.2⟩)⟩
theorem de_lst (h : DA X es ts) : DE X (.List es pos) (dLst ts) :=
  ⟨fun G H σ τ W Q r0 q => semE.of (pe_lst paSem) (h.then r0 q fun ds vs G1 H1 r1 x1 k1 q1 => ⟨by rw [k1.length]; exact le1000 q1.1, newL.fin r1.sim k1 (fun _ _ z => z.up x1) q1.2⟩)⟩

/-! ### truth -/
def truD (G : HD) : D → Option Bool
  | .non => some false
  | .bl b => some b
  | .int i => some (i != 0)
  | .str x => if x.length ≤ sizeLine then some ((x.length : Int) != 0) else none
  | .tup ds => some (!ds.isEmpty)
  | .kl ds => some (!ds.isEmpty)
  | .ref a => match G a with
    | some (.lst ds) => some (!ds.isEmpty)
    | some (.dK l) => some (!l.isEmpty)
    | _ => none
  | .ty _ => none
theorem isEmpty_eq {α β : Type} {l : List α} {m : List β} (h : m.length = l.length) : m.isEmpty = l.isEmpty := by
  cases l <;> cases m <;> first | rfl | (simp at h)
theorem truD_ok {K : PySem.W.Frag} {G : HD} {H : Hp} {d : D} {v : V} {b : Bool} (s : Sim K G H) (r : Rp K H d v) (h : truD G d = some b) : TruV K v H b := by
  cases d with
  | non => cases r; cases h; exact rfl
  | bl c => cases r; cases h; exact rfl
  | int i => cases r; cases h; exact rfl
  | str x =>
    cases r
    simp only [truD] at h
    split at h
    · rename_i z; cases h; exact ⟨z, rfl⟩
    · cases h
  | ty _ => cases h
  | tup ds =>
    obtain ⟨a, vs, rfl, t, r2⟩ := r
    cases h
    exact .inr (.inl ⟨vs, t, by rw [isEmpty_eq r2.length]⟩)
  | kl ds =>
    obtain ⟨a, vs, rfl, t, r2⟩ := Rp.lst (ds := ds) s r rfl
    cases h
    exact .inl ⟨vs, t, by rw [isEmpty_eq r2.length]⟩
  | ref a =>
    cases r
    simp only [truD] at h
    split at h
    · rename_i ds e
      cases h
      obtain ⟨vs, e1, r1⟩ := s.lst e
      exact .inl ⟨vs, .of e1, by rw [isEmpty_eq r1.length]⟩
    · rename_i l e
      cases h
      obtain ⟨m, e1, r1⟩ := s.dK e
      exact .inr (.inr ⟨m, e1, by rw [isEmpty_eq r1.length]⟩)
    · cases h
def dTru (t : TD) : TDT := fun W σ G Q => t W σ G fun d G1 => match truD G1 d with
  | some b => Q b G1
  | none => False
theorem dt_tru (ha : DE X a ta) (he : ∀ whole, isTrue a X.env whole = (do let v ← whole; standAt a.pos; holding [v] (truthy v)) := by intro _; rfl) : DT X a (dTru ta) :=
  ⟨fun G H σ τ W Q r0 h => semT.of (pt_truth peSem he) (ha.then r0 h fun d v G1 H1 r1 x1 k1 q1 => by
    try dsimp only at q1
    split at q1
    · rename_i b e
      exact ⟨b, truD_ok r1.sim k1 e, G1, r1.sim, x1, q1⟩
    · exact q1.elim)⟩
def dAnd (t u : TDT) : TDT := fun W σ G Q => t W σ G fun c G1 => if c = true then u W σ G1 Q else Q false G1
def dOr (t u : TDT) : TDT := fun W σ G Q => t W σ G fun c G1 => if c = true then Q true G1 else u W σ G1 Q
def dNot (t : TDT) : TDT := fun W σ G Q => t W σ G fun c G1 => Q (!c) G1
variable {t u : TDT} {rest : List Expr}
theorem dtw_and1 (h : DT X a t) : DTw X (.BoolOp .And [a] pos) t := ⟨fun G H σ τ W Q r q => semTw.of (pw_and1 ptSem) (h.run G H σ τ W Q r q)⟩
theorem dtw_or1 (h : DT X a t) : DTw X (.BoolOp .Or [a] pos) t := ⟨fun G H σ τ W Q r q => semTw.of (pw_or1 ptSem) (h.run G H σ τ W Q r q)⟩
theorem dtw_and (h : DT X a t) (k : DTw X (.BoolOp .And (b :: rest) pos) u) : DTw X (.BoolOp .And (a :: b :: rest) pos) (dAnd t u) :=
  ⟨fun G H σ τ W Q r q => semTw.of (pw_and ptSem pwSem) (h.then r q fun c G1 H1 r1 x1 q1 => by
    cases c with
    | true => exact (k.run G1 H1 σ τ W Q r1 q1).imp fun _ _ z => z.up x1
    | false => exact ⟨G1, r1.sim, x1, q1⟩)⟩
theorem dtw_or (h : DT X a t) (k : DTw X (.BoolOp .Or (b :: rest) pos) u) : DTw X (.BoolOp .Or (a :: b :: rest) pos) (dOr t u) :=
  ⟨fun G H σ τ W Q r q => semTw.of (pw_or ptSem pwSem) (h.then r q fun c G1 H1 r1 x1 q1 => by
    cases c with
    | false => exact (k.run G1 H1 σ τ W Q r1 q1).imp fun _ _ z => z.up x1
    | true => exact ⟨G1, r1.sim, x1, q1⟩)⟩
theorem dt_w (h : DTw X a t) : DT X a t := ⟨fun G H σ τ W Q r q => semT.of pwSem.pt (h.run G H σ τ W Q r q)⟩
theorem dt_not (h : DT X a t) : DT X (.UnaryOp .Not a pos) (dNot t) := ⟨fun G H σ τ W Q r q => semT.of (pt_not ptSem) (h.run G H σ τ W (fun c G' => Q (!c) G') r q)⟩
/-- and, or, not as values -/
def dAndV (ta tb : TD) : TD := fun W σ G Q => ta W σ G fun d G1 => match truD G1 d with
  | some b => if b = true then tb W σ G1 Q else Q d G1
  | none => False
def dOrV (ta tb : TD) : TD := fun W σ G Q => ta W σ G fun d G1 => match truD G1 d with
  | some b => if b = true then Q d G1 else tb W σ G1 Q
  | none => False
def dNotV (ta : TD) : TD := fun W σ G Q => ta W σ G fun d G1 => match truD G1 d with
  | some b => Q (.bl (!b)) G1
  | none => False
theorem de_one {op} (h : DE X a ta) : DE X (.BoolOp op [a] pos) ta := ⟨fun G H σ τ W Q r q => semE.of (pe_one peSem) (h.run G H σ τ W Q r q)⟩
theorem de_and (h : DE X a ta) (k : DE X (.BoolOp .And (b :: rest) pos) tb) : DE X (.BoolOp .And (a :: b :: rest) pos) (dAndV ta tb) :=
  ⟨fun G H σ τ W Q r q => semE.of (pe_andT peSem peSem) (h.then r q fun d v G1 H1 r1 x1 k1 q1 => by
    try dsimp only at q1
    split at q1
    · rename_i c e
      refine ⟨c, truD_ok r1.sim k1 e, ?_⟩
      cases c with
      | true => exact (k.run G1 H1 σ τ W Q r1 q1).imp fun _ _ z => z.up x1
      | false => exact .of k1 r1.sim x1 q1
    · exact q1.elim)⟩
theorem de_or (h : DE X a ta) (k : DE X (.BoolOp .Or (b :: rest) pos) tb) : DE X (.BoolOp .Or (a :: b :: rest) pos) (dOrV ta tb) :=
  ⟨fun G H σ τ W Q r q => semE.of (pe_orT peSem peSem) (h.then r q fun d v G1 H1 r1 x1 k1 q1 => by
    try dsimp only at q1
    split at q1
    · rename_i c e
      refine ⟨c, truD_ok r1.sim k1 e, ?_⟩
      cases c with
      | false => exact (k.run G1 H1 σ τ W Q r1 q1).imp fun _ _ z => z.up x1
      | true => exact .of k1 r1.sim x1 q1
    · exact q1.elim)⟩
theorem de_not (h : DE X a ta) : DE X (.UnaryOp .Not a pos) (dNotV ta) :=
  ⟨fun G H σ τ W Q r q => semE.of (pe_notT peSem) (h.then r q fun d v G1 H1 r1 x1 k1 q1 => by
    try dsimp only at q1
    split at q1
    · rename_i c e
      exact ⟨c, truD_ok r1.sim k1 e, .of (d := .bl (!c)) rfl r1.sim x1 q1⟩
    · exact q1.elim)⟩
def dIf (t : TDT) (ta tb : TD) : TD := fun W σ G Q => t W σ G fun c G1 => if c = true then ta W σ G1 Q else tb W σ G1 Q
theorem de_ifExp {c : Expr} (hc : DT X c t) (ha : DE X a ta) (hb : DE X b tb) : DE X (.IfExp c a b pos) (dIf t ta tb) :=
  ⟨fun G H σ τ W Q r q => semE.of (pe_ifExp ptSem peSem peSem) (hc.then r q fun c G1 H1 r1 x1 q1 => by
    cases c with
    | true => exact (ha.run G1 H1 σ τ W Q r1 q1).imp fun _ _ z => z.up x1
    | false => exact (hb.run G1 H1 σ τ W Q r1 q1).imp fun _ _ z => z.up x1)⟩
def dNeg : D → HD → Post → Prop := fun d G Q => match d with
  | .int i => Q (.int (-i)) G
  | _ => False
def dUn (rd : D → HD → Post → Prop) (ta : TD) : TD := fun W σ G Q => ta W σ G fun d G1 => rd d G1 Q
theorem de_neg (ha : DE X a ta) : DE X (.UnaryOp .USub a pos) (dUn dNeg ta) :=
  ⟨fun G H σ τ W Q r q => semE.of (pe_un un_neg peSem) (ha.then r q fun d v G1 H1 r1 x1 k1 q1 => by
    unfold dNeg at q1
    split at q1
    · cases k1; exact ⟨_, rfl, .of (d := .int _) rfl r1.sim x1 q1⟩
    · exact q1.elim)⟩
/-- a < b < c -/
def dChain (rd rd' : D → D → HD → Post → Prop) (ta tb tc : TD) : TD := fun W σ G Q => ta W σ G fun d G1 => tb W σ G1 fun e G2 => rd d e G2 fun z G3 => match z with
  | .bl true => tc W σ G3 fun f G4 => rd' e f G4 fun y G5 => match y with
    | .bl k => Q (.bl k) G5
    | _ => False
  | .bl false => Q (.bl false) G3
  | _ => False
end
end DL

namespace DL
open PySem PySem.Spec L2
open PyProof.Rows hiding St

/-! ### comparisons by their rules -/
/-- an operator of two values and its reading over data -/
def CmpR (X : Cx) (op : CmpOp) (rd : D → D → HD → Post → Prop) : Prop := ∃ r, OpR X (compareOp op) r ∧ OpD X.K r rd
def asInts : List D → Option (List Int)
  | [] => some []
  | .int i :: r => (asInts r).map (i :: ·)
  | _ :: _ => none
theorem asInts_eq : ∀ {ds : List D} {ns : List Int}, asInts ds = some ns → ds = ns.map D.int
  | [], _, h => by cases h; rfl
  | .int i :: r, ns, h => by
    simp only [asInts, Option.map_eq_some_iff] at h
    obtain ⟨ms, e, rfl⟩ := h
    rw [asInts_eq e]; rfl
  | .non :: _, _, h => by cases h
  | .bl _ :: _, _, h => by cases h
  | .str _ :: _, _, h => by cases h
  | .ty _ :: _, _, h => by cases h
  | .ref _ :: _, _, h => by cases h
  | .tup _ :: _, _, h => by cases h
  | .kl _ :: _, _, h => by cases h
theorem asInts_map : ∀ ns : List Int, asInts (ns.map D.int) = some ns
  | [] => rfl
  | n :: ns => by show (asInts (ns.map D.int)).map (n :: ·) = _; rw [asInts_map ns]; rfl
def dLtD : D → D → HD → Post → Prop := fun d e G Q => match d, e with
  | .int i, .int j => Q (.bl (decide (i < j))) G
  | .str x, .str y => Q (.bl (decide (x.cps.toList < y.cps.toList))) G
  | .tup xs, .tup ys => match asInts xs, asInts ys with
    | some ns, some ms => Q (.bl (HT.lexLt ns ms)) G
    | _, _ => False
  | _, _ => False
theorem c_lt {X : Cx} (hu : X.A.units + 64 < cLine) : CmpR X .Lt dLtD := ⟨_, op_lt.or (op_lt_str.or (op_ltT (Nat.lt_of_le_of_lt (Nat.le_add_right _ _) hu))), fun G H d e x y Q Q' s k1 k2 f q => by
  unfold dLtD at q
  split at q
  · cases k1; cases k2
    exact .inl ⟨_, _, rfl, rfl, f _ _ (.of (d := .bl _) rfl s .refl q)⟩
  · cases k1; cases k2
    exact .inr (.inl ⟨_, _, rfl, rfl, f _ _ (.of (d := .bl _) rfl s .refl q)⟩)
  · split at q
    · rename_i ns ms e1 e2
      obtain rfl := asInts_eq e1
      obtain rfl := asInts_eq e2
      obtain ⟨a, vs, rfl, t1, r1⟩ := k1
      obtain ⟨b, ws, rfl, t2, r2⟩ := k2
      obtain rfl := r1.ints
      obtain rfl := r2.ints
      exact .inr (.inr ⟨a, b, ns, ms, rfl, rfl, t1, t2, f _ _ (.of (d := .bl _) rfl s .refl q)⟩)
    · exact q.elim
  · exact q.elim⟩
theorem c_le {X : Cx} (hu : X.A.units + 64 < cLine) : CmpR X .LtE (dCmpI fun i j => decide (i ≤ j)) := ⟨_, op_le, od_cmpI X.K _⟩
theorem c_gt {X : Cx} (hu : X.A.units + 64 < cLine) : CmpR X .Gt (dCmpI fun i j => decide (j < i)) := ⟨_, op_gt, od_cmpI X.K _⟩
theorem c_ge {X : Cx} (hu : X.A.units + 64 < cLine) : CmpR X .GtE (dCmpI fun i j => decide (j ≤ i)) := ⟨_, op_ge, od_cmpI X.K _⟩
theorem c_eq {X : Cx} (hu : X.A.units + 64 < cLine) : CmpR X .Eq (dEq false) := ⟨_, op_eqD hu, od_eq X.K⟩
theorem c_ne {X : Cx} (hu : X.A.units + 64 < cLine) : CmpR X .NotEq (dEq true) := ⟨_, op_neD hu, od_ne X.K⟩
theorem c_is {X : Cx} (hu : X.A.units + 64 < cLine) : CmpR X .Is (dIsN false) := ⟨_, op_isN, od_isN X.K⟩
theorem c_isnot {X : Cx} (hu : X.A.units + 64 < cLine) : CmpR X .IsNot (dIsN true) := ⟨_, op_notN, od_notN X.K⟩
section
variable {X : Cx} {a b e c : Expr} {ta tb tc : TD} {pos : Pos} {op op' : CmpOp} {rd rd' : D → D → HD → Post → Prop}
theorem de_c1 (h : CmpR X op rd) (ha : DE X a ta) (hb : DE X b tb) (hm : behindInMarks op b = false := by first | exact nobehind _ (by decide) (by decide) | rfl) : DE X (.Compare a [op] [b] pos) (dOp rd ta tb) :=
  let ⟨_, h1, h2⟩ := h; de_cmp h1 h2 ha hb hm
theorem dt_c1 (h : CmpR X op rd) (ha : DE X a ta) (hb : DE X b tb) (hm : behindInMarks op b = false := by first | exact nobehind _ (by decide) (by decide) | rfl) : DT X (.Compare a [op] [b] pos) (dTest (dOp rd ta tb)) :=
  let ⟨_, h1, h2⟩ := h; dt_cmp h1 h2 ha hb hm
/-! chains: the rest of one, behind its first value -/
structure DCh (X : Cx) (ops : List CmpOp) (rs : List Expr) (t : D → TD) : Prop where
  val : ∀ (pos : Pos) (pins : List (Addr × Obj)) (s : Shared) (G : HD) (H : Hp) (σ : DSt) (τ : St) (W : DW) (Q : Post) (d : D) (x : V) (v : Value), SR X G H σ τ W → Inv X pins τ H s → Rp X.K H d x → RelV x v → t d W σ G Q →
    wpAny (model X.prog X.w) X.A (compareChain pos v ops (evalEach rs X.env)) (EP X pins τ (liftQ X.K G H Q)) X.xe s
  test : ∀ (pos : Pos) (pins : List (Addr × Obj)) (s : Shared) (G : HD) (H : Hp) (σ : DSt) (τ : St) (W : DW) (Q : Bool → HD → Prop) (d : D) (x : V) (v : Value), SR X G H σ τ W → Inv X pins τ H s → Rp X.K H d x → RelV x v →
    t d W σ G (fun z G1 => match z with | .bl k => Q k G1 | _ => False) → wpAny (model X.prog X.w) X.A (testChain pos v ops (evalEach rs X.env)) (TP X pins τ (liftB X.K G H Q)) X.xe s
def dLast (rd : D → D → HD → Post → Prop) (tb : TD) : D → TD := fun d W σ G Q => tb W σ G fun e G1 => rd d e G1 fun z G2 => match z with
  | .bl k => Q (.bl k) G2
  | _ => False
def dLink (rd : D → D → HD → Post → Prop) (tb : TD) (t : D → TD) : D → TD := fun d W σ G Q => tb W σ G fun e G1 => rd d e G1 fun z G2 => match z with
  | .bl k => if k = true then t e W σ G2 Q else Q (.bl false) G2
  | _ => False
theorem dch_last (h : CmpR X op rd) (hb : DE X b tb) : DCh X [op] [b] (dLast rd tb) := by
  obtain ⟨r, h1, h2⟩ := h
  refine ⟨fun pos pins s G H σ τ W Q d x v r0 I k0 l0 q => ?_, fun pos pins s G H σ τ W Q d x v r0 I k0 l0 q => ?_⟩
  · show wpAny _ _ (compareChain pos v [op] [eval b X.env]) _ _ _
    refine chain_last (thn ((hb.then (Q := fun y H1 => r x y H1 (liftQ X.K G H Q)) r0 q fun e y G1 H1 r1 x1 k1 q1 => ?_) pins s I) fun u s1 ⟨y, H1, I1, l1, q1⟩ => h1 pins s1 τ H1 x y v u _ I1 l0 l1 q1)
    refine h2 G1 H1 d e x y _ _ r1.sim (k0.ext r0.sim x1 _ _) k1 (fun w H2 ⟨z, G2, k2, s2, x2, q2⟩ => ?_) q1
    cases z with
    | bl k => exact ⟨.bl k, G2, k2, s2, x1.trans x2, q2⟩
    | _ => exact q2.elim
  · show wpAny _ _ (testChain pos v [op] [eval b X.env]) _ _ _
    refine test_last (thn ((hb.then (Q := fun y H1 => r x y H1 (fun w H2 => ∃ k, w = .bl k ∧ liftB X.K G H Q k H2)) r0 q fun e y G1 H1 r1 x1 k1 q1 => ?_) pins s I) fun u s1 ⟨y, H1, I1, l1, q1⟩ =>
      thn (h1 pins s1 τ H1 x y v u _ I1 l0 l1 q1) fun c s2 ⟨w, H2, I2, l2, k, ew, q2⟩ => ?_)
    · refine h2 G1 H1 d e x y _ _ r1.sim (k0.ext r0.sim x1 _ _) k1 (fun w H2 ⟨z, G2, k2, s2, x2, q2⟩ => ?_) q1
      cases z with
      | bl k => exact ⟨k, k2, G2, s2, x1.trans x2, q2⟩
      | _ => exact q2.elim
    · subst ew; cases l2
      exact wpAny_truthy_bool ⟨H2, I2, q2⟩
theorem dch_link {ops : List CmpOp} {rs : List Expr} {t : D → TD} (h : CmpR X op rd) (hb : DE X b tb) (hc : DCh X (op' :: ops) (c :: rs) t) : DCh X (op :: op' :: ops) (b :: c :: rs) (dLink rd tb t) := by
  obtain ⟨r, h1, h2⟩ := h
  refine ⟨fun pos pins s G H σ τ W Q d x v r0 I k0 l0 q => ?_, fun pos pins s G H σ τ W Q d x v r0 I k0 l0 q => ?_⟩
  · show wpAny _ _ (compareChain pos v (op :: op' :: ops) (eval b X.env :: eval c X.env :: evalEach rs X.env)) _ _ _
    refine chain_link (thn ((hb.run G H σ τ W _ r0 q) pins s I) fun u s1 ⟨y, H1, I1, l1, e, G1, k1, sm1, x1, q1⟩ => ?_)
    have r1 := r0.ext sm1 x1
    refine thn (h1 pins s1 τ H1 x y v u (fun w H2 => ∃ k G2, w = .bl k ∧ Sim X.K G2 H2 ∧ Ext G1 H1 G2 H2 ∧ if k = true then t e W σ G2 Q else Q (.bl false) G2) I1 l0 l1
      (h2 G1 H1 d e x y _ _ sm1 (k0.ext r0.sim x1 _ _) k1 (fun w H2 ⟨z, G2, k2, s2, x2, q2⟩ => ?_) q1)) fun cv s2 ⟨w, H2, I2, l2, k, G2, ew, sm2, x2, q2⟩ => ?_
    · subst ew; cases l2
      refine wpAny_truthy_bool ?_
      cases k with
      | false => exact ite_ff ⟨.bl false, H2, I2, rfl, .of (d := .bl false) rfl sm2 (x1.trans x2) q2⟩
      | true => exact ite_tt (thn (hc.val pos pins s2 G2 H2 σ τ W Q e y u (r1.ext sm2 x2) I2 (k1.ext sm1 x2 _ _) l1 q2) fun _ _ ⟨v3, H3, I3, l3, q3⟩ => ⟨v3, H3, I3, l3, q3.up (x1.trans x2)⟩)
    · cases z with
      | bl k => exact ⟨k, G2, k2, s2, x2, q2⟩
      | _ => exact q2.elim
  · show wpAny _ _ (testChain pos v (op :: op' :: ops) (eval b X.env :: eval c X.env :: evalEach rs X.env)) _ _ _
    refine test_link (thn ((hb.run G H σ τ W _ r0 q) pins s I) fun u s1 ⟨y, H1, I1, l1, e, G1, k1, sm1, x1, q1⟩ => ?_)
    have r1 := r0.ext sm1 x1
    refine thn (h1 pins s1 τ H1 x y v u (fun w H2 => ∃ k G2, w = .bl k ∧ Sim X.K G2 H2 ∧ Ext G1 H1 G2 H2 ∧ if k = true then t e W σ G2 (fun z G1 => match z with | .bl k => Q k G1 | _ => False) else Q false G2) I1 l0 l1
      (h2 G1 H1 d e x y _ _ sm1 (k0.ext r0.sim x1 _ _) k1 (fun w H2 ⟨z, G2, k2, s2, x2, q2⟩ => ?_) q1)) fun cv s2 ⟨w, H2, I2, l2, k, G2, ew, sm2, x2, q2⟩ => ?_
    · subst ew; cases l2
      refine wpAny_truthy_bool ?_
      cases k with
      | false => exact ite_ff ⟨H2, I2, G2, sm2, x1.trans x2, q2⟩
      | true => exact ite_tt (thn (hc.test pos pins s2 G2 H2 σ τ W Q e y u (r1.ext sm2 x2) I2 (k1.ext sm1 x2 _ _) l1 q2) fun _ _ ⟨H3, I3, q3⟩ => ⟨H3, I3, q3.up (x1.trans x2)⟩)
    · cases z with
      | bl k => exact ⟨k, G2, k2, s2, x2, q2⟩
      | _ => exact q2.elim
def dChn (ta : TD) (t : D → TD) : TD := fun W σ G Q => ta W σ G fun d G1 => t d W σ G1 Q
def dChnT (ta : TD) (t : D → TD) : TDT := fun W σ G Q => ta W σ G fun d G1 => t d W σ G1 fun z G2 => match z with
  | .bl k => Q k G2
  | _ => False
theorem de_chain {ops : List CmpOp} {rs : List Expr} {t : D → TD} (ha : DE X a ta) (h : DCh X (op :: op' :: ops) (b :: c :: rs) t) (hm : lastMarks (op :: op' :: ops) (b :: c :: rs) = false := by with_unfolding_all rfl) :
    DE X (.Compare a (op :: op' :: ops) (b :: c :: rs) pos) (dChn ta t) := ⟨fun G H σ τ W Q r0 q pins s I => by
  refine Compare_chain (thn ((ha.run G H σ τ W _ r0 q) pins s I) fun u s1 ⟨y, H1, I1, l1, d, G1, k1, sm1, x1, q1⟩ => ?_) hm
  exact thn (h.val pos pins s1 G1 H1 σ τ W Q d y u (r0.ext sm1 x1) I1 k1 l1 q1) fun _ _ ⟨v3, H3, I3, l3, q3⟩ => ⟨v3, H3, I3, l3, q3.up x1⟩⟩
theorem dt_chain {ops : List CmpOp} {rs : List Expr} {t : D → TD} (ha : DE X a ta) (h : DCh X (op :: op' :: ops) (b :: c :: rs) t) (hm : lastMarks (op :: op' :: ops) (b :: c :: rs) = false := by with_unfolding_all rfl) :
    DT X (.Compare a (op :: op' :: ops) (b :: c :: rs) pos) (dChnT ta t) := ⟨fun G H σ τ W Q r0 q pins s I => by
  refine isTrue_chain (thn ((ha.run G H σ τ W _ r0 q) pins s I) fun u s1 ⟨y, H1, I1, l1, d, G1, k1, sm1, x1, q1⟩ => ?_) hm
  exact thn (h.test pos pins s1 G1 H1 σ τ W Q d y u (r0.ext sm1 x1) I1 k1 l1 q1) fun _ _ ⟨H3, I3, q3⟩ => ⟨H3, I3, q3.up x1⟩⟩
end

/-! ### statements -/
section
variable {X : Cx} {a b e : Expr} {ta tb : TD} {pos : Pos} {st : Stmt} {sts ss1 ss2 : List Stmt} {t u : TDS}
def sNext : TDS := fun _ D σ G => D.nx σ G
def sSeq (t u : TDS) : TDS := fun W D σ G => t W { D with nx := fun σ' G' => u W D σ' G' } σ G
theorem dss_nil : DSs X [] sNext := ⟨fun G H σ τ W D r q => semSs.of pss_nil ⟨σ, G, r.slots, r.sim, .refl, q⟩⟩
theorem endsUp {K : PySem.W.Frag} {G G1 : HD} {H H1 : Hp} {D : DEnds} (x : Ext G H G1 H1) : EndsLe (liftD K G1 H1 D) (liftD K G H D) := ⟨fun _ _ h => h.up x, fun _ _ h => h.up x, fun _ _ h => h.up x, fun _ _ h => h.up x⟩
theorem dss_cons (h : DS X st t) (k : DSs X sts u) : DSs X (st :: sts) (sSeq t u) := ⟨fun G H σ τ W D r q => semSs.of (pss_cons psSem pssSem)
  ((h.run G H σ τ W _ r q).imp ⟨fun τ' H' ⟨σ', G', k1, s1, x1, q1⟩ => (k.run G' H' σ' τ' W D ⟨s1, k1, r.takes.imp fun _ _ _ _ z => z.up x1⟩ q1).imp (endsUp x1), fun _ _ z => z, fun _ _ z => z, fun _ _ z => z⟩)⟩
theorem dss_one (h : DS X st t) : DSs X [st] t := ⟨fun G H σ τ W D r q => semSs.of (pss_one psSem) (h.run G H σ τ W D r q)⟩
theorem ds_pass : DS X (.Pass pos) sNext := ⟨fun G H σ τ W D r q => semS.of ps_pass ⟨σ, G, r.slots, r.sim, .refl, q⟩⟩
def sBrk : TDS := fun _ D σ G => D.bk σ G
def sCont : TDS := fun _ D σ G => D.ct σ G
theorem ds_break : DS X (.Break pos) sBrk := ⟨fun G H σ τ W D r q => semS.of ps_break ⟨σ, G, r.slots, r.sim, .refl, q⟩⟩
theorem ds_continue : DS X (.Continue pos) sCont := ⟨fun G H σ τ W D r q => semS.of ps_continue ⟨σ, G, r.slots, r.sim, .refl, q⟩⟩
def sNever : TDS := fun _ _ _ _ => False
theorem ds_never : DS X st sNever := ⟨fun _ _ _ _ _ _ _ q => q.elim⟩
def sDrop (te : TD) : TDS := fun W D σ G => te W σ G fun _ G1 => D.nx σ G1
theorem ds_expr (he : DE X e ta) (hs : swapsWith e none pos.line X.env = pure false := by rfl) : DS X (.Expr e pos) (sDrop ta) :=
  ⟨fun G H σ τ W D r q => semS.of (ps_expr peSem hs) (he.then r q fun d v G1 H1 r1 x1 k1 q1 => ⟨σ, G1, r1.slots, r1.sim, x1, q1⟩)⟩
def sRet (te : TD) : TDS := fun W D σ G => te W σ G D.rt
theorem ds_ret (he : DE X e ta) : DS X (.Return (some e) pos) (sRet ta) := ⟨fun G H σ τ W D r q => semS.of (ps_ret peSem) (he.run G H σ τ W D.rt r q)⟩
def sRetN : TDS := fun _ D _ G => D.rt .non G
theorem ds_retN : DS X (.Return none pos) sRetN := ⟨fun G H σ τ W D r q => semS.of ps_retN (show liftQ X.K G H D.rt .non H from .of (d := .non) rfl r.sim .refl q)⟩
def sIf (c : TDT) (t u : TDS) : TDS := fun W D σ G => c W σ G fun b G1 => if b = true then t W D σ G1 else u W D σ G1
theorem ds_if {c : Expr} {tc : TDT} (hc : DT X c tc) (h1 : DSs X ss1 t) (h2 : DSs X ss2 u) : DS X (.If c ss1 ss2 pos) (sIf tc t u) :=
  ⟨fun G H σ τ W D r q => semS.of (ps_if ptSem pssSem pssSem) (hc.then r q fun b G1 H1 r1 x1 q1 => by
    cases b with
    | true => exact (h1.run G1 H1 σ τ W D r1 q1).imp (endsUp x1)
    | false => exact (h2.run G1 H1 σ τ W D r1 q1).imp (endsUp x1))⟩
/-! targets: a name, or names of a tuple -/
def sSet (i : Nat) (te : TD) : TDS := fun W D σ G => te W σ G fun d G1 => D.nx (σ.set i (some d)) G1
theorem ds_set {i : Nat} {x : Str} {pos' : Pos} (he : DE X e ta) (hN : X.N.Nodup) (hi : X.N[i]? = some x := by rfl) (hx : Loc X.env.scope x := by first | exact Or.inl rfl | exact Or.inr rfl) (hs : swapsWith e (some (.Name x pos')) pos.line X.env = pure false := by rfl) (hf : X.fn x = true ∨ X.env.scope.names.lookup x = some .local := by first | exact .inl rfl | exact .inr rfl | assumption) :
    DS X (.Assign [.Name x pos'] e pos) (sSet i ta) :=
  ⟨fun G H σ τ W D r q => semS.of (ps_set hN hi hx peSem hs hf) (he.then r q fun d v G1 H1 r1 x1 k1 q1 => ⟨_, G1, r1.slots.set k1, r1.sim, x1, q1⟩)⟩
def setAll : List Nat → List D → DSt → DSt
  | i :: is, d :: ds, σ => setAll is ds (σ.set i (some d))
  | _, _, σ => σ
def sUnp (is : List Nat) (te : TD) : TDS := fun W D σ G => te W σ G fun d G1 => match d with
  | .tup ds => ds.length = is.length ∧ D.nx (setAll is ds σ) G1
  | _ => False
/-- the names of a tuple target, by their slots -/
inductive Slots (X : Cx) : List Expr → List Nat → TGs → Prop where
  | nil : Slots X [] [] gNil
  | cons {x : Str} {pos : Pos} {i : Nat} {es : List Expr} {is : List Nat} {g : TGs} (h : PG X (.Name x pos) (gName i)) (r : Slots X es is g) (hs : (assignEach (.Name x pos :: es) X.env).map (·.2) = assign (.Name x pos) X.env :: (assignEach es X.env).map (·.2)) : Slots X (.Name x pos :: es) (i :: is) (gCons (gName i) g)
theorem Slots.pgs {es : List Expr} {is : List Nat} {g : TGs} (s : Slots X es is g) : PGs X es g := by
  induction s with
  | nil => exact pgs_nil
  | cons h _ hs ih => exact pgs_cons h ih hs
theorem Slots.run {es : List Expr} {is : List Nat} {g : TGs} (s : Slots X es is g) {K : PySem.W.Frag} {H : Hp} {Q : St → Hp → Prop} : ∀ {ds : List D} {vs : List V} {σ : DSt} {τ : St}, Rps K H ds vs → ds.length = is.length → RpS K H σ τ → (∀ τ', RpS K H (setAll is ds σ) τ' → Q τ' H) → g vs τ H Q := by
  induction s with
  | nil =>
    intro ds vs σ τ r hl k q
    have e : ds = [] := List.eq_nil_of_length_eq_zero hl
    subst e
    cases r
    exact ⟨rfl, q τ k⟩
  | cons h _ hs ih =>
    intro ds vs σ τ r hl k q
    cases ds with
    | nil => cases hl
    | cons d ds =>
      obtain ⟨v, vr, rfl, r1, r2⟩ := r
      exact ⟨v, vr, rfl, ih r2 (Nat.succ.inj hl) (k.set r1) q⟩
theorem Slots.one (hN : X.N.Nodup) {x : Str} {pos : Pos} (i : Nat) {es : List Expr} {is : List Nat} {g : TGs} (r : Slots X es is g) (hi : X.N[i]? = some x := by rfl) (hx : Loc X.env.scope x := by first | exact Or.inl rfl | exact Or.inr rfl) (hf : X.fn x = true ∨ X.env.scope.names.lookup x = some .local := by first | exact .inl rfl | exact .inr rfl | assumption)
    (hs : (assignEach (.Name x pos :: es) X.env).map (·.2) = assign (.Name x pos) X.env :: (assignEach es X.env).map (·.2) := by rfl) : Slots X (.Name x pos :: es) (i :: is) (gCons (gName i) g) := .cons (pg_name hN hi hx hf) r hs
theorem ds_unp {es : List Expr} {is : List Nat} {g : TGs} {k : Nat} {pos' : Pos} (he : DE X e ta) (hc : X.calm = true) (s : Slots X es is g) (hn : (assignEach es X.env).length = is.length := by rfl) (hst : (assignEach es X.env).findIdx? (·.1) = none := by rfl)
    (hs : swapsWithSole [.Tuple es k pos'] e pos.line X.env = pure false := by rfl) (hw : swappedStores [.Tuple es k pos'] e X.env = pure none := by rfl) (h1 : (assignEach [.Tuple es k pos'] X.env).map (·.2) = [assign (.Tuple es k pos') X.env] := by rfl) :
    DS X (.Assign [.Tuple es k pos'] e pos) (sUnp is ta) :=
  ⟨fun G H σ τ W D r q => semS.of (ps_asg peSem (pg_tup hc s.pgs hn hst) hs hw h1) (he.then r q fun d v G1 H1 r1 x1 k1 q1 => by
    try dsimp only at q1
    split at q1
    · rename_i ds
      obtain ⟨a, vs, rfl, t, rr⟩ := k1
      exact ⟨a, vs, rfl, t, rr.length.trans q1.1, s.run rr q1.1 r1.slots fun τ' z => ⟨_, G1, z, r1.sim, x1, q1.2⟩⟩
    · exact q1.elim)⟩
/-- a, b = x, y -/
def sPar (i j : Nat) (ts : TDA) : TDS := fun W D σ G => ts W σ G fun ds G1 => match ds with
  | [d, e] => D.nx ((σ.set i (some d)).set j (some e)) G1
  | _ => False
theorem ds_par {i j : Nat} {ts : TDA} {st : Stmt} (p : PS X st (tPar i j (semA X [a, b]))) (h : DA X [a, b] ts) : DS X st (sPar i j ts) :=
  ⟨fun G H σ τ W D r q => semS.of p (h.then r q fun ds vs G1 H1 r1 x1 k1 q1 => by
    try dsimp only at q1
    split at q1
    · rename_i d e
      obtain ⟨v, r', rfl, a1, a2⟩ := k1
      obtain ⟨w, r'', rfl, b1, b2⟩ := a2
      cases b2
      exact ⟨v, w, rfl, _, G1, (r1.slots.set a1).set b1, r1.sim, x1, q1⟩
    · exact q1.elim)⟩
end
end DL

namespace DL
open PySem PySem.Spec L2
open PyProof.Rows hiding St

/-! ### fields -/
def AttrOk (K : PySem.W.Frag) (C : Addr) (f : Str) : Prop := Cls K C ∧ NoAttr K C f
section
variable {X : Cx} {a b e o : Expr} {ta tb : TD} {pos pos' : Pos} {f : Str} {ok : Addr → Str → Prop}
def dFld (ok : Addr → Str → Prop) (f : Str) (ta : TD) : TD := fun W σ G Q => ta W σ G fun d G1 => match d with
  | .ref a => match G1 a with
    | some (.ins C fs) => ok C f ∧ match fs.lookup f with
      | some v => Q v G1
      | none => False
    | _ => False
  | _ => False
theorem de_fld (hok : ∀ C f, ok C f → AttrOk X.K C f) (ha : DE X e ta) (hb : attributeBase e f X.env (eval e X.env) = eval e X.env := by rfl) : DE X (.Attribute e f pos) (dFld ok f ta) :=
  ⟨fun G H σ τ W Q r q => semE.of (pe_fld peSem hb) (ha.then r q fun d v G1 H1 r1 x1 k1 q1 => by
    try dsimp only at q1
    split at q1
    · rename_i p
      cases k1
      split at q1
      · rename_i C fs eg
        obtain ⟨h1, q1⟩ := q1
        split at q1
        · rename_i w ew
          obtain ⟨dx, l, el, rl⟩ := r1.sim.ins eg
          obtain ⟨z, e1, e2⟩ := rl.lookup ew
          obtain ⟨c1, c2⟩ := hok _ _ h1
          exact ⟨p, C, dx, l, z, rfl, el, c1, c2, e1, .of e2 r1.sim x1 q1⟩
        · exact q1.elim
      · exact q1.elim
    · exact q1.elim)⟩
theorem RKV.put {K : PySem.W.Frag} {H : Hp} {f : Str} {d : D} {v : V} (k : Rp K H d v) : ∀ {l : List (Str × D)} {m : List (Str × V)}, RKV K H l m → RKV K H (putD f d l) (putF f v m)
  | [], _, h => by cases h; exact ⟨v, [], rfl, k, rfl⟩
  | (n, e) :: l, _, h => by
    obtain ⟨w, r, rfl, h1, h2⟩ := h
    show RKV K H (if n = f then (n, d) :: l else (n, e) :: putD f d l) (if n = f then (n, v) :: r else (n, w) :: putF f v r)
    by_cases z : n = f
    · rw [if_pos z, if_pos z]; exact ⟨v, r, rfl, k, h2⟩
    · rw [if_neg z, if_neg z]; exact ⟨w, _, rfl, h1, RKV.put k h2⟩
def sFldD (ok : Addr → Str → Prop) (f : Str) (to tv : TD) : TDS := fun W D σ G => tv W σ G fun v G1 => to W σ G1 fun d G2 => match d with
  | .ref a => match G2 a with
    | some (.ins C fs) => ok C f ∧ fs.length < 1000 ∧ D.nx σ (put G2 a (.ins C (putD f v fs)))
    | _ => False
  | _ => False
theorem ds_fld (hok : ∀ C f, ok C f → AttrOk X.K C f) (ha : DE X o ta) (hv : DE X e tb) (hs : swapsWith e (some (.Attribute o f pos')) pos.line X.env = pure false := by rfl) : DS X (.Assign [.Attribute o f pos'] e pos) (sFldD ok f ta tb) :=
  ⟨fun G H σ τ W D r q => semS.of (ps_fld peSem peSem hs) (hv.then r q fun v y G1 H1 r1 x1 k1 q1 => ha.then r1 q1 fun d x G2 H2 r2 x2 k2 q2 => by
    try dsimp only at q2
    split at q2
    · rename_i p
      cases k2
      split at q2
      · rename_i C fs eg
        obtain ⟨h1, h2, q2⟩ := q2
        obtain ⟨dx, l, el, rl⟩ := r2.sim.ins eg
        obtain ⟨c1, c2⟩ := hok _ _ h1
        have sm := r2.sim.wr (m := .ins C (putD f v fs)) (o := .ins C dx (putF f y l)) eg ⟨dx, _, rfl, RKV.put (k1.ext r1.sim x2 _ _) rl⟩
        have xx : Ext G2 H2 (put G2 p (.ins C (putD f v fs))) (upd H2 p (.ins C dx (putF f y l))) := .wr eg
        exact ⟨p, C, dx, l, rfl, el, c1, c2, by rw [rl.length]; exact h2, σ, _, r2.slots.ext r2.sim xx _ _, sm, (x1.trans x2).trans xx, q2⟩
      · exact q2.elim
    · exact q2.elim)⟩
/-- o.f += e, ints -/
def sFldAug (ok : Addr → Str → Prop) (f : Str) (to tv : TD) : TDS := fun W D σ G => to W σ G fun d G1 => match d with
  | .ref a => match G1 a with
    | some (.ins C fs) => ok C f ∧ match fs.lookup f with
      | some (.int i) => tv W σ G1 fun v G2 => match v with
        | .int j => match G2 a with
          | some (.ins C2 fs2) => C2 = C ∧ fs2.length < 1000 ∧ D.nx σ (put G2 a (.ins C2 (putD f (.int (i + j)) fs2)))
          | _ => False
        | _ => False
      | _ => False
    | _ => False
  | _ => False
end

/-! ### defs: promises over data -/
abbrev SpD := List D → HD → Post → DX → Prop
/-- what may be forgotten at a def's end -/
def fg (Q : Post) : Post := fun d G => ∃ G0, Le G0 G ∧ Q d G0
def fgX (E : DX) : DX := fun c fs G => ∃ G0, Le G0 G ∧ E c fs G0
def liftSp (K : PySem.W.Frag) (n : Nat) (sp : SpD) : Sp := fun vs H Q E => vs.length = n ∧ ∃ ds G Qd Ed, Rps K H ds vs ∧ Sim K G H ∧ sp ds G Qd Ed ∧ (∀ v H', liftQ K G H Qd v H' → Q v H') ∧ (∀ c dd H', liftX K G H Ed c dd H' → E c dd H')
/-- a def's body, read from its arguments -/
def wpf (n m : Nat) (t : TDS) : SpD := fun ds G Q E => ds.length = n ∧ t (fun c fs _ G' => fgX E c fs G') { nx := fun _ G' => fg Q .non G', rt := fg Q } (ds.map some ++ List.replicate m none) G
abbrev FnK (P : Program) (w : World) (K : PySem.W.Frag) (mg : Str → Option Value) (base : Heap) (k : Nat) (f : Addr) (fd : FuncData) (ps : List Str) (sp : SpD) : Prop := FnOk P w K mg base (L2.CX P w) k f fd ps (liftSp K ps.length sp)
theorem FnK.imp {P : Program} {w : World} {K : PySem.W.Frag} {mg : Str → Option Value} {base : Heap} {k : Nat} {f : Addr} {fd : FuncData} {ps : List Str} {sp sp' : SpD} (h : FnK P w K mg base k f fd ps sp) (i : ∀ ds G Q E, sp' ds G Q E → sp ds G Q E) : FnK P w K mg base k f fd ps sp' :=
  FnOk.imp h fun vs H Q E ⟨l, ds, G, Qd, Ed, r, s, q, z1, z2⟩ => ⟨l, ds, G, Qd, Ed, r, s, i _ _ _ _ q, z1, z2⟩
section
variable {P : Program} {w : World} {K : PySem.W.Frag} {mg : Str → Option Value} {base : Heap} {x qual : Str} {params : Arguments} {body : List Stmt} {scope : Scope} {dvs : List V} {kws : List (Str × V)} {f : Addr} {fd : FuncData}
/-- a def: its body's reading is its promise -/
theorem fnd {N ps : List Str} {k n m : Nat} {t : TDS} (F : L2.FunD K x qual params body scope dvs kws f fd) (S : FnScope N ps scope) (hn : ps.length = n) (hm : N.length - n = m)
    (hb : ∀ (cdv : Value) (A : Around) (outer : List Env) (s : Shared) (H : Hp) (E : XK), Room k (A.deeper (envOfC qual scope s.heap.objs.size f cdv)) → DSs (cxOf (L2.CX P w) P w K mg base N qual scope f cdv A outer s H E) body t) : FnK P w K mg base (k + 1) f fd ps (wpf n m t) := by
  subst hn hm
  refine F.ok S (fun vs H Q E h => h.1) fun cdv A outer s H vs Q E hr h => ?_
  obtain ⟨hl, ds, G, Qd, Ed, rr, sm, ⟨hl2, q⟩, z1, z2⟩ := h
  refine ⟨semSs _ body, pssSem, ?_⟩
  have tk : Takes (cxOf (L2.CX P w) P w K mg base N qual scope f cdv A outer s H E) (fun c d _ H' => E c d H') := takes_of rfl rfl rfl rfl
  have st : RpS K H (ds.map some ++ List.replicate (N.length - ps.length) none) (L2.start N vs) := by
    unfold L2.start
    rw [hl]
    exact RpS.start _ rr
  refine ((hb cdv A outer s H E hr).run G H _ _ _ _ ⟨sm, st, tk.imp fun c dd τ H' hw => ?_⟩ q).imp ⟨fun τ' H' hh => ?_, fun v H' hh => ?_, fun _ _ hh => ?_, fun _ _ hh => ?_⟩
  · obtain ⟨σ', fs, G', k1, xf, s1, x1, G0, l0, q0⟩ := hw
    exact z2 c dd H' ⟨fs, G0, xf, s1.le l0, x1.le l0, q0⟩
  · obtain ⟨σ', G', k1, s1, x1, G0, l0, q0⟩ := hh
    exact z1 _ _ ⟨.non, G0, rfl, s1.le l0, x1.le l0, q0⟩
  · obtain ⟨d, G', k1, s1, x1, G0, l0, q0⟩ := hh
    exact z1 _ _ ⟨d, G0, k1, s1.le l0, x1.le l0, q0⟩
  · obtain ⟨_, _, _, _, _, q0⟩ := hh
    exact q0.elim
  · obtain ⟨_, _, _, _, _, q0⟩ := hh
    exact q0.elim
end

/-! ### calls of them -/
section
variable {X : Cx} {k n : Nat} {f C : Addr} {fd : FuncData} {ps ks : List Str} {sp : SpD} {x m : Str} {p pos apos : Pos} {e o : Expr} {es : List Expr} {ta : TD} {ts tk : TDA} {dvs : List V} {dds : List D} {ds : List Value}
/-- the exceptions of a callee, wished for here -/
theorem passK {G : HD} {H : Hp} {σ : DSt} {τ : St} {W : DW} (r : SR X G H σ τ W) : PassesAt (L2.CX X.prog X.w) X τ (liftX X.K G H fun c fs G' => W c fs σ G') := fun pins H0 s e s' I c =>
  r.takes e s' (XE.of_call I (W := liftW X.K G H W) (fun c dd H' ⟨fs, G', xf, s1, x1, q⟩ => ⟨σ, fs, G', r.slots.ext r.sim x1 _ _, xf, s1, x1, q⟩) c)
/-- the callee runs -/
theorem runK {pins : List (Addr × Obj)} {s : Shared} {G : HD} {H : Hp} {σ : DSt} {τ : St} {W : DW} {Q : Post} {us : List Value} {vs : List V} {es : List D} {args : Args} (F : FnK X.prog X.w X.K X.mg X.base k f fd ps sp) (hr : Room k X.A) (hb : BindsTo s fd args (ps.zip us))
    (r : SR X G H σ τ W) (I : Inv X pins τ H s) (rv : Vals vs us) (rd : Rps X.K H es vs) (hl : vs.length = ps.length) (h : sp es G Q fun c fs G' => W c fs σ G') :
    codeAny (model X.prog X.w) X.A (.call (.ref f) args) (fun z s' => match z with | .ok (.ret u) => EP X pins τ (liftQ X.K G H Q) u s' | .ok _ => False | .error e => X.xe e s') s := by
  refine codeAny_mono (F.run X.A X.stack s H args us vs (liftQ X.K G H Q) (liftX X.K G H fun c fs G' => W c fs σ G') hr I.env0 hb rv ⟨hl, es, G, Q, _, rd, r.sim, h, fun _ _ z => z, fun _ _ _ z => z⟩) fun z s' hq => ?_
  cases z with
  | error e => exact passK r pins H s e s' I hq
  | ok fl =>
    cases fl with
    | ret u => exact I.after hq
    | next => exact False.elim hq
    | brk => exact False.elim hq
    | cont => exact False.elim hq
def dCall (sp : SpD) (dds : List D) (ts : TDA) : TD := fun W σ G Q => ts W σ G fun ds G1 => sp (ds ++ dds) G1 Q fun c fs G' => W c fs σ G'
/-- what is bound beside the written arguments: values of the written part -/
structure Dfl (K : PySem.W.Frag) (dds : List D) (dvs : List V) : Prop where
  rel : ∀ H, Rps K H dds dvs
theorem Dfl.nil {K : PySem.W.Frag} : Dfl K [] [] := ⟨fun _ => rfl⟩
theorem runC {pins : List (Addr × Obj)} {s : Shared} {G : HD} {H : Hp} {σ : DSt} {τ : St} {W : DW} {Q : Post} {us : List Value} {vs : List V} {es : List D} (F : FnK X.prog X.w X.K X.mg X.base k f fd ps sp) (hr : Room k X.A) (hb : Binds X.K fd ps ds) (hd : Vals dvs ds) (hdd : Dfl X.K dds dvs)
    (r : SR X G H σ τ W) (I : Inv X pins τ H s) (rv : Vals vs us) (rd : Rps X.K H es vs) (hl : es.length + dds.length = ps.length) (h : sp (es ++ dds) G Q fun c fs G' => W c fs σ G') : wpAny (model X.prog X.w) X.A (call (.ref f) us) (EP X pins τ (liftQ X.K G H Q)) X.xe s := by
  have r2 := rv.append hd
  have r3 : Rps X.K H (es ++ dds) (vs ++ dvs) := rd.app (hdd.rel H)
  have l3 : (vs ++ dvs).length = ps.length := by rw [r3.length, List.length_append, hl]
  exact wpAny_call (codeAny_mono (runK F hr (hb s us I.kIn (by rw [← r2.length]; exact l3)) r I r2 r3 l3 h) fun z s' hq => by
    cases z with
    | error e => exact hq
    | ok fl => cases fl <;> first | exact hq | exact False.elim hq)
theorem de_call (F : FnK X.prog X.w X.K X.mg X.base k f fd ps sp) (hr : Room k X.A) (hm : X.mg x = some (.ref f)) (hk : PySem.W.keepIn X.K (.ref f) = true) (hb : Binds X.K fd ps ds) (hd : Vals dvs ds) (hdd : Dfl X.K dds dvs) (ha : DA X (e :: es) ts)
    (hl : ∀ ds G E Q, sp ds G E Q → ds.length = ps.length) (hg : Gl X x := by rfl) (hdb : (x == ("__debug__" : Str)) = false := by decide) (he : starEach (e :: es) X.env = (false, eval e X.env) :: starEach es X.env := by rfl) (hpl : (backTo pos (starEach es X.env)).any (·.1) = false := by rfl) :
    DE X (.Call (.Name x p) (e :: es) [] pos) (dCall sp dds ts) := ⟨fun G H σ τ W Q r q pins s I => by
  refine wpAny_Call_Name_kw (ld_glob I hg hm ?_ hdb)
  refine PySem.W.callWith_K (h₀ := X.base) I.ok.mod.kin hk (thn ((ha.run G H σ τ W _ r q) pos pins s I) fun us s1 ⟨vs, H1, I1, rv, es', G1, k1, sm1, x1, q1⟩ => ⟨I1.kIn, ?_⟩) he hpl
  exact thn (runC F hr hb hd hdd (r.ext sm1 x1) I1 rv k1 (by have := hl _ _ _ _ q1; rwa [List.length_append] at this) q1) fun _ _ ⟨v, H2, I2, l2, q2⟩ => ⟨v, H2, I2, l2, q2.up x1⟩⟩
theorem de_call0 (F : FnK X.prog X.w X.K X.mg X.base k f fd ps sp) (hr : Room k X.A) (hm : X.mg x = some (.ref f)) (hk : PySem.W.keepIn X.K (.ref f) = true) (hb : Binds X.K fd ps ds) (hd : Vals dvs ds) (hdd : Dfl X.K dds dvs)
    (hl : ∀ ds G E Q, sp ds G E Q → ds.length = ps.length) (hg : Gl X x := by rfl) (hdb : (x == ("__debug__" : Str)) = false := by decide) :
    DE X (.Call (.Name x p) [] [] pos) (dCall sp dds dNil) := ⟨fun G H σ τ W Q r q pins s I => by
  refine wpAny_Call_Name_kw (ld_glob I hg hm ?_ hdb)
  exact PySem.W.callWith_K0 I.kIn hk (runC (us := []) (vs := []) (es := []) F hr hb hd hdd r I .nil rfl (by have := hl _ _ _ _ q; rwa [List.length_append] at this) q)⟩
theorem wpf_len {n m : Nat} {t : TDS} : ∀ ds G E Q, wpf n m t ds G E Q → ds.length = n := fun _ _ _ _ h => h.1

/-! ### methods -/
/-- a method of the class at C, by its promise -/
structure MethK (X : Cx) (k : Nat) (m : Str) (C : Addr) (sp : SpD) (dds : List D) : Prop where
  ex : ∃ (f : Addr) (fd : FuncData) (ps : List Str) (dvs : List V) (ds : List Value), Cls X.K C ∧ Meth X.K C m f ∧ FnK X.prog X.w X.K X.mg X.base k f fd ps sp ∧ Binds X.K fd ps ds ∧ Vals dvs ds ∧ Dfl X.K dds dvs ∧ ∀ ds G E Q, sp ds G E Q → ds.length = ps.length
/-- o.m(..): tab: the classes that may have it -/
def dMeth (tab : List (Addr × SpD)) (m : Str) (dds : List D) (ta : TD) (ts : TDA) : TD := fun W σ G Q => ta W σ G fun d G1 => match d with
  | .ref a => match G1 a with
    | some (.ins C fs) => fs.lookup m = none ∧ ∃ q ∈ tab, q.1 = C ∧ ts W σ G1 fun ds G2 => q.2 (.ref a :: (ds ++ dds)) G2 Q fun c fs G' => W c fs σ G'
    | _ => False
  | _ => False
theorem de_meth {tab : List (Addr × SpD)} {pl : Sem Bool} (hr : Room k X.A) (ht : ∀ q ∈ tab, MethK X k m q.1 q.2 dds) (ho : DE X o ta) (ha : DA X (e :: es) ts)
    (hst : starEach (e :: es) X.env = (false, eval e X.env) :: starEach es X.env := by rfl) (hpl : (backTo pos (starEach es X.env)).any (·.1) = false := by rfl)
    (hc : eval (.Call (.Attribute o m apos) (e :: es) [] pos) X.env = (do
      let ov ← eval o X.env
      standAt apos.atName
      let (f, first) ← holding [ov] (getMethod ov m pl)
      callWith pos f first (backTo pos (starEach (e :: es) X.env)) (backToKw pos (keywordEach [] X.env))) := by rfl) :
    DE X (.Call (.Attribute o m apos) (e :: es) [] pos) (dMeth tab m dds ta ts) := ⟨fun G H σ τ W Q r q pins s I => by
  refine PySem.W.methodCall_KW (pl := pl) (thn ((ho.run G H σ τ W _ r q) pins s I) fun u s1 ⟨x, H1, I1, rx, d, G1, k1, sm1, x1, q1⟩ => ?_) hc
  try dsimp only at q1
  split at q1
  · rename_i a
    cases k1; cases rx
    split at q1
    · rename_i C fs eg
      obtain ⟨hno, ⟨C', sp'⟩, hmem, rfl, q1⟩ := q1
      obtain ⟨f, fd, ps, dvs, dsv, hcl, hme, F, hb, hd, hdd, hl⟩ := (ht _ hmem).ex
      obtain ⟨dx, l, el, rl⟩ := sm1.ins eg
      have r1 := r.ext sm1 x1
      refine getmeth_ok I1 el hcl hme (rl.lookup_none hno) ?_
      refine PySem.W.callWith_K (first := [.ref a]) (h₀ := X.base) I.ok.mod.kin hme.kp (thn ((ha.run G1 H1 σ τ W _ r1 q1) pos pins s1 I1) fun us s2 ⟨vs, H2, I2, rv, es', G2, k2, sm2, x2, q2⟩ => ⟨I2.kIn, ?_⟩) hst hpl
      exact thn (runC (us := .ref a :: us) (vs := .ref a :: vs) (es := .ref a :: es') F hr hb hd hdd (r1.ext sm2 x2) I2 (.cons rfl rv) (.cons rfl k2) (by have := hl _ _ _ _ q2; simpa [Nat.add_assoc, Nat.add_comm, Nat.add_left_comm] using this) q2)
        fun _ _ ⟨v, H3, I3, l3, q3⟩ => ⟨v, H3, I3, l3, q3.up (x1.trans x2)⟩
    · exact q1.elim
  · exact q1.elim⟩
theorem de_meth0 {tab : List (Addr × SpD)} {pl : Sem Bool} (hr : Room k X.A) (ht : ∀ q ∈ tab, MethK X k m q.1 q.2 dds) (ho : DE X o ta)
    (hc : eval (.Call (.Attribute o m apos) [] [] pos) X.env = (do
      let ov ← eval o X.env
      standAt apos.atName
      let (f, first) ← holding [ov] (getMethod ov m pl)
      callWith pos f first (backTo pos (starEach [] X.env)) (backToKw pos (keywordEach [] X.env))) := by rfl) :
    DE X (.Call (.Attribute o m apos) [] [] pos) (dMeth tab m dds ta dNil) := ⟨fun G H σ τ W Q r q pins s I => by
  refine PySem.W.methodCall_KW (pl := pl) (thn ((ho.run G H σ τ W _ r q) pins s I) fun u s1 ⟨x, H1, I1, rx, d, G1, k1, sm1, x1, q1⟩ => ?_) hc
  try dsimp only at q1
  split at q1
  · rename_i a
    cases k1; cases rx
    split at q1
    · rename_i C fs eg
      obtain ⟨hno, ⟨C', sp'⟩, hmem, rfl, q1⟩ := q1
      obtain ⟨f, fd, ps, dvs, dsv, hcl, hme, F, hb, hd, hdd, hl⟩ := (ht _ hmem).ex
      obtain ⟨dx, l, el, rl⟩ := sm1.ins eg
      have r1 := r.ext sm1 x1
      refine getmeth_ok I1 el hcl hme (rl.lookup_none hno) ?_
      exact PySem.W.callWith_K0 (first := [.ref a]) I1.kIn hme.kp (thn (runC (us := [.ref a]) (vs := [.ref a]) (es := [.ref a]) F hr hb hd hdd r1 I1 (.cons rfl .nil) (.cons rfl .nil) (by have := hl _ _ _ _ q1; simpa [Nat.add_comm] using this) q1)
        fun _ _ ⟨v, H3, I3, l3, q3⟩ => ⟨v, H3, I3, l3, q3.up x1⟩)
    · exact q1.elim
  · exact q1.elim⟩

/-! ### a new instance -/
def dMake (C : Addr) (sp : SpD) (dds : List D) (ts : TDA) : TD := fun W σ G Q => ts W σ G fun ds G1 => ∀ p, G1 p = none → sp (.ref p :: (ds ++ dds)) (put G1 p (.ins C [])) (fun d G2 => match d with | .non => Q (.ref p) G2 | _ => False) fun c fs G' => W c fs σ G'
theorem runM {pins : List (Addr × Obj)} {s : Shared} {G : HD} {H : Hp} {σ : DSt} {τ : St} {W : DW} {Q : Post} {us : List Value} {vs : List V} {es : List D} (M : Mk X.K C f) (F : FnK X.prog X.w X.K X.mg X.base k f fd ps sp) (hr : Room (k + 1) X.A) (hb : Binds X.K fd ps ds) (hd : Vals dvs ds) (hdd : Dfl X.K dds dvs)
    (r : SR X G H σ τ W) (I : Inv X pins τ H s) (rv : Vals vs us) (rd : Rps X.K H es vs) (hl : ∀ ds G E Q, sp ds G E Q → ds.length = ps.length)
    (h : ∀ p, G p = none → sp (.ref p :: (es ++ dds)) (put G p (.ins C [])) (fun d G2 => match d with | .non => Q (.ref p) G2 | _ => False) fun c fs G' => W c fs σ G') : wpAny (model X.prog X.w) X.A (call (.ref C) us) (EP X pins τ (liftQ X.K G H Q)) X.xe s := by
  have f1 : H s.heap.objs.size = none := I.hok.fresh (Nat.le_refl _)
  have f2 : H (s.heap.objs.size + 1) = none := I.hok.fresh (Nat.le_succ _)
  have ne : s.heap.objs.size + 1 ≠ s.heap.objs.size := Nat.succ_ne_self _
  have hq := h (s.heap.objs.size + 1) (r.sim.no f2)
  have hl' := hl _ _ _ _ hq
  have I2 := Inv.made (C := C) I
  have sm1 : Sim X.K G (upd H s.heap.objs.size (.own (s.heap.objs.size + 1))) := r.sim.newO f1
  have x1 : Ext G H G (upd H s.heap.objs.size (.own (s.heap.objs.size + 1))) := .new f1 (r.sim.no f1)
  have f3 : upd H s.heap.objs.size (.own (s.heap.objs.size + 1)) (s.heap.objs.size + 1) = none := by rw [upd_ne ne]; exact f2
  have sm2 := sm1.newM (m := .ins C []) (o := .ins C s.heap.objs.size []) f3 ⟨_, _, rfl, rfl⟩
  have x2 : Ext G _ (put G (s.heap.objs.size + 1) (.ins C [])) (upd (upd H s.heap.objs.size (.own (s.heap.objs.size + 1))) (s.heap.objs.size + 1) (.ins C s.heap.objs.size [])) := .newM (m := .ins C []) f3
  have xx := x1.trans x2
  have r2 : Vals (V.ref (s.heap.objs.size + 1) :: (vs ++ dvs)) (Value.ref (s.heap.objs.size + 1) :: (us ++ ds)) := .cons rfl (rv.append hd)
  have r3 : Rps X.K _ (.ref (s.heap.objs.size + 1) :: (es ++ dds)) (V.ref (s.heap.objs.size + 1) :: (vs ++ dvs)) := .cons rfl ((rd.ext r.sim xx _ _).app (hdd.rel _))
  have l3 : (V.ref (s.heap.objs.size + 1) :: (vs ++ dvs)).length = ps.length := by rw [r3.length]; exact hl'
  have l4 : (Value.ref (s.heap.objs.size + 1) :: us ++ ds).length = ps.length := by rw [List.cons_append, ← r2.length]; exact l3
  have sr2 := r.ext sm2 xx
  refine wpAny_call (make_map (f := f) I.kIn M.makes M.init (beq_iff_eq.mp M.fn) (codeAny_mono (F.run _ X.stack _ _ ⟨Value.ref (s.heap.objs.size + 1) :: us, []⟩ (Value.ref (s.heap.objs.size + 1) :: (us ++ ds)) _
    (fun v H' => v = .non ∧ liftQ X.K G H Q (.ref (s.heap.objs.size + 1)) H') (liftX X.K G H fun c fs G' => W c fs σ G') (hr.make C us []) (I2.env0.make C us []) (hb _ (Value.ref (s.heap.objs.size + 1) :: us) I2.kIn l4) r2
    ⟨l3, _, _, _, _, r3, sm2, hq, fun v H' ⟨d, G', k1, s1, y1, q1⟩ => ?_, fun c dd H' z => z.up xx⟩) fun z s' hz => ?_))
  · cases d with
    | non => exact ⟨k1, .of (d := .ref _) rfl s1 (xx.trans y1) q1⟩
    | _ => exact q1.elim
  · cases z with
    | error e => exact passK r pins _ _ e s' I2 hz
    | ok fl =>
      cases fl with
      | ret u =>
        obtain ⟨v, H', I3, rv3, ev, q3⟩ := I2.after hz
        subst ev
        exact ⟨rv3, ⟨V.ref (s.heap.objs.size + 1), H', I3, rfl, q3⟩⟩
      | next => exact False.elim hz
      | brk => exact False.elim hz
      | cont => exact False.elim hz
end
end DL

namespace DL
open PySem PySem.Spec L2
open PyProof.Rows hiding St

section
variable {X : Cx} {k n : Nat} {f C : Addr} {fd : FuncData} {ps ks : List Str} {sp : SpD} {x m : Str} {p pos apos : Pos} {e o : Expr} {es : List Expr} {ta : TD} {ts tk : TDA} {dvs : List V} {dds : List D} {ds : List Value}
theorem de_make (M : Mk X.K C f) (F : FnK X.prog X.w X.K X.mg X.base k f fd ps sp) (hr : Room (k + 1) X.A) (hm : X.mg x = some (.ref C)) (hb : Binds X.K fd ps ds) (hd : Vals dvs ds) (hdd : Dfl X.K dds dvs) (ha : DA X (e :: es) ts)
    (hl : ∀ ds G E Q, sp ds G E Q → ds.length = ps.length) (hg : Gl X x := by rfl) (hdb : (x == ("__debug__" : Str)) = false := by decide) (he : starEach (e :: es) X.env = (false, eval e X.env) :: starEach es X.env := by rfl) (hpl : (backTo pos (starEach es X.env)).any (·.1) = false := by rfl) :
    DE X (.Call (.Name x p) (e :: es) [] pos) (dMake C sp dds ts) := ⟨fun G H σ τ W Q r q pins s I => by
  refine wpAny_Call_Name_kw (ld_glob I hg hm ?_ hdb)
  refine PySem.W.callWith_K (h₀ := X.base) I.ok.mod.kin M.kp (thn ((ha.run G H σ τ W _ r q) pos pins s I) fun us s1 ⟨vs, H1, I1, rv, es', G1, k1, sm1, x1, q1⟩ => ⟨I1.kIn, ?_⟩) he hpl
  exact thn (runM M F hr hb hd hdd (r.ext sm1 x1) I1 rv k1 hl q1) fun _ _ ⟨v, H2, I2, l2, q2⟩ => ⟨v, H2, I2, l2, q2.up x1⟩⟩
theorem de_make0 (M : Mk X.K C f) (F : FnK X.prog X.w X.K X.mg X.base k f fd ps sp) (hr : Room (k + 1) X.A) (hm : X.mg x = some (.ref C)) (hb : Binds X.K fd ps ds) (hd : Vals dvs ds) (hdd : Dfl X.K dds dvs)
    (hl : ∀ ds G E Q, sp ds G E Q → ds.length = ps.length) (hg : Gl X x := by rfl) (hdb : (x == ("__debug__" : Str)) = false := by decide) :
    DE X (.Call (.Name x p) [] [] pos) (dMake C sp dds dNil) := ⟨fun G H σ τ W Q r q pins s I => by
  refine wpAny_Call_Name_kw (ld_glob I hg hm ?_ hdb)
  exact PySem.W.callWith_K0 I.kIn M.kp (runM (us := []) (vs := []) (es := []) M F hr hb hd hdd r I .nil rfl hl q)⟩
end

/-! ### what a loop walks: items that stand fixed, while ok holds -/
structure ItD where
  xs : List D
  ok : HD → Prop
structure ItRel (K : PySem.W.Frag) (G1 : HD) (H1 : Hp) (I : ItD) (J : It) : Prop where
  go : ∀ i G H, Sim K G H → Ext G1 H1 G H → I.ok G → i < I.xs.length → J.go i H
  yld : ∀ i G H x H', Sim K G H → Ext G1 H1 G H → I.ok G → i < I.xs.length → J.yld i H x H' → ∃ d, I.xs[i]? = some d ∧ Rp K H' d x ∧ Sim K G H' ∧ Ext G H G H'
  stop : ∀ i G H, Sim K G H → Ext G1 H1 G H → I.ok G → I.xs.length ≤ i → J.stop i H
abbrev TDI := DW → DSt → HD → (ItD → HD → Prop) → Prop
structure DI (X : Cx) (tg iter : Expr) (wi : TI) (ti : TDI) : Prop where
  pi : PI X tg iter wi
  run : ∀ (G : HD) (H : Hp) (σ : DSt) (τ : St) (W : DW) (R : ItD → HD → Prop) (R' : It → Hp → Prop), SR X G H σ τ W → ti W σ G R →
    (∀ I J G1 H1, Sim X.K G1 H1 → Ext G H G1 H1 → ItRel X.K G1 H1 I J → R I G1 → R' J H1) → wi τ H R'
section
variable {X : Cx} {tg l a b : Expr} {tl ta tb : TD} {pos p : Pos}
/-- a list or a tuple -/
def iSeq (K : PySem.W.Frag) (te : TE) : TI := fun σ H R => te σ H fun x H1 => ∃ a, x = .ref a ∧ ((∃ xs, SqL K H1 a xs ∧ R (Itl K a) H1) ∨ ∃ xs, SqT K H1 a xs ∧ R (Itt K a) H1)
theorem pi_seq {te : TE} (he : PE X l te) : PI X tg l (iSeq X.K te) := by
  refine ⟨fun pins s0 σ H R J h => thn (he.run pins s0 σ H _ J h) fun v s1 hv => ?_⟩
  obtain ⟨x, H1, I1, r1, a, rfl, q1⟩ := hv
  cases r1
  rcases q1 with ⟨xs, hq, q⟩ | ⟨xs, hq, q⟩
  · obtain ⟨its, rv, pl, hz⟩ := I1.list hq
    refine wpAny_pyIter_list pl.isList ⟨s1.heap.objs.size, [s1.heap.objs.size], _, _, H1, rfl, I1.kept (t' := s1.toks) fun b o ho => Heap.get?_push_of_some _ ho, turn_list a _, ⟨_, Heap.get?_push_size _ rfl, rfl, rfl⟩, fun b hb => ?_, q⟩
    obtain rfl : b = s1.heap.objs.size := by simpa using hb
    exact I1.fpOk (Nat.le_refl _) (I1.hok.fresh (Nat.le_refl _))
  · obtain ⟨its, rv, pl, hz⟩ := I1.tuple hq
    refine wpAny_pyIter_tuple (show s1.heap.IsTuple a its.toArray from pl) ⟨s1.heap.objs.size, [s1.heap.objs.size], _, _, H1, rfl, I1.kept (t' := s1.toks) fun b o ho => Heap.get?_push_of_some _ ho, turn_tuple a _, ⟨_, Heap.get?_push_size _ rfl, rfl, rfl⟩, fun b hb => ?_, q⟩
    obtain rfl : b = s1.heap.objs.size := by simpa using hb
    exact I1.fpOk (Nat.le_refl _) (I1.hok.fresh (Nat.le_refl _))
def jSeq (tl : TD) : TDI := fun W σ G R => tl W σ G fun d G1 => match d with
  | .tup ds => R ⟨ds, fun _ => True⟩ G1
  | .kl ds => R ⟨ds, fun _ => True⟩ G1
  | .ref a => match G1 a with
    | some (.lst ds) => R ⟨ds, fun G => G a = some (.lst ds)⟩ G1
    | _ => False
  | _ => False
theorem di_seq (hl : DE X l tl) : DI X tg l (iSeq X.K (semE X l)) (jSeq tl) :=
  ⟨pi_seq peSem, fun G H σ τ W R R' r q fin => hl.then r q fun d v G1 H1 r1 x1 k1 q1 => by
    try dsimp only at q1
    split at q1
    · rename_i ds
      obtain ⟨a, vs, rfl, t, rr⟩ := k1
      refine ⟨a, rfl, .inr ⟨vs, t, fin _ _ G1 H1 r1.sim x1 ⟨fun i G2 H2 s2 x2 _ hi => ?_, fun i G2 H2 x H3 s2 x2 _ hi hy => ?_, fun i G2 H2 s2 x2 _ hi => ?_⟩ q1⟩⟩
      · exact ⟨vs, vs[i]'(by rw [rr.length]; exact hi), SqT.ext r1.sim x2 t, by simp⟩
      · obtain ⟨rfl, hy⟩ := hy
        have e1 := hy vs (SqT.ext r1.sim x2 t)
        obtain ⟨v', e2, e3⟩ := rr.get (i := i) (d := ds[i]) (by simp)
        rw [e1] at e2; cases e2
        exact ⟨ds[i], by simp, e3.ext r1.sim x2 _ _, s2, .refl⟩
      · exact ⟨vs, SqT.ext r1.sim x2 t, by rw [rr.length]; exact hi⟩
    · rename_i ds
      obtain ⟨a, vs, rfl, t, rr⟩ := id k1
      have sq : ∀ {G2 H2}, Ext G1 H1 G2 H2 → SqL X.K H2 a vs := fun {G2 H2} x2 => by
        rcases t with ⟨o, t⟩ | t
        · exact .inl (.inr ⟨o, (x2 a _ (r1.sim.frzL t) t).1⟩)
        · exact .inr t
      refine ⟨a, rfl, .inl ⟨vs, sq .refl, fin _ _ G1 H1 r1.sim x1 ⟨fun i G2 H2 s2 x2 _ hi => ?_, fun i G2 H2 x H3 s2 x2 _ hi hy => ?_, fun i G2 H2 s2 x2 _ hi => ?_⟩ q1⟩⟩
      · exact ⟨vs, vs[i]'(by rw [rr.length]; exact hi), sq x2, by simp⟩
      · obtain ⟨rfl, hy⟩ := hy
        have e1 := hy vs (sq x2)
        obtain ⟨v', e2, e3⟩ := rr.get (i := i) (d := ds[i]) (by simp)
        rw [e1] at e2; cases e2
        exact ⟨ds[i], by simp, e3.ext r1.sim x2 _ _, s2, .refl⟩
      · exact ⟨vs, sq x2, by rw [rr.length]; exact hi⟩
    · rename_i a
      cases k1
      split at q1
      · rename_i ds eg
        obtain ⟨vs, e1, rr⟩ := r1.sim.lst eg
        refine ⟨a, rfl, .inl ⟨vs, .of e1, fin _ _ G1 H1 r1.sim x1 ⟨fun i G2 H2 s2 x2 hok hi => ?_, fun i G2 H2 x H3 s2 x2 hok hi hy => ?_, fun i G2 H2 s2 x2 hok hi => ?_⟩ q1⟩⟩
        · obtain ⟨ws, e2, r2⟩ := s2.lst hok
          exact ⟨ws, ws[i]'(by rw [r2.length]; exact hi), .of e2, by simp⟩
        · obtain ⟨ws, e2, r2⟩ := s2.lst hok
          obtain ⟨rfl, hy⟩ := hy
          have e3 := hy ws (.of e2)
          obtain ⟨v', e4, e5⟩ := r2.get (i := i) (d := ds[i]) (by simp)
          rw [e3] at e4; cases e4
          exact ⟨ds[i], by simp, e5, s2, .refl⟩
        · obtain ⟨ws, e2, r2⟩ := s2.lst hok
          exact ⟨ws, .of e2, by rw [r2.length]; exact hi⟩
      · exact q1.elim
    · exact q1.elim⟩
end

/-! ### range -/
section
variable {X : Cx} {tg a b : Expr} {ts : TDA} {pos p : Pos}
def intsD (lo : Int) (n : Nat) : List D := (List.range n).map fun i => .int (lo + (i : Nat))
theorem ints_get {lo : Int} {n i : Nat} (h : i < n) : (intsD lo n)[i]? = some (.int (lo + (i : Nat))) := by
  unfold intsD
  rw [List.getElem?_map, List.getElem?_range h]; rfl
theorem ints_len {lo : Int} {n : Nat} : (intsD lo n).length = n := by unfold intsD; rw [List.length_map, List.length_range]
theorem itr_rel {K : PySem.W.Frag} {G1 : HD} {H1 : Hp} (lo : Int) (n : Nat) : ItRel K G1 H1 ⟨intsD lo n, fun _ => True⟩ (Itr lo n) :=
  ⟨fun i G H s x _ hi => by rw [ints_len] at hi; exact hi, fun i G H x H' s _ _ hi hy => by
    obtain ⟨rfl, rfl⟩ := hy
    rw [ints_len] at hi
    exact ⟨_, ints_get hi, rfl, s, .refl⟩, fun i G H s x _ hi => by rw [ints_len] at hi; exact hi⟩
def jRng1 (ts : TDA) : TDI := fun W σ G R => ts W σ G fun ds G1 => match ds with
  | [.int j] => j < 2 ^ 62 ∧ -(2 ^ 62) ≤ j ∧ R ⟨intsD 0 j.toNat, fun _ => True⟩ G1
  | _ => False
theorem di_range1 (hm : X.mg "range" = none) (ha : DA X [a] ts) (hg : Gl X "range" := by rfl) (hs : starEach [a] X.env = [(false, eval a X.env)] := by rfl) : DI X tg (.Call (.Name "range" p) [a] [] pos) (iRng1 (semA X [a])) (jRng1 ts) :=
  ⟨pi_range1 hg hm paSem hs, fun G H σ τ W R R' r q fin => ha.then r q fun ds vs G1 H1 r1 x1 k1 q1 => by
    try dsimp only at q1
    split at q1
    · rename_i j
      obtain ⟨v, t, rfl, h1, h2⟩ := k1
      cases h1; cases h2
      exact ⟨j, rfl, q1.2.1, q1.1, fin _ _ G1 H1 r1.sim x1 (itr_rel 0 j.toNat) q1.2.2⟩
    · exact q1.elim⟩
def jRng2 (ts : TDA) : TDI := fun W σ G R => ts W σ G fun ds G1 => match ds with
  | [.int i, .int j] => (-(2 ^ 62) ≤ i ∧ i < 2 ^ 62 ∧ -(2 ^ 62) ≤ j ∧ j < 2 ^ 62) ∧ R ⟨intsD i (j - i).toNat, fun _ => True⟩ G1
  | _ => False
theorem di_range2 (hm : X.mg "range" = none) (ha : DA X [a, b] ts) (hg : Gl X "range" := by rfl) (hs : starEach [a, b] X.env = [(false, eval a X.env), (false, eval b X.env)] := by rfl) (hs2 : starEach [b] X.env = [(false, eval b X.env)] := by rfl) : DI X tg (.Call (.Name "range" p) [a, b] [] pos) (iRng2 (semA X [a, b])) (jRng2 ts) :=
  ⟨pi_range2 hg hm paSem hs hs2, fun G H σ τ W R R' r q fin => ha.then r q fun ds vs G1 H1 r1 x1 k1 q1 => by
    try dsimp only at q1
    split at q1
    · rename_i i j
      obtain ⟨v, t, rfl, h1, v2, t2, rfl, h2, h3⟩ := k1
      cases h1; cases h2; cases h3
      exact ⟨i, j, rfl, q1.1, fin _ _ G1 H1 r1.sim x1 (itr_rel i (j - i).toNat) q1.2⟩
    · exact q1.elim⟩
end

/-! ### targets of loops -/
inductive Tgt where
  | one (i : Nat) | many (is : List Nat)
def Tgt.slots : Tgt → List Nat
  | .one i => [i]
  | .many is => is
def Tgt.put : Tgt → D → DSt → (DSt → Prop) → Prop
  | .one i, d, σ, k => k (σ.set i (some d))
  | .many is, d, σ, k => match d with
    | .tup ds => ds.length = is.length ∧ k (setAll is ds σ)
    | _ => False
theorem wipe_at {τ : L2.St} {j : Nat} : ∀ {vs : List Nat}, (wipe τ vs)[j]? = if j ∈ vs then (if j < τ.length then some none else none) else τ[j]?
  | [] => by simp [wipe]
  | v :: vs => by
    unfold wipe
    by_cases h : v = j
    · subst h
      by_cases hl : v < τ.length
      · rw [List.getElem?_set_self (by rw [wipe_length]; exact hl)]; simp [hl]
      · rw [List.getElem?_eq_none (by rw [List.length_set, wipe_length]; omega)]; simp [hl]
    · rw [List.getElem?_set_ne h, wipe_at (vs := vs)]
      have : (j ∈ v :: vs) ↔ j ∈ vs := by simp [Ne.symm h]
      simp only [this]
theorem wipe_set {τ : L2.St} {i : Nat} {w : Option V} {vs : List Nat} (h : i ∈ vs) : wipe (τ.set i w) vs = wipe τ vs := by
  apply List.ext_getElem?
  intro j
  rw [wipe_at, wipe_at, List.length_set]
  by_cases e : i = j
  · subst e; rw [if_pos h, if_pos h]
  · rw [List.getElem?_set_ne e]
theorem wipe_wipe {τ : L2.St} {vs : List Nat} : wipe (wipe τ vs) vs = wipe τ vs := by
  apply List.ext_getElem?
  intro j
  rw [wipe_at, wipe_length, wipe_at]
  by_cases e : j ∈ vs
  · rw [if_pos e, if_pos e]
  · simp only [if_neg e]
structure TgRun (K : PySem.W.Frag) (t : Tgt) (g : TG) : Prop where
  run : ∀ (H : Hp) (σ : DSt) (τ : L2.St) (d : D) (v : V) (k : DSt → Prop) (Q : L2.St → Hp → Prop), RpS K H σ τ → Rp K H d v → t.put d σ k → (∀ σ' τ', RpS K H σ' τ' → k σ' → (∀ vs, (∀ i ∈ t.slots, i ∈ vs) → wipe τ' vs = wipe τ vs) → Q τ' H) → g v τ H Q
structure TgOk (X : Cx) (tg : Expr) (t : Tgt) (g : TG) : Prop where
  pg : PG X tg g
  rn : TgRun X.K t g
theorem tr_one {K : PySem.W.Frag} {i : Nat} : TgRun K (.one i) (gName i) := ⟨fun H σ τ d v k Q r rd hk q => q _ _ (r.set rd) hk fun vs h => wipe_set (h i (by simp [Tgt.slots]))⟩
section
variable {X : Cx} {pos : Pos}
theorem tg_one {x : Str} (hN : X.N.Nodup) (i : Nat) (hi : X.N[i]? = some x := by rfl) (hx : Loc X.env.scope x := by first | exact Or.inl rfl | exact Or.inr rfl) (hf : X.fn x = true ∨ X.env.scope.names.lookup x = some .local := by first | exact .inl rfl | exact .inr rfl | assumption) : TgOk X (.Name x pos) (.one i) (gName i) :=
  ⟨pg_name hN hi hx hf, tr_one⟩
theorem Slots.run2 {es : List Expr} {is : List Nat} {g : TGs} (s : Slots X es is g) {K : PySem.W.Frag} {H : Hp} {Q : L2.St → Hp → Prop} : ∀ {ds : List D} {vs : List V} {σ : DSt} {τ : L2.St}, Rps K H ds vs → ds.length = is.length → RpS K H σ τ → (∀ τ', RpS K H (setAll is ds σ) τ' → (∀ ws, (∀ i ∈ is, i ∈ ws) → wipe τ' ws = wipe τ ws) → Q τ' H) → g vs τ H Q := by
  induction s with
  | nil =>
    intro ds vs σ τ r hl k q
    obtain rfl : ds = [] := List.eq_nil_of_length_eq_zero hl
    cases r
    exact ⟨rfl, q τ k fun _ _ => rfl⟩
  | cons h _ hs ih =>
    intro ds vs σ τ r hl k q
    cases ds with
    | nil => cases hl
    | cons d ds =>
      obtain ⟨v, vr, rfl, r1, r2⟩ := r
      exact ⟨v, vr, rfl, ih r2 (Nat.succ.inj hl) (k.set r1) fun τ' k' hw => q τ' k' fun ws hi => (hw ws fun i hm => hi i (List.mem_cons_of_mem _ hm)).trans (wipe_set (hi _ List.mem_cons_self))⟩
theorem tg_many {es : List Expr} {is : List Nat} {g : TGs} {kk : Nat} (hc : X.calm = true) (s : Slots X es is g) (hn : (assignEach es X.env).length = is.length := by rfl) (hst : (assignEach es X.env).findIdx? (·.1) = none := by rfl) : TgOk X (.Tuple es kk pos) (.many is) (gTup X.K is.length g) :=
  ⟨pg_tup hc s.pgs hn hst, ⟨fun H σ τ d v k Q r rd hk q => by
    simp only [Tgt.put] at hk
    split at hk
    · obtain ⟨a, vs, rfl, t, rr⟩ := rd
      exact ⟨a, vs, rfl, t, rr.length.trans hk.1, s.run2 rr hk.1 r fun τ' k' hw => q _ τ' k' hk.2 hw⟩
    · exact hk.elim⟩⟩
end

/-! ### for -/
def forD (ok : HD → Prop) (step : D → (DSt → HD → Prop) → DSt → HD → Prop) (fin : DSt → HD → Prop) : List D → DSt → HD → Prop
  | [] => fun σ G => ∃ G0, Le G0 G ∧ ok G0 ∧ fin σ G0
  | x :: xs => fun σ G => ∃ G0, Le G0 G ∧ ok G0 ∧ step x (forD ok step fin xs) σ G0
def sFor (ti : TDI) (t : Tgt) (tb : TDS) : TDS := fun W D σ G => ti W σ G fun I G1 => forD I.ok (fun d k σ' G' => t.put d σ' fun σ2 => tb W { D with nx := k, ct := k, bk := D.nx } σ2 G') D.nx I.xs σ G1
theorem drop_get {α : Type} {l : List α} {i : Nat} {x : α} (h : l[i]? = some x) : l.drop i = x :: l.drop (i + 1) := by
  obtain ⟨h1, h2⟩ := List.getElem?_eq_some_iff.mp h
  rw [← h2]
  exact List.drop_eq_getElem_cons h1
theorem ds_for {X : Cx} {tg iter : Expr} {body : List Stmt} {wi : TI} {ti : TDI} {t : Tgt} {g : TG} {tb : TDS} {pos : Pos} (hp : PassesOwn (model X.prog X.w) X.A X.env X.xe) (hc : X.calm = true) (hi : DI X tg iter wi ti) (hg : TgOk X tg t g) (hb : DSs X body tb)
    (hs : ∀ x, foldedSetIterable iter X.env x = pure x := by intro _; rfl) : DS X (.For tg iter body [] pos) (sFor ti t tb) := ⟨fun G H σ τ W D r q => semS.of (ps_for hp hc hi.pi hg.pg pssSem hs) (hi.run G H σ τ W _ _ r q fun I J G1 H1 s1 x1 rel q1 => by
  have r1 := r.ext s1 x1
  refine ⟨fun i m τ' H' => ∃ σ' G', RpS X.K H' σ' τ' ∧ Sim X.K G' H' ∧ Ext G1 H1 G' H' ∧ m = I.xs.length - i ∧ i ≤ I.xs.length ∧ forD I.ok (fun d k σ' G' => t.put d σ' fun σ2 => tb W { D with nx := k, ct := k, bk := D.nx } σ2 G') D.nx (I.xs.drop i) σ' G',
    ⟨_, σ, G1, r1.slots, s1, .refl, rfl, Nat.zero_le _, by rw [List.drop_zero]; exact q1⟩, ?_⟩
  rintro i m τ' H' ⟨σ', G', k', s', x', rfl, hle, q'⟩
  by_cases hlt : i < I.xs.length
  · have hx : I.xs[i]? = some I.xs[i] := by simp [hlt]
    rw [drop_get hx] at q'
    obtain ⟨G0, l0, ok0, q0⟩ := q'
    have s0 := s'.le l0
    have x0 : Ext G1 H1 G0 H' := x'.le l0
    refine .inr ⟨rel.go i G0 H' s0 x0 ok0 hlt, fun τ2 H2 => ∃ σ2 G2, RpS X.K H2 σ2 τ2 ∧ Sim X.K G2 H2 ∧ Ext G1 H1 G2 H2 ∧ forD I.ok (fun d k σ' G' => t.put d σ' fun σ2 => tb W { D with nx := k, ct := k, bk := D.nx } σ2 G') D.nx (I.xs.drop (i + 1)) σ2 G2,
      fun τ2 H2 ⟨σ2, G2, a1, a2, a3, a4⟩ => ⟨_, by omega, σ2, G2, a1, a2, a3, rfl, hlt, a4⟩, fun v H2 hy => ?_⟩
    obtain ⟨d, e1, e2, e3, e4⟩ := rel.yld i G0 H' v H2 s0 x0 ok0 hlt hy
    rw [hx] at e1; cases e1
    refine hg.rn.run H2 σ' τ' _ v _ _ (k'.ext s0 e4 _ _) e2 q0 fun σ2 τ2 k2 q2 _ => ?_
    have x2 := x0.trans e4
    have rr : SR X G0 H2 σ2 τ2 W := ⟨e3, k2, r1.takes.imp fun _ _ _ _ z => z.up x2⟩
    exact (hb.run G0 H2 σ2 τ2 W _ rr q2).imp ⟨fun τ3 H3 ⟨σ3, G3, b1, b2, b3, b4⟩ => ⟨σ3, G3, b1, b2, x2.trans b3, b4⟩, fun v H3 z => z.up (x1.trans x2), fun τ3 H3 z => z.up (x1.trans x2), fun τ3 H3 ⟨σ3, G3, b1, b2, b3, b4⟩ => ⟨σ3, G3, b1, b2, x2.trans b3, b4⟩⟩
  · have e : I.xs.drop i = [] := List.drop_eq_nil_of_le (by omega)
    rw [e] at q'
    obtain ⟨G0, l0, ok0, q0⟩ := q'
    exact .inl ⟨rel.stop i G0 H' (s'.le l0) (x'.le l0) ok0 (by omega), σ', G0, k', s'.le l0, (x1.trans x').le l0, q0⟩)⟩

/-! ### while -/
def whD (test : DSt → HD → (Bool → HD → Prop) → Prop) (body : (DSt → HD → Prop) → DSt → HD → Prop) (fin : DSt → HD → Prop) : Nat → DSt → HD → Prop
  | 0 => fun _ _ => False
  | n + 1 => fun σ G => ∃ G0, Le G0 G ∧ test σ G0 fun b G1 => if b = true then body (whD test body fin n) σ G1 else fin σ G1
def sWhile (tc : TDT) (tb : TDS) : TDS := fun W D σ G => ∃ n, whD (fun σ' G' k => tc W σ' G' k) (fun k σ' G' => tb W { D with nx := k, ct := k, bk := D.nx } σ' G') D.nx n σ G
theorem ds_while {X : Cx} {c : Expr} {body : List Stmt} {tc : TDT} {tb : TDS} {pos : Pos} (hp : PassesOwn (model X.prog X.w) X.A X.env X.xe) (hc : DT X c tc) (hb : DSs X body tb) : DS X (.While c body [] pos) (sWhile tc tb) := ⟨fun G H σ τ W D r q => semS.of (ps_while hp ptSem pssSem) (by
  obtain ⟨n, q⟩ := q
  refine ⟨fun m τ' H' => ∃ σ' G', RpS X.K H' σ' τ' ∧ Sim X.K G' H' ∧ Ext G H G' H' ∧ whD (fun σ' G' k => tc W σ' G' k) (fun k σ' G' => tb W { D with nx := k, ct := k, bk := D.nx } σ' G') D.nx m σ' G', ⟨n, σ, G, r.slots, r.sim, .refl, q⟩, ?_⟩
  rintro m τ' H' ⟨σ', G', k', s', x', q'⟩
  cases m with
  | zero => exact q'.elim
  | succ m =>
    obtain ⟨G0, l0, q0⟩ := q'
    have x0 : Ext G H G0 H' := x'.le l0
    have r0 : SR X G0 H' σ' τ' W := ⟨s'.le l0, k', r.takes.imp fun _ _ _ _ z => z.up x0⟩
    refine hc.then r0 q0 fun b G1 H1 r1 x1 q1 => ?_
    have x2 := x0.trans x1
    cases b with
    | true =>
      refine ⟨fun τ2 H2 => ∃ σ2 G2, RpS X.K H2 σ2 τ2 ∧ Sim X.K G2 H2 ∧ Ext G H G2 H2 ∧ whD (fun σ' G' k => tc W σ' G' k) (fun k σ' G' => tb W { D with nx := k, ct := k, bk := D.nx } σ' G') D.nx m σ2 G2, fun τ2 H2 h2 => ⟨m, Nat.lt_succ_self _, h2⟩, ?_⟩
      exact (hb.run G1 H1 σ' τ' W _ r1 q1).imp ⟨fun τ3 H3 ⟨σ3, G3, b1, b2, b3, b4⟩ => ⟨σ3, G3, b1, b2, x2.trans b3, b4⟩, fun v H3 z => z.up x2, fun τ3 H3 z => z.up x2, fun τ3 H3 ⟨σ3, G3, b1, b2, b3, b4⟩ => ⟨σ3, G3, b1, b2, x2.trans b3, b4⟩⟩
    | false => exact ⟨σ', G1, r1.slots, r1.sim, x2, q1⟩)⟩
end DL

namespace DL
open PySem PySem.Spec L2
open PyProof.Rows hiding St

/-! ### list comprehensions -/
section
variable (X : Cx)
def semTs (ifs : List Expr) : TT := fun σ H Q => ∀ (pins : List (Addr × Obj)) (s : Shared), Inv X pins σ H s →
  wpAny (model X.prog X.w) X.A (forIn ifs true fun c r => if r = true then do let ok ← isTrue c X.env (eval c X.env); pure (ForInStep.yield ok) else pure (ForInStep.yield r)) (TP X pins σ Q) X.xe s
end
theorem ptsSem {X : Cx} {ifs : List Expr} : PTs X ifs (semTs X ifs) := ⟨fun pins s _ _ _ I h => h pins s I⟩
/-- a clause's tests -/
structure DTs (X : Cx) (ifs : List Expr) (t : TDT) : Prop where
  run : ∀ (G : HD) (H : Hp) (σ : DSt) (τ : L2.St) (W : DW) (Q : Bool → HD → Prop), SR X G H σ τ W → t W σ G Q → semTs X ifs τ H (liftB X.K G H Q)
def dYes : TDT := fun _ _ G Q => Q true G
section
variable {X : Cx} {c : Expr} {cs : List Expr} {t u : TDT}
theorem dts_nil : DTs X [] dYes := ⟨fun G H σ τ W Q r q pins s I => pts_nil.run pins s τ H _ I ⟨G, r.sim, .refl, q⟩⟩
theorem tests_skip {env : Env} {prog : Program} {w : World} {A : Around} {Q : Bool → Shared → Prop} {E : Value → Shared → Prop} {s : Shared} : ∀ {ifs : List Expr}, Q false s →
    wpAny (model prog w) A (forIn ifs false fun c r => if r = true then do let ok ← isTrue c env (eval c env); pure (ForInStep.yield ok) else pure (ForInStep.yield r)) Q E s
  | [], h => wpAny_pure h
  | c :: cs, h => by
    simp only [List.forIn_cons, Bool.false_eq_true, if_false]
    exact wpAny_bind (wpAny_pure (tests_skip (ifs := cs) h))
theorem dts_cons (h : DT X c t) (k : DTs X cs u) : DTs X (c :: cs) (dAnd t u) := ⟨fun G H σ τ W Q r q pins s I => by
  simp only [List.forIn_cons, if_true]
  refine wpAny_bind (wpAny_bind (thn ((h.run G H σ τ W _ r q) pins s I) fun b s1 ⟨H1, I1, G1, sm1, x1, q1⟩ => wpAny_pure ?_))
  cases b with
  | true => exact thn (k.run G1 H1 σ τ W Q (r.ext sm1 x1) q1 pins s1 I1) fun b2 s2 ⟨H2, I2, z⟩ => ⟨H2, I2, z.up x1⟩
  | false => exact tests_skip ⟨H1, I1, G1, sm1, x1, q1⟩⟩
theorem dts_one (h : DT X c t) : DTs X [c] t := ⟨fun G H σ τ W Q r q pins s I => (pts_one ptSem).run pins s τ H _ I (h.run G H σ τ W Q r q)⟩
end

section
variable {K : PySem.W.Frag} {G : HD} {H : Hp}
/-- a list that is not of ours grows -/
theorem SqT.aside {p : Addr} {l l' : List V} (hp : H p = some (.lst l)) {a : Addr} {vs : List V} (h : SqT K H a vs) : SqT K (upd H p (.lst l')) a vs := by
  rcases h with (h | ⟨o, h⟩) | h
  · exact .inl (.inl (by rw [upd_ne (by rintro rfl; rw [hp] at h; cases h)]; exact h))
  · exact .inl (.inr ⟨o, by rw [upd_ne (by rintro rfl; rw [hp] at h; cases h)]; exact h⟩)
  · exact .inr h
mutual
theorem Rp.aside {p : Addr} {l l' : List V} (hp : H p = some (.lst l)) : ∀ (d : D) (v : V), Rp K H d v → Rp K (upd H p (.lst l')) d v
  | .non, _, h => h
  | .bl _, _, h => h
  | .int _, _, h => h
  | .str _, _, h => h
  | .ty _, _, h => h
  | .ref _, _, h => h
  | .tup ds, v, h => by
    obtain ⟨a, vs, e, t, r⟩ := h
    exact ⟨a, vs, e, SqT.aside hp t, Rps.aside hp ds vs r⟩
  | .kl ds, v, h => by
    obtain ⟨a, vs, e, t, r⟩ := h
    refine ⟨a, vs, e, ?_, Rps.aside hp ds vs r⟩
    rcases t with ⟨o, t⟩ | t
    · exact .inl ⟨o, by rw [upd_ne (by rintro rfl; rw [hp] at t; cases t)]; exact t⟩
    · exact .inr t
theorem Rps.aside {p : Addr} {l l' : List V} (hp : H p = some (.lst l)) : ∀ (ds : List D) (vs : List V), Rps K H ds vs → Rps K (upd H p (.lst l')) ds vs
  | [], _, h => h
  | d :: ds, vs, h => by
    obtain ⟨v, r, e, h1, h2⟩ := h
    exact ⟨v, r, e, Rp.aside hp d v h1, Rps.aside hp ds r h2⟩
end
theorem RKV.aside {κ : Type} {p : Addr} {l l' : List V} (hp : H p = some (.lst l)) : ∀ (a : List (κ × D)) (m : List (κ × V)), RKV K H a m → RKV K (upd H p (.lst l')) a m
  | [], _, h => h
  | q :: a, m, h => by
    obtain ⟨v, r, e, h1, h2⟩ := h
    exact ⟨v, r, e, h1.aside hp _ _, RKV.aside hp a r h2⟩
theorem RO.aside {p : Addr} {l l' : List V} (hp : H p = some (.lst l)) : ∀ (o : MO) (o' : HO), RO K H o o' → RO K (upd H p (.lst l')) o o'
  | .lst ds, _, h => let ⟨vs, e, r⟩ := h; ⟨vs, e, r.aside hp _ _⟩
  | .dK _, _, h => let ⟨vs, e, r⟩ := h; ⟨vs, e, r.aside hp _ _⟩
  | .dT _, _, h => let ⟨vs, e, r⟩ := h; ⟨vs, e, r.aside hp _ _⟩
  | .ins _ _, _, h => let ⟨dx, vs, e, r⟩ := h; ⟨dx, vs, e, r.aside hp _ _⟩
  | .fz u, _, h => let ⟨ob, w, e, r, z⟩ := h; ⟨ob, w, e, RO.aside hp u w r, z⟩
theorem Sim.aside (s : Sim K G H) {p : Addr} {l l' : List V} (hp : H p = some (.lst l)) (hg : G p = none) : Sim K G (upd H p (.lst l')) := fun a o e => by
  obtain ⟨o', e1, r⟩ := s a o e
  have hn : a ≠ p := by rintro rfl; rw [hg] at e; cases e
  exact ⟨o', by rw [upd_ne hn]; exact e1, r.aside hp _ _⟩
theorem RpS.aside {p : Addr} {l l' : List V} (hp : H p = some (.lst l)) : ∀ (σ : DSt) (t : L2.St), RpS K H σ t → RpS K (upd H p (.lst l')) σ t
  | [], _, h => h
  | o :: r, _, h => by
    obtain ⟨w, t, rfl, h1, h2⟩ := h
    refine ⟨w, t, rfl, fun d e => ?_, RpS.aside hp r t h2⟩
    obtain ⟨v, e1, e2⟩ := h1 d e
    exact ⟨v, e1, e2.aside hp _ _⟩
end
def dwipe (σ : DSt) : List Nat → DSt
  | [] => σ
  | v :: vs => (dwipe σ vs).set v none
theorem RpS.wipe {K : PySem.W.Frag} {H : Hp} {σ : DSt} {τ : L2.St} (h : RpS K H σ τ) : ∀ vs : List Nat, RpS K H (dwipe σ vs) (L2.wipe τ vs)
  | [] => h
  | v :: vs => (RpS.wipe h vs).drop1
abbrev W0 : DW := fun _ _ _ _ => False
def lcD (ok : HD → Prop) (step : D → (D → HD → Prop) → (HD → Prop) → HD → Prop) (fin : List D → HD → Prop) : List D → List D → HD → Prop
  | [], acc => fun G => ∃ G0, Le G0 G ∧ ok G0 ∧ fin acc G0
  | x :: xs, acc => fun G => ∃ G0, Le G0 G ∧ ok G0 ∧ step x (fun y G' => lcD ok step fin xs (acc ++ [y]) G') (fun G' => lcD ok step fin xs acc G') G0
def dLc (ti : TDI) (t : Tgt) (dt : TDT) (te : TD) (vs : List Nat) : TD := fun W σ G Q => ti W σ G fun I G1 => I.xs.length ≤ 1000000 ∧
  lcD I.ok (fun d ky kn G' => t.put d (dwipe σ vs) fun σ2 => dt W0 σ2 G' fun b G2 => if b = true then te W0 σ2 G2 ky else kn G2) (fun acc G2 => newL G2 acc Q) I.xs [] G1
section
variable {X : Cx} {elt tg iter : Expr} {ifs : List Expr} {scope : Scope} {own : List (Str × Nat)} {pos : Pos} {wi : TI} {ti : TDI} {t : Tgt} {g : TG} {dt : TDT} {te : TD}
theorem million {n : Nat} (h : n ≤ 1000000) : n ≤ sizeLine := by rw [sizeLine_eq]; omega
/-- the loop of a block, shown once for values and for stores -/
theorem lc_run (hi : DI X tg iter wi ti) (hg : TgRun X.K t g)
    (hsl : ∀ i ∈ t.slots, i ∈ own.map (·.2))
    {tt : TT} {teV : TE}
    (htt : ∀ (G : HD) (H : Hp) (σ : DSt) (τ : L2.St) (Q : Bool → HD → Prop) (Q' : Bool → Hp → Prop), Sim X.K G H → RpS X.K H σ τ → dt W0 σ G Q → (∀ b H', liftB X.K G H Q b H' → Q' b H') → tt τ H Q')
    (hte : ∀ (G : HD) (H : Hp) (σ : DSt) (τ : L2.St) (Q : Post) (Q' : VK), Sim X.K G H → RpS X.K H σ τ → te W0 σ G Q → (∀ v H', liftQ X.K G H Q v H' → Q' v H') → teV τ H Q')
    {G : HD} {H : Hp} {σ : DSt} {τ : L2.St} {W : DW} {Q : Post} {Q' : VK} (r : SR X G H σ τ W) (q : dLc ti t dt te (own.map (·.2)) W σ G Q) (fin : ∀ v H', liftQ X.K G H Q v H' → Q' v H') : tLc wi g tt teV (own.map (·.2)) τ H Q' := by
  refine hi.run G H σ τ W _ _ r q fun I J G1 H1 s1 x1 rel q1 D0 hD => ?_
  obtain ⟨hz, q1⟩ := q1
  have r1 := r.ext s1 x1
  have n0 := s1.no hD
  refine ⟨fun i m H' => ∃ G' acc accV, H' D0 = some (.lst accV) ∧ G' D0 = none ∧ Rps X.K H' acc accV ∧ acc.length ≤ i ∧ Sim X.K G' H' ∧ Ext G1 H1 G' H' ∧ m = I.xs.length - i ∧ i ≤ I.xs.length ∧
      lcD I.ok (fun d ky kn G' => t.put d (dwipe σ (own.map (·.2))) fun σ2 => dt W0 σ2 G' fun b G2 => if b = true then te W0 σ2 G2 ky else kn G2) (fun acc G2 => newL G2 acc Q) (I.xs.drop i) acc G',
    ⟨_, G1, [], [], upd_same, n0, rfl, Nat.zero_le _, s1.newO hD, .new hD n0, rfl, Nat.zero_le _, by rw [List.drop_zero]; exact q1⟩, ?_⟩
  rintro i m H' ⟨G', acc, accV, hl, hn, ra, hle0, s', x', rfl, hle, q'⟩
  by_cases hlt : i < I.xs.length
  · have hx : I.xs[i]? = some I.xs[i] := by simp [hlt]
    rw [drop_get hx] at q'
    obtain ⟨G0, l0, ok0, q0⟩ := q'
    have s0 := s'.le l0
    have x0 : Ext G1 H1 G0 H' := x'.le l0
    have e0 : Ext G' H' G0 H' := .of_le l0
    refine .inr ⟨rel.go i G0 H' s0 x0 ok0 hlt, fun H2 => ∃ G2 acc2 accV2, H2 D0 = some (.lst accV2) ∧ G2 D0 = none ∧ Rps X.K H2 acc2 accV2 ∧ acc2.length ≤ i + 1 ∧ Sim X.K G2 H2 ∧ Ext G1 H1 G2 H2 ∧
        lcD I.ok (fun d ky kn G' => t.put d (dwipe σ (own.map (·.2))) fun σ2 => dt W0 σ2 G' fun b G2 => if b = true then te W0 σ2 G2 ky else kn G2) (fun acc G2 => newL G2 acc Q) (I.xs.drop (i + 1)) acc2 G2,
      fun H2 ⟨G2, a2, v2, b1, b2, b3, b4, b5, b6, b7⟩ => ⟨_, by omega, G2, a2, v2, b1, b2, b3, b4, b5, b6, rfl, hlt, b7⟩, fun v H2 hy => ?_⟩
    obtain ⟨d, e1, e2, e3, e4⟩ := rel.yld i G0 H' v H2 s0 x0 ok0 hlt hy
    rw [hx] at e1; cases e1
    have x2 := x0.trans e4
    have slots2 : RpS X.K H2 (dwipe σ (own.map (·.2))) (L2.wipe τ (own.map (·.2))) := (r1.slots.ext s1 x2 _ _).wipe _
    refine hg.run H2 _ _ _ v _ _ slots2 e2 q0 fun σ2 τ2 k2 q2 hw => ⟨(hw _ hsl).trans wipe_wipe, ?_⟩
    have n1 : G0 D0 = none := l0.no hn
    obtain ⟨hl2, n2⟩ := e4 D0 _ n1 hl
    have ra2 : Rps X.K H2 acc accV := ra.ext s' (e0.trans e4) _ _
    refine htt G0 H2 σ2 τ2 _ _ e3 k2 q2 fun b H3 ⟨G3, s3, x3, q3⟩ => ?_
    obtain ⟨hl3, n3⟩ := x3 D0 _ n2 hl2
    have ra3 : Rps X.K H3 acc accV := ra2.ext e3 x3 _ _
    cases b with
    | true =>
      refine hte G3 H3 σ2 τ2 _ _ s3 (k2.ext e3 x3 _ _) q3 fun y H4 ⟨dy, G4, ry, s4, x4, q4⟩ => ?_
      obtain ⟨hl4, n4⟩ := x4 D0 _ n3 hl3
      have ra4 : Rps X.K H4 acc accV := ra3.ext s3 x4 _ _
      refine ⟨accV, hl4, ?_, G4, acc ++ [dy], accV ++ [y], upd_same, n4, (ra4.app (.cons ry .nil)).aside hl4 _ _, by simp; omega, s4.aside hl4 n4, fun a o ga ha => ?_, q4⟩
      · rw [ra4.length]
        have := million hz
        omega
      · obtain ⟨h5, g5⟩ := ((x2.trans x3).trans x4) a o ga ha
        have hne : a ≠ D0 := by rintro rfl; rw [hD] at ha; cases ha
        exact ⟨by rw [upd_ne hne]; exact h5, g5⟩
    | false => exact ⟨G3, acc, accV, hl3, n3, ra3, by omega, s3, x2.trans x3, q3⟩
  · have e : I.xs.drop i = [] := List.drop_eq_nil_of_le (by omega)
    rw [e] at q'
    obtain ⟨G0, l0, ok0, q0⟩ := q'
    have s0 := s'.le l0
    have n1 : G0 D0 = none := l0.no hn
    refine .inl ⟨rel.stop i G0 H' s0 (x'.le l0) ok0 (by omega), fin _ _ ⟨.ref D0, put G0 D0 (.lst acc), rfl, fun a o ea => ?_, fun a o ga ha => ?_, q0 D0 n1⟩⟩
    · by_cases ha : a = D0
      · subst ha
        rw [put_same] at ea; cases ea
        exact ⟨_, hl, _, rfl, ra⟩
      · rw [put_ne ha] at ea
        exact s0 a o ea
    · obtain ⟨h5, g5⟩ := (x1.trans (x'.le l0)) a o ga ha
      have hne : a ≠ D0 := by
        rintro rfl
        obtain ⟨h6, _⟩ := x1 a o ga ha
        rw [hD] at h6; cases h6
      exact ⟨h5, by rw [put_ne hne]; exact g5⟩
end

def gOf : List Nat → TGs
  | [] => gNil
  | i :: is => gCons (gName i) (gOf is)
theorem gOf_run {K : PySem.W.Frag} {H : Hp} {Q : L2.St → Hp → Prop} : ∀ {is : List Nat} {ds : List D} {vs : List V} {σ : DSt} {τ : L2.St}, Rps K H ds vs → ds.length = is.length → RpS K H σ τ → (∀ τ', RpS K H (setAll is ds σ) τ' → (∀ ws, (∀ i ∈ is, i ∈ ws) → L2.wipe τ' ws = L2.wipe τ ws) → Q τ' H) → gOf is vs τ H Q
  | [], ds, vs, σ, τ, r, hl, k, q => by
    obtain rfl : ds = [] := List.eq_nil_of_length_eq_zero hl
    cases r
    exact ⟨rfl, q τ k fun _ _ => rfl⟩
  | i :: is, [], vs, σ, τ, r, hl, k, q => by cases hl
  | i :: is, d :: ds, vs, σ, τ, r, hl, k, q => by
    obtain ⟨v, vr, rfl, r1, r2⟩ := r
    exact ⟨v, vr, rfl, gOf_run r2 (Nat.succ.inj hl) (k.set r1) fun τ' k' hw => q τ' k' fun ws hi => (hw ws fun j hm => hi j (List.mem_cons_of_mem _ hm)).trans (wipe_set (hi _ List.mem_cons_self))⟩
theorem tr_many {K : PySem.W.Frag} {is : List Nat} : TgRun K (.many is) (gTup K is.length (gOf is)) := ⟨fun H σ τ d v k Q r rd hk q => by
  simp only [Tgt.put] at hk
  split at hk
  · obtain ⟨a, vs, rfl, t, rr⟩ := rd
    exact ⟨a, vs, rfl, t, rr.length.trans hk.1, gOf_run rr hk.1 r fun τ' k' hw => q _ τ' k' hk.2 hw⟩
  · exact hk.elim⟩
theorem takes_w0 {X : Cx} {G : HD} {H : Hp} : Takes X (liftW X.K G H W0) := fun _ _ ⟨_, _, _, _, _, _, _, _, _, _, _, _, _, _, _, _, ⟨_, _, _, _, _, _, _, z⟩⟩ => z.elim
section
variable {X : Cx} {elt tg iter : Expr} {ifs : List Expr} {scope : Scope} {own : List (Str × Nat)} {pos : Pos} {wi : TI} {ti : TDI} {t : Tgt} {g : TG} {dt : TDT} {te : TD}
/-- the block's context -/
abbrev BlkDE (X : Cx) (scope : Scope) (e : Expr) (te : TD) : Prop := ∀ (s : Shared) (H : Hp) (C : Addr) (cl : List (Str × Addr)) (fp : List Addr), DE (X.blk s H scope (compEnvC scope cl C X.env) fp) e te
abbrev BlkDTs (X : Cx) (scope : Scope) (es : List Expr) (dt : TDT) : Prop := ∀ (s : Shared) (H : Hp) (C : Addr) (cl : List (Str × Addr)) (fp : List Addr), DTs (X.blk s H scope (compEnvC scope cl C X.env) fp) es dt
abbrev BlkPG (X : Cx) (scope : Scope) (e : Expr) (g : TG) : Prop := ∀ (s : Shared) (H : Hp) (C : Addr) (cl : List (Str × Addr)) (fp : List Addr), PG (X.blk s H scope (compEnvC scope cl C X.env) fp) e g
def blkT (X : Cx) (scope : Scope) (ifs : List Expr) : TT := fun τ H Q => ∀ (s : Shared) (H0 : Hp) (C : Addr) (cl : List (Str × Addr)) (fp : List Addr), semTs (X.blk s H0 scope (compEnvC scope cl C X.env) fp) ifs τ H Q
def blkE (X : Cx) (scope : Scope) (e : Expr) : TE := fun τ H Q => ∀ (s : Shared) (H0 : Hp) (C : Addr) (cl : List (Str × Addr)) (fp : List Addr), semE (X.blk s H0 scope (compEnvC scope cl C X.env) fp) e τ H Q
theorem blk_pts (s : Shared) (H : Hp) (C : Addr) (cl : List (Str × Addr)) (fp : List Addr) : PTs (X.blk s H scope (compEnvC scope cl C X.env) fp) ifs (blkT X scope ifs) := ⟨fun pins s1 _ _ _ I h => h s H C cl fp pins s1 I⟩
theorem blk_pe (s : Shared) (H : Hp) (C : Addr) (cl : List (Str × Addr)) (fp : List Addr) : PE (X.blk s H scope (compEnvC scope cl C X.env) fp) elt (blkE X scope elt) := ⟨fun pins s1 _ _ _ I h => h s H C cl fp pins s1 I⟩
theorem lc_sem (hi : DI X tg iter wi ti) (hgr : TgRun X.K t g) (hsl : ∀ i ∈ t.slots, i ∈ own.map (·.2)) (ht : BlkDTs X scope ifs dt) (he : BlkDE X scope elt te) {G : HD} {H : Hp} {σ : DSt} {τ : L2.St} {W : DW} {Q : Post} (r : SR X G H σ τ W) (q : dLc ti t dt te (own.map (·.2)) W σ G Q)
    {Q' : VK} (fin : ∀ v H', liftQ X.K G H Q v H' → Q' v H') : tLc wi g (blkT X scope ifs) (blkE X scope elt) (own.map (·.2)) τ H Q' :=
  lc_run hi hgr hsl (fun G H σ τ Q Q' s k q f s0 H0 C cl fp pins s1 I => thn ((ht s0 H0 C cl fp).run G H σ τ W0 Q ⟨s, k, takes_w0⟩ q pins s1 I) fun b s2 ⟨H2, I2, z⟩ => ⟨H2, I2, f b H2 z⟩)
    (fun G H σ τ Q Q' s k q f s0 H0 C cl fp => ((he s0 H0 C cl fp).run G H σ τ W0 Q ⟨s, k, takes_w0⟩ q).imp f) r q fin
theorem de_lc (hc : X.calm = true) (hN : X.N.Nodup) (hi : DI X tg iter wi ti) (ok : BlkOk X.N X.env.scope scope own) (hg : BlkPG X scope tg g) (hgr : TgRun X.K t g) (hsl : ∀ i ∈ t.slots, i ∈ own.map (·.2)) (ht : BlkDTs X scope ifs dt) (he : BlkDE X scope elt te)
    (hs : ∀ x, foldedSetIterable iter X.env x = pure x := by intro _; rfl) : DE X (.ListComp elt [⟨tg, iter, ifs, 0⟩] scope pos) (dLc ti t dt te (own.map (·.2))) :=
  ⟨fun G H σ τ W Q r q => semE.of (pe_lc hc hN hi.pi ok hg blk_pts blk_pe hs) (lc_sem hi hgr hsl ht he r q fun _ _ z => z)⟩
theorem ds_setLc {i : Nat} {y : Str} {py spos : Pos} (hc : X.calm = true) (hN : X.N.Nodup) (hy : X.N[i]? = some y) (hyl : X.env.scope.names.lookup y = some .local) (hsw : swapsWith (.ListComp elt [⟨tg, iter, ifs, 0⟩] scope pos) (some (.Name y py)) spos.line X.env = pure true)
    (hi : DI X tg iter wi ti) (ok : BlkOk X.N X.env.scope scope own) (hg : BlkPG X scope tg g) (hgr : TgRun X.K t g) (hsl : ∀ i ∈ t.slots, i ∈ own.map (·.2)) (ht : BlkDTs X scope ifs dt) (he : BlkDE X scope elt te)
    (hs : ∀ x, foldedSetIterable iter X.env x = pure x := by intro _; rfl) : DS X (.Assign [.Name y py] (.ListComp elt [⟨tg, iter, ifs, 0⟩] scope pos) spos) (sSet i (dLc ti t dt te (own.map (·.2)))) :=
  ⟨fun G H σ τ W D r q => semS.of (ps_setLc hc hN hy hyl hsw hi.pi ok hg blk_pts blk_pe hs) (lc_sem hi hgr hsl ht he r q fun v H' ⟨d, G', k, s, x, q'⟩ => ⟨_, G', (r.slots.ext r.sim x _ _).set k, s, x, q'⟩)⟩
end
end DL

namespace DL
open PySem PySem.Spec L2
open PyProof.Rows hiding St

/-! ### calls of built-ins -/
def CallD (K : PySem.W.Frag) (r : List V → Hp → VK → Prop) (rd : List D → HD → Post → Prop) : Prop :=
  ∀ (G : HD) (H : Hp) (ds : List D) (vs : List V) (Q : Post) (Q' : VK), Sim K G H → Rps K H ds vs → (∀ v H', liftQ K G H Q v H' → Q' v H') → rd ds G Q → r vs H Q'
theorem CallR.or {X : Cx} {f : Value} {r r' : List V → Hp → VK → Prop} (h : CallR X f r) (h' : CallR X f r') : CallR X f (fun xs H Q => r xs H Q ∨ r' xs H Q) := by
  intro pins s σ H xs us Q I rv q
  exact q.elim (h pins s σ H xs us Q I rv) (h' pins s σ H xs us Q I rv)
def dCB (rd : List D → HD → Post → Prop) (ts : TDA) : TD := fun W σ G Q => ts W σ G fun ds G1 => rd ds G1 Q
section
variable {X : Cx} {x : Str} {p pos : Pos} {e : Expr} {es : List Expr} {ts : TDA} {id T : String} {r : List V → Hp → VK → Prop} {rd : List D → HD → Post → Prop}
theorem de_cb (hc : CallR X (.builtin id) r) (hd : CallD X.K r rd) (hm : X.mg x = none) (hv : bootBuiltins x = some (.builtin id)) (ha : DA X (e :: es) ts) (hg : Gl X x := by rfl) (hn : x ≠ "__name__" := by decide) (hdb : (x == ("__debug__" : Str)) = false := by decide)
    (he : starEach (e :: es) X.env = (false, eval e X.env) :: starEach es X.env := by rfl) (hpl : (backTo pos (starEach es X.env)).any (·.1) = false := by rfl) : DE X (.Call (.Name x p) (e :: es) [] pos) (dCB rd ts) :=
  ⟨fun G H σ τ W Q r0 q => semE.of (pe_callB hc hg hm hv paSem hn hdb he hpl) (ha.then r0 q fun ds vs G1 H1 r1 x1 k1 q1 => hd G1 H1 ds vs Q _ r1.sim k1 (fun _ _ z => z.up x1) q1)⟩
theorem de_ct (hc : CallR X (.type T) r) (hd : CallD X.K r rd) (hm : X.mg x = none) (hv : bootBuiltins x = some (.type T)) (ha : DA X (e :: es) ts) (hg : Gl X x := by rfl) (hn : x ≠ "__name__" := by decide) (hdb : (x == ("__debug__" : Str)) = false := by decide)
    (he : starEach (e :: es) X.env = (false, eval e X.env) :: starEach es X.env := by rfl) (hpl : (backTo pos (starEach es X.env)).any (·.1) = false := by rfl) : DE X (.Call (.Name x p) (e :: es) [] pos) (dCB rd ts) :=
  ⟨fun G H σ τ W Q r0 q => semE.of (pe_callTy hc hg hm hv paSem hn hdb he hpl) (ha.then r0 q fun ds vs G1 H1 r1 x1 k1 q1 => hd G1 H1 ds vs Q _ r1.sim k1 (fun _ _ z => z.up x1) q1)⟩
end
theorem one_of {K : PySem.W.Frag} {H : Hp} {d : D} {vs : List V} (h : Rps K H [d] vs) : ∃ v, vs = [v] ∧ Rp K H d v := by
  obtain ⟨v, r, rfl, h1, h2⟩ := h
  cases h2
  exact ⟨v, rfl, h1⟩
theorem two_of {K : PySem.W.Frag} {H : Hp} {d e : D} {vs : List V} (h : Rps K H [d, e] vs) : ∃ v w, vs = [v, w] ∧ Rp K H d v ∧ Rp K H e w := by
  obtain ⟨v, r, rfl, h1, h2⟩ := h
  obtain ⟨w, rfl, h3⟩ := one_of h2
  exact ⟨v, w, rfl, h1, h3⟩

def lenD (G : HD) : D → Option Nat
  | .str x => if x.length ≤ sizeLine then some x.length else none
  | .tup ds => some ds.length
  | .kl ds => some ds.length
  | .ref a => match G a with
    | some (.lst ds) => some ds.length
    | some (.dK l) => some l.length
    | _ => none
  | _ => none
def rLen : List D → HD → Post → Prop := fun ds G Q => match ds with
  | [d] => match lenD G d with
    | some n => Q (.int n) G
    | none => False
  | _ => False
theorem cd_len (K : PySem.W.Frag) : CallD K (fun xs H Q => (∃ x n, xs = [x] ∧ LenV K x H n ∧ Q (.int n) H) ∨ (∃ a kvs, xs = [V.ref a] ∧ H a = some (.dK kvs) ∧ Q (.int kvs.length) H)) rLen := fun G H ds vs Q Q' s k f q => by
  unfold rLen at q
  split at q
  · rename_i d
    obtain ⟨v, rfl, kd⟩ := one_of k
    split at q
    · rename_i n hn
      have fin : Q' (.int n) H := f _ _ (.of (d := .int n) rfl s .refl q)
      cases d with
      | str x =>
        cases kd
        simp only [lenD] at hn
        split at hn
        · rename_i z; cases hn; exact .inl ⟨_, _, rfl, ⟨z, rfl⟩, fin⟩
        · cases hn
      | tup es =>
        obtain ⟨a, ws, rfl, t, r⟩ := kd
        cases hn
        exact .inl ⟨_, _, rfl, .inr ⟨ws, t, r.length.symm⟩, fin⟩
      | kl es =>
        obtain ⟨a, ws, rfl, t, r⟩ := Rp.lst (ds := es) s kd rfl
        cases hn
        exact .inl ⟨_, _, rfl, .inl ⟨ws, t, r.length.symm⟩, fin⟩
      | ref a =>
        cases kd
        simp only [lenD] at hn
        split at hn
        · rename_i es eg
          cases hn
          obtain ⟨ws, e1, r⟩ := s.lst eg
          exact .inl ⟨_, _, rfl, .inl ⟨ws, .of e1, r.length.symm⟩, fin⟩
        · rename_i l eg
          cases hn
          obtain ⟨m, e1, r⟩ := s.dK eg
          exact .inr ⟨a, m, rfl, e1, by rw [r.length]; exact fin⟩
        · cases hn
      | non => cases hn
      | bl _ => cases hn
      | int _ => cases hn
      | ty _ => cases hn
    · exact q.elim
  · exact q.elim
/-- max, min of two ints -/
def rMax2 : List D → HD → Post → Prop := fun ds G Q => match ds with
  | [.int i, .int j] => Q (.int (if j > i then j else i)) G
  | [d] => match asL G d with
    | some es => match asInts es with
      | some ns => 0 < ns.length ∧ ∀ m, m ∈ ns → (∀ y, y ∈ ns → y ≤ m) → Q (.int m) G
      | none => False
    | none => False
  | _ => False
def rMin2 : List D → HD → Post → Prop := fun ds G Q => match ds with
  | [.int i, .int j] => Q (.int (if j < i then j else i)) G
  | [d] => match asL G d with
    | some es => match asInts es with
      | some ns => 0 < ns.length ∧ ∀ m, m ∈ ns → (∀ y, y ∈ ns → m ≤ y) → Q (.int m) G
      | none => False
    | none => False
  | _ => False
theorem intsL {K : PySem.W.Frag} {G : HD} {H : Hp} {d : D} {v : V} {es : List D} {ns : List Int} (s : Sim K G H) (k : Rp K H d v) (h : asL G d = some es) (h2 : asInts es = some ns) : ∃ a, v = .ref a ∧ SqL K H a (ns.map V.int) := by
  obtain ⟨a, vs, rfl, t, r⟩ := k.lst s h
  obtain rfl := asInts_eq h2
  obtain rfl := r.ints
  exact ⟨a, rfl, t⟩
theorem cd_max (K : PySem.W.Frag) : CallD K (fun xs H Q => (∃ i j, xs = [.int i, .int j] ∧ Q (.int (if j > i then j else i)) H) ∨ L2.rMax K xs H Q) rMax2 := fun G H ds vs Q Q' s k f q => by
  unfold rMax2 at q
  split at q
  · obtain ⟨v, w, rfl, h1, h2⟩ := two_of k
    cases h1; cases h2
    exact .inl ⟨_, _, rfl, f _ _ (.of (d := .int _) rfl s .refl q)⟩
  · obtain ⟨v, rfl, kd⟩ := one_of k
    split at q
    · rename_i es e1
      split at q
      · rename_i ns e2
        obtain ⟨a, rfl, t⟩ := intsL s kd e1 e2
        exact .inr ⟨a, ns, rfl, t, q.1, fun m h1 h2 => f _ _ (.of (d := .int m) rfl s .refl (q.2 m h1 h2))⟩
      · exact q.elim
    · exact q.elim
  · exact q.elim
theorem cd_min (K : PySem.W.Frag) : CallD K (fun xs H Q => (∃ i j, xs = [.int i, .int j] ∧ Q (.int (if j < i then j else i)) H) ∨ L2.rMin K xs H Q) rMin2 := fun G H ds vs Q Q' s k f q => by
  unfold rMin2 at q
  split at q
  · obtain ⟨v, w, rfl, h1, h2⟩ := two_of k
    cases h1; cases h2
    exact .inl ⟨_, _, rfl, f _ _ (.of (d := .int _) rfl s .refl q)⟩
  · obtain ⟨v, rfl, kd⟩ := one_of k
    split at q
    · rename_i es e1
      split at q
      · rename_i ns e2
        obtain ⟨a, rfl, t⟩ := intsL s kd e1 e2
        exact .inr ⟨a, ns, rfl, t, q.1, fun m h1 h2 => f _ _ (.of (d := .int m) rfl s .refl (q.2 m h1 h2))⟩
      · exact q.elim
    · exact q.elim
  · exact q.elim
def rSumD : List D → HD → Post → Prop := fun ds G Q => match ds with
  | [d] => match asL G d with
    | some es => match asInts es with
      | some ns => Q (.int ns.sum) G
      | none => False
    | none => False
  | _ => False
theorem cd_sum (K : PySem.W.Frag) : CallD K (L2.rSum K) rSumD := fun G H ds vs Q Q' s k f q => by
  unfold rSumD at q
  split at q
  · obtain ⟨v, rfl, kd⟩ := one_of k
    split at q
    · rename_i es e1
      split at q
      · rename_i ns e2
        obtain ⟨a, rfl, t⟩ := intsL s kd e1 e2
        exact ⟨a, ns, rfl, t, f _ _ (.of (d := .int _) rfl s .refl q)⟩
      · exact q.elim
    · exact q.elim
  · exact q.elim
def rAbs : List D → HD → Post → Prop := fun ds G Q => match ds with
  | [.int i] => Q (.int (if i < 0 then -i else i)) G
  | _ => False
theorem cd_abs (K : PySem.W.Frag) : CallD K (fun xs H Q => ∃ i, xs = [.int i] ∧ Q (.int (if i < 0 then -i else i)) H) rAbs := fun G H ds vs Q Q' s k f q => by
  unfold rAbs at q
  split at q
  · obtain ⟨v, rfl, kd⟩ := one_of k
    cases kd
    exact ⟨_, rfl, f _ _ (.of (d := .int _) rfl s .refl q)⟩
  · exact q.elim
def rInt : List D → HD → Post → Prop := fun ds G Q => match ds with
  | [.int i] => Q (.int i) G
  | [.bl b] => Q (.int (if b then 1 else 0)) G
  | _ => False
theorem cd_int (K : PySem.W.Frag) : CallD K (fun xs H Q => (∃ i, xs = [.int i] ∧ Q (.int i) H) ∨ ∃ k, xs = [.bl k] ∧ Q (.int (if k then 1 else 0)) H) rInt := fun G H ds vs Q Q' s k f q => by
  unfold rInt at q
  split at q
  · obtain ⟨v, rfl, kd⟩ := one_of k
    cases kd
    exact .inl ⟨_, rfl, f _ _ (.of (d := .int _) rfl s .refl q)⟩
  · obtain ⟨v, rfl, kd⟩ := one_of k
    cases kd
    exact .inr ⟨_, rfl, f _ _ (.of (d := .int _) rfl s .refl q)⟩
  · exact q.elim
/-- list(x), tuple(x) of a list, a tuple -/
def rList : List D → HD → Post → Prop := fun ds G Q => match ds with
  | [d] => match asQ G d with
    | some es => newL G es Q
    | none => False
  | _ => False
theorem cd_list (K : PySem.W.Frag) : CallD K (fun xs H Q => ∃ p ys, xs = [.ref p] ∧ (SqL K H p ys ∨ SqT K H p ys) ∧ ∀ l, H l = none → Q (.ref l) (upd H l (.lst ys))) rList := fun G H ds vs Q Q' s k f q => by
  unfold rList at q
  split at q
  · obtain ⟨v, rfl, kd⟩ := one_of k
    split at q
    · rename_i es e1
      obtain ⟨a, ws, rfl, t, r⟩ := kd.seq s e1
      exact ⟨a, ws, rfl, t, newL.fin s r f q⟩
    · exact q.elim
  · exact q.elim
def rTuple : List D → HD → Post → Prop := fun ds G Q => match ds with
  | [d] => match asQ G d with
    | some es => Q (.tup es) G
    | none => False
  | _ => False
theorem cd_tuple (K : PySem.W.Frag) : CallD K (fun xs H Q => ∃ p ys, xs = [.ref p] ∧ ((SqL K H p ys ∧ ∀ l, H l = none → Q (.ref l) (upd H l (.tup ys))) ∨ (SqT K H p ys ∧ Q (.ref p) H))) rTuple := fun G H ds vs Q Q' s k f q => by
  unfold rTuple at q
  split at q
  · obtain ⟨v, rfl, kd⟩ := one_of k
    split at q
    · rename_i es e1
      obtain ⟨a, ws, rfl, t, r⟩ := kd.seq s e1
      rcases t with t | t
      · exact ⟨a, ws, rfl, .inl ⟨t, newT.fin s r f q⟩⟩
      · exact ⟨a, ws, rfl, .inr ⟨t, f _ _ (.of (d := .tup es) ⟨a, ws, rfl, t, r⟩ s .refl q)⟩⟩
    · exact q.elim
  · exact q.elim
def asBls : List D → Option (List Bool)
  | [] => some []
  | .bl i :: r => (asBls r).map (i :: ·)
  | _ :: _ => none
theorem asBls_eq : ∀ {ds : List D} {ns : List Bool}, asBls ds = some ns → ds = ns.map D.bl
  | [], _, h => by cases h; rfl
  | .bl i :: r, ns, h => by
    simp only [asBls, Option.map_eq_some_iff] at h
    obtain ⟨ms, e, rfl⟩ := h
    rw [asBls_eq e]; rfl
  | .non :: _, _, h => by cases h
  | .int _ :: _, _, h => by cases h
  | .str _ :: _, _, h => by cases h
  | .ty _ :: _, _, h => by cases h
  | .ref _ :: _, _, h => by cases h
  | .tup _ :: _, _, h => by cases h
  | .kl _ :: _, _, h => by cases h
theorem asBls_map : ∀ ns : List Bool, asBls (ns.map D.bl) = some ns
  | [] => rfl
  | n :: ns => by show (asBls (ns.map D.bl)).map (n :: ·) = _; rw [asBls_map ns]; rfl
def rAllD (p : List Bool → Bool) : List D → HD → Post → Prop := fun ds G Q => match ds with
  | [d] => match asL G d with
    | some es => match asBls es with
      | some bs => Q (.bl (p bs)) G
      | none => False
    | none => False
  | _ => False
theorem cd_all (K : PySem.W.Frag) : CallD K (L2.rAll K) (rAllD fun bs => bs.all id) := fun G H ds vs Q Q' s k f q => by
  unfold rAllD at q
  split at q
  · obtain ⟨v, rfl, kd⟩ := one_of k
    split at q
    · rename_i es e1
      split at q
      · rename_i ns e2
        obtain ⟨a, vs, rfl, t, r⟩ := kd.lst s e1
        obtain rfl := asBls_eq e2
        obtain rfl := r.bls
        exact ⟨a, ns, rfl, t, f _ _ (.of (d := .bl _) rfl s .refl q)⟩
      · exact q.elim
    · exact q.elim
  · exact q.elim

/-! isinstance -/
/-- a datum's type: a built-in one by its name, or an own class -/
def tyD (G : HD) : D → Option (String ⊕ Addr)
  | .non => some (.inl "NoneType")
  | .bl _ => some (.inl "bool")
  | .int _ => some (.inl "int")
  | .str _ => some (.inl "str")
  | .tup _ => some (.inl "tuple")
  | .kl _ => some (.inl "list")
  | .ty _ => none
  | .ref a => match G a with
    | some (.lst _) => some (.inl "list")
    | some (.dK _) => some (.inl "dict")
    | some (.dT _) => some (.inl "dict")
    | some (.ins C _) => some (.inr C)
    | _ => none
def tyV2 : String ⊕ Addr → Value
  | .inl n => .type n
  | .inr C => .ref C
/-- isinstance between built-in types -/
def isiB (a b : String) : Option Bool :=
  if a ∈ ["NoneType", "bool", "int", "str", "tuple", "list", "dict"] ∧ b ∈ ["bool", "int", "str", "tuple", "list", "dict"] then some (a == b || (a == "bool" && b == "int")) else none
theorem isiB_ok {a b : String} {r : Bool} (h : isiB a b = some r) : kitB a b = some r := by
  unfold isiB at h
  split at h
  · rename_i z
    obtain ⟨z1, z2⟩ := z
    cases h
    simp only [List.mem_cons, List.not_mem_nil, or_false] at z1 z2
    rcases z1 with rfl | rfl | rfl | rfl | rfl | rfl | rfl <;> rcases z2 with rfl | rfl | rfl | rfl | rfl | rfl <;> decide +kernel
  · cases h
/-- what an own class must have, to be asked for -/
def InsOk (K : PySem.W.Frag) (C : Addr) : Prop := Cls K C ∧ PySem.W.findIn K (.ref C) "__class__" = some (some (.builtin "object.__class__")) ∧
  PySem.W.specialIn K (.builtin "object.__class__") "__get__" = some (some (.builtin "getset_descriptor.__get__")) ∧ PySem.W.takesIn K (.builtin "object.__class__") = some true ∧ PySem.W.mroIn K C (.type "object") = some true
def InsO (K : PySem.W.Frag) : String ⊕ Addr → Prop
  | .inl _ => True
  | .inr C => InsOk K C
/-- ic a c b: a thing of the type a is (b) an instance of c -/
def IsiOk (K : PySem.W.Frag) (a c : String ⊕ Addr) (b : Bool) : Prop := InsO K a ∧ PySem.W.kitOne K (tyV2 a) (tyV2 c) = some b
def rIsiD (ic : String ⊕ Addr → String ⊕ Addr → Bool → Prop) : List D → HD → Post → Prop := fun ds G Q => match ds with
  | [d, .ty n] => match tyD G d with
    | some (.inl a) => match isiB a n with
      | some b => Q (.bl b) G
      | none => False
    | some (.inr C) => ∃ b, ic (.inr C) (.inl n) b ∧ Q (.bl b) G
    | none => False
  | [d, .ref c] => match tyD G d with
    | some t => ∃ b, ic t (.inr c) b ∧ Q (.bl b) G
    | none => False
  | _ => False
theorem tyD_ok {K : PySem.W.Frag} {G : HD} {H : Hp} {d : D} {v : V} {t : String ⊕ Addr} (s : Sim K G H) (k : Rp K H d v) (h : tyD G d = some t) (hi : InsO K t) : TyX K H v (tyV2 t) := by
  cases d with
  | non => cases h; cases k; exact .base .non
  | bl b => cases h; cases k; exact .base (.bl b)
  | int b => cases h; cases k; exact .base (.int b)
  | str b => cases h; cases k; exact .base (.str b)
  | ty _ => cases h
  | tup ds =>
    cases h
    obtain ⟨a, vs, rfl, t, r⟩ := k
    rcases t with (t | ⟨o, t⟩) | ⟨o, its, n, t1, t2, _⟩
    · exact .base (.tup t)
    · exact .fTuple t
    · exact .kTuple t1 t2
  | kl ds =>
    cases h
    obtain ⟨a, vs, rfl, t, r⟩ := k
    rcases t with ⟨o, t⟩ | ⟨o, its, n, t1, t2, _⟩
    · exact .base (.frz t)
    · exact .kList t1 t2
  | ref a =>
    cases k
    simp only [tyD] at h
    split at h
    · rename_i ds e
      cases h
      obtain ⟨vs, e1, _⟩ := s.lst e
      exact .base (.lst e1)
    · rename_i ds e
      cases h
      obtain ⟨vs, e1, _⟩ := s.dK e
      exact .base (.dK e1)
    · rename_i ds e
      cases h
      obtain ⟨vs, e1, _⟩ := s.dT e
      exact .base (.dT e1)
    · rename_i C fs e
      cases h
      obtain ⟨dx, l, e1, _⟩ := s.ins e
      obtain ⟨h1, h2, h3, h4, h5⟩ := hi
      exact .base (.ins e1 h1 h2 h3 h4 h5)
    · cases h
theorem cd_isi {K : PySem.W.Frag} {ic : String ⊕ Addr → String ⊕ Addr → Bool → Prop} (hic : ∀ a c b, ic a c b → IsiOk K a c b) : CallD K (rIsi K) (rIsiD ic) := fun G H ds vs Q Q' s k f q => by
  unfold rIsiD at q
  split at q
  · rename_i d n
    obtain ⟨v, w, rfl, h1, h2⟩ := two_of k
    cases h2
    split at q
    · rename_i a e
      split at q
      · rename_i b hb
        exact ⟨v, .ty n, _, _, b, rfl, .ty n, tyD_ok s h1 e trivial, kit_ty (isiB_ok hb), f _ _ (.of (d := .bl b) rfl s .refl q)⟩
      · exact q.elim
    · rename_i C e
      obtain ⟨b, hb, q⟩ := q
      obtain ⟨z1, z2⟩ := hic _ _ _ hb
      exact ⟨v, .ty n, _, _, b, rfl, .ty n, tyD_ok s h1 e z1, z2, f _ _ (.of (d := .bl b) rfl s .refl q)⟩
    · exact q.elim
  · rename_i d c
    obtain ⟨v, w, rfl, h1, h2⟩ := two_of k
    cases h2
    split at q
    · rename_i t e
      obtain ⟨b, hb, q⟩ := q
      obtain ⟨z1, z2⟩ := hic _ _ _ hb
      exact ⟨v, .ref c, _, _, b, rfl, .own c, tyD_ok s h1 e z1, z2, f _ _ (.of (d := .bl b) rfl s .refl q)⟩
    · exact q.elim
  · exact q.elim

/-! o[i] = e, a list -/
def rSetD : D → D → D → HD → (HD → Prop) → Prop := fun o i v G Q => match o, i with
  | .ref a, .int k => match G a with
    | some (.lst xs) => match ixN xs.length k with
      | some j => Q (put G a (.lst (xs.set j v)))
      | none => False
    | _ => False
  | _, _ => False
def sSub (to ti te : TD) (rd : D → D → D → HD → (HD → Prop) → Prop) : TDS := fun W D σ G => te W σ G fun v G1 => to W σ G1 fun o G2 => ti W σ G2 fun i G3 => rd o i v G3 fun G4 => D.nx σ G4
section
variable {X : Cx} {o i e : Expr} {to ti te : TD} {pos pos' : Pos}
def SetD (K : PySem.W.Frag) (r : TSet) (rd : D → D → D → HD → (HD → Prop) → Prop) : Prop :=
  ∀ (G : HD) (H : Hp) (o i v : D) (x y z : V) (Q : HD → Prop) (Q' : Hp → Prop), Sim K G H → Rp K H o x → Rp K H i y → Rp K H v z → (∀ G' H', Sim K G' H' → Ext G H G' H' → Q G' → Q' H') → rd o i v G Q → r x y z H Q'
theorem sd_list (K : PySem.W.Frag) : SetD K rSetL rSetD := fun G H o i v x y z Q Q' s k1 k2 k3 f q => by
  unfold rSetD at q
  split at q
  · rename_i a k
    cases k1; cases k2
    split at q
    · rename_i xs e
      split at q
      · rename_i j hj
        obtain ⟨vs, e1, r⟩ := s.lst e
        exact ⟨a, vs, k, j, rfl, rfl, e1, by rw [r.length]; exact hj, f _ _ (s.wr (m := .lst (xs.set j v)) (o := .lst (vs.set j z)) e ⟨_, rfl, r.set k3⟩) (.wr e) q⟩
      · exact q.elim
    · exact q.elim
  · exact q.elim
theorem ds_sub {r : TSet} {rd : D → D → D → HD → (HD → Prop) → Prop} (hp : PSet X r) (hd : SetD X.K r rd) (ho : DE X o to) (hi : DE X i ti) (he : DE X e te)
    (ha : ∀ v, assign (.Subscript o i pos') X.env v = (do
      let ov ← holding [v] (eval o X.env)
      let iv ← holding [v, ov] (eval i X.env)
      standAt pos'
      holding [v, ov, iv] (setItem ov iv v)
      release [v, ov, iv] []) := by intro _; rfl)
    (hs : swapsWithSole [.Subscript o i pos'] e pos.line X.env = pure false := by rfl) (hw : swappedStores [.Subscript o i pos'] e X.env = pure none := by rfl) (h1 : (assignEach [.Subscript o i pos'] X.env).map (·.2) = [assign (.Subscript o i pos') X.env] := by rfl) :
    DS X (.Assign [.Subscript o i pos'] e pos) (sSub to ti te rd) :=
  ⟨fun G H σ τ W D r0 q => semS.of (ps_asg peSem (pg_sub peSem peSem hp ha) hs hw h1) (he.then r0 q fun v z G1 H1 r1 x1 k1 q1 => ho.then r1 q1 fun d x G2 H2 r2 x2 k2 q2 => hi.then r2 q2 fun c y G3 H3 r3 x3 k3 q3 =>
    hd G3 H3 d c v x y z _ _ r3.sim (k2.ext r2.sim x3 _ _) k3 (k1.ext r1.sim (x2.trans x3) _ _) (fun G4 H4 s4 x4 q4 => ⟨σ, G4, r3.slots.ext r3.sim x4 _ _, s4, ((x1.trans x2).trans x3).trans x4, q4⟩) q3)⟩
end

/-! x += e, o.f += e -/
def dCmpA (g : Int → Int → Int) : D → D → HD → Post → Prop := fun d e G Q => match d, e with
  | .int i, .int j => Q (.int (g i j)) G
  | _, _ => False
theorem od_ipI (K : PySem.W.Frag) (g : Int → Int → Int) : OpD K (ipI g) (dCmpA g) := fun G H d e x y Q Q' s k1 k2 f q => by
  unfold dCmpA at q
  split at q
  · cases k1; cases k2
    exact ⟨_, _, rfl, rfl, f _ _ (.of (d := .int _) rfl s .refl q)⟩
  · exact q.elim
def sFldG (ok : Addr → Str → Prop) (f : Str) (g : Int → Int → Int) (to tv : TD) : TDS := fun W D σ G => to W σ G fun d G1 => match d with
  | .ref a => match G1 a with
    | some (.ins C fs) => ok C f ∧ match fs.lookup f with
      | some (.int i) => tv W σ G1 fun v G2 => match v with
        | .int j => match G2 a with
          | some (.ins C2 fs2) => C2 = C ∧ fs2.length < 1000 ∧ D.nx σ (put G2 a (.ins C2 (putD f (.int (g i j)) fs2)))
          | _ => False
        | _ => False
      | _ => False
    | _ => False
  | _ => False
def sAug (i : Nat) (rd : D → D → HD → Post → Prop) (te : TD) : TDS := fun W D σ G => match σ[i]? with
  | some (some d) => te W σ G fun e G1 => rd d e G1 fun z G2 => D.nx (σ.set i (some z)) G2
  | _ => False
section
variable {X : Cx} {e o : Expr} {te to : TD} {pos pos' : Pos}
theorem ds_aug {i : Nat} {x : Str} {op : Operator} {r : TIp} {rd : D → D → HD → Post → Prop} (hp : PIp X op r) (hd : OpD X.K r rd) (he : DE X e te) (hN : X.N.Nodup) (hi : X.N[i]? = some x := by rfl) (hx : Loc X.env.scope x := by first | exact Or.inl rfl | exact Or.inr rfl) (hf : X.fn x = true ∨ X.env.scope.names.lookup x = some .local := by first | exact .inl rfl | exact .inr rfl | assumption) :
    DS X (.AugAssign (.Name x pos') op e pos) (sAug i rd te) :=
  ⟨fun G H σ τ W D r0 q => semS.of (ps_aug hN hi hx peSem hp hf) (by
    unfold sAug at q
    split at q
    · rename_i d ed
      obtain ⟨v, e1, k0⟩ := r0.slots.get ed
      exact ⟨v, e1, he.then r0 q fun c y G1 H1 r1 x1 k1 q1 => hd G1 H1 d c v y _ _ r1.sim (k0.ext r0.sim x1 _ _) k1 (fun w H2 ⟨z, G2, k2, s2, x2, q2⟩ => ⟨_, G2, (r1.slots.ext r1.sim x2 _ _).set k2, s2, x1.trans x2, q2⟩) q1⟩
    · exact q.elim)⟩
theorem ds_augAdd {i : Nat} {x : Str} (he : DE X e te) (hN : X.N.Nodup) (hi : X.N[i]? = some x := by rfl) (hx : Loc X.env.scope x := by first | exact Or.inl rfl | exact Or.inr rfl) (hf : X.fn x = true ∨ X.env.scope.names.lookup x = some .local := by first | exact .inl rfl | exact .inr rfl | assumption) :
    DS X (.AugAssign (.Name x pos') .Add e pos) (sAug i (dCmpA fun i j => i + j) te) := ds_aug ip_add (od_ipI X.K _) he hN hi hx hf
theorem ds_augSub {i : Nat} {x : Str} (he : DE X e te) (hN : X.N.Nodup) (hi : X.N[i]? = some x := by rfl) (hx : Loc X.env.scope x := by first | exact Or.inl rfl | exact Or.inr rfl) (hf : X.fn x = true ∨ X.env.scope.names.lookup x = some .local := by first | exact .inl rfl | exact .inr rfl | assumption) :
    DS X (.AugAssign (.Name x pos') .Sub e pos) (sAug i (dCmpA fun i j => i - j) te) := ds_aug ip_sub (od_ipI X.K _) he hN hi hx hf
theorem ds_fldaug {op : Operator} {f : Str} {ok : Addr → Str → Prop} {g : Int → Int → Int} (hok : ∀ C f, ok C f → AttrOk X.K C f) (hop : InOp X op (fun x y H Q => ∃ i j, x = .int i ∧ y = .int j ∧ Q (.int (g i j)) H)) (ho : DE X o to) (he : DE X e te) :
    DS X (.AugAssign (.Attribute o f pos') op e pos) (sFldG ok f g to te) :=
  ⟨fun G H σ τ W D r0 q => semS.of (ps_fldaug peSem peSem hop) (ho.then r0 q fun d x G1 H1 r1 x1 k1 q1 => by
    try dsimp only at q1
    split at q1
    · rename_i a
      cases k1
      split at q1
      · rename_i C fs eg
        obtain ⟨h1, q1⟩ := q1
        split at q1
        · rename_i i ei
          obtain ⟨dx, l, el, rl⟩ := r1.sim.ins eg
          obtain ⟨z, e1, e2⟩ := rl.lookup ei
          cases e2
          obtain ⟨c1, c2⟩ := hok _ _ h1
          refine ⟨a, C, dx, l, _, rfl, el, c1, c2, e1, he.then r1 q1 fun v y G2 H2 r2 x2 k2 q2 => ?_⟩
          try dsimp only at q2
          split at q2
          · rename_i j
            cases k2
            split at q2
            · rename_i C2 fs2 eg2
              obtain ⟨rfl, h3, q2⟩ := q2
              obtain ⟨dx2, l2, el2, rl2⟩ := r2.sim.ins eg2
              have sm := r2.sim.wr (m := .ins C2 (putD f (.int (g i j)) fs2)) (o := .ins C2 dx2 (putF f (.int (g i j)) l2)) eg2 ⟨dx2, _, rfl, RKV.put (d := .int (g i j)) (v := .int (g i j)) rfl rl2⟩
              have xx : Ext G2 H2 (put G2 a (.ins C2 (putD f (.int (g i j)) fs2))) (upd H2 a (.ins C2 dx2 (putF f (.int (g i j)) l2))) := .wr eg2
              exact ⟨i, j, rfl, rfl, dx2, l2, el2, by rw [rl2.length]; exact h3, σ, _, r2.slots.ext r2.sim xx _ _, sm, (x1.trans x2).trans xx, q2⟩
            · exact q2.elim
          · exact q2.elim
        · exact q1.elim
      · exact q1.elim
    · exact q1.elim)⟩
end
end DL

namespace DL
open PySem PySem.Spec L2
open PyProof.Rows hiding St

/-! ### bundles: a def of the module, a method, a class to be made, as callers want them -/
structure DefK (P : Program) (w : World) (K : PySem.W.Frag) (mg : Str → Option Value) (base : Heap) (k : Nat) (x : Str) (sp : SpD) (dds : List D) : Prop where
  ex : ∃ (f : Addr) (fd : FuncData) (ps : List Str) (dvs : List V) (ds : List Value), FnK P w K mg base k f fd ps sp ∧ mg x = some (.ref f) ∧ PySem.W.keepIn K (.ref f) = true ∧ Binds K fd ps ds ∧ Vals dvs ds ∧ Dfl K dds dvs ∧ ∀ ds G E Q, sp ds G E Q → ds.length = ps.length
structure MetK (P : Program) (w : World) (K : PySem.W.Frag) (mg : Str → Option Value) (base : Heap) (k : Nat) (m : Str) (C : Addr) (sp : SpD) (dds : List D) : Prop where
  ex : ∃ (f : Addr) (fd : FuncData) (ps : List Str) (dvs : List V) (ds : List Value), Cls K C ∧ Meth K C m f ∧ FnK P w K mg base k f fd ps sp ∧ Binds K fd ps ds ∧ Vals dvs ds ∧ Dfl K dds dvs ∧ ∀ ds G E Q, sp ds G E Q → ds.length = ps.length
structure MakK (P : Program) (w : World) (K : PySem.W.Frag) (mg : Str → Option Value) (base : Heap) (k : Nat) (x : Str) (C : Addr) (sp : SpD) (dds : List D) : Prop where
  ex : ∃ (f : Addr) (fd : FuncData) (ps : List Str) (dvs : List V) (ds : List Value), Mk K C f ∧ FnK P w K mg base k f fd ps sp ∧ mg x = some (.ref C) ∧ Binds K fd ps ds ∧ Vals dvs ds ∧ Dfl K dds dvs ∧ ∀ ds G E Q, sp ds G E Q → ds.length = ps.length
section
variable {X : Cx} {k j : Nat} {C : Addr} {sp : SpD} {x m : Str} {p pos apos : Pos} {e o : Expr} {es : List Expr} {ta : TD} {ts : TDA} {dds : List D}
theorem dk_call (F : DefK X.prog X.w X.K X.mg X.base k x sp dds) (hr : Room j X.A) (ha : DA X (e :: es) ts) (hj : k ≤ j := by decide) (hg : Gl X x := by rfl) (hdb : (x == ("__debug__" : Str)) = false := by decide) (he : starEach (e :: es) X.env = (false, eval e X.env) :: starEach es X.env := by rfl) (hpl : (backTo pos (starEach es X.env)).any (·.1) = false := by rfl) :
    DE X (.Call (.Name x p) (e :: es) [] pos) (dCall sp dds ts) := by
  obtain ⟨f, fd, ps, dvs, ds, h1, h2, h3, h4, h5, h6, h7⟩ := F.ex
  exact de_call h1 (hr.mono hj) h2 h3 h4 h5 h6 ha h7 hg hdb he hpl
theorem dk_call0 (F : DefK X.prog X.w X.K X.mg X.base k x sp dds) (hr : Room j X.A) (hj : k ≤ j := by decide) (hg : Gl X x := by rfl) (hdb : (x == ("__debug__" : Str)) = false := by decide) :
    DE X (.Call (.Name x p) [] [] pos) (dCall sp dds dNil) := by
  obtain ⟨f, fd, ps, dvs, ds, h1, h2, h3, h4, h5, h6, h7⟩ := F.ex
  exact de_call0 h1 (hr.mono hj) h2 h3 h4 h5 h6 h7 hg hdb
theorem dk_make (F : MakK X.prog X.w X.K X.mg X.base k x C sp dds) (hr : Room j X.A) (ha : DA X (e :: es) ts) (hj : k + 1 ≤ j := by decide) (hg : Gl X x := by rfl) (hdb : (x == ("__debug__" : Str)) = false := by decide) (he : starEach (e :: es) X.env = (false, eval e X.env) :: starEach es X.env := by rfl) (hpl : (backTo pos (starEach es X.env)).any (·.1) = false := by rfl) :
    DE X (.Call (.Name x p) (e :: es) [] pos) (dMake C sp dds ts) := by
  obtain ⟨f, fd, ps, dvs, ds, h1, h2, h3, h4, h5, h6, h7⟩ := F.ex
  exact de_make h1 h2 (hr.mono hj) h3 h4 h5 h6 ha h7 hg hdb he hpl
theorem dk_make0 (F : MakK X.prog X.w X.K X.mg X.base k x C sp dds) (hr : Room j X.A) (hj : k + 1 ≤ j := by decide) (hg : Gl X x := by rfl) (hdb : (x == ("__debug__" : Str)) = false := by decide) :
    DE X (.Call (.Name x p) [] [] pos) (dMake C sp dds dNil) := by
  obtain ⟨f, fd, ps, dvs, ds, h1, h2, h3, h4, h5, h6, h7⟩ := F.ex
  exact de_make0 h1 h2 (hr.mono hj) h3 h4 h5 h6 h7 hg hdb
theorem MetK.to {q : Addr × SpD} (F : MetK X.prog X.w X.K X.mg X.base k m q.1 q.2 dds) (hj : k ≤ j) : MethK X j m q.1 q.2 dds := by
  obtain ⟨f, fd, ps, dvs, ds, h1, h2, h3, h4, h5, h6, h7⟩ := F.ex
  exact ⟨f, fd, ps, dvs, ds, h1, h2, FnOk.mono h3 hj, h4, h5, h6, h7⟩
/-- the classes that have the method -/
inductive Mets (X : Cx) (j : Nat) (m : Str) (dds : List D) : List (Addr × SpD) → Prop where
  | nil : Mets X j m dds []
  | cons {q : Addr × SpD} {l : List (Addr × SpD)} (h : MethK X j m q.1 q.2 dds) (t : Mets X j m dds l) : Mets X j m dds (q :: l)
theorem Mets.all {l : List (Addr × SpD)} (h : Mets X j m dds l) : ∀ q ∈ l, MethK X j m q.1 q.2 dds := by
  induction h with
  | nil => intro q hq; cases hq
  | cons h _ ih =>
    intro q hq
    rcases List.mem_cons.mp hq with rfl | hq
    · exact h
    · exact ih q hq
theorem mets1 (F : MetK X.prog X.w X.K X.mg X.base k m C sp dds) (hj : k ≤ j := by decide) : Mets X j m dds [(C, sp)] := .cons (F.to hj) .nil
theorem metsC {l : List (Addr × SpD)} (F : MetK X.prog X.w X.K X.mg X.base k m C sp dds) (t : Mets X j m dds l) (hj : k ≤ j := by decide) : Mets X j m dds ((C, sp) :: l) := .cons (F.to hj) t
end

/-! ### built-ins in short -/
section
variable {X : Cx} {p pos : Pos} {e : Expr} {es : List Expr} {ts : TDA}
theorem bc_len (hm : X.mg "len" = none) (ha : DA X [e] ts) (hg : Gl X "len" := by rfl) (he : starEach [e] X.env = (false, eval e X.env) :: starEach [] X.env := by rfl) : DE X (.Call (.Name "len" p) [e] [] pos) (dCB rLen ts) := de_cb (CallR.or call_len call_lenD) (cd_len X.K) hm boot_len ha hg (by decide) (by decide) he (by rfl)
theorem bc_max (hc : X.calm = true) (hm : X.mg "max" = none) (ha : DA X (e :: es) ts) (hg : Gl X "max" := by rfl) (he : starEach (e :: es) X.env = (false, eval e X.env) :: starEach es X.env := by rfl) (hpl : (backTo pos (starEach es X.env)).any (·.1) = false := by rfl) : DE X (.Call (.Name "max" p) (e :: es) [] pos) (dCB rMax2 ts) := de_cb (CallR.or (call_max2 hc) (cr_max hc)) (cd_max X.K) hm boot_max ha hg (by decide) (by decide) he hpl
theorem bc_min (hc : X.calm = true) (hm : X.mg "min" = none) (ha : DA X (e :: es) ts) (hg : Gl X "min" := by rfl) (he : starEach (e :: es) X.env = (false, eval e X.env) :: starEach es X.env := by rfl) (hpl : (backTo pos (starEach es X.env)).any (·.1) = false := by rfl) : DE X (.Call (.Name "min" p) (e :: es) [] pos) (dCB rMin2 ts) := de_cb (CallR.or (call_min2 hc) (cr_min hc)) (cd_min X.K) hm boot_min ha hg (by decide) (by decide) he hpl
theorem bc_sum (hc : X.calm = true) (hm : X.mg "sum" = none) (ha : DA X [e] ts) (hg : Gl X "sum" := by rfl) (he : starEach [e] X.env = (false, eval e X.env) :: starEach [] X.env := by rfl) : DE X (.Call (.Name "sum" p) [e] [] pos) (dCB rSumD ts) := de_cb (cr_sum hc) (cd_sum X.K) hm boot_sum ha hg (by decide) (by decide) he (by rfl)
theorem bc_abs (hm : X.mg "abs" = none) (ha : DA X [e] ts) (hg : Gl X "abs" := by rfl) (he : starEach [e] X.env = (false, eval e X.env) :: starEach [] X.env := by rfl) : DE X (.Call (.Name "abs" p) [e] [] pos) (dCB rAbs ts) := de_cb call_abs (cd_abs X.K) hm (by decide +kernel) ha hg (by decide) (by decide) he (by rfl)
theorem bc_all (hc : X.calm = true) (hm : X.mg "all" = none) (ha : DA X [e] ts) (hg : Gl X "all" := by rfl) (he : starEach [e] X.env = (false, eval e X.env) :: starEach [] X.env := by rfl) : DE X (.Call (.Name "all" p) [e] [] pos) (dCB (rAllD fun bs => bs.all id) ts) := de_cb (cr_all hc) (cd_all X.K) hm boot_all ha hg (by decide) (by decide) he (by rfl)
theorem bc_int (hm : X.mg "int" = none) (ha : DA X [e] ts) (hg : Gl X "int" := by rfl) (he : starEach [e] X.env = (false, eval e X.env) :: starEach [] X.env := by rfl) : DE X (.Call (.Name "int" p) [e] [] pos) (dCB rInt ts) := de_ct call_int1 (cd_int X.K) hm (by decide +kernel) ha hg (by decide) (by decide) he (by rfl)
theorem bc_list (hm : X.mg "list" = none) (ha : DA X [e] ts) (hg : Gl X "list" := by rfl) (he : starEach [e] X.env = (false, eval e X.env) :: starEach [] X.env := by rfl) : DE X (.Call (.Name "list" p) [e] [] pos) (dCB rList ts) := de_ct call_list_of (cd_list X.K) hm (by decide +kernel) ha hg (by decide) (by decide) he (by rfl)
theorem bc_tuple (hm : X.mg "tuple" = none) (ha : DA X [e] ts) (hg : Gl X "tuple" := by rfl) (he : starEach [e] X.env = (false, eval e X.env) :: starEach [] X.env := by rfl) : DE X (.Call (.Name "tuple" p) [e] [] pos) (dCB rTuple ts) := de_ct call_tuple_of (cd_tuple X.K) hm (by decide +kernel) ha hg (by decide) (by decide) he (by rfl)
theorem bc_isi {ic : String ⊕ Addr → String ⊕ Addr → Bool → Prop} (hic : ∀ a c b, ic a c b → IsiOk X.K a c b) (hm : X.mg "isinstance" = none) (ha : DA X (e :: es) ts) (hg : Gl X "isinstance" := by rfl) (he : starEach (e :: es) X.env = (false, eval e X.env) :: starEach es X.env := by rfl) (hpl : (backTo pos (starEach es X.env)).any (·.1) = false := by rfl) :
    DE X (.Call (.Name "isinstance" p) (e :: es) [] pos) (dCB (rIsiD ic) ts) := de_cb call_isi (cd_isi hic) hm boot_isinstance ha hg (by decide) (by decide) he hpl
end

/-! ### slices -/
abbrev TDO := DW → DSt → HD → (Option Int → HD → Prop) → Prop
section
variable (X : Cx)
def semO (e : Option Expr) : TO := fun σ H Q => ∀ (pins : List (Addr × Obj)) (s : Shared), Inv X pins σ H s → wpAny (model X.prog X.w) X.A (evalPart e X.env) (fun u s' => ∃ o H', Inv X pins σ H' s' ∧ IsPart u o ∧ Q o H') X.xe s
end
structure DO (X : Cx) (e : Option Expr) (t : TDO) : Prop where
  run : ∀ (G : HD) (H : Hp) (σ : DSt) (τ : L2.St) (W : DW) (R : Option Int → HD → Prop) (Q : Option Int → Hp → Prop), SR X G H σ τ W → t W σ G R → (∀ o G1 H1, SR X G1 H1 σ τ W → Ext G H G1 H1 → R o G1 → Q o H1) → semO X e τ H Q
def oNone : TDO := fun _ _ G Q => Q none G
def oSome (te : TD) : TDO := fun W σ G Q => te W σ G fun d G1 => match d with
  | .int i => Q (some i) G1
  | _ => False
def cutD (xs : List D) (lo hi : Option Int) : List D := (xs.drop (HT.sIx xs.length 0 lo)).take (HT.sIx xs.length xs.length hi - HT.sIx xs.length 0 lo)
def rSliceD : D → Option Int → Option Int → HD → Post → Prop := fun d lo hi G Q => match d with
  | .tup xs => Q (.tup (cutD xs lo hi)) G
  | .str z => z.length ≤ sizeLine ∧ Q (.str (cutS z lo hi)) G
  | d => match asL G d with
    | some xs => newL G (cutD xs lo hi) Q
    | none => False
def dSlice (te : TD) (tl th : TDO) : TD := fun W σ G Q => te W σ G fun d G1 => tl W σ G1 fun lo G2 => th W σ G2 fun hi G3 => rSliceD d lo hi G3 Q
theorem Rps.cut {K : PySem.W.Frag} {H : Hp} {ds : List D} {vs : List V} (r : Rps K H ds vs) (lo hi : Option Int) : Rps K H (cutD ds lo hi) (cutV vs lo hi) := by
  unfold cutD cutV
  rw [r.length]
  exact (r.drop _).take _
section
variable {X : Cx} {e : Expr} {te : TD} {lo hi : Option Expr} {tl th : TDO} {p2 pos : Pos}
theorem do_none : DO X none oNone := ⟨fun G H σ τ W R Q r q f pins s I => po_none.run pins s τ H Q I (f _ _ _ r .refl q)⟩
theorem do_some (h : DE X e te) : DO X (some e) (oSome te) := ⟨fun G H σ τ W R Q r q f pins s I => (po_some peSem).run pins s τ H Q I (h.then r q fun d v G1 H1 r1 x1 k1 q1 => by
  try dsimp only at q1
  split at q1
  · cases k1; exact ⟨_, rfl, f _ _ _ r1 x1 q1⟩
  · exact q1.elim)⟩
theorem poSem {e : Option Expr} : PO X e (semO X e) := ⟨fun pins s _ _ _ I h => h pins s I⟩
def rSlU (K : PySem.W.Frag) : V → Option Int → Option Int → Hp → VK → Prop := fun x lo hi H Q => rSlL K x lo hi H Q ∨ rSlA K x lo hi H Q ∨ rSlS x lo hi H Q
theorem de_slice (he : DE X e te) (hl : DO X lo tl) (hh : DO X hi th) : DE X (.Subscript e (.Slice lo hi none p2) pos) (dSlice te tl th) :=
  ⟨fun G H σ τ W Q r q => semE.of (pe_slice (r := rSlU X.K) (sl_list.or (sl_tupA.or sl_str)) peSem poSem poSem) (he.then r q fun d x G1 H1 r1 x1 k1 q1 => hl.run G1 H1 σ τ W _ _ r1 q1 fun l G2 H2 r2 x2 q2 => hh.run G2 H2 σ τ W _ _ r2 q2 fun h G3 H3 r3 x3 q3 => by
    have k3 := k1.ext r1.sim (x2.trans x3) _ _
    have xx := (x1.trans x2).trans x3
    unfold rSliceD at q3
    split at q3
    · obtain ⟨a, vs, rfl, t, rr⟩ := id k3
      refine .inr (.inl ⟨a, vs, rfl, t, fun hw => ?_, fun _ => newT.fin r3.sim (rr.cut l h) (fun _ _ z => z.up xx) q3⟩)
      rename_i xs
      have e1 : cutD xs l h = xs := by
        unfold cutD
        rw [rr.length] at hw
        rw [hw.1, hw.2]
        simp
      rw [e1] at q3
      exact .of (d := .tup xs) k3 r3.sim xx q3
    · cases k3
      exact .inr (.inr ⟨_, rfl, q3.1, .of (d := .str _) rfl r3.sim xx q3.2⟩)
    · split at q3
      · rename_i xs e1
        obtain ⟨a, vs, rfl, t, rr⟩ := k3.lst r3.sim e1
        exact .inl ⟨a, vs, rfl, t, newL.fin r3.sim (rr.cut l h) (fun _ _ z => z.up xx) q3⟩
      · exact q3.elim)⟩
end

/-! ### the law's own call -/
/-- the law's promise: a script of at most 63 ints is handed in, True comes out -/
def lawSp (K : PySem.W.Frag) : Sp := fun vs H Q _ => ∃ (a : Addr) (ns : List Int), vs = [.ref a] ∧ ns.length ≤ 63 ∧ Only H ∧ SqL K H a (ns.map V.int) ∧ ∀ H', Q (.bl true) H'
theorem law_lift {K : PySem.W.Frag} {sp : SpD} (h : ∀ ns : List Int, ns.length ≤ 63 → sp [.kl (ns.map D.int)] (fun _ => none) (fun d _ => d = .bl true) fun _ _ _ => False) : ∀ vs H Q E, lawSp K vs H Q E → liftSp K 1 sp vs H Q E := fun vs H Q E ⟨a, ns, e, hl, ho, hs, q⟩ => by
  subst e
  refine ⟨rfl, [.kl (ns.map D.int)], fun _ => none, _, _, ⟨_, _, rfl, ⟨a, ns.map V.int, rfl, ?_, Rps.ofInts ns⟩, rfl⟩, (fun a o e => by cases e), h ns hl, fun v H' ⟨d, G', k, _, _, e⟩ => ?_, fun c dd H' ⟨_, _, _, _, _, z⟩ => z.elim⟩
  · rcases hs with (hs | ⟨o, hs⟩) | hs
    · rcases ho a with z | ⟨o, xs, z⟩
      · rw [z] at hs; cases hs
      · rw [z] at hs; cases hs
    · exact .inl ⟨o, hs⟩
    · exact .inr hs
  · subst e
    cases k
    exact q H'
end DL

namespace DL
open PySem PySem.Spec L2
open PyProof.Rows hiding St
/-! ### what the top holds, told by values -/
inductive ScaF : Value → D → Prop where
  | non : ScaF .none .non
  | bl {b : Bool} : ScaF (.bool b) (.bl b)
  | int {i : Int} {t : Tok} : ScaF (.int i t) (.int i)
  | str {x : Str} {t : Tok} : ScaF (.str x t) (.str x)
inductive ScasF : List Value → List D → Prop where
  | nil : ScasF [] []
  | cons {u : Value} {d : D} {us : List Value} {ds : List D} (h : ScaF u d) (t : ScasF us ds) : ScasF (u :: us) (d :: ds)
theorem ScaF.to {K : PySem.W.Frag} {u : Value} {d : D} (h : ScaF u d) : ∃ v, RelV v u ∧ ∀ H, Rp K H d v := by
  cases h with
  | non => exact ⟨.non, rfl, fun _ => rfl⟩
  | bl => exact ⟨.bl _, rfl, fun _ => rfl⟩
  | int => exact ⟨.int _, ⟨_, rfl⟩, fun _ => rfl⟩
  | str => exact ⟨.str _, ⟨_, rfl⟩, fun _ => rfl⟩
theorem ScasF.to {K : PySem.W.Frag} {us : List Value} {ds : List D} (h : ScasF us ds) : ∃ vs, Vals vs us ∧ ∀ H, Rps K H ds vs := by
  induction h with
  | nil => exact ⟨[], .nil, fun _ => rfl⟩
  | cons h _ ih =>
    obtain ⟨v, r, p⟩ := h.to (K := K)
    obtain ⟨vs, rs, ps⟩ := ih
    exact ⟨v :: vs, .cons r rs, fun H => ⟨v, vs, rfl, p H, ps H⟩⟩
def ConstF (K : PySem.W.Frag) (mg : Str → Option Value) (x : Str) (d : D) : Prop := ∃ (v : V) (u : Value), mg x = some u ∧ RelV v u ∧ ∀ H, Rp K H d v
theorem ScaF.cf {K : PySem.W.Frag} {mg : Str → Option Value} {x : Str} {u : Value} {d : D} (h : ScaF u d) (m : mg x = some u) : ConstF K mg x d :=
  let ⟨v, r, p⟩ := h.to (K := K)
  ⟨v, u, m, r, p⟩
theorem ConstF.de {X : Cx} {x : Str} {d : D} {pos : Pos} (h : ConstF X.K X.mg x d) (hg : Gl X x) (hd : (x == ("__debug__" : Str)) = false := by decide) : DE X (.Name x pos) (dC d) :=
  let ⟨_, _, m, r, p⟩ := h
  de_glob hg m r p hd
/-- a tuple of the top -/
structure TupF (K : PySem.W.Frag) (o : Obj) (ds : List D) : Prop where
  ex : ∃ (its : Array Value) (n : Nat), o.cls = .type "tuple" ∧ o.data = .seq its n ∧ its.size ≤ sizeLine ∧ ScasF its.toList ds
theorem TupF.rp {K : PySem.W.Frag} {o : Obj} {ds : List D} {a : Addr} (h : TupF K o ds) (l : K.lookup a = some o) : ∀ H, Rp K H (.tup ds) (.ref a) := fun H =>
  let ⟨its, n, h1, h2, h3, h4⟩ := h.ex
  let ⟨vs, r, p⟩ := h4.to (K := K)
  ⟨a, vs, rfl, .inr ⟨o, its, n, l, h1, h2, h3, r⟩, p H⟩
inductive ValF (K : PySem.W.Frag) : Value → D → Prop where
  | sca {u : Value} {d : D} (h : ScaF u d) : ValF K u d
  | tup {a : Addr} {o : Obj} {ds : List D} (l : K.lookup a = some o) (t : TupF K o ds) : ValF K (.ref a) (.tup ds)
inductive ValsF (K : PySem.W.Frag) : List Value → List D → Prop where
  | nil : ValsF K [] []
  | cons {u : Value} {d : D} {us : List Value} {ds : List D} (h : ValF K u d) (t : ValsF K us ds) : ValsF K (u :: us) (d :: ds)
theorem ValF.to {K : PySem.W.Frag} {u : Value} {d : D} (h : ValF K u d) : ∃ v, RelV v u ∧ ∀ H, Rp K H d v := by
  cases h with
  | sca h => exact h.to
  | tup l t => exact ⟨.ref _, rfl, t.rp l⟩
theorem ValsF.to {K : PySem.W.Frag} {us : List Value} {ds : List D} (h : ValsF K us ds) : ∃ vs, Vals vs us ∧ ∀ H, Rps K H ds vs := by
  induction h with
  | nil => exact ⟨[], .nil, fun _ => rfl⟩
  | cons h _ ih =>
    obtain ⟨v, r, p⟩ := h.to
    obtain ⟨vs, rs, ps⟩ := ih
    exact ⟨v :: vs, .cons r rs, fun H => ⟨v, vs, rfl, p H, ps H⟩⟩
/-- a def of the top, a method -/
def DefF (K : PySem.W.Frag) (mg : Str → Option Value) (x : Str) (st : Stmt) (dds : List D) : Prop := ∃ (f : Addr) (fd : FuncData) (dvs : List V), Dfl K dds dvs ∧ L2.FunD K x x (defArgs st) (defBody st) (defScope st) dvs [] f fd ∧ mg x = some (.ref f)
def MetF (K : PySem.W.Frag) (C : Addr) (m qual : Str) (st : Stmt) (dds : List D) : Prop := ∃ (f : Addr) (fd : FuncData) (dvs : List V), Dfl K dds dvs ∧ L2.FunD K m qual (defArgs st) (defBody st) (defScope st) dvs [] f fd ∧ Meth K C m f
theorem Dfl.drop {K : PySem.W.Frag} {dds : List D} {dvs : List V} (h : Dfl K dds dvs) (j : Nat) : Dfl K (dds.drop j) (dvs.drop j) := ⟨fun H => (h.rel H).drop j⟩
section
variable {K : PySem.W.Frag} {x qual : Str} {pa : Arguments} {bd : List Stmt} {sc : Scope} {f T : Addr} {oc kV dc pm cd ct : Value} {od an : Option Addr} {sl : Array (Option Value)} {o : Obj} {ds : List D}
theorem fun_nd (l : K.lookup f = some ⟨oc, od, .func (PySem.W.fnOf x qual pa bd sc .none kV dc pm an cd ct), sl⟩) (c : PySem.W.codeIn K cd qual = true) (k : PySem.W.keepIn K (.ref f) = true) :
    ∃ dvs : List V, Dfl K [] dvs ∧ L2.FunD K x qual pa bd sc dvs [] f (PySem.W.fnOf x qual pa bd sc .none kV dc pm an cd ct) :=
  ⟨[], .nil, ⟨⟨oc, od, .none, kV, dc, pm, an, cd, ct, sl, rfl, l, c, .inl ⟨rfl, rfl⟩, .inl rfl⟩, k⟩⟩
/-- a def's defaults -/
structure DflF (K : PySem.W.Frag) (o : Obj) (ds : List D) : Prop where mk0 ::
  ex : ∃ (its : List Value) (n : Nat), o.data = .seq its.toArray n ∧ ValsF K its ds ∧ ds ≠ []
theorem DflF.mk (h : DflF K o ds) (m : K.lookup T = some o) (l : K.lookup f = some ⟨oc, od, .func (PySem.W.fnOf x qual pa bd sc (.ref T) kV dc pm an cd ct), sl⟩) (c : PySem.W.codeIn K cd qual = true) (k : PySem.W.keepIn K (.ref f) = true) :
    ∃ dvs : List V, Dfl K ds dvs ∧ L2.FunD K x qual pa bd sc dvs [] f (PySem.W.fnOf x qual pa bd sc (.ref T) kV dc pm an cd ct) := by
  obtain ⟨its, n, h1, h2, h3⟩ := h.ex
  obtain ⟨vs, r, p⟩ := h2.to
  refine ⟨vs, ⟨p⟩, ⟨⟨oc, od, .ref T, kV, dc, pm, an, cd, ct, sl, rfl, l, c, .inr ⟨?_, T, o, its, n, rfl, m, h1, r⟩, .inl rfl⟩, k⟩⟩
  rintro rfl
  have := (p (fun _ => none)).length
  cases ds with
  | nil => exact h3 rfl
  | cons _ _ => cases this
end
end DL

namespace DL
open PySem PySem.Spec L2
open PyProof.Rows hiding St
/-! ### for the plain laws -/
theorem fg_in {Q : Post} {d : D} {G : HD} (h : Q d G) : fg Q d G := ⟨G, Le.refl _, h⟩
theorem fg_le {Q : Post} {d : D} {G G0 : HD} (l : Le G0 G) (h : Q d G0) : fg Q d G := ⟨G0, l, h⟩
theorem newL_in {G : HD} {ds : List D} {Q : Post} (h : ∀ (p : Addr) (G' : HD), G p = none → G' = put G p (.lst ds) → G' p = some (.lst ds) → Le G G' → (∀ b, b ≠ p → G' b = G b) → Q (.ref p) G') : newL G ds Q :=
  fun p hp => h p _ hp rfl put_same (Le.newB hp) fun _ hb => put_ne hb
theorem ne_of {G : HD} {a p : Addr} {o : MO} (h : G a = some o) (hp : G p = none) : a ≠ p := by rintro rfl; rw [h] at hp; cases hp
/-- a loop keeps I -/
theorem forD_inv {ok : HD → Prop} {step : D → (DSt → HD → Prop) → DSt → HD → Prop} {fin : DSt → HD → Prop} (I : List D → DSt → HD → Prop) (hok : ∀ l σ G, I l σ G → ok G)
    (hs : ∀ x l k σ G, I (x :: l) σ G → (∀ σ' G', I l σ' G' → k σ' G') → step x k σ G) (hf : ∀ σ G, I [] σ G → fin σ G) : ∀ (l : List D) (σ : DSt) (G : HD), I l σ G → forD ok step fin l σ G
  | [], σ, G, h => ⟨G, Le.refl _, hok _ _ _ h, hf _ _ h⟩
  | x :: l, σ, G, h => ⟨G, Le.refl _, hok _ _ _ h, hs x l _ σ G h fun σ' G' h' => forD_inv I hok hs hf l σ' G' h'⟩
/-- a loop over n ints from lo -/
theorem forR_inv {ok : HD → Prop} {step : D → (DSt → HD → Prop) → DSt → HD → Prop} {fin : DSt → HD → Prop} (I : Nat → DSt → HD → Prop) {lo : Int} {n : Nat} (hok : ∀ G, ok G)
    (hs : ∀ i k σ G, i < n → I i σ G → (∀ σ' G', I (i + 1) σ' G' → k σ' G') → step (.int (lo + (i : Nat))) k σ G) (hf : ∀ σ G, I n σ G → fin σ G) {σ : DSt} {G : HD} (h : I 0 σ G) : forD ok step fin (intsD lo n) σ G := by
  refine forD_inv (fun l σ G => ∃ i, i ≤ n ∧ l = (intsD lo n).drop i ∧ I i σ G) (fun _ _ G _ => hok G) (fun x l k σ G ⟨i, hi, e, h⟩ hk => ?_) (fun σ G ⟨i, hi, e, h⟩ => ?_) _ _ _ ⟨0, Nat.zero_le _, rfl, h⟩
  · by_cases hin : i < n
    · rw [drop_get (ints_get hin)] at e
      injection e with e1 e2
      subst e1
      exact hs i k σ G hin h fun σ' G' h' => hk σ' G' ⟨i + 1, hin, e2, h'⟩
    · rw [List.drop_eq_nil_of_le (by rw [ints_len]; omega)] at e; cases e
  · have : i = n := by
      have := congrArg List.length e
      rw [List.length_drop, ints_len] at this
      simp at this; omega
    subst this; exact hf _ _ h
/-- a loop with a measure -/
theorem whD_inv {test : DSt → HD → (Bool → HD → Prop) → Prop} {body : (DSt → HD → Prop) → DSt → HD → Prop} {fin : DSt → HD → Prop} (I : Nat → DSt → HD → Prop)
    (hs : ∀ n k σ G, I n σ G → (∀ m σ' G', m < n → I m σ' G' → k σ' G') → test σ G fun b G1 => if b = true then body k σ G1 else fin σ G1) : ∀ (n m : Nat), m ≤ n → ∀ (σ : DSt) (G : HD), I m σ G → whD test body fin (n + 1) σ G
  | 0, m, hm, σ, G, h => ⟨G, Le.refl _, hs m _ σ G h fun m' _ _ h1 _ => absurd h1 (by omega)⟩
  | n + 1, m, hm, σ, G, h => ⟨G, Le.refl _, hs m _ σ G h fun m' σ' G' h1 h2 => whD_inv I hs n m' (by omega) σ' G' h2⟩
theorem wh_in {test : DSt → HD → (Bool → HD → Prop) → Prop} {body : (DSt → HD → Prop) → DSt → HD → Prop} {fin : DSt → HD → Prop} (I : Nat → DSt → HD → Prop)
    (hs : ∀ n k σ G, I n σ G → (∀ m σ' G', m < n → I m σ' G' → k σ' G') → test σ G fun b G1 => if b = true then body k σ G1 else fin σ G1) {n : Nat} {σ : DSt} {G : HD} (h : I n σ G) : ∃ N, whD test body fin N σ G :=
  ⟨n + 1, whD_inv I hs n n (Nat.le_refl _) σ G h⟩
theorem ixN_nat {n k : Nat} (h : k < n) : ixN n (k : Int) = some k := by
  unfold ixN
  rw [if_pos (by omega), if_pos (by omega)]; rfl
theorem ixN_of {n : Nat} {i : Int} (h0 : 0 ≤ i) (h : i < n) : ixN n i = some i.toNat := by
  obtain ⟨k, rfl⟩ := Int.eq_ofNat_of_zero_le h0
  exact ixN_nat (by omega)
theorem atI_nat {α : Type} {l : List α} {k : Nat} {x : α} (h : l[k]? = some x) : atI l (k : Int) = some x := by
  unfold atI
  rw [ixN_nat (List.getElem?_eq_some_iff.mp h).1]; exact h
theorem atI_of {α : Type} {l : List α} {i : Int} (h0 : 0 ≤ i) : atI l i = l[i.toNat]? := by
  obtain ⟨k, rfl⟩ := Int.eq_ofNat_of_zero_le h0
  cases h : l[((k : Int)).toNat]? with
  | some x => exact atI_nat h
  | none =>
    unfold atI
    rw [show ixN l.length (k : Int) = none from by
      unfold ixN
      have := List.getElem?_eq_none_iff.mp h
      rw [if_pos (by omega), if_neg (by omega)]]
    rfl
theorem atI0 {α : Type} {x : α} {l : List α} : atI (x :: l) 0 = some x := atI_nat (k := 0) rfl
theorem atI1 {α : Type} {x y : α} {l : List α} : atI (x :: y :: l) 1 = some y := atI_nat (k := 1) rfl
theorem atI2 {α : Type} {x y z : α} {l : List α} : atI (x :: y :: z :: l) 2 = some z := atI_nat (k := 2) rfl
theorem atI3 {α : Type} {x y z u : α} {l : List α} : atI (x :: y :: z :: u :: l) 3 = some u := atI_nat (k := 3) rfl
theorem atI4 {α : Type} {x y z u v : α} {l : List α} : atI (x :: y :: z :: u :: v :: l) 4 = some v := atI_nat (k := 4) rfl
theorem ixN3a : ixN 3 0 = some 0 := rfl
theorem ixN3b : ixN 3 1 = some 1 := rfl
theorem ixN3c : ixN 3 2 = some 2 := rfl
theorem pick {α : Type} {l : List α} {r : Int} (h0 : 0 ≤ r) (h1 : r < l.length) : ∃ x, x ∈ l ∧ atI l r = some x := by
  rw [atI_of h0]
  have : r.toNat < l.length := by omega
  exact ⟨l[r.toNat], List.getElem_mem _, List.getElem?_eq_getElem _⟩
theorem eqO_int {G : HD} {i j : Int} : eqO G (.int i) (.int j) = some (decide (i = j)) := by
  simp only [eqO, pyD]
  congr 1
/-! sizes -/
theorem mul_ok {i j : Int} {a b : Nat} (ha : i.natAbs < 2 ^ a) (hb : j.natAbs < 2 ^ b) (h0 : 0 < a) (h1 : 0 < b) (h : a + b ≤ 1000000) : MulOk i j := .inr (wide_mul ha hb h0 h1 h)
theorem mul_l {i j : Int} (h1 : -(2 ^ 64) < i) (h2 : i < 2 ^ 64) : MulOk i j := .inl (.inl ⟨h1, h2⟩)
theorem mul_r {i j : Int} (h1 : -(2 ^ 64) < j) (h2 : j < 2 ^ 64) : MulOk i j := .inl (.inr ⟨h1, h2⟩)
theorem div_s {i j : Int} (h : 0 < j) (h1 : j < 2 ^ 64) : CDivW i j := wide_div (b := 64) h (by omega) (by omega) (by omega)
theorem abs_mul_lt {i j : Int} {a b : Nat} (ha : i.natAbs < 2 ^ a) (hb : j.natAbs < 2 ^ b) : (i * j).natAbs < 2 ^ (a + b) := by
  rw [Int.natAbs_mul, Nat.pow_add]
  exact Nat.mul_lt_mul'' ha hb
end DL

namespace DL
open PySem PySem.Spec L2
open PyProof.Rows hiding St
/-! ### readings at known data (for simp) -/
section
variable {G : HD} {Q : Post} {i j : Int} {a : Addr} {ds xs ys : List D} {b : Bool} {x y : Str} {d : D} {p : Int → Int → Bool} {W : DW} {σ : DSt} {E : DEnds}
def optP (o : Option D) (G : HD) (Q : Post) : Prop := match o with
  | some v => Q v G
  | none => False
theorem r_opt {v : D} : optP (some v) G Q = Q v G := propext ⟨fun h => h, fun h => h⟩
def pickD (o : Option (List D)) (i : Int) (G : HD) (Q : Post) : Prop := match o with
  | some ds => optP (atI ds i) G Q
  | none => False
theorem r_pick : pickD (some ds) i G Q = optP (atI ds i) G Q := propext ⟨fun h => h, fun h => h⟩
theorem r_add : dAdd (.int i) (.int j) G Q = Q (.int (i + j)) G := propext ⟨fun h => h, fun h => h⟩
theorem r_addS : dAdd (.str x) (.str y) G Q = (x.length + y.length ≤ sizeLine ∧ Q (.str (x ++ y)) G) := propext ⟨fun h => h, fun h => h⟩
theorem r_addT : dAdd (.tup xs) (.tup ys) G Q = (xs.length + ys.length ≤ sizeLine ∧ Q (.tup (xs ++ ys)) G) := propext ⟨fun h => h, fun h => h⟩
def addL (u v : Option MO) (G : HD) (Q : Post) : Prop := match u, v with
  | some (.lst xs), some (.lst ys) => xs.length + ys.length ≤ sizeLine ∧ newL G (xs ++ ys) Q
  | _, _ => False
theorem r_addR {c : Addr} : dAdd (.ref a) (.ref c) G Q = addL (G a) (G c) G Q := propext ⟨fun h => h, fun h => h⟩
theorem r_addL : addL (some (.lst xs)) (some (.lst ys)) G Q = (xs.length + ys.length ≤ sizeLine ∧ newL G (xs ++ ys) Q) := propext ⟨fun h => h, fun h => h⟩
theorem r_sub : dSub (.int i) (.int j) G Q = Q (.int (i - j)) G := propext ⟨fun h => h, fun h => h⟩
theorem r_mul : dMul (.int i) (.int j) G Q = (MulOk i j ∧ Q (.int (i * j)) G) := propext ⟨fun h => h, fun h => h⟩
theorem r_div : dDiv (.int i) (.int j) G Q = (CDivW i j ∧ Q (.int (i / j)) G) := propext ⟨fun h => h, fun h => h⟩
theorem r_mod : dMod (.int i) (.int j) G Q = (0 < j ∧ Q (.int (i % j)) G) := propext ⟨fun h => h, fun h => h⟩
theorem r_pow : dPow (.int i) (.int j) G Q = (CPow i j ∧ Q (.int (i ^ j.toNat)) G) := propext ⟨fun h => h, fun h => h⟩
theorem r_cmp : dCmpI p (.int i) (.int j) G Q = Q (.bl (p i j)) G := propext ⟨fun h => h, fun h => h⟩
theorem r_lt : dLtD (.int i) (.int j) G Q = Q (.bl (decide (i < j))) G := propext ⟨fun h => h, fun h => h⟩
theorem r_ltT : dLtD (.tup xs) (.tup ys) G Q = (match asInts xs, asInts ys with | some ns, some ms => Q (.bl (HT.lexLt ns ms)) G | _, _ => False) := propext ⟨fun h => h, fun h => h⟩
theorem r_neg : dNeg (.int i) G Q = Q (.int (-i)) G := propext ⟨fun h => h, fun h => h⟩
theorem r_isN {n : Bool} : dIsN n d .non G Q = Q (.bl (if n then !isNon d else isNon d)) G := propext ⟨fun h => h, fun h => h⟩
theorem r_isNr : isNon (.ref a) = false := rfl
theorem r_isNi : isNon (.int i) = false := rfl
theorem r_isNn : isNon .non = true := rfl
theorem r_isNt : isNon (.tup xs) = false := rfl
theorem r_eqI {n : Bool} : dEq n (.int i) (.int j) G Q = Q (.bl (if n then !decide (i = j) else decide (i = j))) G := by simp only [dEq, eqO_int]
theorem r_ixP : (match asQ G d with | some ds => (match atI ds i with | some v => Q v G | none => False) | none => False) = pickD (asQ G d) i G Q := propext ⟨fun h => h, fun h => h⟩
theorem r_ixT : dIx (.tup xs) (.int i) G Q = pickD (some xs) i G Q := r_ixP (d := .tup xs)
theorem r_ixK : dIx (.kl xs) (.int i) G Q = pickD (some xs) i G Q := r_ixP (d := .kl xs)
def lstOf : Option MO → Option (List D)
  | some (.lst ds) => some ds
  | _ => none
theorem r_lstOf : lstOf (some (.lst xs)) = some xs := rfl
theorem asL_ref : asL G (.ref a) = lstOf (G a) := by
  simp only [asL, lstOf]
theorem r_ixR : dIx (.ref a) (.int i) G Q = pickD (lstOf (G a)) i G Q := (r_ixP (d := .ref a)).trans (by rw [show asQ G (.ref a) = asL G (.ref a) from rfl, asL_ref])
theorem r_truB : truD G (.bl b) = some b := rfl
theorem r_truI : truD G (.int i) = some (i != 0) := rfl
theorem r_truT : truD G (.tup xs) = some (!xs.isEmpty) := rfl
theorem r_truN : truD G .non = some false := rfl
def truO : Option MO → Option Bool
  | some (.lst ds) => some (!ds.isEmpty)
  | some (.dK l) => some (!l.isEmpty)
  | _ => none
theorem r_truR : truD G (.ref a) = truO (G a) := by
  simp only [truD, truO]
theorem r_truL : truO (some (.lst xs)) = some (!xs.isEmpty) := rfl
theorem r_max : rMax2 [.int i, .int j] G Q = Q (.int (if j > i then j else i)) G := propext ⟨fun h => h, fun h => h⟩
theorem r_min : rMin2 [.int i, .int j] G Q = Q (.int (if j < i then j else i)) G := propext ⟨fun h => h, fun h => h⟩
theorem r_intB : rInt [.bl b] G Q = Q (.int (if b then 1 else 0)) G := propext ⟨fun h => h, fun h => h⟩
theorem r_intI : rInt [.int i] G Q = Q (.int i) G := propext ⟨fun h => h, fun h => h⟩
theorem r_abs : rAbs [.int i] G Q = Q (.int (if i < 0 then -i else i)) G := propext ⟨fun h => h, fun h => h⟩
theorem r_lenT : rLen [.tup xs] G Q = Q (.int xs.length) G := propext ⟨fun h => h, fun h => h⟩
theorem r_lenK : rLen [.kl xs] G Q = Q (.int xs.length) G := propext ⟨fun h => h, fun h => h⟩
def lenO : Option MO → Option Nat
  | some (.lst ds) => some ds.length
  | some (.dK l) => some l.length
  | _ => none
def lenP (o : Option Nat) (G : HD) (Q : Post) : Prop := match o with
  | some n => Q (.int n) G
  | none => False
theorem r_lenR : rLen [.ref a] G Q = lenP (lenO (G a)) G Q := by
  simp only [rLen, lenD, lenO, lenP]
theorem r_lenL : lenP (lenO (some (.lst xs))) G Q = Q (.int xs.length) G := propext ⟨fun h => h, fun h => h⟩
def natP (o : Option Nat) (Q : Nat → Prop) : Prop := match o with
  | some n => Q n
  | none => False
theorem r_nat {Q : Nat → Prop} {n : Nat} : natP (some n) Q = Q n := propext ⟨fun h => h, fun h => h⟩
def setP (o : Option MO) (a : Addr) (i : Int) (v : D) (G : HD) (Q : HD → Prop) : Prop := match o with
  | some (.lst xs) => natP (ixN xs.length i) fun j => Q (put G a (.lst (xs.set j v)))
  | _ => False
theorem r_set {Q : HD → Prop} {v : D} : rSetD (.ref a) (.int i) v G Q = setP (G a) a i v G Q := propext ⟨fun h => h, fun h => h⟩
theorem r_setL {Q : HD → Prop} {v : D} : setP (some (.lst xs)) a i v G Q = natP (ixN xs.length i) fun j => Q (put G a (.lst (xs.set j v))) := propext ⟨fun h => h, fun h => h⟩
theorem r_unp {is : List Nat} {k : DSt → HD → Prop} (h : ds.length = is.length) : (match (D.tup ds) with | .tup ds => ds.length = is.length ∧ k (setAll is ds σ) G | _ => False) = k (setAll is ds σ) G := propext ⟨fun q => q.2, fun q => ⟨h, q⟩⟩
theorem r_isI {ic : String ⊕ Addr → String ⊕ Addr → Bool → Prop} : rIsiD ic [.int i, .ty "int"] G Q = Q (.bl true) G := propext ⟨fun h => h, fun h => h⟩
theorem r_isB {ic : String ⊕ Addr → String ⊕ Addr → Bool → Prop} : rIsiD ic [.int i, .ty "bool"] G Q = Q (.bl false) G := propext ⟨fun h => h, fun h => h⟩
theorem r_isT {ic : String ⊕ Addr → String ⊕ Addr → Bool → Prop} : rIsiD ic [.tup xs, .ty "tuple"] G Q = Q (.bl true) G := propext ⟨fun h => h, fun h => h⟩
theorem r_jT {tl : TD} : True := trivial
end
section
variable {G : HD} {Q : Post} {a : Addr} {ds : List D} {lo hi : Option Int}
theorem r_sliT : rSliceD (.tup ds) lo hi G Q = Q (.tup (cutD ds lo hi)) G := propext ⟨fun h => h, fun h => h⟩
theorem r_sliK : rSliceD (.kl ds) lo hi G Q = newL G (cutD ds lo hi) Q := propext ⟨fun h => h, fun h => h⟩
def sliP (o : Option (List D)) (lo hi : Option Int) (G : HD) (Q : Post) : Prop := match o with
  | some xs => newL G (cutD xs lo hi) Q
  | none => False
theorem r_sliR : rSliceD (.ref a) lo hi G Q = sliP (lstOf (G a)) lo hi G Q := by
  rw [← asL_ref]; rfl
theorem r_sliL : sliP (some ds) lo hi G Q = newL G (cutD ds lo hi) Q := propext ⟨fun h => h, fun h => h⟩
end
/-- an instance at a -/
def fldP (o : Option MO) (ok : Addr → Str → Prop) (f : Str) (G : HD) (Q : Post) : Prop := match o with
  | some (.ins C fs) => ok C f ∧ optP (fs.lookup f) G Q
  | _ => False
def fldD (ok : Addr → Str → Prop) (f : Str) (d : D) (G : HD) (Q : Post) : Prop := match d with
  | .ref a => fldP (G a) ok f G Q
  | _ => False
section
variable {G : HD} {Q : Post} {a C : Addr} {ok : Addr → Str → Prop} {f m : Str} {fs : List (Str × D)} {v : D}
theorem r_fld {ta : TD} {W : DW} {σ : DSt} : dFld ok f ta W σ G Q = ta W σ G fun d G1 => fldD ok f d G1 Q := propext ⟨fun h => h, fun h => h⟩
theorem r_fldR : fldD ok f (.ref a) G Q = fldP (G a) ok f G Q := propext ⟨fun h => h, fun h => h⟩
theorem r_fldI : fldP (some (.ins C fs)) ok f G Q = (ok C f ∧ optP (fs.lookup f) G Q) := propext ⟨fun h => h, fun h => h⟩
end
/-- the store of a field -/
def sfdP (o : Option MO) (ok : Addr → Str → Prop) (f : Str) (a : Addr) (v : D) (G : HD) (Q : HD → Prop) : Prop := match o with
  | some (.ins C fs) => ok C f ∧ fs.length < 1000 ∧ Q (put G a (.ins C (putD f v fs)))
  | _ => False
def sfdD (ok : Addr → Str → Prop) (f : Str) (d v : D) (G : HD) (Q : HD → Prop) : Prop := match d with
  | .ref a => sfdP (G a) ok f a v G Q
  | _ => False
section
variable {G : HD} {Q : HD → Prop} {a C : Addr} {ok : Addr → Str → Prop} {f m : Str} {fs : List (Str × D)} {v : D}
theorem r_sfd {to tv : TD} {W : DW} {D : DEnds} {σ : DSt} : sFldD ok f to tv W D σ G = tv W σ G fun v G1 => to W σ G1 fun d G2 => sfdD ok f d v G2 fun G3 => D.nx σ G3 := propext ⟨fun h => h, fun h => h⟩
theorem r_sfdR : sfdD ok f (.ref a) v G Q = sfdP (G a) ok f a v G Q := propext ⟨fun h => h, fun h => h⟩
theorem r_sfdI : sfdP (some (.ins C fs)) ok f a v G Q = (ok C f ∧ fs.length < 1000 ∧ Q (put G a (.ins C (putD f v fs)))) := propext ⟨fun h => h, fun h => h⟩
end
/-- a method's call -/
def metP (o : Option MO) (tab : List (Addr × SpD)) (m : Str) (k : SpD → Prop) : Prop := match o with
  | some (.ins C fs) => fs.lookup m = none ∧ ∃ q ∈ tab, q.1 = C ∧ k q.2
  | _ => False
def metD (tab : List (Addr × SpD)) (m : Str) (d : D) (G : HD) (k : SpD → Prop) : Prop := match d with
  | .ref a => metP (G a) tab m k
  | _ => False
section
variable {G : HD} {Q : Post} {a C : Addr} {m : Str} {tab : List (Addr × SpD)} {dds : List D} {fs : List (Str × D)} {k : SpD → Prop} {sp : SpD}
theorem r_met {ta : TD} {ts : TDA} {W : DW} {σ : DSt} : dMeth tab m dds ta ts W σ G Q = ta W σ G fun d G1 => metD tab m d G1 fun sp => ts W σ G1 fun ds G2 => sp (d :: (ds ++ dds)) G2 Q fun c fs G' => W c fs σ G' := by
  unfold dMeth
  congr 1
  funext d G1
  cases d <;> rfl
theorem r_metR : metD tab m (.ref a) G k = metP (G a) tab m k := propext ⟨fun h => h, fun h => h⟩
theorem r_metI : metP (some (.ins C fs)) tab m k = (fs.lookup m = none ∧ ∃ q ∈ tab, q.1 = C ∧ k q.2) := propext ⟨fun h => h, fun h => h⟩
theorem r_met1 : metP (some (.ins C fs)) [(C, sp)] m k = (fs.lookup m = none ∧ k sp) := by
  rw [r_metI]
  apply propext; constructor
  · rintro ⟨h, q, hq, h1, h2⟩
    rw [List.mem_singleton] at hq; subst hq; exact ⟨h, h2⟩
  · rintro ⟨h, h2⟩; exact ⟨h, _, List.mem_singleton.mpr rfl, rfl, h2⟩
end
/-- a field changed by +=, -= -/
def augP (ok : Addr → Str → Prop) (f : Str) (g : Int → Int → Int) (d : D) (tv : HD → Post → Prop) (G1 : HD) (k : HD → Prop) : Prop := match d with
  | .ref a => match G1 a with
    | some (.ins C fs) => ok C f ∧ match fs.lookup f with
      | some (.int i) => tv G1 fun v G2 => match v with
        | .int j => match G2 a with
          | some (.ins C2 fs2) => C2 = C ∧ fs2.length < 1000 ∧ k (put G2 a (.ins C2 (putD f (.int (g i j)) fs2)))
          | _ => False
        | _ => False
      | _ => False
    | _ => False
  | _ => False
/-! ### readings' own choices, behind names -/
def varP (o : Option (Option D)) (G : HD) (Q : Post) : Prop := match o with
  | some (some d) => Q d G
  | _ => False
def blP (d : D) (k : Bool → Prop) : Prop := match d with
  | .bl b => k b
  | _ => False
def boolP (o : Option Bool) (k : Bool → Prop) : Prop := match o with
  | some b => k b
  | none => False
def unpP (d : D) (n : Nat) (k : List D → Prop) : Prop := match d with
  | .tup ds => ds.length = n ∧ k ds
  | _ => False
def parP (ds : List D) (k : D → D → Prop) : Prop := match ds with
  | [d, e] => k d e
  | _ => False
section
variable {G : HD} {Q : Post} {W : DW} {σ : DSt} {i j : Nat} {d : D} {b : Bool} {k : Bool → Prop} {D : DEnds} {ta tb : TD} {rd : DL.D → DL.D → HD → Post → Prop} {QB : Bool → HD → Prop} {t : DL.D → TD} {ts : TDA}
theorem r_var : dVar i W σ G Q = varP σ[i]? G Q := propext ⟨fun h => h, fun h => h⟩
theorem r_varS : varP (some (some d)) G Q = Q d G := propext ⟨fun h => h, fun h => h⟩
theorem r_blP : blP (.bl b) k = k b := propext ⟨fun h => h, fun h => h⟩
theorem r_boolP : boolP (some b) k = k b := propext ⟨fun h => h, fun h => h⟩
theorem r_unpP {n : Nat} {ds : List DL.D} {k : List DL.D → Prop} : unpP (.tup ds) n k = (ds.length = n ∧ k ds) := propext ⟨fun h => h, fun h => h⟩
theorem r_parP {e : DL.D} {k : DL.D → DL.D → Prop} : parP [d, e] k = k d e := propext ⟨fun h => h, fun h => h⟩
theorem r_test : dTest ta W σ G QB = ta W σ G fun d G1 => blP d fun b => QB b G1 := propext ⟨fun h => h, fun h => h⟩
theorem r_tru : dTru ta W σ G QB = ta W σ G fun d G1 => boolP (truD G1 d) fun b => QB b G1 := propext ⟨fun h => h, fun h => h⟩
theorem r_andV : dAndV ta tb W σ G Q = ta W σ G fun d G1 => boolP (truD G1 d) fun b => if b = true then tb W σ G1 Q else Q d G1 := propext ⟨fun h => h, fun h => h⟩
theorem r_orV : dOrV ta tb W σ G Q = ta W σ G fun d G1 => boolP (truD G1 d) fun b => if b = true then Q d G1 else tb W σ G1 Q := propext ⟨fun h => h, fun h => h⟩
theorem r_notV : dNotV ta W σ G Q = ta W σ G fun d G1 => boolP (truD G1 d) fun b => Q (.bl (!b)) G1 := propext ⟨fun h => h, fun h => h⟩
theorem r_last : dLast rd tb d W σ G Q = tb W σ G fun e G1 => rd d e G1 fun z G2 => blP z fun b => Q (.bl b) G2 := propext ⟨fun h => h, fun h => h⟩
theorem r_link : dLink rd tb t d W σ G Q = tb W σ G fun e G1 => rd d e G1 fun z G2 => blP z fun b => if b = true then t e W σ G2 Q else Q (.bl false) G2 := propext ⟨fun h => h, fun h => h⟩
theorem r_chn : dChn ta t W σ G Q = ta W σ G fun d G1 => t d W σ G1 Q := propext ⟨fun h => h, fun h => h⟩
theorem r_chnT : dChnT ta t W σ G QB = ta W σ G fun d G1 => t d W σ G1 fun z G2 => blP z fun b => QB b G2 := propext ⟨fun h => h, fun h => h⟩
theorem r_unp' {is : List Nat} : sUnp is ta W D σ G = ta W σ G fun d G1 => unpP d is.length fun ds => D.nx (setAll is ds σ) G1 := propext ⟨fun h => h, fun h => h⟩
theorem r_par : sPar i j ts W D σ G = ts W σ G fun ds G1 => parP ds fun d e => D.nx ((σ.set i (some d)).set j (some e)) G1 := by
  unfold sPar
  congr 1
theorem r_set0 : setAll [] [] σ = σ := rfl
theorem r_set1 {is : List Nat} {ds : List DL.D} : setAll (i :: is) (d :: ds) σ = setAll is ds (σ.set i (some d)) := rfl
/-! the frames of statements and values -/
theorem q_seq {t u : TDS} : sSeq t u W D σ G = t W { D with nx := fun σ' G' => u W D σ' G' } σ G := propext ⟨fun h => h, fun h => h⟩
theorem q_set : sSet i ta W D σ G = ta W σ G fun d G1 => D.nx (σ.set i (some d)) G1 := propext ⟨fun h => h, fun h => h⟩
theorem q_ret : sRet ta W D σ G = ta W σ G D.rt := propext ⟨fun h => h, fun h => h⟩
theorem q_retN : sRetN W D σ G = D.rt .non G := propext ⟨fun h => h, fun h => h⟩
theorem q_drop : sDrop ta W D σ G = ta W σ G fun _ G1 => D.nx σ G1 := propext ⟨fun h => h, fun h => h⟩
theorem q_if {c : TDT} {t u : TDS} : sIf c t u W D σ G = c W σ G fun b G1 => if b = true then t W D σ G1 else u W D σ G1 := propext ⟨fun h => h, fun h => h⟩
theorem q_next : sNext W D σ G = D.nx σ G := propext ⟨fun h => h, fun h => h⟩
theorem q_brk : sBrk W D σ G = D.bk σ G := propext ⟨fun h => h, fun h => h⟩
theorem q_cont : sCont W D σ G = D.ct σ G := propext ⟨fun h => h, fun h => h⟩
theorem q_op {u : TD} : dOp rd ta u W σ G Q = ta W σ G fun d G1 => u W σ G1 fun e G2 => rd d e G2 Q := propext ⟨fun h => h, fun h => h⟩
theorem q_un {r1 : DL.D → HD → Post → Prop} : dUn r1 ta W σ G Q = ta W σ G fun d G1 => r1 d G1 Q := propext ⟨fun h => h, fun h => h⟩
theorem q_c : dC d W σ G Q = Q d G := propext ⟨fun h => h, fun h => h⟩
theorem q_cons {R : List DL.D → HD → Prop} : dCons ta ts W σ G R = ta W σ G fun d G1 => ts W σ G1 fun ds G2 => R (d :: ds) G2 := propext ⟨fun h => h, fun h => h⟩
theorem q_nil {R : List DL.D → HD → Prop} : dNil W σ G R = R [] G := propext ⟨fun h => h, fun h => h⟩
theorem q_cb {r : List DL.D → HD → Post → Prop} : dCB r ts W σ G Q = ts W σ G fun ds G1 => r ds G1 Q := propext ⟨fun h => h, fun h => h⟩
theorem q_tup : dTup ts W σ G Q = ts W σ G fun ds G1 => ds.length ≤ 1000 ∧ Q (.tup ds) G1 := propext ⟨fun h => h, fun h => h⟩
theorem q_lst : dLst ts W σ G Q = ts W σ G fun ds G1 => ds.length ≤ 1000 ∧ newL G1 ds Q := propext ⟨fun h => h, fun h => h⟩
theorem q_call {sp : SpD} {dds : List DL.D} : dCall sp dds ts W σ G Q = ts W σ G fun ds G1 => sp (ds ++ dds) G1 Q fun c fs G' => W c fs σ G' := propext ⟨fun h => h, fun h => h⟩
theorem q_sub {to ti te : TD} {r : DL.D → DL.D → DL.D → HD → (HD → Prop) → Prop} : sSub to ti te r W D σ G = te W σ G fun v G1 => to W σ G1 fun o G2 => ti W σ G2 fun i G3 => r o i v G3 fun G4 => D.nx σ G4 := propext ⟨fun h => h, fun h => h⟩
theorem q_not {c : TDT} : dNot c W σ G QB = c W σ G fun b G1 => QB (!b) G1 := propext ⟨fun h => h, fun h => h⟩
theorem q_and {c u : TDT} : dAnd c u W σ G QB = c W σ G fun b G1 => if b = true then u W σ G1 QB else QB false G1 := propext ⟨fun h => h, fun h => h⟩
theorem q_or {c u : TDT} : dOr c u W σ G QB = c W σ G fun b G1 => if b = true then QB true G1 else u W σ G1 QB := propext ⟨fun h => h, fun h => h⟩
theorem q_for {ti : TDI} {tg : Tgt} {u : TDS} : sFor ti tg u W D σ G = ti W σ G fun I G1 => forD I.ok (fun d k σ' G' => tg.put d σ' fun σ2 => u W { D with nx := k, ct := k, bk := D.nx } σ2 G') D.nx I.xs σ G1 := propext ⟨fun h => h, fun h => h⟩
def rng1P (ds : List DL.D) (k : Int → Prop) : Prop := match ds with
  | [.int j] => j < 2 ^ 62 ∧ -(2 ^ 62) ≤ j ∧ k j
  | _ => False
theorem r_rng1P {j : Int} {k : Int → Prop} : rng1P [.int j] k = (j < 2 ^ 62 ∧ -(2 ^ 62) ≤ j ∧ k j) := propext ⟨fun h => h, fun h => h⟩
theorem q_rng1 {R : ItD → HD → Prop} : jRng1 ts W σ G R = ts W σ G fun ds G1 => rng1P ds fun j => R ⟨intsD 0 j.toNat, fun _ => True⟩ G1 := propext ⟨fun h => h, fun h => h⟩
theorem q_if' {c : TDT} : dIf c ta tb W σ G Q = c W σ G fun b G1 => if b = true then ta W σ G1 Q else tb W σ G1 Q := propext ⟨fun h => h, fun h => h⟩
def putP (t : Tgt) (d : DL.D) (σ : DSt) (k : DSt → Prop) : Prop := t.put d σ k
theorem q_put1 {k : DSt → Prop} : (Tgt.one i).put d σ k = k (σ.set i (some d)) := propext ⟨fun h => h, fun h => h⟩
theorem q_putN {is : List Nat} {ds : List DL.D} {k : DSt → Prop} : (Tgt.many is).put (.tup ds) σ k = (ds.length = is.length ∧ k (setAll is ds σ)) := propext ⟨fun h => h, fun h => h⟩
theorem q_slice {tl th : TDO} : dSlice ta tl th W σ G Q = ta W σ G fun d G1 => tl W σ G1 fun lo G2 => th W σ G2 fun hi G3 => rSliceD d lo hi G3 Q := propext ⟨fun h => h, fun h => h⟩
def intP (d : DL.D) (k : Int → Prop) : Prop := match d with
  | .int i => k i
  | _ => False
theorem r_intP {i : Int} {k : Int → Prop} : intP (.int i) k = k i := propext ⟨fun h => h, fun h => h⟩
theorem q_some {R : Option Int → HD → Prop} : oSome ta W σ G R = ta W σ G fun d G1 => intP d fun i => R (some i) G1 := propext ⟨fun h => h, fun h => h⟩
theorem q_none {R : Option Int → HD → Prop} : oNone W σ G R = R none G := propext ⟨fun h => h, fun h => h⟩
theorem q_wpf {n m : Nat} {t : TDS} {ds : List DL.D} {E : DX} : wpf n m t ds G Q E = (ds.length = n ∧ t (fun c fs _ G' => fgX E c fs G') { nx := fun _ G' => fg Q .non G', rt := fg Q } (ds.map some ++ List.replicate m none) G) := propext ⟨fun h => h, fun h => h⟩
end
end DL

namespace DL
open PySem PySem.Spec L2
open PyProof.Rows hiding St
theorem eqO_t2 {G : HD} {a b c d : Int} : eqO G (.tup [.int a, .int b]) (.tup [.int c, .int d]) = some (decide (a = c) && decide (b = d)) := by
  simp only [eqO, pyD, List.mapM_cons, List.mapM_nil]
  simp [PyData.eqv, PyData.eqvAll]
  rfl
theorem r_eqT2 {G : HD} {Q : Post} {a b c d : Int} {n : Bool} : dEq n (.tup [.int a, .int b]) (.tup [.int c, .int d]) G Q = Q (.bl (if n then !(decide (a = c) && decide (b = d)) else (decide (a = c) && decide (b = d)))) G := by simp only [dEq, eqO_t2]
/-- made anew: None must come of __init__ -/
def nonP (k : HD → Prop) : Post := fun d G => match d with
  | .non => k G
  | _ => False
theorem r_nonP {k : HD → Prop} {G : HD} : nonP k .non G = k G := propext ⟨fun h => h, fun h => h⟩
def makP (C : Addr) (sp : SpD) (ds : List D) (G : HD) (Q : Post) (E : DX) : Prop := ∀ p, G p = none → sp (.ref p :: ds) (put G p (.ins C [])) (nonP fun G2 => Q (.ref p) G2) E
theorem q_make {C : Addr} {sp : SpD} {dds : List D} {ts : TDA} {W : DW} {σ : DSt} {G : HD} {Q : Post} : dMake C sp dds ts W σ G Q = ts W σ G fun ds G1 => makP C sp (ds ++ dds) G1 Q fun c fs G' => W c fs σ G' := by
  unfold dMake makP
  congr 1
theorem q_fldg {ok : Addr → Str → Prop} {f : Str} {g : Int → Int → Int} {to tv : TD} {W : DW} {E : DEnds} {σ : DSt} {G : HD} : sFldG ok f g to tv W E σ G = to W σ G fun d G1 => augP ok f g d (fun G2 Q => tv W σ G2 Q) G1 fun G3 => E.nx σ G3 := by
  unfold sFldG augP
  congr 1
theorem aug_in {ok : Addr → Str → Prop} {f : Str} {g : Int → Int → Int} {a C : Addr} {fs : List (Str × D)} {i j : Int} {G : HD} {k : HD → Prop} (h1 : G a = some (.ins C fs)) (hok : ok C f) (h2 : fs.lookup f = some (.int i)) (h3 : fs.length < 1000) (q : k (put G a (.ins C (putD f (.int (g i j)) fs)))) :
    augP ok f g (.ref a) (fun G1 Q => Q (.int j) G1) G k := by
  unfold augP
  simp only [h1, h2]
  exact ⟨hok, by simp only [h3]; exact ⟨trivial, trivial, q⟩⟩
/-- what stands beside a stays -/
def LeX (a : Addr) (G G' : HD) : Prop := ∀ b o, b ≠ a → G b = some o → G' b = some o
theorem LeX.refl {a : Addr} {G : HD} : LeX a G G := fun _ _ _ h => h
theorem LeX.trans {a : Addr} {A B C : HD} (x : LeX a A B) (y : LeX a B C) : LeX a A C := fun b o n h => y b o n (x b o n h)
theorem LeX.put {a : Addr} {G : HD} {o : MO} : LeX a G (put G a o) := fun b u n h => (put_ne n).trans h
theorem LeX.of {a : Addr} {A B : HD} (x : Le A B) : LeX a A B := fun b o _ h => x b o h
theorem ixN2a : ixN 2 0 = some 0 := rfl
theorem ixN2b : ixN 2 1 = some 1 := rfl
theorem ixN1a : ixN 1 0 = some 0 := rfl
theorem ixN4d : ixN 4 3 = some 3 := rfl
/-! Euclid -/
theorem gcd_step (m n : Nat) : Nat.gcd n (m % n) = Nat.gcd m n := by rw [Nat.gcd_comm m n, Nat.gcd_rec n m, Nat.gcd_comm]
end DL

namespace DN
open PySem PySem.Spec PyProof.Rows PySem.SeqAt
section
variable {M : Model} {prog : Program} {w : World} {A : Around} {E : Value → Shared → Prop} {s : Shared} {K : PySem.W.Frag} {x y C f : Addr} {ox : Obj} {od : Option Obj}
theorem ifBound_objNe {args : List Value} {Q : Option Value → Shared → Prop} (X : K.In s.heap) (I : PySem.W.InstAt s.heap x ox C od) (hs : PySem.W.findIn K (.ref C) "__ne__" = some (some (.builtin "object.__ne__")))
    (h : wpAny M A (call (.builtin "object.__ne__") (.ref x :: args)) (fun v => Q (some v)) E s) : wpAny M A (callSpecialIfBound? (.ref x) "__ne__" args) Q E s := by
  simp only [callSpecialIfBound?, bindSpecialIfBound?]
  refine wpAny_holding (wpAny_bind (wpAny_bind (wpAny_bind (I.type.here ((PySem.W.looks_findIn X hs).here ?_)))))
  refine wpAny_bind (wpAny_askSetting (wpAny_ite ?_))
  have fin : wpAny M A (call (.builtin "object.__ne__") ([.ref x] ++ args) >>= fun v => pure (some v)) Q E s := wpAny_bind (wpAny_mono h (fun v s2 h2 => wpAny_pure h2) fun _ _ h2 => h2)
  split
  · exact wpAny_bind (wpAny_of_eq (F.cmp_object.ne.bind _) (wpAny_pure (by exact fin)))
  · exact wpAny_tryCatch (wpAny_bind (wpAny_of_eq (F.cmp_object.ne.bind _) (wpAny_pure (by exact fin))))
theorem entry_ne {Q : Fin → Shared → Prop} (hu : A.units < cLine) (X : K.In s.heap) (I : PySem.W.InstAt s.heap x ox C od) (hs : PySem.W.findIn K (.ref C) "__eq__" = some (some (.ref f))) (hf : PySem.W.isFn K (.ref f) = true)
    (h : wpAny M A (call (.ref f) [.ref x, .ref y]) (fun v s2 => ∃ b, v = .bool b ∧ Q (.done (.ret (.bool (!b)))) s2) E s) : wpAny M A (Builtin.«object.__ne__» ⟨[.ref x, .ref y], []⟩) Q E s := by
  unfold Builtin.«object.__ne__»
  repeat (first
    | with_reducible refine wpAny_cRoomFor hu ?_
    | (refine wpAny_bind (m := callSpecialIfBound? (.ref x) (Str.ofString "__eq__") [.ref y])
        (PySem.W.ifBound_K X I hs hf (wpAny_mono h (fun r s2 hr => by
          obtain ⟨b, rfl, hq⟩ := hr
          repeat (first | exact hq | exact wpAny_pure hq | exact wpAny_truthy_bool hq | (refine wpAny_bind (m := truthy (.bool _)) (wpAny_truthy_bool ?_)) | wp_step)) fun _ _ e => e)))
    | wp_step)
theorem call_objNe {Q : Value → Shared → Prop} (hu : A.units + 1 < cLine) (X : K.In s.heap) (I : PySem.W.InstAt s.heap x ox C od) (hm : PySem.W.mroIn K C (.type "object") = some true) (hs : PySem.W.findIn K (.ref C) "__eq__" = some (some (.ref f))) (hf : PySem.W.isFn K (.ref f) = true)
    (h : wpAny (model prog w) A.in1 (call (.ref f) [.ref x, .ref y]) (fun v s2 => ∃ b, v = .bool b ∧ Q (.bool (!b)) s2) E s) : wpAny (model prog w) A (call (.builtin "object.__ne__") [.ref x, .ref y]) Q E s :=
  wpAny_call (codeAny_call_builtin F.cmp_object.ne.plain F.cmpEntry_ne (PySem.W.check_slot F.cmpKind_ne F.cmpSplit_ne (I.type.andThen (PySem.W.looks_mroIn X hm)) (F.cmpArgs_ne _ _) (entry_ne (A := A.in1) hu X I hs hf (wpAny_mono h (fun v s2 z => by
    obtain ⟨b, e, hq⟩ := z
    exact ⟨b, e, hq⟩) fun _ _ e => e))))
theorem rc_ne {Q : Value → Shared → Prop} {oy : Obj} {oe : Option Obj} (hu : A.units + 1 < cLine) (X : K.In s.heap) (I : PySem.W.InstAt s.heap x ox C od) (J : PySem.W.InstAt s.heap y oy C oe) (hm : PySem.W.mroIn K C (.type "object") = some true) (hs : PySem.W.findIn K (.ref C) "__eq__" = some (some (.ref f))) (hf : PySem.W.isFn K (.ref f) = true)
    (hn : PySem.W.findIn K (.ref C) "__ne__" = some (some (.builtin "object.__ne__"))) (h : wpAny (model prog w) A.in1 (call (.ref f) [.ref x, .ref y]) (fun v s2 => ∃ b, v = .bool b ∧ Q (.bool (!b)) s2) E s) : wpAny (model prog w) A (richCompare .NotEq (.ref x) (.ref y)) Q E s := by
  have one : wpAny (model prog w) A (tryCompare (.ref x) "__ne__" (.ref y)) (fun r s2 => ∃ v, r = some v ∧ Q v s2) E s := by
    unfold tryCompare
    refine wpAny_bind (ifBound_objNe X I hn (call_objNe hu X I hm hs hf (wpAny_mono h (fun v s2 z => ?_) fun _ _ e => e)))
    obtain ⟨b, e, hq⟩ := z
    exact ⟨b, e, wpAny_pure ⟨_, rfl, hq⟩⟩
  unfold richCompare
  simp only [oneThing_ref]
  refine wpAny_holding (wpAny_bind (wpAny_cRoomFor (Nat.lt_of_succ_lt hu) ?_))
  refine wpAny_bind (I.type.here (wpAny_bind (J.type.here ?_)))
  rw [show (Value.ref C != Value.ref C) = false from by simp]
  simp only [Bool.false_eq_true, if_false]
  refine wpAny_bind (wpAny_pure ?_)
  simp only [Bool.false_eq_true, if_false]
  refine wpAny_bind (wpAny_mono one (fun r s2 z => ?_) fun _ _ e => e)
  obtain ⟨v, rfl, hq⟩ := z
  exact wpAny_pure hq
end
end DN
namespace DL
open PySem PySem.Spec L2
open PyProof.Rows hiding St
section
variable {X : Cx} {k j : Nat} {C : Addr} {sp : SpD}
theorem takesF : Takes X (fun _ _ _ _ => False) := fun _ _ ⟨_, _, _, _, _, _, _, _, _, _, _, _, _, _, _, _, z⟩ => z.elim
theorem passF {τ : L2.St} : PassesAt (L2.CX X.prog X.w) X τ (fun _ _ _ => False) := fun pins H0 s e s' I c => takesF e s' (XE.of_call I (W := fun _ _ _ _ => False) (fun _ _ _ z => z) c)
/-- an own == called from below the body -/
theorem runE {A : Around} {pins : List (Addr × Obj)} {s : Shared} {G : HD} {H : Hp} {τ : L2.St} {Q : Post} {a b : Addr} {f : Addr} {fd : FuncData} {ps : List Str} (F : FnK X.prog X.w X.K X.mg X.base k f fd ps sp) (sb : L2.Sub X k A) (hb : Binds X.K fd ps [])
    (sm : Sim X.K G H) (I : Inv X pins τ H s) (hl : ps.length = 2) (h : sp [.ref a, .ref b] G Q fun _ _ _ => False) : wpAny (model X.prog X.w) A (call (.ref f) [.ref a, .ref b]) (EP X pins τ (liftQ X.K G H Q)) X.xe s := by
  have e0 : Env0 X.prog X.w X.K X.mg X.base A X.stack s H := by
    have e := I.env0
    exact ⟨by rw [sb.fr]; exact e.frames, e.mod, e.bs, e.bsz, e.funs, e.frf, e.hok, e.bare⟩
  have r2 : Vals [V.ref a, V.ref b] [Value.ref a, Value.ref b] := .cons rfl (.cons rfl .nil)
  have rd : Rps X.K H [.ref a, .ref b] [V.ref a, V.ref b] := ⟨_, _, rfl, rfl, _, _, rfl, rfl, rfl⟩
  refine wpAny_call (codeAny_mono (F.run A X.stack s H ⟨[.ref a, .ref b], []⟩ [.ref a, .ref b] [.ref a, .ref b] (liftQ X.K G H Q) (fun _ _ _ => False) sb.room e0 (by
    have := hb s [.ref a, .ref b] I.kIn (by simp [hl])
    simpa using this) r2 ⟨hl.symm, _, G, Q, fun _ _ _ => False, rd, sm, h, fun _ _ z => z, fun _ _ _ ⟨_, _, _, _, _, z⟩ => z⟩) fun z s' hq => ?_)
  cases z with
  | error e => exact passF pins H s e s' I hq
  | ok fl =>
    cases fl with
    | ret u => exact I.after hq
    | next => exact False.elim hq
    | brk => exact False.elim hq
    | cont => exact False.elim hq
/-- what an own == tells -/
def ownP (neg : Bool) (Q : Post) : Post := fun d G => match d with
  | .bl r => Q (.bl (if neg then !r else r)) G
  | _ => False
def rOwn (X : Cx) (C : Addr) (sp : SpD) (neg : Bool) : R2 := fun x y H Q => ∃ (a b : Addr) (dx dy : Addr) (fs gs : List (Str × V)) (G : HD) (Qd : Post), x = .ref a ∧ y = .ref b ∧ H a = some (.ins C dx fs) ∧ H b = some (.ins C dy gs) ∧ Sim X.K G H ∧ sp [.ref a, .ref b] G (ownP neg Qd) (fun _ _ _ => False) ∧
  ∀ v H', liftQ X.K G H Qd v H' → Q v H'
theorem own_back {neg : Bool} {pins : List (Addr × Obj)} {τ : L2.St} {G : HD} {H : Hp} {Qd : Post} {v : Value} {s' : Shared} (hq : EP X pins τ (liftQ X.K G H (ownP neg Qd)) v s') : ∃ r, v = .bool r ∧ EP X pins τ (liftQ X.K G H Qd) (.bool (if neg then !r else r)) s' := by
  obtain ⟨y, H', I', ry, d, G', rd, sm, x1, q⟩ := hq
  unfold ownP at q
  split at q
  · cases rd
    cases ry
    exact ⟨_, rfl, V.bl _, H', I', rfl, D.bl _, G', rfl, sm, x1, q⟩
  · exact q.elim
theorem op_ownE (F : MetK X.prog X.w X.K X.mg X.base k "__eq__" C sp []) (hr : Room k X.A) : OpR X (compareOp .Eq) (rOwn X C sp false) := by
  intro pins s σ H x y v u Q I rx ry hq
  obtain ⟨a, b, dx, dy, fs, gs, G, Qd, rfl, rfl, ha, hb', sm, q, fin⟩ := hq
  cases rx
  cases ry
  obtain ⟨f, fd, ps, dvs, ds, hc, hm, F1, hb, hv, hdd, hlen⟩ := F.ex
  have z1 := (hdd.rel (fun _ => none)).length
  cases dvs with
  | cons _ _ => cases z1
  | nil =>
  cases hv
  obtain ⟨mA, J, _⟩ := ins_get I.hok ha
  obtain ⟨mB, J', _⟩ := ins_get I.hok hb'
  obtain ⟨od, J, _⟩ := J.look
  obtain ⟨od', J', _⟩ := J'.look
  obtain ⟨m, hF⟩ := I.fr
  show wpAny (model X.prog X.w) X.A (richCompare .Eq (.ref a) (.ref b)) (EP X pins σ Q) X.xe s
  refine PySem.W.cmp_K (op := .Eq) (tb := .ref C) hr.units0 hF I.ok.mod.kin J J'.type (by simp [PySem.W.notFirst]) hm.at_ hm.fn ?_
  refine wpAny_mono (runE F1 ⟨hr, rfl⟩ hb sm I (hlen _ _ _ _ q).symm q) (fun w s' z => ?_) fun _ _ e => e
  obtain ⟨r, rfl, y, H', I', ry, q'⟩ := own_back z
  exact ⟨y, H', I', ry, fin _ _ q'⟩
theorem op_ownN (F : MetK X.prog X.w X.K X.mg X.base k "__eq__" C sp []) (hr : Room (k + 1) X.A) (hn : PySem.W.findIn X.K (.ref C) "__ne__" = some (some (.builtin "object.__ne__"))) (ho : PySem.W.mroIn X.K C (.type "object") = some true) : OpR X (compareOp .NotEq) (rOwn X C sp true) := by
  intro pins s σ H x y v u Q I rx ry hq
  obtain ⟨a, b, dx, dy, fs, gs, G, Qd, rfl, rfl, ha, hb', sm, q, fin⟩ := hq
  cases rx
  cases ry
  obtain ⟨f, fd, ps, dvs, ds, hc, hm, F1, hb, hv, hdd, hlen⟩ := F.ex
  have z1 := (hdd.rel (fun _ => none)).length
  cases dvs with
  | cons _ _ => cases z1
  | nil =>
  cases hv
  obtain ⟨mA, J, _⟩ := ins_get I.hok ha
  obtain ⟨mB, J', _⟩ := ins_get I.hok hb'
  obtain ⟨od, J, _⟩ := J.look
  obtain ⟨od', J', _⟩ := J'.look
  show wpAny (model X.prog X.w) X.A (richCompare .NotEq (.ref a) (.ref b)) (EP X pins σ Q) X.xe s
  refine DN.rc_ne (by have := hr.un; omega) I.kIn J J' ho hm.at_ hm.fn hn ?_
  refine wpAny_mono (runE F1 ⟨hr.in1, rfl⟩ hb sm I (hlen _ _ _ _ q).symm q) (fun w s' z => ?_) fun _ _ e => e
  obtain ⟨r, e, y, H', I', ry, q'⟩ := own_back z
  exact ⟨r, e, y, H', I', ry, fin _ _ q'⟩
/-- == and != of two instances of C by its own __eq__ -/
def dOwn (C : Addr) (sp : SpD) (neg : Bool) : D → D → HD → Post → Prop := fun d e G Q => match d, e with
  | .ref a, .ref b => (∃ fs, G a = some (.ins C fs)) ∧ (∃ fs, G b = some (.ins C fs)) ∧ sp [.ref a, .ref b] G (ownP neg Q) (fun _ _ _ => False)
  | _, _ => False
theorem od_own {neg : Bool} : OpD X.K (rOwn X C sp neg) (dOwn C sp neg) := fun G H d e x y Q Q' s k1 k2 f q => by
  unfold dOwn at q
  split at q
  · rename_i a b
    obtain ⟨⟨fs, h1⟩, ⟨gs, h2⟩, q⟩ := q
    cases k1
    cases k2
    obtain ⟨o1, e1, dx, l1, rfl, _⟩ := s _ _ h1
    obtain ⟨o2, e2, dy, l2, rfl, _⟩ := s _ _ h2
    exact ⟨a, b, dx, dy, l1, l2, G, Q, rfl, rfl, e1, e2, s, q, f⟩
  · exact q.elim
theorem c_ownE (F : MetK X.prog X.w X.K X.mg X.base k "__eq__" C sp []) (hr : Room j X.A) (hj : k ≤ j := by decide) : CmpR X .Eq (dOwn C sp false) := ⟨_, op_ownE F (hr.mono hj), od_own⟩
theorem c_ownN (F : MetK X.prog X.w X.K X.mg X.base k "__eq__" C sp []) (hn : PySem.W.findIn X.K (.ref C) "__ne__" = some (some (.builtin "object.__ne__")) ∧ PySem.W.mroIn X.K C (.type "object") = some true) (hr : Room j X.A) (hj : k + 1 ≤ j := by decide) : CmpR X .NotEq (dOwn C sp true) := ⟨_, op_ownN F (hr.mono hj) hn.1 hn.2, od_own⟩
end
/-! ### what is gone through -/
def seqO (o : Option MO) (a : Addr) (G : HD) (R : ItD → HD → Prop) : Prop := match o with
  | some (.lst ds) => R ⟨ds, fun G => G a = some (.lst ds)⟩ G
  | _ => False
def seqP (d : D) (G : HD) (R : ItD → HD → Prop) : Prop := match d with
  | .tup ds => R ⟨ds, fun _ => True⟩ G
  | .kl ds => R ⟨ds, fun _ => True⟩ G
  | .ref a => seqO (G a) a G R
  | _ => False
section
variable {G : HD} {a : Addr} {ds : List D} {R : ItD → HD → Prop} {W : DW} {σ : DSt} {tl : TD}
theorem q_jseq : jSeq tl W σ G R = tl W σ G fun d G1 => seqP d G1 R := by
  unfold jSeq seqP
  congr 1
theorem r_seqT : seqP (.tup ds) G R = R ⟨ds, fun _ => True⟩ G := propext ⟨fun h => h, fun h => h⟩
theorem r_seqK : seqP (.kl ds) G R = R ⟨ds, fun _ => True⟩ G := propext ⟨fun h => h, fun h => h⟩
theorem r_seqR : seqP (.ref a) G R = seqO (G a) a G R := propext ⟨fun h => h, fun h => h⟩
theorem r_seqL : seqO (some (.lst ds)) a G R = R ⟨ds, fun G => G a = some (.lst ds)⟩ G := propext ⟨fun h => h, fun h => h⟩
theorem q_yes {Q : Bool → HD → Prop} : dYes W σ G Q = Q true G := propext ⟨fun h => h, fun h => h⟩
theorem q_lc {ti : TDI} {t : Tgt} {dt : TDT} {te : TD} {vs : List Nat} {Q : Post} : dLc ti t dt te vs W σ G Q = ti W σ G fun I G1 => I.xs.length ≤ 1000000 ∧ lcD I.ok (fun d ky kn G' => t.put d (dwipe σ vs) fun σ2 => dt W0 σ2 G' fun b G2 => if b = true then te W0 σ2 G2 ky else kn G2) (fun acc G2 => newL G2 acc Q) I.xs [] G1 := propext ⟨fun h => h, fun h => h⟩
theorem q_own {C : Addr} {sp : SpD} {n : Bool} {c : Addr} {Q : Post} : dOwn C sp n (.ref a) (.ref c) G Q = ((∃ fs, G a = some (.ins C fs)) ∧ (∃ fs, G c = some (.ins C fs)) ∧ sp [.ref a, .ref c] G (ownP n Q) (fun _ _ _ => False)) := propext ⟨fun h => h, fun h => h⟩
theorem r_ownP {n b : Bool} {Q : Post} : ownP n Q (.bl b) G = Q (.bl (if n then !b else b)) G := propext ⟨fun h => h, fun h => h⟩
end
end DL

namespace DL
open PySem PySem.Spec L2
open PyProof.Rows hiding St
/-! ### raise X('text') -/
/-- an own class without __init__ whose instances are raised -/
structure RaiseF (K : PySem.W.Frag) (mg : Str → Option Value) (x : Str) (C : Addr) : Prop where
  ex : ∃ (bmB : List Value) (B newId initId : String), ExcBaseFacts B newId initId bmB ∧ PySem.W.excIn K C bmB newId = true
  mgC : mg x = some (.ref C)
  kp : PySem.W.keepIn K (.ref C) = true
  sub : PySem.W.subIn K (.ref C) (.type "BaseException") = some true
  ty : PySem.W.typeIn K (.ref C) = some (.type "type")
def sRaise (c : Value) : TDS := fun W _ σ G => W c [] σ G
theorem ds_raise {X : Cx} {C : Addr} {x m : Str} {j : Nat} {p p2 pos pos2 : Pos} (R : RaiseF X.K X.mg x C) (hc : X.calm = true) (hg : Gl X x := by rfl) (hdb : (x == ("__debug__" : Str)) = false := by decide) :
    DS X (.Raise (some (.Call (.Name x p) [.Constant (.str m) j p2] [] pos)) none pos2) (sRaise (.ref C)) := by
  obtain ⟨bmB, B, newId, initId, F, q⟩ := R.ex
  exact ⟨fun G H σ τ W D r z => semS.of (ps_raise hc r.takes (pmk_own F q R.mgC R.kp (raises_own R.sub R.ty) hg hdb)) ⟨σ, [], G, r.slots, rfl, r.sim, .refl, z⟩⟩
/-! ### try: .. except X: .. -/
def sTry (xm : Value → Bool → Prop) (tb ts : TDS) : TDS := fun W D σ G => tb (fun c fs σ' G' => ∃ b, xm c b ∧ (b = true → ts W0 D σ' G') ∧ (b = false → W c fs σ' G')) D σ G
theorem liftD_up {K : PySem.W.Frag} {G G1 : HD} {H H1 : Hp} {D : DEnds} (x : Ext G H G1 H1) : EndsLe (liftD K G1 H1 D) (liftD K G H D) :=
  ⟨fun _ _ ⟨a, b, c, d, y, f⟩ => ⟨a, b, c, d, x.trans y, f⟩, fun _ _ ⟨a, b, c, d, y, f⟩ => ⟨a, b, c, d, x.trans y, f⟩, fun _ _ ⟨a, b, c, d, y, f⟩ => ⟨a, b, c, d, x.trans y, f⟩, fun _ _ ⟨a, b, c, d, y, f⟩ => ⟨a, b, c, d, x.trans y, f⟩⟩
theorem ds_try {X : Cx} {x : Str} {c : Value} {xm : Value → Bool → Prop} {body suite : List Stmt} {b₀ : Stmt} {np pos pos2 : Pos} {tb ts : TDS} (hs : X.stack = X.env :: X.outer) (hf : X.env.frame = some X.env.locals) (hc : Names X x c) (hxm : ∀ u b, xm u b → PySem.W.exmOne X.K u c = some b)
    (hb : ∀ (pn : List (Addr × Obj)) (xe : Value → Shared → Prop), DSs (X.tr pn xe) body tb) (hsu : ∀ (a : Addr) (pn : List (Addr × Obj)), DSs (X.suite a pn) (b₀ :: suite) ts) :
    DS X (.Try body [.ExceptHandler (some (.Name x np)) none (b₀ :: suite) pos2] [] [] pos) (sTry xm tb ts) := ⟨fun G H σ τ W D r q => by
  refine semS.of (ps_try_only (tb := fun W' D' τ' H' => ∀ (pn : List (Addr × Obj)) (xe : Value → Shared → Prop), Takes (X.tr pn xe) W' → semSs (X.tr pn xe) body D' τ' H') (ts := fun a _ _ D' τ' H' => ∀ pn, semSs (X.suite a pn) (b₀ :: suite) D' τ' H')
    hs hf hc r.takes (fun W' pn xe tk _ => ⟨fun pins s σ' H' D' I h => h pn xe tk pins s I⟩) fun a oe cls d pn _ _ => ⟨fun pins s σ' H' D' I h => h _ pins s I⟩) ?_
  intro pn xe tk
  refine (hb pn xe).run G H σ τ _ D ⟨r.sim, r.slots, tk.imp fun cls dd τ' H' hw => ?_⟩ q
  obtain ⟨σ', fs, G', rp, xf, sm, ext, b, hx, hy, hn⟩ := hw
  refine ⟨b, hxm _ _ hx, fun e a ha pn2 => ?_, fun e => ⟨σ', fs, G', rp, xf, sm, ext, hn e⟩⟩
  exact ((hsu a pn2).run G' H' σ' τ' W0 D ⟨sm, rp, takes_w0⟩ (hy e)).imp (liftD_up ext)⟩
/-! ### xs.append(e) -/
def appO (o : Option MO) (a : Addr) (d : D) (G : HD) (Q : Post) : Prop := match o with
  | some (.lst xs) => xs.length < 1000000 ∧ Q .non (put G a (.lst (xs ++ [d])))
  | _ => False
def appP (o d : D) (G : HD) (Q : Post) : Prop := match o with
  | .ref a => appO (G a) a d G Q
  | _ => False
def lstP (o : D) (G : HD) (k : Prop) : Prop := match o with
  | .ref a => (∃ xs, G a = some (.lst xs)) ∧ k
  | _ => False
def dApp (to : TD) (ts : TDA) : TD := fun W σ G Q => to W σ G fun o G1 => lstP o G1 (ts W σ G1 fun ds G2 => match ds with
  | [d] => appP o d G2 Q
  | _ => False)
theorem de_app {X : Cx} {o e : Expr} {to : TD} {ts : TDA} {apos cpos : Pos} (ho : DE X o to) (ha : DA X [e] ts)
    (hbase : attributeBase o "append" X.env (eval o X.env) = eval o X.env := by rfl)
    (hfew : ((backTo cpos (starEach [e] X.env)).all (fun x => !x.1) && (backToKw cpos (keywordEach [] X.env)).all (fun x => x.1.isSome)
      && decide (([e] : List Expr).length + ([] : List Keyword).length + (if ([] : List Keyword).isEmpty then 0 else 1) < 30)) = true := by rfl)
    (hline : (apos.endLine == cpos.line) = true := by rfl) (hs : starEach [e] X.env = (false, eval e X.env) :: starEach [] X.env := by rfl) (hplain : (backTo cpos (starEach [] X.env)).any (·.1) = false := by rfl) :
    DE X (.Call (.Attribute o "append" apos) [e] [] cpos) (dApp to ts) := ⟨fun G H σ τ W Q r q => by
  refine semE.of (pe_bm PySem.F.plainAttrs_list PySem.F.slot_list_append PySem.F.type_list_append mt_append peSem paSem hbase hfew hline hs hplain) ?_
  refine ho.then r q fun d v G1 H1 r1 x1 k1 q1 => ?_
  unfold lstP at q1
  split at q1
  · rename_i a
    obtain ⟨⟨xs, hx⟩, q2⟩ := q1
    cases k1
    obtain ⟨o', e1, vs, rfl, rr⟩ := r1.sim _ _ hx
    refine ⟨.inl ⟨rfl, vs, SqL.of e1⟩, ha.then r1 q2 fun ds us G2 H2 r2 x2 k2 q3 => ?_⟩
    try dsimp only at q3
    split at q3
    · rename_i d
      obtain ⟨w, rfl, kd⟩ := one_of k2
      unfold appP appO at q3
      try dsimp only at q3
      split at q3
      · rename_i ys hy
        obtain ⟨h1, q4⟩ := q3
        obtain ⟨o2, e2, ws, rfl, rr2⟩ := r2.sim _ _ hy
        have hlen : ws.length < sizeLine := by
          rw [rr2.length, sizeLine_eq]; omega
        refine ⟨a, ws, w, rfl, rfl, e2, hlen, ?_⟩
        exact .of (d := .non) rfl (r2.sim.wr (m := .lst (ys ++ [d])) (o := .lst (ws ++ [w])) hy ⟨_, rfl, rr2.app (show Rps X.K H2 [d] [w] from ⟨w, [], rfl, kd, rfl⟩)⟩) ((x1.trans x2).trans (.wr hy)) q4
      · exact q3.elim
    · exact q3.elim
  · exact q1.elim⟩
/-! ### f(k = v, ..), all by names -/
section
variable (X : Cx)
def semK (kws : List Keyword) : TA := fun σ H Q => ∀ (pos : Pos) (pins : List (Addr × Obj)) (s : Shared), Inv X pins σ H s → wpAny (model X.prog X.w) X.A (evalAll ((backToKw pos (keywordEach kws X.env)).map (·.2))) (AP X pins σ Q) X.xe s
end
structure DKw (X : Cx) (kws : List Keyword) (t : TDA) : Prop where
  run : ∀ (G : HD) (H : Hp) (σ : DSt) (τ : L2.St) (W : DW) (Q : List D → HD → Prop), SR X G H σ τ W → t W σ G Q → semK X kws τ H (liftA X.K G H Q)
section
variable {X : Cx} {e : Expr} {te : TD} {t : TDA} {kws : List Keyword} {nm : Option Str} {kpos : Pos}
theorem pkSem : PK X kws (semK X kws) := ⟨fun pos pins s σ H Q I h => h pos pins s I⟩
theorem dkw_nil : DKw X [] dNil := ⟨fun G H σ τ W Q r q pos pins s I => pk_nil.run pos pins s τ H _ I ⟨[], G, rfl, r.sim, .refl, q⟩⟩
theorem dkw_cons (he : DE X e te) (hr : DKw X kws t) : DKw X (⟨nm, e, kpos⟩ :: kws) (dCons te t) := ⟨fun G H σ τ W Q r q pos pins s I =>
  (pk_cons (nm := nm) (kpos := kpos) (t := semK X kws) peSem pkSem).run pos pins s τ H _ I (he.then r q fun d v G1 H1 r1 x1 k1 q1 pos2 pins2 s2 I2 =>
    thn ((hr.run G1 H1 σ τ W _ r1 q1) pos2 pins2 s2 I2) fun us s3 ⟨vs, H2, I3, rv, ds, G2, k2, sm2, x2, q2⟩ => ⟨vs, H2, I3, rv, d :: ds, G2, ⟨v, vs, rfl, k1.ext r1.sim x2 _ _, k2⟩, sm2, x1.trans x2, q2⟩)⟩
end
end DL

namespace DL
open PySem PySem.Spec L2
open PyProof.Rows hiding St
/-- two values, the other way round -/
def swp {α : Type} : List α → List α
  | [a, b] => [b, a]
  | l => l
theorem swp_vals : ∀ {vs : List V} {us : List Value}, Vals vs us → Vals (swp vs) (swp us)
  | _, _, .nil => .nil
  | _, _, .cons a .nil => .cons a .nil
  | _, _, .cons a (.cons b .nil) => .cons b (.cons a .nil)
  | _, _, .cons a (.cons b (.cons c t)) => .cons a (.cons b (.cons c t))
theorem swp_rps {K : PySem.W.Frag} {H : Hp} : ∀ {ds : List D} {vs : List V}, Rps K H ds vs → Rps K H (swp ds) (swp vs)
  | [], _, h => by cases h; exact rfl
  | [_], _, ⟨v, r, e, h1, h2⟩ => by cases h2; subst e; exact ⟨v, [], rfl, h1, rfl⟩
  | [_, _], _, ⟨v, r, e, h1, w, r2, e2, h3, h4⟩ => by cases h4; subst e2; subst e; exact ⟨w, _, rfl, h3, v, [], rfl, h1, rfl⟩
  | _ :: _ :: _ :: _, _, ⟨v, r, e, h1, w, r2, e2, h3, u, r3, e3, h4, h5⟩ => by subst e3; subst e2; subst e; exact ⟨v, _, rfl, h1, w, _, rfl, h3, u, _, rfl, h4, h5⟩
theorem swp_len {α : Type} : ∀ l : List α, (swp l).length = l.length
  | [] => rfl
  | [_] => rfl
  | [_, _] => rfl
  | _ :: _ :: _ :: _ => rfl
/-- a def called by the names of its two parameters, the second one first -/
structure SwpK (P : Program) (w : World) (K : PySem.W.Frag) (mg : Str → Option Value) (base : Heap) (k : Nat) (x : Str) (sp : SpD) (a b : Str) : Prop where
  ex : ∃ (f : Addr) (fd : FuncData), FnK P w K mg base k f fd [a, b] sp ∧ mg x = some (.ref f) ∧ PySem.W.keepIn K (.ref f) = true ∧
    ∀ (s : Shared) (u v : Value), BindsTo s fd ⟨[], [(b, u), (a, v)]⟩ [(a, v), (b, u)]
def dSwp (sp : SpD) (ts : TDA) : TD := fun W σ G Q => ts W σ G fun ds G1 => ds.length = 2 ∧ sp (swp ds) G1 Q fun c fs G' => W c fs σ G'
theorem de_swp {X : Cx} {k j : Nat} {sp : SpD} {x a b : Str} {p pos : Pos} {kws : List Keyword} {tk : TDA} (F : SwpK X.prog X.w X.K X.mg X.base k x sp a b) (hr : Room j X.A) (hk : DKw X kws tk) (hj : k ≤ j := by decide) (hg : Gl X x := by rfl)
    (hall : (backToKw pos (keywordEach kws X.env)).all (·.1.isSome) = true := by rfl) (hks : (backToKw pos (keywordEach kws X.env)).filterMap (·.1) = [b, a] := by rfl) (hdb : (x == ("__debug__" : Str)) = false := by decide)
    (hpl : ((backTo pos (starEach [] X.env)).any (·.1) || (backToKw pos (keywordEach kws X.env)).any (·.1.isNone)) = false := by rfl) : DE X (.Call (.Name x p) [] kws pos) (dSwp sp tk) := ⟨fun G H σ τ W Q r q pins s I => by
  obtain ⟨f, fd, F1, hm, hkp, hb⟩ := F.ex
  refine wpAny_Call_Name_kw (ld_glob I hg hm ?_ hdb)
  refine PySem.W.callWith_KW0 (h₀ := X.base) I.ok.mod.kin hkp hall ?_ hpl
  refine thn ((hk.run G H σ τ W _ r q) pos pins s I) fun ws s2 ⟨zs, H2, I2, rz, ds, G1, k1, sm1, x1, hl, q1⟩ => ⟨I2.kIn, ?_⟩
  rw [hks]
  obtain ⟨d1, d2, rfl⟩ : ∃ d1 d2, ds = [d1, d2] := by
    match ds, hl with
    | [d1, d2], _ => exact ⟨d1, d2, rfl⟩
  obtain ⟨v1, _, rfl, kd1, v2, _, rfl, kd2, e2⟩ := k1
  obtain rfl := e2
  obtain ⟨u1, u2, rfl, r1, r2⟩ := vals2 rz
  have hq := runK (es := [d2, d1]) (vs := [v2, v1]) (us := [u2, u1]) F1 (hr.mono hj) (hb s2 u1 u2) (r.ext sm1 x1) I2 (.cons r2 (.cons r1 .nil)) ⟨v2, _, rfl, kd2, v1, [], rfl, kd1, rfl⟩ rfl q1
  refine wpAny_call (codeAny_mono hq fun z s3 hz => ?_)
  cases z with
  | error e => exact hz
  | ok fl =>
    cases fl with
    | ret u =>
      obtain ⟨v, H3, I3, l2, q2⟩ := hz
      exact ⟨v, H3, I3, l2, q2.up x1⟩
    | next => exact False.elim hz
    | brk => exact False.elim hz
    | cont => exact False.elim hz⟩
/-- {} -/
def dDic : TD := fun _ _ G Q => ∀ p, G p = none → Q (.ref p) (put G p (.dK []))
theorem de_dic {X : Cx} {pos : Pos} : DE X (.Dict [] [] pos) dDic := ⟨fun G H σ τ W Q r q => semE.of pe_dnewK fun p hp => .of (d := .ref p) rfl (r.sim.newM (m := .dK []) hp ⟨[], rfl, rfl⟩) (.newM hp) (q p (r.sim.no hp))⟩
theorem exm_of {K : PySem.W.Frag} {S Y : Addr} {b : Bool} (h1 : PySem.W.subIn K (.ref S) (.type "BaseException") = some true) (h2 : PySem.W.isClsIn K S = true) (h3 : PySem.W.typeIn K (.ref S) = some (.type "type")) (h4 : PySem.W.subIn K (.ref Y) (.ref S) = some b) : PySem.W.exmOne K (.ref Y) (.ref S) = some b := by
  have z : (PySem.W.clsIn K S).isSome = true := h2
  unfold PySem.W.exmOne PySem.W.kitCls
  simp [h1, h3, h4, z]
end DL


namespace P
open PySem PySem.Spec L2 DL
/-! ### the addresses that the top gives -/
structure Env where
  C_NoNumber : Addr
  xm : Value → Value → Bool → Prop
  ok : Addr → Str → Prop
  ic : String ⊕ Addr → String ⊕ Addr → Bool → Prop
/-- what holds of them -/
structure Env.Good (e : Env) : Prop where
  triv : True
  xm_NoNumber_NoNumber : e.xm (.ref e.C_NoNumber) (.ref e.C_NoNumber) true
/-! ### what each def does -/
-- _law_begun: slots 0 _law_script, 1 _law_k, 2 _law_cell, 3 _law_number, 4 _law_mixed,
def w_law_begun (e : Env) : SpD := wpf 2 3
    (sSeq (sSet 2 (dOp dIx (dOp dAdd (dSlice (dVar 0) (oSome (dVar 1)) (oSome (dOp dAdd (dVar 1) (dC (.int 1))))) (dLst (dCons (dC (.int 0)) (dNil)))) (dC (.int 0))))
    (sSeq (sSet 3 (dCB rMax2 (dCons (dVar 2) (dCons (dOp dSub (dUn dNeg (dC (.int 1))) (dVar 2)) (dNil)))))
    (sSeq (sSet 4 (dOp dMod (dOp dAdd (dOp dAdd (dOp dAdd (dOp dMod (dVar 3) (dC (.int 2147483629))) (dOp dMul (dC (.int 7919)) (dVar 1))) (dOp dMul (dOp dMul (dC (.int 104729)) (dVar 1)) (dVar 1))) (dC (.int 11))) (dC (.int 2147483629))))
    (sRet (dLst (dCons (dVar 3) (dCons (dVar 4) (dCons (dOp (dCmpI fun i j => decide (j ≤ i)) (dVar 3) (dOp dPow (dC (.int 10)) (dC (.int 18)))) (dNil)))))))))
-- _law_take: slots 0 _law_state, 1 _law_many, 2 _law_digit, 3 _law_made, 4 _law_turn,
def l_law_take_1 (e : Env) : TDS :=
    (sSeq (sSub (dVar 0) (dC (.int 1)) (dOp dMod (dOp dAdd (dOp dMul (dOp dIx (dVar 0) (dC (.int 1))) (dC (.int 48271))) (dC (.int 11))) (dC (.int 2147483647))) rSetD)
    (sSet 3 (dOp dAdd (dOp dMul (dVar 3) (dC (.int 2147483587))) (dOp dMod (dOp dMul (dOp dIx (dVar 0) (dC (.int 1))) (dOp dIx (dVar 0) (dC (.int 1)))) (dC (.int 2147483587))))))
def w_law_take (e : Env) : SpD := wpf 2 3
    (sSeq (sIf (dTru (dOp dIx (dVar 0) (dC (.int 2))))
    (sSeq (sSet 2 (dOp dMod (dOp dIx (dVar 0) (dC (.int 0))) (dVar 1)))
    (sSeq (sSub (dVar 0) (dC (.int 0)) (dOp dDiv (dOp dIx (dVar 0) (dC (.int 0))) (dVar 1)) rSetD)
    (sSeq (sSub (dVar 0) (dC (.int 2)) (dOp (dCmpI fun i j => decide (j < i)) (dOp dIx (dVar 0) (dC (.int 0))) (dC (.int 0))) rSetD)
    (sRet (dVar 2)))))
    (sNext))
    (sSeq (sSet 3 (dC (.int 0)))
    (sSeq (sFor (jRng1 (dCons (dOp dAdd (dC (.int 1)) (dCB rInt (dCons (dOp (dCmpI fun i j => decide (j < i)) (dVar 1) (dOp dPow (dC (.int 10)) (dC (.int 6)))) (dNil)))) (dNil))) (.one 4)
    (l_law_take_1 e))
    (sRet (dOp dMod (dOp dDiv (dVar 3) (dC (.int 64))) (dVar 1))))))
-- _law_low: slots 0 _law_upper, 1 _law_lower, 2 _law_here, 3 _law_there,
def l_law_low_1 (e : Env) : TDS :=
    (sPar 2 3 (dCons (dVar 3) (dCons (dOp dMod (dVar 2) (dVar 3)) (dNil))))
def w_law_low (e : Env) : SpD := wpf 2 2
    (sSeq (sPar 2 3 (dCons (dCB rAbs (dCons (dVar 0) (dNil))) (dCons (dVar 1) (dNil))))
    (sSeq (sWhile (dTest (dOp (dEq true) (dVar 3) (dC (.int 0))))
    (l_law_low_1 e))
    (sRet (dTup (dCons (dOp dDiv (dVar 0) (dVar 2)) (dCons (dOp dDiv (dVar 1) (dVar 2)) (dNil)))))))
-- _law_drift: slots 0 _law_state, 1 _law_lower, 2 _law_some,
def w_law_drift (e : Env) : SpD := wpf 1 2
    (sSeq (sSet 1 (dOp dAdd (dC (.int 2)) (dCall (w_law_take e) [] (dCons (dVar 0) (dCons (dOp dIx (dLst (dCons (dC (.int 9)) (dCons (dC (.int 100)) (dCons (dC (.int 999)) (dNil))))) (dCall (w_law_take e) [] (dCons (dVar 0) (dCons (dC (.int 3)) (dNil))))) (dNil))))))
    (sSeq (sSet 2 (dLst (dCons (dTup (dCons (dC (.int 1)) (dCons (dC (.int 100)) (dNil)))) (dCons (dTup (dCons (dC (.int 0)) (dCons (dC (.int 1)) (dNil)))) (dCons (dTup (dCons (dC (.int 1)) (dCons (dC (.int 2)) (dNil)))) (dCons (dTup (dCons (dC (.int 999)) (dCons (dC (.int 1000)) (dNil)))) (dCons (dCall (w_law_low e) [] (dCons (dCall (w_law_take e) [] (dCons (dVar 0) (dCons (dVar 1) (dNil)))) (dCons (dVar 1) (dNil)))) (dNil))))))))
    (sRet (dOp dIx (dVar 2) (dCall (w_law_take e) [] (dCons (dVar 0) (dCons (dC (.int 5)) (dNil))))))))
-- is_whole: slots 0 thing,
def w_is_whole (e : Env) : SpD := wpf 1 0
    (sRet (dAndV (dCB (rIsiD e.ic) (dCons (dVar 0) (dCons (dC (.ty "int")) (dNil)))) (dNotV (dCB (rIsiD e.ic) (dCons (dVar 0) (dCons (dC (.ty "bool")) (dNil)))))))
-- look_at_ticks: slots 0 thing,
def w_look_at_ticks (e : Env) : SpD := wpf 1 0
    (sIf (dOr (dNot (dTru (dCall (w_is_whole e) [] (dCons (dVar 0) (dNil))))) (dTest (dOp dLtD (dVar 0) (dC (.int 0)))))
    (sRaise (.ref e.C_NoNumber))
    (sNext))
-- least_passed: slots 0 ticks, 1 drift, 2 top, 3 bottom,
def w_least_passed (e : Env) : SpD := wpf 2 2
    (sSeq (sDrop (dCall (w_look_at_ticks e) [] (dCons (dVar 0) (dNil))))
    (sSeq (sUnp [2, 3] (dVar 1))
    (sRet (dUn dNeg (dOp dDiv (dOp dMul (dUn dNeg (dVar 0)) (dVar 3)) (dOp dAdd (dVar 3) (dVar 2)))))))
-- most_passed: slots 0 ticks, 1 drift, 2 top, 3 bottom,
def w_most_passed (e : Env) : SpD := wpf 2 2
    (sSeq (sDrop (dCall (w_look_at_ticks e) [] (dCons (dVar 0) (dNil))))
    (sSeq (sUnp [2, 3] (dVar 1))
    (sRet (dOp dDiv (dOp dSub (dOp dMul (dOp dAdd (dVar 0) (dC (.int 1))) (dVar 3)) (dC (.int 1))) (dOp dSub (dVar 3) (dVar 2))))))
-- _law_refused: slots 0 _law_odd, 1 _law_way, 2 _law_found, 3 _law_door,
def l_law_refused_1 (e : Env) : TDS :=
    (sTry (e.xm (.ref e.C_NoNumber))
    (sIf (dTest (dOp (dEq false) (dVar 3) (dC (.int 0))))
    (sDrop (dCall (w_least_passed e) [] (dCons (dVar 0) (dCons (dVar 1) (dNil)))))
    (sDrop (dCall (w_most_passed e) [] (dCons (dVar 0) (dCons (dVar 1) (dNil))))))
    (sDrop (dApp (dVar 2) (dCons (dVar 3) (dNil)))))
def w_law_refused (e : Env) : SpD := wpf 2 2
    (sSeq (sSet 2 (dLst (dNil)))
    (sSeq (sFor (jRng1 (dCons (dC (.int 2)) (dNil))) (.one 3)
    (l_law_refused_1 e))
    (sRet (dOp (dEq false) (dVar 2) (dLst (dCons (dC (.int 0)) (dCons (dC (.int 1)) (dNil))))))))
-- _law_is_whole: slots 0 _law_thing,
def w_law_is_whole (e : Env) : SpD := wpf 1 0
    (sRet (dAndV (dCB (rIsiD e.ic) (dCons (dVar 0) (dCons (dC (.ty "int")) (dNil)))) (dNotV (dCB (rIsiD e.ic) (dCons (dVar 0) (dCons (dC (.ty "bool")) (dNil)))))))
-- law: slots 0 _law_script, 1 _law_k, 2 _law_state, 3 _law_way, 4 _law_count, 5 _law_least, 6 _law_most, 7 _law_fast, 8 _law_slow,
def l_law_1 (e : Env) : TDS :=
    (sSeq (sSet 2 (dCall (w_law_begun e) [] (dCons (dVar 0) (dCons (dVar 1) (dNil)))))
    (sSeq (sSet 3 (dCall (w_law_drift e) [] (dCons (dVar 2) (dNil))))
    (sSeq (sSet 4 (dOp dIx (dLst (dCons (dC (.int 0)) (dCons (dC (.int 1)) (dCons (dCall (w_law_take e) [] (dCons (dVar 2) (dCons (dC (.int 40)) (dNil)))) (dCons (dCall (w_law_take e) [] (dCons (dVar 2) (dCons (dOp dPow (dC (.int 10)) (dC (.int 6))) (dNil)))) (dCons (dCall (w_law_take e) [] (dCons (dVar 2) (dCons (dOp dPow (dC (.int 10)) (dC (.int 29))) (dNil)))) (dNil))))))) (dCall (w_law_take e) [] (dCons (dVar 2) (dCons (dC (.int 5)) (dNil))))))
    (sSeq (sSet 5 (dCall (w_least_passed e) [] (dCons (dVar 4) (dCons (dVar 3) (dNil)))))
    (sSeq (sSet 6 (dCall (w_most_passed e) [] (dCons (dVar 4) (dCons (dVar 3) (dNil)))))
    (sSeq (sIf (dOr (dNot (dTru (dCall (w_law_is_whole e) [] (dCons (dVar 5) (dNil))))) (dOr (dNot (dTru (dCall (w_law_is_whole e) [] (dCons (dVar 6) (dNil))))) (dNot (dChnT (dC (.int 0)) (dLink (dCmpI fun i j => decide (i ≤ j)) (dVar 5) (dLast (dCmpI fun i j => decide (i ≤ j)) (dVar 6)))))))
    (sRet (dC (.bl false)))
    (sNext))
    (sSeq (sIf (dOr (dTest (dOp (dEq true) (dSwp (w_least_passed e) (dCons (dVar 3) (dCons (dVar 4) (dNil)))) (dVar 5))) (dTest (dOp (dEq true) (dSwp (w_most_passed e) (dCons (dVar 3) (dCons (dVar 4) (dNil)))) (dVar 6))))
    (sRet (dC (.bl false)))
    (sNext))
    (sSeq (sSet 7 (dOp dAdd (dOp dIx (dVar 3) (dC (.int 1))) (dOp dIx (dVar 3) (dC (.int 0)))))
    (sSeq (sSet 8 (dOp dSub (dOp dIx (dVar 3) (dC (.int 1))) (dOp dIx (dVar 3) (dC (.int 0)))))
    (sSeq (sIf (dOr (dTest (dOp dLtD (dOp dMul (dVar 5) (dVar 7)) (dOp dMul (dVar 4) (dOp dIx (dVar 3) (dC (.int 1)))))) (dAnd (dTest (dOp (dCmpI fun i j => decide (j < i)) (dVar 5) (dC (.int 0)))) (dTest (dOp (dCmpI fun i j => decide (j ≤ i)) (dOp dMul (dOp dSub (dVar 5) (dC (.int 1))) (dVar 7)) (dOp dMul (dVar 4) (dOp dIx (dVar 3) (dC (.int 1))))))))
    (sRet (dC (.bl false)))
    (sNext))
    (sSeq (sIf (dOr (dTest (dOp (dCmpI fun i j => decide (j ≤ i)) (dOp dMul (dVar 6) (dVar 8)) (dOp dMul (dOp dAdd (dVar 4) (dC (.int 1))) (dOp dIx (dVar 3) (dC (.int 1)))))) (dTest (dOp dLtD (dOp dMul (dOp dAdd (dVar 6) (dC (.int 1))) (dVar 8)) (dOp dMul (dOp dAdd (dVar 4) (dC (.int 1))) (dOp dIx (dVar 3) (dC (.int 1)))))))
    (sRet (dC (.bl false)))
    (sNext))
    (sSeq (sIf (dNot (dTru (dCall (w_law_refused e) [] (dCons (dOp dIx (dLst (dCons (dUn dNeg (dC (.int 1))) (dCons (dC .non) (dCons (dC (.bl true)) (dCons (dC (.str "1")) (dCons (dLst (dCons (dC (.int 1)) (dNil))) (dCons (dTup (dCons (dC (.int 2)) (dNil))) (dCons (dDic) (dNil))))))))) (dCall (w_law_take e) [] (dCons (dVar 2) (dCons (dC (.int 7)) (dNil))))) (dCons (dVar 3) (dNil))))))
    (sRet (dC (.bl false)))
    (sNext))
    (sIf (dOr (dTest (dOp dLtD (dCall (w_least_passed e) [] (dCons (dOp dAdd (dVar 4) (dC (.int 1))) (dCons (dVar 3) (dNil)))) (dVar 5))) (dTest (dOp (dCmpI fun i j => decide (i ≤ j)) (dCall (w_most_passed e) [] (dCons (dOp dAdd (dVar 4) (dC (.int 1))) (dCons (dVar 3) (dNil)))) (dVar 6))))
    (sRet (dC (.bl false)))
    (sNext))))))))))))))
def w_law (e : Env) : SpD := wpf 1 8
    (sSeq (sFor (jRng1 (dCons (dCB rMax2 (dCons (dC (.int 1)) (dCons (dCB rMin2 (dCons (dC (.int 60)) (dCons (dCB rLen (dCons (dVar 0) (dNil))) (dNil)))) (dNil)))) (dNil))) (.one 1)
    (l_law_1 e))
    (sRet (dC (.bl true))))
end P

namespace P
open PySem PySem.Spec L2 DL
/-- the row of draws stands at a -/
def Row (G : HD) (a : Addr) : Prop := ∃ (x y : Int) (z : Bool), 0 ≤ x ∧ G a = some (.lst [.int x, .int y, .bl z])
def Fr (a : Addr) (G G' : HD) : Prop := ∀ b, b ≠ a → G' b = G b
theorem Fr.trans {a : Addr} {A B C : HD} (x : Fr a A B) (y : Fr a B C) : Fr a A C := fun b h => (y b h).trans (x b h)
theorem Fr.put {a : Addr} {G : HD} {o : MO} : Fr a G (put G a o) := fun b h => put_ne h
theorem Fr.refl {a : Addr} {G : HD} : Fr a G G := fun _ _ => rfl
theorem begun_ok {e : Env} {G : HD} {ns : List Int} {k : Int} {Q : Post} {E : DX} (h0 : 0 ≤ k) (h9 : k < 100) (hQ : ∀ p G', Row G' p → Q (.ref p) G') : w_law_begun e [.kl (ns.map D.int), .int k] G Q E := by
  refine ⟨rfl, ?_⟩
  try simp only [q_wpf, q_seq, q_set, q_ret, q_retN, q_if, q_drop, r_unp', r_par, q_next, q_brk, q_cont, q_for, sWhile, q_sub, sAug, q_rng1, r_rng1P, jRng2, q_jseq, r_seqT, r_seqK, r_seqR, r_seqL, r_ownP, q_op, r_var, r_varS, q_c, q_cons, q_nil, q_cb, q_tup, q_lst, r_test, r_tru, q_not, q_and, q_or, r_andV, r_orV, r_notV, q_if', q_un, q_call, q_slice, q_some, q_none, r_intP, r_chn, r_chnT, r_link, r_last, q_lc, q_yes, q_make, r_nonP, q_fldg, r_eqT2, r_set0, r_set1, q_put1, q_putN, r_blP, r_boolP, r_unpP, r_parP, r_opt, r_pick, r_add, r_addT, r_addR, r_addL, r_sub, r_mul, r_div, r_mod, r_pow, r_cmp, r_lt, r_neg, r_isN, r_isNr, r_isNi, r_isNn, r_isNt, r_eqI, r_ixT, r_ixK, r_ixR, r_lstOf, r_sliT, r_sliK, r_sliR, r_sliL, r_truB, r_truI, r_truT, r_truN, r_truR, r_truL, r_max, r_min, r_intB, r_intI, r_abs, r_lenT, r_lenK, r_lenR, r_lenL, r_nat, r_set, r_setL, r_isI, r_isB, r_isT, r_fld, r_fldR, r_fldI, r_sfd, r_sfdR, r_sfdI, r_met, r_metR, r_met1, atI0, atI1, atI2, atI3, atI4, ixN1a, ixN2a, ixN2b, ixN3a, ixN3b, ixN3c, put_same, List.map_cons, List.map_nil, List.length_cons, List.length_nil, List.length_set, List.replicate, List.cons_append, List.nil_append, List.append_nil, List.getElem?_cons_zero, List.getElem?_cons_succ, List.set_cons_zero, List.set_cons_succ, true_and, and_true, Option.some.injEq, if_true, if_false, ite_true, ite_false, reduceIte, Bool.not_true, Bool.not_false, Bool.false_eq_true, Nat.reduceAdd, Nat.reduceLeDiff]
  refine newL_in fun p G1 _ _ h1 l1 f1 => newL_in fun q G2 hq _ h2 l2 f2 => ?_
  have hp := l2 _ _ h1
  simp only [q_wpf, q_seq, q_set, q_ret, q_retN, q_if, q_drop, r_unp', r_par, q_next, q_brk, q_cont, q_for, sWhile, q_sub, sAug, q_rng1, r_rng1P, jRng2, q_jseq, r_seqT, r_seqK, r_seqR, r_seqL, r_ownP, q_op, r_var, r_varS, q_c, q_cons, q_nil, q_cb, q_tup, q_lst, r_test, r_tru, q_not, q_and, q_or, r_andV, r_orV, r_notV, q_if', q_un, q_call, q_slice, q_some, q_none, r_intP, r_chn, r_chnT, r_link, r_last, q_lc, q_yes, q_make, r_nonP, q_fldg, r_eqT2, r_set0, r_set1, q_put1, q_putN, r_blP, r_boolP, r_unpP, r_parP, r_opt, r_pick, r_add, r_addT, r_addR, r_addL, r_sub, r_mul, r_div, r_mod, r_pow, r_cmp, r_lt, r_neg, r_isN, r_isNr, r_isNi, r_isNn, r_isNt, r_eqI, r_ixT, r_ixK, r_ixR, r_lstOf, r_sliT, r_sliK, r_sliR, r_sliL, r_truB, r_truI, r_truT, r_truN, r_truR, r_truL, r_max, r_min, r_intB, r_intI, r_abs, r_lenT, r_lenK, r_lenR, r_lenL, r_nat, r_set, r_setL, r_isI, r_isB, r_isT, r_fld, r_fldR, r_fldI, r_sfd, r_sfdR, r_sfdI, r_met, r_metR, r_met1, atI0, atI1, atI2, atI3, atI4, ixN1a, ixN2a, ixN2b, ixN3a, ixN3b, ixN3c, put_same, List.map_cons, List.map_nil, List.length_cons, List.length_nil, List.length_set, List.replicate, List.cons_append, List.nil_append, List.append_nil, List.getElem?_cons_zero, List.getElem?_cons_succ, List.set_cons_zero, List.set_cons_succ, true_and, and_true, Option.some.injEq, if_true, if_false, ite_true, ite_false, reduceIte, Bool.not_true, Bool.not_false, Bool.false_eq_true, Nat.reduceAdd, Nat.reduceLeDiff, hp, h2]
  have hc : cutD (ns.map D.int) (some k) (some (k + 1)) = (((ns.drop (HT.sIx (ns.map D.int).length 0 (some k))).take (HT.sIx (ns.map D.int).length (ns.map D.int).length (some (k + 1)) - HT.sIx (ns.map D.int).length 0 (some k))).map D.int) := by
    unfold cutD
    rw [List.map_take, List.map_drop]
  have hl : (cutD (ns.map D.int) (some k) (some (k + 1))).length ≤ 1 := by
    have hz : HT.sIx (ns.map D.int).length (ns.map D.int).length (some (k + 1)) - HT.sIx (ns.map D.int).length 0 (some k) ≤ 1 := by
      simp only [HT.sIx]; split <;> split <;> omega
    unfold cutD
    rw [List.length_take]; omega
  refine ⟨by have : sizeLine ≥ 100 := by decide
             have : ([D.int 0] : List D).length = 1 := rfl
             omega, newL_in fun r G3 _ _ h3 l3 f3 => ?_⟩
  obtain ⟨c, hcc⟩ : ∃ c, atI (cutD (ns.map D.int) (some k) (some (k + 1)) ++ [D.int 0]) 0 = some (.int c) := by
    rw [hc]
    cases (ns.drop (HT.sIx (ns.map D.int).length 0 (some k))).take (HT.sIx (ns.map D.int).length (ns.map D.int).length (some (k + 1)) - HT.sIx (ns.map D.int).length 0 (some k)) with
    | nil => exact ⟨0, atI0⟩
    | cons c _ => exact ⟨c, atI0⟩
  simp only [q_wpf, q_seq, q_set, q_ret, q_retN, q_if, q_drop, r_unp', r_par, q_next, q_brk, q_cont, q_for, sWhile, q_sub, sAug, q_rng1, r_rng1P, jRng2, q_jseq, r_seqT, r_seqK, r_seqR, r_seqL, r_ownP, q_op, r_var, r_varS, q_c, q_cons, q_nil, q_cb, q_tup, q_lst, r_test, r_tru, q_not, q_and, q_or, r_andV, r_orV, r_notV, q_if', q_un, q_call, q_slice, q_some, q_none, r_intP, r_chn, r_chnT, r_link, r_last, q_lc, q_yes, q_make, r_nonP, q_fldg, r_eqT2, r_set0, r_set1, q_put1, q_putN, r_blP, r_boolP, r_unpP, r_parP, r_opt, r_pick, r_add, r_addT, r_addR, r_addL, r_sub, r_mul, r_div, r_mod, r_pow, r_cmp, r_lt, r_neg, r_isN, r_isNr, r_isNi, r_isNn, r_isNt, r_eqI, r_ixT, r_ixK, r_ixR, r_lstOf, r_sliT, r_sliK, r_sliR, r_sliL, r_truB, r_truI, r_truT, r_truN, r_truR, r_truL, r_max, r_min, r_intB, r_intI, r_abs, r_lenT, r_lenK, r_lenR, r_lenL, r_nat, r_set, r_setL, r_isI, r_isB, r_isT, r_fld, r_fldR, r_fldI, r_sfd, r_sfdR, r_sfdI, r_met, r_metR, r_met1, atI0, atI1, atI2, atI3, atI4, ixN1a, ixN2a, ixN2b, ixN3a, ixN3b, ixN3c, put_same, List.map_cons, List.map_nil, List.length_cons, List.length_nil, List.length_set, List.replicate, List.cons_append, List.nil_append, List.append_nil, List.getElem?_cons_zero, List.getElem?_cons_succ, List.set_cons_zero, List.set_cons_succ, true_and, and_true, Option.some.injEq, if_true, if_false, ite_true, ite_false, reduceIte, Bool.not_true, Bool.not_false, Bool.false_eq_true, Nat.reduceAdd, Nat.reduceLeDiff, h3, hcc]
  refine ⟨by omega, mul_l (by omega) (by omega), mul_l (by omega) (by omega), mul_r (by omega) (by omega), by omega, ⟨by omega, by omega, by omega⟩, newL_in fun t G4 _ _ h4 _ _ => fg_in (hQ _ _ ⟨_, _, _, ?_, h4⟩)⟩
  split <;> omega
theorem take_ok {e : Env} {G : HD} {a : Addr} {n : Int} {Q : Post} {E : DX} (hG : Row G a) (hn : 0 < n) (hn2 : n < 2 ^ 100) (hQ : ∀ r G', 0 ≤ r → r < n → Row G' a → Fr a G G' → Q (.int r) G') : w_law_take e [.ref a, .int n] G Q E := by
  obtain ⟨x, y, z, hx, hG⟩ := hG
  refine ⟨rfl, ?_⟩
  simp only [q_wpf, q_seq, q_set, q_ret, q_retN, q_if, q_drop, r_unp', r_par, q_next, q_brk, q_cont, q_for, sWhile, q_sub, sAug, q_rng1, r_rng1P, jRng2, q_jseq, r_seqT, r_seqK, r_seqR, r_seqL, r_ownP, q_op, r_var, r_varS, q_c, q_cons, q_nil, q_cb, q_tup, q_lst, r_test, r_tru, q_not, q_and, q_or, r_andV, r_orV, r_notV, q_if', q_un, q_call, q_slice, q_some, q_none, r_intP, r_chn, r_chnT, r_link, r_last, q_lc, q_yes, q_make, r_nonP, q_fldg, r_eqT2, r_set0, r_set1, q_put1, q_putN, r_blP, r_boolP, r_unpP, r_parP, r_opt, r_pick, r_add, r_addT, r_addR, r_addL, r_sub, r_mul, r_div, r_mod, r_pow, r_cmp, r_lt, r_neg, r_isN, r_isNr, r_isNi, r_isNn, r_isNt, r_eqI, r_ixT, r_ixK, r_ixR, r_lstOf, r_sliT, r_sliK, r_sliR, r_sliL, r_truB, r_truI, r_truT, r_truN, r_truR, r_truL, r_max, r_min, r_intB, r_intI, r_abs, r_lenT, r_lenK, r_lenR, r_lenL, r_nat, r_set, r_setL, r_isI, r_isB, r_isT, r_fld, r_fldR, r_fldI, r_sfd, r_sfdR, r_sfdI, r_met, r_metR, r_met1, atI0, atI1, atI2, atI3, atI4, ixN1a, ixN2a, ixN2b, ixN3a, ixN3b, ixN3c, put_same, List.map_cons, List.map_nil, List.length_cons, List.length_nil, List.length_set, List.replicate, List.cons_append, List.nil_append, List.append_nil, List.getElem?_cons_zero, List.getElem?_cons_succ, List.set_cons_zero, List.set_cons_succ, true_and, and_true, Option.some.injEq, if_true, if_false, ite_true, ite_false, reduceIte, Bool.not_true, Bool.not_false, Bool.false_eq_true, Nat.reduceAdd, Nat.reduceLeDiff, hG]
  split
  · refine ⟨hn, wide_div (b := 100) hn (by omega) (by omega) (by omega), fg_in (hQ _ _ (Int.emod_nonneg _ (by omega)) (Int.emod_lt_of_pos _ hn) ⟨x / n, y, decide (0 < x / n), Int.ediv_nonneg hx (by omega), put_same⟩ (Fr.trans Fr.put Fr.put))⟩
  · refine ⟨⟨by omega, by omega, by omega⟩, by split <;> omega, by split <;> omega, ?_⟩
    refine forR_inv (I := fun _ σ G' => (∃ m : Int, ∃ w, 0 ≤ m ∧ σ = [some (.ref a), some (.int n), none, some (.int m), w]) ∧ Row G' a ∧ Fr a G G') (fun _ => trivial) (fun i k σ G' hi hI hk => ?_) (fun σ G' hI => ?_) ⟨⟨0, none, by omega, rfl⟩, ⟨x, y, z, hx, hG⟩, Fr.refl⟩
    · obtain ⟨⟨m, w, hm, rfl⟩, ⟨x', y', z', hx', hG'⟩, fr⟩ := hI
      simp only [l_law_take_1, q_wpf, q_seq, q_set, q_ret, q_retN, q_if, q_drop, r_unp', r_par, q_next, q_brk, q_cont, q_for, sWhile, q_sub, sAug, q_rng1, r_rng1P, jRng2, q_jseq, r_seqT, r_seqK, r_seqR, r_seqL, r_ownP, q_op, r_var, r_varS, q_c, q_cons, q_nil, q_cb, q_tup, q_lst, r_test, r_tru, q_not, q_and, q_or, r_andV, r_orV, r_notV, q_if', q_un, q_call, q_slice, q_some, q_none, r_intP, r_chn, r_chnT, r_link, r_last, q_lc, q_yes, q_make, r_nonP, q_fldg, r_eqT2, r_set0, r_set1, q_put1, q_putN, r_blP, r_boolP, r_unpP, r_parP, r_opt, r_pick, r_add, r_addT, r_addR, r_addL, r_sub, r_mul, r_div, r_mod, r_pow, r_cmp, r_lt, r_neg, r_isN, r_isNr, r_isNi, r_isNn, r_isNt, r_eqI, r_ixT, r_ixK, r_ixR, r_lstOf, r_sliT, r_sliK, r_sliR, r_sliL, r_truB, r_truI, r_truT, r_truN, r_truR, r_truL, r_max, r_min, r_intB, r_intI, r_abs, r_lenT, r_lenK, r_lenR, r_lenL, r_nat, r_set, r_setL, r_isI, r_isB, r_isT, r_fld, r_fldR, r_fldI, r_sfd, r_sfdR, r_sfdI, r_met, r_metR, r_met1, atI0, atI1, atI2, atI3, atI4, ixN1a, ixN2a, ixN2b, ixN3a, ixN3b, ixN3c, put_same, List.map_cons, List.map_nil, List.length_cons, List.length_nil, List.length_set, List.replicate, List.cons_append, List.nil_append, List.append_nil, List.getElem?_cons_zero, List.getElem?_cons_succ, List.set_cons_zero, List.set_cons_succ, true_and, and_true, Option.some.injEq, if_true, if_false, ite_true, ite_false, reduceIte, Bool.not_true, Bool.not_false, Bool.false_eq_true, Nat.reduceAdd, Nat.reduceLeDiff, hG']
      refine ⟨mul_r (by omega) (by omega), by omega, mul_r (by omega) (by omega), ?_, by omega, ?_⟩
      · exact mul_l (by omega) (by omega)
      · refine hk _ _ ⟨⟨_, _, ?_, rfl⟩, ⟨x', _, z', hx', put_same⟩, fr.trans Fr.put⟩
        have := Int.emod_nonneg ((y' * 48271 + 11) % 2147483647 * ((y' * 48271 + 11) % 2147483647)) (b := 2147483587) (by omega)
        omega
    · obtain ⟨⟨m, w, hm, rfl⟩, hR, fr⟩ := hI
      try simp only [q_wpf, q_seq, q_set, q_ret, q_retN, q_if, q_drop, r_unp', r_par, q_next, q_brk, q_cont, q_for, sWhile, q_sub, sAug, q_rng1, r_rng1P, jRng2, q_jseq, r_seqT, r_seqK, r_seqR, r_seqL, r_ownP, q_op, r_var, r_varS, q_c, q_cons, q_nil, q_cb, q_tup, q_lst, r_test, r_tru, q_not, q_and, q_or, r_andV, r_orV, r_notV, q_if', q_un, q_call, q_slice, q_some, q_none, r_intP, r_chn, r_chnT, r_link, r_last, q_lc, q_yes, q_make, r_nonP, q_fldg, r_eqT2, r_set0, r_set1, q_put1, q_putN, r_blP, r_boolP, r_unpP, r_parP, r_opt, r_pick, r_add, r_addT, r_addR, r_addL, r_sub, r_mul, r_div, r_mod, r_pow, r_cmp, r_lt, r_neg, r_isN, r_isNr, r_isNi, r_isNn, r_isNt, r_eqI, r_ixT, r_ixK, r_ixR, r_lstOf, r_sliT, r_sliK, r_sliR, r_sliL, r_truB, r_truI, r_truT, r_truN, r_truR, r_truL, r_max, r_min, r_intB, r_intI, r_abs, r_lenT, r_lenK, r_lenR, r_lenL, r_nat, r_set, r_setL, r_isI, r_isB, r_isT, r_fld, r_fldR, r_fldI, r_sfd, r_sfdR, r_sfdI, r_met, r_metR, r_met1, atI0, atI1, atI2, atI3, atI4, ixN1a, ixN2a, ixN2b, ixN3a, ixN3b, ixN3c, put_same, List.map_cons, List.map_nil, List.length_cons, List.length_nil, List.length_set, List.replicate, List.cons_append, List.nil_append, List.append_nil, List.getElem?_cons_zero, List.getElem?_cons_succ, List.set_cons_zero, List.set_cons_succ, true_and, and_true, Option.some.injEq, if_true, if_false, ite_true, ite_false, reduceIte, Bool.not_true, Bool.not_false, Bool.false_eq_true, Nat.reduceAdd, Nat.reduceLeDiff]
      exact ⟨div_s (by omega) (by omega), hn, fg_in (hQ _ _ (Int.emod_nonneg _ (by omega)) (Int.emod_lt_of_pos _ hn) hR fr)⟩
theorem low_ok {e : Env} {G : HD} {u l : Int} {Q : Post} {E : DX} (hl : 0 < l) (h9 : l.natAbs < 2 ^ 8000) (hQ : ∀ u' l' h, 0 < h → u' * h = u → l' * h = l → Q (.tup [.int u', .int l']) G) : w_law_low e [.int u, .int l] G Q E := by
  refine ⟨rfl, ?_⟩
  try simp only [q_wpf, q_seq, q_set, q_ret, q_retN, q_if, q_drop, r_unp', r_par, q_next, q_brk, q_cont, q_for, sWhile, q_sub, sAug, q_rng1, r_rng1P, jRng2, q_jseq, r_seqT, r_seqK, r_seqR, r_seqL, r_ownP, q_op, r_var, r_varS, q_c, q_cons, q_nil, q_cb, q_tup, q_lst, r_test, r_tru, q_not, q_and, q_or, r_andV, r_orV, r_notV, q_if', q_un, q_call, q_slice, q_some, q_none, r_intP, r_chn, r_chnT, r_link, r_last, q_lc, q_yes, q_make, r_nonP, q_fldg, r_eqT2, r_set0, r_set1, q_put1, q_putN, r_blP, r_boolP, r_unpP, r_parP, r_opt, r_pick, r_add, r_addT, r_addR, r_addL, r_sub, r_mul, r_div, r_mod, r_pow, r_cmp, r_lt, r_neg, r_isN, r_isNr, r_isNi, r_isNn, r_isNt, r_eqI, r_ixT, r_ixK, r_ixR, r_lstOf, r_sliT, r_sliK, r_sliR, r_sliL, r_truB, r_truI, r_truT, r_truN, r_truR, r_truL, r_max, r_min, r_intB, r_intI, r_abs, r_lenT, r_lenK, r_lenR, r_lenL, r_nat, r_set, r_setL, r_isI, r_isB, r_isT, r_fld, r_fldR, r_fldI, r_sfd, r_sfdR, r_sfdI, r_met, r_metR, r_met1, atI0, atI1, atI2, atI3, atI4, ixN1a, ixN2a, ixN2b, ixN3a, ixN3b, ixN3c, put_same, List.map_cons, List.map_nil, List.length_cons, List.length_nil, List.length_set, List.replicate, List.cons_append, List.nil_append, List.append_nil, List.getElem?_cons_zero, List.getElem?_cons_succ, List.set_cons_zero, List.set_cons_succ, true_and, and_true, Option.some.injEq, if_true, if_false, ite_true, ite_false, reduceIte, Bool.not_true, Bool.not_false, Bool.false_eq_true, Nat.reduceAdd, Nat.reduceLeDiff]
  refine wh_in (I := fun n σ G' => G' = G ∧ ∃ x y : Int, σ = [some (.int u), some (.int l), some (.int x), some (.int y)] ∧ 0 ≤ x ∧ 0 ≤ y ∧ n = y.toNat ∧ ∀ h, h ∣ x → h ∣ y → h ∣ u ∧ h ∣ l) (fun n k σ G' hI hk => ?_) (n := l.toNat) ⟨rfl, _, _, rfl, ?_, by omega, rfl, fun h h1 h2 => ⟨?_, h2⟩⟩
  · obtain ⟨rfl, x, y, rfl, hx, hy, rfl, hd⟩ := hI
    try simp only [q_wpf, q_seq, q_set, q_ret, q_retN, q_if, q_drop, r_unp', r_par, q_next, q_brk, q_cont, q_for, sWhile, q_sub, sAug, q_rng1, r_rng1P, jRng2, q_jseq, r_seqT, r_seqK, r_seqR, r_seqL, r_ownP, q_op, r_var, r_varS, q_c, q_cons, q_nil, q_cb, q_tup, q_lst, r_test, r_tru, q_not, q_and, q_or, r_andV, r_orV, r_notV, q_if', q_un, q_call, q_slice, q_some, q_none, r_intP, r_chn, r_chnT, r_link, r_last, q_lc, q_yes, q_make, r_nonP, q_fldg, r_eqT2, r_set0, r_set1, q_put1, q_putN, r_blP, r_boolP, r_unpP, r_parP, r_opt, r_pick, r_add, r_addT, r_addR, r_addL, r_sub, r_mul, r_div, r_mod, r_pow, r_cmp, r_lt, r_neg, r_isN, r_isNr, r_isNi, r_isNn, r_isNt, r_eqI, r_ixT, r_ixK, r_ixR, r_lstOf, r_sliT, r_sliK, r_sliR, r_sliL, r_truB, r_truI, r_truT, r_truN, r_truR, r_truL, r_max, r_min, r_intB, r_intI, r_abs, r_lenT, r_lenK, r_lenR, r_lenL, r_nat, r_set, r_setL, r_isI, r_isB, r_isT, r_fld, r_fldR, r_fldI, r_sfd, r_sfdR, r_sfdI, r_met, r_metR, r_met1, atI0, atI1, atI2, atI3, atI4, ixN1a, ixN2a, ixN2b, ixN3a, ixN3b, ixN3c, put_same, List.map_cons, List.map_nil, List.length_cons, List.length_nil, List.length_set, List.replicate, List.cons_append, List.nil_append, List.append_nil, List.getElem?_cons_zero, List.getElem?_cons_succ, List.set_cons_zero, List.set_cons_succ, true_and, and_true, Option.some.injEq, if_true, if_false, ite_true, ite_false, reduceIte, Bool.not_true, Bool.not_false, Bool.false_eq_true, Nat.reduceAdd, Nat.reduceLeDiff]
    by_cases hz : y = 0
    · subst hz
      obtain ⟨⟨u', hu⟩, ⟨l', hl'⟩⟩ := hd x (Int.dvd_refl x) (Int.dvd_zero x)
      have hx0 : x ≠ 0 := by rintro rfl; simp at hl'; omega
      have hx1 : 0 < x := by omega
      have hxl : x ≤ l := Int.le_of_dvd hl ⟨l', hl'⟩
      have hc : CDivW u x := wide_div (b := 8000) hx1 (by omega) (by omega) (by omega)
      simp only [decide_true, Bool.not_true, if_false, Bool.false_eq_true]
      refine ⟨hc, hc, fg_in (hQ _ _ x hx1 ?_ ?_)⟩
      · rw [hu, Int.mul_ediv_cancel_left _ hx0, Int.mul_comm]
      · rw [hl', Int.mul_ediv_cancel_left _ hx0, Int.mul_comm]
    · simp only [hz, decide_false, Bool.not_false, if_true, l_law_low_1, q_wpf, q_seq, q_set, q_ret, q_retN, q_if, q_drop, r_unp', r_par, q_next, q_brk, q_cont, q_for, sWhile, q_sub, sAug, q_rng1, r_rng1P, jRng2, q_jseq, r_seqT, r_seqK, r_seqR, r_seqL, r_ownP, q_op, r_var, r_varS, q_c, q_cons, q_nil, q_cb, q_tup, q_lst, r_test, r_tru, q_not, q_and, q_or, r_andV, r_orV, r_notV, q_if', q_un, q_call, q_slice, q_some, q_none, r_intP, r_chn, r_chnT, r_link, r_last, q_lc, q_yes, q_make, r_nonP, q_fldg, r_eqT2, r_set0, r_set1, q_put1, q_putN, r_blP, r_boolP, r_unpP, r_parP, r_opt, r_pick, r_add, r_addT, r_addR, r_addL, r_sub, r_mul, r_div, r_mod, r_pow, r_cmp, r_lt, r_neg, r_isN, r_isNr, r_isNi, r_isNn, r_isNt, r_eqI, r_ixT, r_ixK, r_ixR, r_lstOf, r_sliT, r_sliK, r_sliR, r_sliL, r_truB, r_truI, r_truT, r_truN, r_truR, r_truL, r_max, r_min, r_intB, r_intI, r_abs, r_lenT, r_lenK, r_lenR, r_lenL, r_nat, r_set, r_setL, r_isI, r_isB, r_isT, r_fld, r_fldR, r_fldI, r_sfd, r_sfdR, r_sfdI, r_met, r_metR, r_met1, atI0, atI1, atI2, atI3, atI4, ixN1a, ixN2a, ixN2b, ixN3a, ixN3b, ixN3c, put_same, List.map_cons, List.map_nil, List.length_cons, List.length_nil, List.length_set, List.replicate, List.cons_append, List.nil_append, List.append_nil, List.getElem?_cons_zero, List.getElem?_cons_succ, List.set_cons_zero, List.set_cons_succ, true_and, and_true, Option.some.injEq, if_true, if_false, ite_true, ite_false, reduceIte, Bool.not_true, Bool.not_false, Bool.false_eq_true, Nat.reduceAdd, Nat.reduceLeDiff]
      refine ⟨by omega, hk (x % y).toNat _ _ ?_ ⟨rfl, _, _, rfl, hy, Int.emod_nonneg _ hz, rfl, fun h h1 h2 => hd h ?_ h1⟩⟩
      · have := Int.emod_lt_of_pos x (show 0 < y by omega)
        have := Int.emod_nonneg x hz
        omega
      · rw [← Int.emod_add_mul_ediv x y]
        exact Int.dvd_add h2 (Int.dvd_trans h1 (Int.dvd_mul_right _ _))
  · omega
  · split at h1
    · exact Int.dvd_neg.mp h1
    · exact h1
def Dr (t b : Int) : Prop := 0 ≤ t ∧ t < b ∧ b ≤ 1001
theorem Dr.f {t b : Int} (h : Dr t b) : 0 ≤ t ∧ t < b ∧ b ≤ 1001 := h
theorem low_s {e : Env} {G : HD} {u l : Int} {Q : Post} {E : DX} (hl : 0 < l) (h9 : l < 2 ^ 62) (hQ : ∀ u' l' h, 0 < h → u' * h = u → l' * h = l → Q (.tup [.int u', .int l']) G) : w_law_low e [.int u, .int l] G Q E :=
  low_ok hl (Nat.lt_of_lt_of_le (show l.natAbs < 2 ^ 62 by omega) (Nat.pow_le_pow_right (by omega) (by omega))) hQ
theorem pos_of {h l : Int} {l' : Int} (h0 : 0 < h) (h1 : 0 < l) (e : l' * h = l) : 0 < l' := by
  rcases (by omega : 0 < l' ∨ l' ≤ 0) with z | z
  · exact z
  · have := Int.mul_le_mul_of_nonneg_right z (show 0 ≤ h by omega)
    omega
theorem le_of {h l : Int} {l' : Int} (h0 : 0 < h) (h1 : 0 ≤ l') (e : l' * h = l) : l' ≤ l := by
  have := Int.mul_le_mul_of_nonneg_left (show 1 ≤ h by omega) h1
  omega
theorem drift_ok {e : Env} {G : HD} {a : Addr} {Q : Post} {E : DX} (hG : Row G a) (hQ : ∀ t b G', Row G' a → Dr t b → Q (.tup [.int t, .int b]) G') : w_law_drift e [.ref a] G Q E := by
  refine ⟨rfl, ?_⟩
  try simp only [q_wpf, q_seq, q_set, q_ret, q_retN, q_if, q_drop, r_unp', r_par, q_next, q_brk, q_cont, q_for, sWhile, q_sub, sAug, q_rng1, r_rng1P, jRng2, q_jseq, r_seqT, r_seqK, r_seqR, r_seqL, r_ownP, q_op, r_var, r_varS, q_c, q_cons, q_nil, q_cb, q_tup, q_lst, r_test, r_tru, q_not, q_and, q_or, r_andV, r_orV, r_notV, q_if', q_un, q_call, q_slice, q_some, q_none, r_intP, r_chn, r_chnT, r_link, r_last, q_lc, q_yes, q_make, r_nonP, q_fldg, r_eqT2, r_set0, r_set1, q_put1, q_putN, r_blP, r_boolP, r_unpP, r_parP, r_opt, r_pick, r_add, r_addT, r_addR, r_addL, r_sub, r_mul, r_div, r_mod, r_pow, r_cmp, r_lt, r_neg, r_isN, r_isNr, r_isNi, r_isNn, r_isNt, r_eqI, r_ixT, r_ixK, r_ixR, r_lstOf, r_sliT, r_sliK, r_sliR, r_sliL, r_truB, r_truI, r_truT, r_truN, r_truR, r_truL, r_max, r_min, r_intB, r_intI, r_abs, r_lenT, r_lenK, r_lenR, r_lenL, r_nat, r_set, r_setL, r_isI, r_isB, r_isT, r_fld, r_fldR, r_fldI, r_sfd, r_sfdR, r_sfdI, r_met, r_metR, r_met1, atI0, atI1, atI2, atI3, atI4, ixN1a, ixN2a, ixN2b, ixN3a, ixN3b, ixN3c, put_same, List.map_cons, List.map_nil, List.length_cons, List.length_nil, List.length_set, List.replicate, List.cons_append, List.nil_append, List.append_nil, List.getElem?_cons_zero, List.getElem?_cons_succ, List.set_cons_zero, List.set_cons_succ, true_and, and_true, Option.some.injEq, if_true, if_false, ite_true, ite_false, reduceIte, Bool.not_true, Bool.not_false, Bool.false_eq_true, Nat.reduceAdd, Nat.reduceLeDiff]
  refine newL_in fun p G1 hp _ h1 l1 f1 => ?_
  have np : p ≠ a := by obtain ⟨x, y, z, hx, h⟩ := hG; exact (ne_of h hp).symm
  have hG1 : Row G1 a := by obtain ⟨x, y, z, hx, h⟩ := hG; exact ⟨x, y, z, hx, l1 _ _ h⟩
  refine take_ok hG1 (by omega) (by omega) fun r G2 hr0 hr1 hR2 fr2 => ?_
  have h2 := (fr2 p np).trans h1
  obtain ⟨x, hx, ex⟩ := pick (l := [D.int 9, .int 100, .int 999]) hr0 hr1
  obtain ⟨v, rfl, hv0, hv1⟩ : ∃ v, x = .int v ∧ 0 < v ∧ v ≤ 999 := by
    simp only [List.mem_cons, List.not_mem_nil, or_false] at hx
    rcases hx with rfl | rfl | rfl <;> exact ⟨_, rfl, by omega, by omega⟩
  simp only [q_wpf, q_seq, q_set, q_ret, q_retN, q_if, q_drop, r_unp', r_par, q_next, q_brk, q_cont, q_for, sWhile, q_sub, sAug, q_rng1, r_rng1P, jRng2, q_jseq, r_seqT, r_seqK, r_seqR, r_seqL, r_ownP, q_op, r_var, r_varS, q_c, q_cons, q_nil, q_cb, q_tup, q_lst, r_test, r_tru, q_not, q_and, q_or, r_andV, r_orV, r_notV, q_if', q_un, q_call, q_slice, q_some, q_none, r_intP, r_chn, r_chnT, r_link, r_last, q_lc, q_yes, q_make, r_nonP, q_fldg, r_eqT2, r_set0, r_set1, q_put1, q_putN, r_blP, r_boolP, r_unpP, r_parP, r_opt, r_pick, r_add, r_addT, r_addR, r_addL, r_sub, r_mul, r_div, r_mod, r_pow, r_cmp, r_lt, r_neg, r_isN, r_isNr, r_isNi, r_isNn, r_isNt, r_eqI, r_ixT, r_ixK, r_ixR, r_lstOf, r_sliT, r_sliK, r_sliR, r_sliL, r_truB, r_truI, r_truT, r_truN, r_truR, r_truL, r_max, r_min, r_intB, r_intI, r_abs, r_lenT, r_lenK, r_lenR, r_lenL, r_nat, r_set, r_setL, r_isI, r_isB, r_isT, r_fld, r_fldR, r_fldI, r_sfd, r_sfdR, r_sfdI, r_met, r_metR, r_met1, atI0, atI1, atI2, atI3, atI4, ixN1a, ixN2a, ixN2b, ixN3a, ixN3b, ixN3c, put_same, List.map_cons, List.map_nil, List.length_cons, List.length_nil, List.length_set, List.replicate, List.cons_append, List.nil_append, List.append_nil, List.getElem?_cons_zero, List.getElem?_cons_succ, List.set_cons_zero, List.set_cons_succ, true_and, and_true, Option.some.injEq, if_true, if_false, ite_true, ite_false, reduceIte, Bool.not_true, Bool.not_false, Bool.false_eq_true, Nat.reduceAdd, Nat.reduceLeDiff, h2, ex]
  refine take_ok hR2 hv0 (by omega) fun r1 G3 hr0 hr1 hR3 fr3 => ?_
  try simp only [q_wpf, q_seq, q_set, q_ret, q_retN, q_if, q_drop, r_unp', r_par, q_next, q_brk, q_cont, q_for, sWhile, q_sub, sAug, q_rng1, r_rng1P, jRng2, q_jseq, r_seqT, r_seqK, r_seqR, r_seqL, r_ownP, q_op, r_var, r_varS, q_c, q_cons, q_nil, q_cb, q_tup, q_lst, r_test, r_tru, q_not, q_and, q_or, r_andV, r_orV, r_notV, q_if', q_un, q_call, q_slice, q_some, q_none, r_intP, r_chn, r_chnT, r_link, r_last, q_lc, q_yes, q_make, r_nonP, q_fldg, r_eqT2, r_set0, r_set1, q_put1, q_putN, r_blP, r_boolP, r_unpP, r_parP, r_opt, r_pick, r_add, r_addT, r_addR, r_addL, r_sub, r_mul, r_div, r_mod, r_pow, r_cmp, r_lt, r_neg, r_isN, r_isNr, r_isNi, r_isNn, r_isNt, r_eqI, r_ixT, r_ixK, r_ixR, r_lstOf, r_sliT, r_sliK, r_sliR, r_sliL, r_truB, r_truI, r_truT, r_truN, r_truR, r_truL, r_max, r_min, r_intB, r_intI, r_abs, r_lenT, r_lenK, r_lenR, r_lenL, r_nat, r_set, r_setL, r_isI, r_isB, r_isT, r_fld, r_fldR, r_fldI, r_sfd, r_sfdR, r_sfdI, r_met, r_metR, r_met1, atI0, atI1, atI2, atI3, atI4, ixN1a, ixN2a, ixN2b, ixN3a, ixN3b, ixN3c, put_same, List.map_cons, List.map_nil, List.length_cons, List.length_nil, List.length_set, List.replicate, List.cons_append, List.nil_append, List.append_nil, List.getElem?_cons_zero, List.getElem?_cons_succ, List.set_cons_zero, List.set_cons_succ, true_and, and_true, Option.some.injEq, if_true, if_false, ite_true, ite_false, reduceIte, Bool.not_true, Bool.not_false, Bool.false_eq_true, Nat.reduceAdd, Nat.reduceLeDiff]
  refine take_ok hR3 (by omega) (by omega) fun r2 G4 hs0 hs1 hR4 fr4 => ?_
  try simp only [q_wpf, q_seq, q_set, q_ret, q_retN, q_if, q_drop, r_unp', r_par, q_next, q_brk, q_cont, q_for, sWhile, q_sub, sAug, q_rng1, r_rng1P, jRng2, q_jseq, r_seqT, r_seqK, r_seqR, r_seqL, r_ownP, q_op, r_var, r_varS, q_c, q_cons, q_nil, q_cb, q_tup, q_lst, r_test, r_tru, q_not, q_and, q_or, r_andV, r_orV, r_notV, q_if', q_un, q_call, q_slice, q_some, q_none, r_intP, r_chn, r_chnT, r_link, r_last, q_lc, q_yes, q_make, r_nonP, q_fldg, r_eqT2, r_set0, r_set1, q_put1, q_putN, r_blP, r_boolP, r_unpP, r_parP, r_opt, r_pick, r_add, r_addT, r_addR, r_addL, r_sub, r_mul, r_div, r_mod, r_pow, r_cmp, r_lt, r_neg, r_isN, r_isNr, r_isNi, r_isNn, r_isNt, r_eqI, r_ixT, r_ixK, r_ixR, r_lstOf, r_sliT, r_sliK, r_sliR, r_sliL, r_truB, r_truI, r_truT, r_truN, r_truR, r_truL, r_max, r_min, r_intB, r_intI, r_abs, r_lenT, r_lenK, r_lenR, r_lenL, r_nat, r_set, r_setL, r_isI, r_isB, r_isT, r_fld, r_fldR, r_fldI, r_sfd, r_sfdR, r_sfdI, r_met, r_metR, r_met1, atI0, atI1, atI2, atI3, atI4, ixN1a, ixN2a, ixN2b, ixN3a, ixN3b, ixN3c, put_same, List.map_cons, List.map_nil, List.length_cons, List.length_nil, List.length_set, List.replicate, List.cons_append, List.nil_append, List.append_nil, List.getElem?_cons_zero, List.getElem?_cons_succ, List.set_cons_zero, List.set_cons_succ, true_and, and_true, Option.some.injEq, if_true, if_false, ite_true, ite_false, reduceIte, Bool.not_true, Bool.not_false, Bool.false_eq_true, Nat.reduceAdd, Nat.reduceLeDiff]
  refine low_s (by omega) (by omega) fun u' l' h hh e1 e2 => ?_
  have p1 := pos_of hh (by omega) e2
  have p2 := le_of hh (by omega) e2
  have p3 : u' < l' := by
    rcases (by omega : u' < l' ∨ l' ≤ u') with z | z
    · exact z
    · have := Int.mul_le_mul_of_nonneg_right z (show 0 ≤ h by omega)
      omega
  have p4 : 0 ≤ u' := by
    rcases (by omega : u' < 0 ∨ 0 ≤ u') with z | z
    · have := Int.mul_lt_mul_of_pos_right z hh
      omega
    · exact z
  refine newL_in fun q G5 hq _ h5 l5 f5 => ?_
  have nq : q ≠ a := by obtain ⟨x, y, z, hx, h⟩ := hR4; exact (ne_of h hq).symm
  have hR5 : Row G5 a := by obtain ⟨x, y, z, hx, h⟩ := hR4; exact ⟨x, y, z, hx, l5 _ _ h⟩
  try simp only [q_wpf, q_seq, q_set, q_ret, q_retN, q_if, q_drop, r_unp', r_par, q_next, q_brk, q_cont, q_for, sWhile, q_sub, sAug, q_rng1, r_rng1P, jRng2, q_jseq, r_seqT, r_seqK, r_seqR, r_seqL, r_ownP, q_op, r_var, r_varS, q_c, q_cons, q_nil, q_cb, q_tup, q_lst, r_test, r_tru, q_not, q_and, q_or, r_andV, r_orV, r_notV, q_if', q_un, q_call, q_slice, q_some, q_none, r_intP, r_chn, r_chnT, r_link, r_last, q_lc, q_yes, q_make, r_nonP, q_fldg, r_eqT2, r_set0, r_set1, q_put1, q_putN, r_blP, r_boolP, r_unpP, r_parP, r_opt, r_pick, r_add, r_addT, r_addR, r_addL, r_sub, r_mul, r_div, r_mod, r_pow, r_cmp, r_lt, r_neg, r_isN, r_isNr, r_isNi, r_isNn, r_isNt, r_eqI, r_ixT, r_ixK, r_ixR, r_lstOf, r_sliT, r_sliK, r_sliR, r_sliL, r_truB, r_truI, r_truT, r_truN, r_truR, r_truL, r_max, r_min, r_intB, r_intI, r_abs, r_lenT, r_lenK, r_lenR, r_lenL, r_nat, r_set, r_setL, r_isI, r_isB, r_isT, r_fld, r_fldR, r_fldI, r_sfd, r_sfdR, r_sfdI, r_met, r_metR, r_met1, atI0, atI1, atI2, atI3, atI4, ixN1a, ixN2a, ixN2b, ixN3a, ixN3b, ixN3c, put_same, List.map_cons, List.map_nil, List.length_cons, List.length_nil, List.length_set, List.replicate, List.cons_append, List.nil_append, List.append_nil, List.getElem?_cons_zero, List.getElem?_cons_succ, List.set_cons_zero, List.set_cons_succ, true_and, and_true, Option.some.injEq, if_true, if_false, ite_true, ite_false, reduceIte, Bool.not_true, Bool.not_false, Bool.false_eq_true, Nat.reduceAdd, Nat.reduceLeDiff]
  refine take_ok hR5 (by omega) (by omega) fun r3 G6 ht0 ht1 hR6 fr6 => ?_
  have h6 := (fr6 q nq).trans h5
  obtain ⟨y, hy, ey⟩ := pick ht0 (show r3 < ([.tup [.int 1, .int 100], .tup [.int 0, .int 1], .tup [.int 1, .int 2], .tup [.int 999, .int 1000], .tup [.int u', .int l']] : List D).length from ht1)
  obtain ⟨t, b, rfl, hd⟩ : ∃ t b, y = .tup [.int t, .int b] ∧ Dr t b := by
    simp only [List.mem_cons, List.not_mem_nil, or_false] at hy
    rcases hy with rfl | rfl | rfl | rfl | rfl <;> exact ⟨_, _, rfl, by omega, by omega, by omega⟩
  simp only [q_wpf, q_seq, q_set, q_ret, q_retN, q_if, q_drop, r_unp', r_par, q_next, q_brk, q_cont, q_for, sWhile, q_sub, sAug, q_rng1, r_rng1P, jRng2, q_jseq, r_seqT, r_seqK, r_seqR, r_seqL, r_ownP, q_op, r_var, r_varS, q_c, q_cons, q_nil, q_cb, q_tup, q_lst, r_test, r_tru, q_not, q_and, q_or, r_andV, r_orV, r_notV, q_if', q_un, q_call, q_slice, q_some, q_none, r_intP, r_chn, r_chnT, r_link, r_last, q_lc, q_yes, q_make, r_nonP, q_fldg, r_eqT2, r_set0, r_set1, q_put1, q_putN, r_blP, r_boolP, r_unpP, r_parP, r_opt, r_pick, r_add, r_addT, r_addR, r_addL, r_sub, r_mul, r_div, r_mod, r_pow, r_cmp, r_lt, r_neg, r_isN, r_isNr, r_isNi, r_isNn, r_isNt, r_eqI, r_ixT, r_ixK, r_ixR, r_lstOf, r_sliT, r_sliK, r_sliR, r_sliL, r_truB, r_truI, r_truT, r_truN, r_truR, r_truL, r_max, r_min, r_intB, r_intI, r_abs, r_lenT, r_lenK, r_lenR, r_lenL, r_nat, r_set, r_setL, r_isI, r_isB, r_isT, r_fld, r_fldR, r_fldI, r_sfd, r_sfdR, r_sfdI, r_met, r_metR, r_met1, atI0, atI1, atI2, atI3, atI4, ixN1a, ixN2a, ixN2b, ixN3a, ixN3b, ixN3c, put_same, List.map_cons, List.map_nil, List.length_cons, List.length_nil, List.length_set, List.replicate, List.cons_append, List.nil_append, List.append_nil, List.getElem?_cons_zero, List.getElem?_cons_succ, List.set_cons_zero, List.set_cons_succ, true_and, and_true, Option.some.injEq, if_true, if_false, ite_true, ite_false, reduceIte, Bool.not_true, Bool.not_false, Bool.false_eq_true, Nat.reduceAdd, Nat.reduceLeDiff, h6, ey]
  exact fg_in (hQ _ _ _ hR6 hd)
theorem whole_ok {e : Env} {G : HD} {c : Int} {Q : Post} {E : DX} (hQ : Q (.bl true) G) : w_is_whole e [.int c] G Q E := by
  unfold w_is_whole
  try simp only [q_wpf, q_seq, q_set, q_ret, q_retN, q_if, q_drop, r_unp', r_par, q_next, q_brk, q_cont, q_for, sWhile, q_sub, sAug, q_rng1, r_rng1P, jRng2, q_jseq, r_seqT, r_seqK, r_seqR, r_seqL, r_ownP, q_op, r_var, r_varS, q_c, q_cons, q_nil, q_cb, q_tup, q_lst, r_test, r_tru, q_not, q_and, q_or, r_andV, r_orV, r_notV, q_if', q_un, q_call, q_slice, q_some, q_none, r_intP, r_chn, r_chnT, r_link, r_last, q_lc, q_yes, q_make, r_nonP, q_fldg, r_eqT2, r_set0, r_set1, q_put1, q_putN, r_blP, r_boolP, r_unpP, r_parP, r_opt, r_pick, r_add, r_addT, r_addR, r_addL, r_sub, r_mul, r_div, r_mod, r_pow, r_cmp, r_lt, r_neg, r_isN, r_isNr, r_isNi, r_isNn, r_isNt, r_eqI, r_ixT, r_ixK, r_ixR, r_lstOf, r_sliT, r_sliK, r_sliR, r_sliL, r_truB, r_truI, r_truT, r_truN, r_truR, r_truL, r_max, r_min, r_intB, r_intI, r_abs, r_lenT, r_lenK, r_lenR, r_lenL, r_nat, r_set, r_setL, r_isI, r_isB, r_isT, r_fld, r_fldR, r_fldI, r_sfd, r_sfdR, r_sfdI, r_met, r_metR, r_met1, atI0, atI1, atI2, atI3, atI4, ixN1a, ixN2a, ixN2b, ixN3a, ixN3b, ixN3c, put_same, List.map_cons, List.map_nil, List.length_cons, List.length_nil, List.length_set, List.replicate, List.cons_append, List.nil_append, List.append_nil, List.getElem?_cons_zero, List.getElem?_cons_succ, List.set_cons_zero, List.set_cons_succ, true_and, and_true, Option.some.injEq, if_true, if_false, ite_true, ite_false, reduceIte, Bool.not_true, Bool.not_false, Bool.false_eq_true, Nat.reduceAdd, Nat.reduceLeDiff]
  exact fg_in hQ
theorem look_ok {e : Env} {G : HD} {c : Int} {Q : Post} {E : DX} (hc : 0 ≤ c) (hQ : Q .non G) : w_look_at_ticks e [.int c] G Q E := by
  unfold w_look_at_ticks
  try simp only [q_wpf, q_seq, q_set, q_ret, q_retN, q_if, q_drop, r_unp', r_par, q_next, q_brk, q_cont, q_for, sWhile, q_sub, sAug, q_rng1, r_rng1P, jRng2, q_jseq, r_seqT, r_seqK, r_seqR, r_seqL, r_ownP, q_op, r_var, r_varS, q_c, q_cons, q_nil, q_cb, q_tup, q_lst, r_test, r_tru, q_not, q_and, q_or, r_andV, r_orV, r_notV, q_if', q_un, q_call, q_slice, q_some, q_none, r_intP, r_chn, r_chnT, r_link, r_last, q_lc, q_yes, q_make, r_nonP, q_fldg, r_eqT2, r_set0, r_set1, q_put1, q_putN, r_blP, r_boolP, r_unpP, r_parP, r_opt, r_pick, r_add, r_addT, r_addR, r_addL, r_sub, r_mul, r_div, r_mod, r_pow, r_cmp, r_lt, r_neg, r_isN, r_isNr, r_isNi, r_isNn, r_isNt, r_eqI, r_ixT, r_ixK, r_ixR, r_lstOf, r_sliT, r_sliK, r_sliR, r_sliL, r_truB, r_truI, r_truT, r_truN, r_truR, r_truL, r_max, r_min, r_intB, r_intI, r_abs, r_lenT, r_lenK, r_lenR, r_lenL, r_nat, r_set, r_setL, r_isI, r_isB, r_isT, r_fld, r_fldR, r_fldI, r_sfd, r_sfdR, r_sfdI, r_met, r_metR, r_met1, atI0, atI1, atI2, atI3, atI4, ixN1a, ixN2a, ixN2b, ixN3a, ixN3b, ixN3c, put_same, List.map_cons, List.map_nil, List.length_cons, List.length_nil, List.length_set, List.replicate, List.cons_append, List.nil_append, List.append_nil, List.getElem?_cons_zero, List.getElem?_cons_succ, List.set_cons_zero, List.set_cons_succ, true_and, and_true, Option.some.injEq, if_true, if_false, ite_true, ite_false, reduceIte, Bool.not_true, Bool.not_false, Bool.false_eq_true, Nat.reduceAdd, Nat.reduceLeDiff]
  refine whole_ok ?_
  simp only [q_wpf, q_seq, q_set, q_ret, q_retN, q_if, q_drop, r_unp', r_par, q_next, q_brk, q_cont, q_for, sWhile, q_sub, sAug, q_rng1, r_rng1P, jRng2, q_jseq, r_seqT, r_seqK, r_seqR, r_seqL, r_ownP, q_op, r_var, r_varS, q_c, q_cons, q_nil, q_cb, q_tup, q_lst, r_test, r_tru, q_not, q_and, q_or, r_andV, r_orV, r_notV, q_if', q_un, q_call, q_slice, q_some, q_none, r_intP, r_chn, r_chnT, r_link, r_last, q_lc, q_yes, q_make, r_nonP, q_fldg, r_eqT2, r_set0, r_set1, q_put1, q_putN, r_blP, r_boolP, r_unpP, r_parP, r_opt, r_pick, r_add, r_addT, r_addR, r_addL, r_sub, r_mul, r_div, r_mod, r_pow, r_cmp, r_lt, r_neg, r_isN, r_isNr, r_isNi, r_isNn, r_isNt, r_eqI, r_ixT, r_ixK, r_ixR, r_lstOf, r_sliT, r_sliK, r_sliR, r_sliL, r_truB, r_truI, r_truT, r_truN, r_truR, r_truL, r_max, r_min, r_intB, r_intI, r_abs, r_lenT, r_lenK, r_lenR, r_lenL, r_nat, r_set, r_setL, r_isI, r_isB, r_isT, r_fld, r_fldR, r_fldI, r_sfd, r_sfdR, r_sfdI, r_met, r_metR, r_met1, atI0, atI1, atI2, atI3, atI4, ixN1a, ixN2a, ixN2b, ixN3a, ixN3b, ixN3c, put_same, List.map_cons, List.map_nil, List.length_cons, List.length_nil, List.length_set, List.replicate, List.cons_append, List.nil_append, List.append_nil, List.getElem?_cons_zero, List.getElem?_cons_succ, List.set_cons_zero, List.set_cons_succ, true_and, and_true, Option.some.injEq, if_true, if_false, ite_true, ite_false, reduceIte, Bool.not_true, Bool.not_false, Bool.false_eq_true, Nat.reduceAdd, Nat.reduceLeDiff, show ¬ c < 0 by omega, decide_false]
  exact fg_in hQ
def least (n t b : Int) : Int := -(-n * b / (b + t))
def most (n t b : Int) : Int := ((n + 1) * b - 1) / (b - t)
theorem least_ok {e : Env} {G : HD} {c t b : Int} {Q : Post} {E : DX} (hc : 0 ≤ c) (hd : Dr t b) (hQ : Q (.int (least c t b)) G) : w_least_passed e [.int c, .tup [.int t, .int b]] G Q E := by
  obtain ⟨d0, d1, d2⟩ := hd.f
  unfold w_least_passed
  try simp only [q_wpf, q_seq, q_set, q_ret, q_retN, q_if, q_drop, r_unp', r_par, q_next, q_brk, q_cont, q_for, sWhile, q_sub, sAug, q_rng1, r_rng1P, jRng2, q_jseq, r_seqT, r_seqK, r_seqR, r_seqL, r_ownP, q_op, r_var, r_varS, q_c, q_cons, q_nil, q_cb, q_tup, q_lst, r_test, r_tru, q_not, q_and, q_or, r_andV, r_orV, r_notV, q_if', q_un, q_call, q_slice, q_some, q_none, r_intP, r_chn, r_chnT, r_link, r_last, q_lc, q_yes, q_make, r_nonP, q_fldg, r_eqT2, r_set0, r_set1, q_put1, q_putN, r_blP, r_boolP, r_unpP, r_parP, r_opt, r_pick, r_add, r_addT, r_addR, r_addL, r_sub, r_mul, r_div, r_mod, r_pow, r_cmp, r_lt, r_neg, r_isN, r_isNr, r_isNi, r_isNn, r_isNt, r_eqI, r_ixT, r_ixK, r_ixR, r_lstOf, r_sliT, r_sliK, r_sliR, r_sliL, r_truB, r_truI, r_truT, r_truN, r_truR, r_truL, r_max, r_min, r_intB, r_intI, r_abs, r_lenT, r_lenK, r_lenR, r_lenL, r_nat, r_set, r_setL, r_isI, r_isB, r_isT, r_fld, r_fldR, r_fldI, r_sfd, r_sfdR, r_sfdI, r_met, r_metR, r_met1, atI0, atI1, atI2, atI3, atI4, ixN1a, ixN2a, ixN2b, ixN3a, ixN3b, ixN3c, put_same, List.map_cons, List.map_nil, List.length_cons, List.length_nil, List.length_set, List.replicate, List.cons_append, List.nil_append, List.append_nil, List.getElem?_cons_zero, List.getElem?_cons_succ, List.set_cons_zero, List.set_cons_succ, true_and, and_true, Option.some.injEq, if_true, if_false, ite_true, ite_false, reduceIte, Bool.not_true, Bool.not_false, Bool.false_eq_true, Nat.reduceAdd, Nat.reduceLeDiff]
  refine look_ok hc ?_
  try simp only [q_wpf, q_seq, q_set, q_ret, q_retN, q_if, q_drop, r_unp', r_par, q_next, q_brk, q_cont, q_for, sWhile, q_sub, sAug, q_rng1, r_rng1P, jRng2, q_jseq, r_seqT, r_seqK, r_seqR, r_seqL, r_ownP, q_op, r_var, r_varS, q_c, q_cons, q_nil, q_cb, q_tup, q_lst, r_test, r_tru, q_not, q_and, q_or, r_andV, r_orV, r_notV, q_if', q_un, q_call, q_slice, q_some, q_none, r_intP, r_chn, r_chnT, r_link, r_last, q_lc, q_yes, q_make, r_nonP, q_fldg, r_eqT2, r_set0, r_set1, q_put1, q_putN, r_blP, r_boolP, r_unpP, r_parP, r_opt, r_pick, r_add, r_addT, r_addR, r_addL, r_sub, r_mul, r_div, r_mod, r_pow, r_cmp, r_lt, r_neg, r_isN, r_isNr, r_isNi, r_isNn, r_isNt, r_eqI, r_ixT, r_ixK, r_ixR, r_lstOf, r_sliT, r_sliK, r_sliR, r_sliL, r_truB, r_truI, r_truT, r_truN, r_truR, r_truL, r_max, r_min, r_intB, r_intI, r_abs, r_lenT, r_lenK, r_lenR, r_lenL, r_nat, r_set, r_setL, r_isI, r_isB, r_isT, r_fld, r_fldR, r_fldI, r_sfd, r_sfdR, r_sfdI, r_met, r_metR, r_met1, atI0, atI1, atI2, atI3, atI4, ixN1a, ixN2a, ixN2b, ixN3a, ixN3b, ixN3c, put_same, List.map_cons, List.map_nil, List.length_cons, List.length_nil, List.length_set, List.replicate, List.cons_append, List.nil_append, List.append_nil, List.getElem?_cons_zero, List.getElem?_cons_succ, List.set_cons_zero, List.set_cons_succ, true_and, and_true, Option.some.injEq, if_true, if_false, ite_true, ite_false, reduceIte, Bool.not_true, Bool.not_false, Bool.false_eq_true, Nat.reduceAdd, Nat.reduceLeDiff]
  exact ⟨mul_r (by omega) (by omega), div_s (by omega) (by omega), fg_in hQ⟩
theorem most_ok {e : Env} {G : HD} {c t b : Int} {Q : Post} {E : DX} (hc : 0 ≤ c) (hd : Dr t b) (hQ : Q (.int (most c t b)) G) : w_most_passed e [.int c, .tup [.int t, .int b]] G Q E := by
  obtain ⟨d0, d1, d2⟩ := hd.f
  unfold w_most_passed
  try simp only [q_wpf, q_seq, q_set, q_ret, q_retN, q_if, q_drop, r_unp', r_par, q_next, q_brk, q_cont, q_for, sWhile, q_sub, sAug, q_rng1, r_rng1P, jRng2, q_jseq, r_seqT, r_seqK, r_seqR, r_seqL, r_ownP, q_op, r_var, r_varS, q_c, q_cons, q_nil, q_cb, q_tup, q_lst, r_test, r_tru, q_not, q_and, q_or, r_andV, r_orV, r_notV, q_if', q_un, q_call, q_slice, q_some, q_none, r_intP, r_chn, r_chnT, r_link, r_last, q_lc, q_yes, q_make, r_nonP, q_fldg, r_eqT2, r_set0, r_set1, q_put1, q_putN, r_blP, r_boolP, r_unpP, r_parP, r_opt, r_pick, r_add, r_addT, r_addR, r_addL, r_sub, r_mul, r_div, r_mod, r_pow, r_cmp, r_lt, r_neg, r_isN, r_isNr, r_isNi, r_isNn, r_isNt, r_eqI, r_ixT, r_ixK, r_ixR, r_lstOf, r_sliT, r_sliK, r_sliR, r_sliL, r_truB, r_truI, r_truT, r_truN, r_truR, r_truL, r_max, r_min, r_intB, r_intI, r_abs, r_lenT, r_lenK, r_lenR, r_lenL, r_nat, r_set, r_setL, r_isI, r_isB, r_isT, r_fld, r_fldR, r_fldI, r_sfd, r_sfdR, r_sfdI, r_met, r_metR, r_met1, atI0, atI1, atI2, atI3, atI4, ixN1a, ixN2a, ixN2b, ixN3a, ixN3b, ixN3c, put_same, List.map_cons, List.map_nil, List.length_cons, List.length_nil, List.length_set, List.replicate, List.cons_append, List.nil_append, List.append_nil, List.getElem?_cons_zero, List.getElem?_cons_succ, List.set_cons_zero, List.set_cons_succ, true_and, and_true, Option.some.injEq, if_true, if_false, ite_true, ite_false, reduceIte, Bool.not_true, Bool.not_false, Bool.false_eq_true, Nat.reduceAdd, Nat.reduceLeDiff]
  refine look_ok hc ?_
  try simp only [q_wpf, q_seq, q_set, q_ret, q_retN, q_if, q_drop, r_unp', r_par, q_next, q_brk, q_cont, q_for, sWhile, q_sub, sAug, q_rng1, r_rng1P, jRng2, q_jseq, r_seqT, r_seqK, r_seqR, r_seqL, r_ownP, q_op, r_var, r_varS, q_c, q_cons, q_nil, q_cb, q_tup, q_lst, r_test, r_tru, q_not, q_and, q_or, r_andV, r_orV, r_notV, q_if', q_un, q_call, q_slice, q_some, q_none, r_intP, r_chn, r_chnT, r_link, r_last, q_lc, q_yes, q_make, r_nonP, q_fldg, r_eqT2, r_set0, r_set1, q_put1, q_putN, r_blP, r_boolP, r_unpP, r_parP, r_opt, r_pick, r_add, r_addT, r_addR, r_addL, r_sub, r_mul, r_div, r_mod, r_pow, r_cmp, r_lt, r_neg, r_isN, r_isNr, r_isNi, r_isNn, r_isNt, r_eqI, r_ixT, r_ixK, r_ixR, r_lstOf, r_sliT, r_sliK, r_sliR, r_sliL, r_truB, r_truI, r_truT, r_truN, r_truR, r_truL, r_max, r_min, r_intB, r_intI, r_abs, r_lenT, r_lenK, r_lenR, r_lenL, r_nat, r_set, r_setL, r_isI, r_isB, r_isT, r_fld, r_fldR, r_fldI, r_sfd, r_sfdR, r_sfdI, r_met, r_metR, r_met1, atI0, atI1, atI2, atI3, atI4, ixN1a, ixN2a, ixN2b, ixN3a, ixN3b, ixN3c, put_same, List.map_cons, List.map_nil, List.length_cons, List.length_nil, List.length_set, List.replicate, List.cons_append, List.nil_append, List.append_nil, List.getElem?_cons_zero, List.getElem?_cons_succ, List.set_cons_zero, List.set_cons_succ, true_and, and_true, Option.some.injEq, if_true, if_false, ite_true, ite_false, reduceIte, Bool.not_true, Bool.not_false, Bool.false_eq_true, Nat.reduceAdd, Nat.reduceLeDiff]
  exact ⟨mul_r (by omega) (by omega), div_s (by omega) (by omega), fg_in hQ⟩
abbrev two (x y : Int) : D := .tup [.int x, .int y]
theorem least_mono {t b n m : Int} (d0 : 0 ≤ t) (d1 : t < b) (h : n ≤ m) : least n t b ≤ least m t b := by
  unfold least
  have : -m * b / (b + t) ≤ -n * b / (b + t) := Int.ediv_le_ediv (by omega) (Int.mul_le_mul_of_nonneg_right (by omega) (by omega))
  omega
theorem least_0 {t b : Int} : least 0 t b = 0 := by unfold least; simp
theorem most_0 {t b : Int} (d0 : 0 ≤ t) (d1 : t < b) : 0 ≤ most 0 t b := by
  unfold most
  exact Int.ediv_nonneg (by omega) (by omega)
theorem most_add {t b n k : Int} (d0 : 0 ≤ t) (d1 : t < b) (hk : 0 ≤ k) : most n t b + k ≤ most (n + k) t b := by
  unfold most
  rw [← Int.add_mul_ediv_right _ _ (show b - t ≠ 0 by omega)]
  refine Int.ediv_le_ediv (by omega) ?_
  have h1 : k * (b - t) ≤ k * b := Int.mul_le_mul_of_nonneg_left (by omega) hk
  have h2 : (n + k + 1) * b = (n + 1) * b + k * b := by rw [← Int.add_mul]; congr 1; omega
  omega
theorem least_add {t b n k : Int} (d0 : 0 ≤ t) (d1 : t < b) (hk : 0 ≤ k) : least (n + k) t b ≤ least n t b + k := by
  unfold least
  have h0 : -n * b / (b + t) + -k = (-n * b + -k * (b + t)) / (b + t) := (Int.add_mul_ediv_right _ _ (by omega)).symm
  have h1 : -k * (b + t) ≤ -k * b := by
    have : 0 ≤ k * t := Int.mul_nonneg hk d0
    rw [Int.mul_add, Int.neg_mul k t]; omega
  have h2 : -(n + k) * b = -n * b + -k * b := by rw [← Int.add_mul]; congr 1; omega
  have h3 : (-n * b + -k * (b + t)) / (b + t) ≤ -(n + k) * b / (b + t) := Int.ediv_le_ediv (by omega) (by omega)
  omega
theorem least_pos {t b n : Int} (d0 : 0 ≤ t) (d1 : t < b) (hn : 0 ≤ n) : 0 ≤ least n t b := by
  have := least_mono (n := 0) (m := n) d0 d1 hn
  rw [least_0] at this; exact this
theorem width {t b n : Int} (d0 : 0 ≤ t) (d1 : t < b) (hn : 0 ≤ n) : least n t b ≤ most n t b ∧ 0 ≤ most n t b := by
  have h1 := most_add (n := 0) (k := n) d0 d1 hn
  have h2 := least_add (n := 0) (k := n) d0 d1 hn
  have h3 := most_0 d0 d1
  rw [least_0] at h2
  rw [Int.zero_add] at h1 h2
  omega
end P
namespace P
open PySem PySem.Spec L2 DL
theorem q_try {xm : Value → Bool → Prop} {tb ts : TDS} {W : DW} {E : DEnds} {σ : DSt} {G : HD} : sTry xm tb ts W E σ G = tb (fun c fs σ' G' => ∃ b, xm c b ∧ (b = true → ts W0 E σ' G') ∧ (b = false → W c fs σ' G')) E σ G := propext ⟨fun h => h, fun h => h⟩
theorem q_raise {c : Value} {W : DW} {E : DEnds} {σ : DSt} {G : HD} : sRaise c W E σ G = W c [] σ G := propext ⟨fun h => h, fun h => h⟩
theorem q_swp {sp : SpD} {ts : TDA} {W : DW} {σ : DSt} {G : HD} {Q : Post} : dSwp sp ts W σ G Q = ts W σ G fun ds G1 => ds.length = 2 ∧ sp (swp ds) G1 Q fun c fs G' => W c fs σ G' := propext ⟨fun h => h, fun h => h⟩
theorem r_swp {x y : D} : swp [x, y] = [y, x] := rfl
theorem q_app {i j : Nat} {W : DW} {σ : DSt} {G : HD} {Q : Post} {a : Addr} {d : D} {xs : List D} (h1 : σ[i]? = some (some (.ref a))) (h2 : σ[j]? = some (some d)) (h3 : G a = some (.lst xs)) (h4 : xs.length < 1000000) (q : Q .non (put G a (.lst (xs ++ [d])))) : dApp (dVar i) (dCons (dVar j) dNil) W σ G Q := by
  unfold dApp
  simp only [r_var, h1, r_varS, lstP, h3, q_cons, h2, q_nil, appP, appO]
  exact ⟨⟨_, rfl⟩, h4, q⟩
/-- no number of ticks -/
def Odd (G : HD) (d : D) : Prop := d = .int (-1) ∨ d = .non ∨ d = .bl true ∨ (∃ x, d = .str x) ∨ (∃ p xs, d = .ref p ∧ G p = some (.lst xs)) ∨ (∃ xs, d = .tup xs) ∨ ∃ p xs, d = .ref p ∧ G p = some (.dK xs)
theorem Odd.le {G G' : HD} {d : D} (h : Odd G d) (l : Le G G') : Odd G' d := by
  rcases h with h | h | h | h | ⟨p, xs, h, e⟩ | h | ⟨p, xs, h, e⟩
  · exact .inl h
  · exact .inr (.inl h)
  · exact .inr (.inr (.inl h))
  · exact .inr (.inr (.inr (.inl h)))
  · exact .inr (.inr (.inr (.inr (.inl ⟨p, xs, h, l _ _ e⟩))))
  · exact .inr (.inr (.inr (.inr (.inr (.inl h)))))
  · exact .inr (.inr (.inr (.inr (.inr (.inr ⟨p, xs, h, l _ _ e⟩)))))
theorem whole_no {e : Env} {G : HD} {d : D} {Q : Post} {E : DX} {ty : String} (ht : tyD G d = some (.inl ty)) (hi : isiB ty "int" = some false) (hQ : Q (.bl false) G) : w_is_whole e [d] G Q E := by
  have h1 : ∀ Q : Post, rIsiD e.ic [d, .ty "int"] G Q = Q (.bl false) G := fun Q => by
    simp only [rIsiD, ht, hi]
  unfold w_is_whole
  simp only [q_wpf, q_seq, q_set, q_ret, q_retN, q_if, q_drop, r_unp', r_par, q_next, q_brk, q_cont, q_for, sWhile, q_sub, sAug, q_rng1, r_rng1P, jRng2, q_jseq, r_seqT, r_seqK, r_seqR, r_seqL, r_ownP, q_op, r_var, r_varS, q_c, q_cons, q_nil, q_cb, q_tup, q_lst, r_test, r_tru, q_not, q_and, q_or, r_andV, r_orV, r_notV, q_if', q_un, q_call, q_slice, q_some, q_none, r_intP, r_chn, r_chnT, r_link, r_last, q_lc, q_yes, q_make, r_nonP, q_fldg, r_eqT2, r_set0, r_set1, q_put1, q_putN, r_blP, r_boolP, r_unpP, r_parP, r_opt, r_pick, r_add, r_addT, r_addR, r_addL, r_sub, r_mul, r_div, r_mod, r_pow, r_cmp, r_lt, r_neg, r_isN, r_isNr, r_isNi, r_isNn, r_isNt, r_eqI, r_ixT, r_ixK, r_ixR, r_lstOf, r_sliT, r_sliK, r_sliR, r_sliL, r_truB, r_truI, r_truT, r_truN, r_truR, r_truL, r_max, r_min, r_intB, r_intI, r_abs, r_lenT, r_lenK, r_lenR, r_lenL, r_nat, r_set, r_setL, r_isI, r_isB, r_isT, r_fld, r_fldR, r_fldI, r_sfd, r_sfdR, r_sfdI, r_met, r_metR, r_met1, atI0, atI1, atI2, atI3, atI4, ixN1a, ixN2a, ixN2b, ixN3a, ixN3b, ixN3c, put_same, List.map_cons, List.map_nil, List.length_cons, List.length_nil, List.length_set, List.replicate, List.cons_append, List.nil_append, List.append_nil, List.getElem?_cons_zero, List.getElem?_cons_succ, List.set_cons_zero, List.set_cons_succ, true_and, and_true, Option.some.injEq, if_true, if_false, ite_true, ite_false, reduceIte, Bool.not_true, Bool.not_false, Bool.false_eq_true, Nat.reduceAdd, Nat.reduceLeDiff, h1]
  exact fg_in hQ
theorem whole_bl {e : Env} {G : HD} {Q : Post} {E : DX} (hQ : Q (.bl false) G) : w_is_whole e [.bl true] G Q E := by
  have h1 : ∀ Q : Post, rIsiD e.ic [.bl true, .ty "int"] G Q = Q (.bl true) G := fun Q => rfl
  have h2 : ∀ Q : Post, rIsiD e.ic [.bl true, .ty "bool"] G Q = Q (.bl true) G := fun Q => rfl
  unfold w_is_whole
  simp only [q_wpf, q_seq, q_set, q_ret, q_retN, q_if, q_drop, r_unp', r_par, q_next, q_brk, q_cont, q_for, sWhile, q_sub, sAug, q_rng1, r_rng1P, jRng2, q_jseq, r_seqT, r_seqK, r_seqR, r_seqL, r_ownP, q_op, r_var, r_varS, q_c, q_cons, q_nil, q_cb, q_tup, q_lst, r_test, r_tru, q_not, q_and, q_or, r_andV, r_orV, r_notV, q_if', q_un, q_call, q_slice, q_some, q_none, r_intP, r_chn, r_chnT, r_link, r_last, q_lc, q_yes, q_make, r_nonP, q_fldg, r_eqT2, r_set0, r_set1, q_put1, q_putN, r_blP, r_boolP, r_unpP, r_parP, r_opt, r_pick, r_add, r_addT, r_addR, r_addL, r_sub, r_mul, r_div, r_mod, r_pow, r_cmp, r_lt, r_neg, r_isN, r_isNr, r_isNi, r_isNn, r_isNt, r_eqI, r_ixT, r_ixK, r_ixR, r_lstOf, r_sliT, r_sliK, r_sliR, r_sliL, r_truB, r_truI, r_truT, r_truN, r_truR, r_truL, r_max, r_min, r_intB, r_intI, r_abs, r_lenT, r_lenK, r_lenR, r_lenL, r_nat, r_set, r_setL, r_isI, r_isB, r_isT, r_fld, r_fldR, r_fldI, r_sfd, r_sfdR, r_sfdI, r_met, r_metR, r_met1, atI0, atI1, atI2, atI3, atI4, ixN1a, ixN2a, ixN2b, ixN3a, ixN3b, ixN3c, put_same, List.map_cons, List.map_nil, List.length_cons, List.length_nil, List.length_set, List.replicate, List.cons_append, List.nil_append, List.append_nil, List.getElem?_cons_zero, List.getElem?_cons_succ, List.set_cons_zero, List.set_cons_succ, true_and, and_true, Option.some.injEq, if_true, if_false, ite_true, ite_false, reduceIte, Bool.not_true, Bool.not_false, Bool.false_eq_true, Nat.reduceAdd, Nat.reduceLeDiff, h1, h2]
  exact fg_in hQ
theorem look_no {e : Env} {G : HD} {d : D} {Q : Post} {E : DX} (h : Odd G d) (hE : E (.ref e.C_NoNumber) [] G) : w_look_at_ticks e [d] G Q E := by
  have hx : fgX E (.ref e.C_NoNumber) [] G := ⟨G, Le.refl _, hE⟩
  unfold w_look_at_ticks
  rcases h with rfl | rfl | rfl | ⟨x, rfl⟩ | ⟨p, xs, rfl, h⟩ | ⟨xs, rfl⟩ | ⟨p, xs, rfl, h⟩
  · simp only [q_wpf, q_seq, q_set, q_ret, q_retN, q_if, q_drop, r_unp', r_par, q_next, q_brk, q_cont, q_for, sWhile, q_sub, sAug, q_rng1, r_rng1P, jRng2, q_jseq, r_seqT, r_seqK, r_seqR, r_seqL, r_ownP, q_op, r_var, r_varS, q_c, q_cons, q_nil, q_cb, q_tup, q_lst, r_test, r_tru, q_not, q_and, q_or, r_andV, r_orV, r_notV, q_if', q_un, q_call, q_slice, q_some, q_none, r_intP, r_chn, r_chnT, r_link, r_last, q_lc, q_yes, q_make, r_nonP, q_fldg, r_eqT2, r_set0, r_set1, q_put1, q_putN, r_blP, r_boolP, r_unpP, r_parP, r_opt, r_pick, r_add, r_addT, r_addR, r_addL, r_sub, r_mul, r_div, r_mod, r_pow, r_cmp, r_lt, r_neg, r_isN, r_isNr, r_isNi, r_isNn, r_isNt, r_eqI, r_ixT, r_ixK, r_ixR, r_lstOf, r_sliT, r_sliK, r_sliR, r_sliL, r_truB, r_truI, r_truT, r_truN, r_truR, r_truL, r_max, r_min, r_intB, r_intI, r_abs, r_lenT, r_lenK, r_lenR, r_lenL, r_nat, r_set, r_setL, r_isI, r_isB, r_isT, r_fld, r_fldR, r_fldI, r_sfd, r_sfdR, r_sfdI, r_met, r_metR, r_met1, atI0, atI1, atI2, atI3, atI4, ixN1a, ixN2a, ixN2b, ixN3a, ixN3b, ixN3c, put_same, List.map_cons, List.map_nil, List.length_cons, List.length_nil, List.length_set, List.replicate, List.cons_append, List.nil_append, List.append_nil, List.getElem?_cons_zero, List.getElem?_cons_succ, List.set_cons_zero, List.set_cons_succ, true_and, and_true, Option.some.injEq, if_true, if_false, ite_true, ite_false, reduceIte, Bool.not_true, Bool.not_false, Bool.false_eq_true, Nat.reduceAdd, Nat.reduceLeDiff, q_raise]
    refine whole_ok ?_
    simp only [q_wpf, q_seq, q_set, q_ret, q_retN, q_if, q_drop, r_unp', r_par, q_next, q_brk, q_cont, q_for, sWhile, q_sub, sAug, q_rng1, r_rng1P, jRng2, q_jseq, r_seqT, r_seqK, r_seqR, r_seqL, r_ownP, q_op, r_var, r_varS, q_c, q_cons, q_nil, q_cb, q_tup, q_lst, r_test, r_tru, q_not, q_and, q_or, r_andV, r_orV, r_notV, q_if', q_un, q_call, q_slice, q_some, q_none, r_intP, r_chn, r_chnT, r_link, r_last, q_lc, q_yes, q_make, r_nonP, q_fldg, r_eqT2, r_set0, r_set1, q_put1, q_putN, r_blP, r_boolP, r_unpP, r_parP, r_opt, r_pick, r_add, r_addT, r_addR, r_addL, r_sub, r_mul, r_div, r_mod, r_pow, r_cmp, r_lt, r_neg, r_isN, r_isNr, r_isNi, r_isNn, r_isNt, r_eqI, r_ixT, r_ixK, r_ixR, r_lstOf, r_sliT, r_sliK, r_sliR, r_sliL, r_truB, r_truI, r_truT, r_truN, r_truR, r_truL, r_max, r_min, r_intB, r_intI, r_abs, r_lenT, r_lenK, r_lenR, r_lenL, r_nat, r_set, r_setL, r_isI, r_isB, r_isT, r_fld, r_fldR, r_fldI, r_sfd, r_sfdR, r_sfdI, r_met, r_metR, r_met1, atI0, atI1, atI2, atI3, atI4, ixN1a, ixN2a, ixN2b, ixN3a, ixN3b, ixN3c, put_same, List.map_cons, List.map_nil, List.length_cons, List.length_nil, List.length_set, List.replicate, List.cons_append, List.nil_append, List.append_nil, List.getElem?_cons_zero, List.getElem?_cons_succ, List.set_cons_zero, List.set_cons_succ, true_and, and_true, Option.some.injEq, if_true, if_false, ite_true, ite_false, reduceIte, Bool.not_true, Bool.not_false, Bool.false_eq_true, Nat.reduceAdd, Nat.reduceLeDiff, q_raise, show ((-1 : Int) < 0) by omega, decide_true]
    exact hx
  · simp only [q_wpf, q_seq, q_set, q_ret, q_retN, q_if, q_drop, r_unp', r_par, q_next, q_brk, q_cont, q_for, sWhile, q_sub, sAug, q_rng1, r_rng1P, jRng2, q_jseq, r_seqT, r_seqK, r_seqR, r_seqL, r_ownP, q_op, r_var, r_varS, q_c, q_cons, q_nil, q_cb, q_tup, q_lst, r_test, r_tru, q_not, q_and, q_or, r_andV, r_orV, r_notV, q_if', q_un, q_call, q_slice, q_some, q_none, r_intP, r_chn, r_chnT, r_link, r_last, q_lc, q_yes, q_make, r_nonP, q_fldg, r_eqT2, r_set0, r_set1, q_put1, q_putN, r_blP, r_boolP, r_unpP, r_parP, r_opt, r_pick, r_add, r_addT, r_addR, r_addL, r_sub, r_mul, r_div, r_mod, r_pow, r_cmp, r_lt, r_neg, r_isN, r_isNr, r_isNi, r_isNn, r_isNt, r_eqI, r_ixT, r_ixK, r_ixR, r_lstOf, r_sliT, r_sliK, r_sliR, r_sliL, r_truB, r_truI, r_truT, r_truN, r_truR, r_truL, r_max, r_min, r_intB, r_intI, r_abs, r_lenT, r_lenK, r_lenR, r_lenL, r_nat, r_set, r_setL, r_isI, r_isB, r_isT, r_fld, r_fldR, r_fldI, r_sfd, r_sfdR, r_sfdI, r_met, r_metR, r_met1, atI0, atI1, atI2, atI3, atI4, ixN1a, ixN2a, ixN2b, ixN3a, ixN3b, ixN3c, put_same, List.map_cons, List.map_nil, List.length_cons, List.length_nil, List.length_set, List.replicate, List.cons_append, List.nil_append, List.append_nil, List.getElem?_cons_zero, List.getElem?_cons_succ, List.set_cons_zero, List.set_cons_succ, true_and, and_true, Option.some.injEq, if_true, if_false, ite_true, ite_false, reduceIte, Bool.not_true, Bool.not_false, Bool.false_eq_true, Nat.reduceAdd, Nat.reduceLeDiff, q_raise]
    refine whole_no (ty := "NoneType") rfl (by decide) ?_
    simp only [q_wpf, q_seq, q_set, q_ret, q_retN, q_if, q_drop, r_unp', r_par, q_next, q_brk, q_cont, q_for, sWhile, q_sub, sAug, q_rng1, r_rng1P, jRng2, q_jseq, r_seqT, r_seqK, r_seqR, r_seqL, r_ownP, q_op, r_var, r_varS, q_c, q_cons, q_nil, q_cb, q_tup, q_lst, r_test, r_tru, q_not, q_and, q_or, r_andV, r_orV, r_notV, q_if', q_un, q_call, q_slice, q_some, q_none, r_intP, r_chn, r_chnT, r_link, r_last, q_lc, q_yes, q_make, r_nonP, q_fldg, r_eqT2, r_set0, r_set1, q_put1, q_putN, r_blP, r_boolP, r_unpP, r_parP, r_opt, r_pick, r_add, r_addT, r_addR, r_addL, r_sub, r_mul, r_div, r_mod, r_pow, r_cmp, r_lt, r_neg, r_isN, r_isNr, r_isNi, r_isNn, r_isNt, r_eqI, r_ixT, r_ixK, r_ixR, r_lstOf, r_sliT, r_sliK, r_sliR, r_sliL, r_truB, r_truI, r_truT, r_truN, r_truR, r_truL, r_max, r_min, r_intB, r_intI, r_abs, r_lenT, r_lenK, r_lenR, r_lenL, r_nat, r_set, r_setL, r_isI, r_isB, r_isT, r_fld, r_fldR, r_fldI, r_sfd, r_sfdR, r_sfdI, r_met, r_metR, r_met1, atI0, atI1, atI2, atI3, atI4, ixN1a, ixN2a, ixN2b, ixN3a, ixN3b, ixN3c, put_same, List.map_cons, List.map_nil, List.length_cons, List.length_nil, List.length_set, List.replicate, List.cons_append, List.nil_append, List.append_nil, List.getElem?_cons_zero, List.getElem?_cons_succ, List.set_cons_zero, List.set_cons_succ, true_and, and_true, Option.some.injEq, if_true, if_false, ite_true, ite_false, reduceIte, Bool.not_true, Bool.not_false, Bool.false_eq_true, Nat.reduceAdd, Nat.reduceLeDiff, q_raise]
    exact hx
  · simp only [q_wpf, q_seq, q_set, q_ret, q_retN, q_if, q_drop, r_unp', r_par, q_next, q_brk, q_cont, q_for, sWhile, q_sub, sAug, q_rng1, r_rng1P, jRng2, q_jseq, r_seqT, r_seqK, r_seqR, r_seqL, r_ownP, q_op, r_var, r_varS, q_c, q_cons, q_nil, q_cb, q_tup, q_lst, r_test, r_tru, q_not, q_and, q_or, r_andV, r_orV, r_notV, q_if', q_un, q_call, q_slice, q_some, q_none, r_intP, r_chn, r_chnT, r_link, r_last, q_lc, q_yes, q_make, r_nonP, q_fldg, r_eqT2, r_set0, r_set1, q_put1, q_putN, r_blP, r_boolP, r_unpP, r_parP, r_opt, r_pick, r_add, r_addT, r_addR, r_addL, r_sub, r_mul, r_div, r_mod, r_pow, r_cmp, r_lt, r_neg, r_isN, r_isNr, r_isNi, r_isNn, r_isNt, r_eqI, r_ixT, r_ixK, r_ixR, r_lstOf, r_sliT, r_sliK, r_sliR, r_sliL, r_truB, r_truI, r_truT, r_truN, r_truR, r_truL, r_max, r_min, r_intB, r_intI, r_abs, r_lenT, r_lenK, r_lenR, r_lenL, r_nat, r_set, r_setL, r_isI, r_isB, r_isT, r_fld, r_fldR, r_fldI, r_sfd, r_sfdR, r_sfdI, r_met, r_metR, r_met1, atI0, atI1, atI2, atI3, atI4, ixN1a, ixN2a, ixN2b, ixN3a, ixN3b, ixN3c, put_same, List.map_cons, List.map_nil, List.length_cons, List.length_nil, List.length_set, List.replicate, List.cons_append, List.nil_append, List.append_nil, List.getElem?_cons_zero, List.getElem?_cons_succ, List.set_cons_zero, List.set_cons_succ, true_and, and_true, Option.some.injEq, if_true, if_false, ite_true, ite_false, reduceIte, Bool.not_true, Bool.not_false, Bool.false_eq_true, Nat.reduceAdd, Nat.reduceLeDiff, q_raise]
    refine whole_bl ?_
    simp only [q_wpf, q_seq, q_set, q_ret, q_retN, q_if, q_drop, r_unp', r_par, q_next, q_brk, q_cont, q_for, sWhile, q_sub, sAug, q_rng1, r_rng1P, jRng2, q_jseq, r_seqT, r_seqK, r_seqR, r_seqL, r_ownP, q_op, r_var, r_varS, q_c, q_cons, q_nil, q_cb, q_tup, q_lst, r_test, r_tru, q_not, q_and, q_or, r_andV, r_orV, r_notV, q_if', q_un, q_call, q_slice, q_some, q_none, r_intP, r_chn, r_chnT, r_link, r_last, q_lc, q_yes, q_make, r_nonP, q_fldg, r_eqT2, r_set0, r_set1, q_put1, q_putN, r_blP, r_boolP, r_unpP, r_parP, r_opt, r_pick, r_add, r_addT, r_addR, r_addL, r_sub, r_mul, r_div, r_mod, r_pow, r_cmp, r_lt, r_neg, r_isN, r_isNr, r_isNi, r_isNn, r_isNt, r_eqI, r_ixT, r_ixK, r_ixR, r_lstOf, r_sliT, r_sliK, r_sliR, r_sliL, r_truB, r_truI, r_truT, r_truN, r_truR, r_truL, r_max, r_min, r_intB, r_intI, r_abs, r_lenT, r_lenK, r_lenR, r_lenL, r_nat, r_set, r_setL, r_isI, r_isB, r_isT, r_fld, r_fldR, r_fldI, r_sfd, r_sfdR, r_sfdI, r_met, r_metR, r_met1, atI0, atI1, atI2, atI3, atI4, ixN1a, ixN2a, ixN2b, ixN3a, ixN3b, ixN3c, put_same, List.map_cons, List.map_nil, List.length_cons, List.length_nil, List.length_set, List.replicate, List.cons_append, List.nil_append, List.append_nil, List.getElem?_cons_zero, List.getElem?_cons_succ, List.set_cons_zero, List.set_cons_succ, true_and, and_true, Option.some.injEq, if_true, if_false, ite_true, ite_false, reduceIte, Bool.not_true, Bool.not_false, Bool.false_eq_true, Nat.reduceAdd, Nat.reduceLeDiff, q_raise]
    exact hx
  · simp only [q_wpf, q_seq, q_set, q_ret, q_retN, q_if, q_drop, r_unp', r_par, q_next, q_brk, q_cont, q_for, sWhile, q_sub, sAug, q_rng1, r_rng1P, jRng2, q_jseq, r_seqT, r_seqK, r_seqR, r_seqL, r_ownP, q_op, r_var, r_varS, q_c, q_cons, q_nil, q_cb, q_tup, q_lst, r_test, r_tru, q_not, q_and, q_or, r_andV, r_orV, r_notV, q_if', q_un, q_call, q_slice, q_some, q_none, r_intP, r_chn, r_chnT, r_link, r_last, q_lc, q_yes, q_make, r_nonP, q_fldg, r_eqT2, r_set0, r_set1, q_put1, q_putN, r_blP, r_boolP, r_unpP, r_parP, r_opt, r_pick, r_add, r_addT, r_addR, r_addL, r_sub, r_mul, r_div, r_mod, r_pow, r_cmp, r_lt, r_neg, r_isN, r_isNr, r_isNi, r_isNn, r_isNt, r_eqI, r_ixT, r_ixK, r_ixR, r_lstOf, r_sliT, r_sliK, r_sliR, r_sliL, r_truB, r_truI, r_truT, r_truN, r_truR, r_truL, r_max, r_min, r_intB, r_intI, r_abs, r_lenT, r_lenK, r_lenR, r_lenL, r_nat, r_set, r_setL, r_isI, r_isB, r_isT, r_fld, r_fldR, r_fldI, r_sfd, r_sfdR, r_sfdI, r_met, r_metR, r_met1, atI0, atI1, atI2, atI3, atI4, ixN1a, ixN2a, ixN2b, ixN3a, ixN3b, ixN3c, put_same, List.map_cons, List.map_nil, List.length_cons, List.length_nil, List.length_set, List.replicate, List.cons_append, List.nil_append, List.append_nil, List.getElem?_cons_zero, List.getElem?_cons_succ, List.set_cons_zero, List.set_cons_succ, true_and, and_true, Option.some.injEq, if_true, if_false, ite_true, ite_false, reduceIte, Bool.not_true, Bool.not_false, Bool.false_eq_true, Nat.reduceAdd, Nat.reduceLeDiff, q_raise]
    refine whole_no (ty := "str") rfl (by decide) ?_
    simp only [q_wpf, q_seq, q_set, q_ret, q_retN, q_if, q_drop, r_unp', r_par, q_next, q_brk, q_cont, q_for, sWhile, q_sub, sAug, q_rng1, r_rng1P, jRng2, q_jseq, r_seqT, r_seqK, r_seqR, r_seqL, r_ownP, q_op, r_var, r_varS, q_c, q_cons, q_nil, q_cb, q_tup, q_lst, r_test, r_tru, q_not, q_and, q_or, r_andV, r_orV, r_notV, q_if', q_un, q_call, q_slice, q_some, q_none, r_intP, r_chn, r_chnT, r_link, r_last, q_lc, q_yes, q_make, r_nonP, q_fldg, r_eqT2, r_set0, r_set1, q_put1, q_putN, r_blP, r_boolP, r_unpP, r_parP, r_opt, r_pick, r_add, r_addT, r_addR, r_addL, r_sub, r_mul, r_div, r_mod, r_pow, r_cmp, r_lt, r_neg, r_isN, r_isNr, r_isNi, r_isNn, r_isNt, r_eqI, r_ixT, r_ixK, r_ixR, r_lstOf, r_sliT, r_sliK, r_sliR, r_sliL, r_truB, r_truI, r_truT, r_truN, r_truR, r_truL, r_max, r_min, r_intB, r_intI, r_abs, r_lenT, r_lenK, r_lenR, r_lenL, r_nat, r_set, r_setL, r_isI, r_isB, r_isT, r_fld, r_fldR, r_fldI, r_sfd, r_sfdR, r_sfdI, r_met, r_metR, r_met1, atI0, atI1, atI2, atI3, atI4, ixN1a, ixN2a, ixN2b, ixN3a, ixN3b, ixN3c, put_same, List.map_cons, List.map_nil, List.length_cons, List.length_nil, List.length_set, List.replicate, List.cons_append, List.nil_append, List.append_nil, List.getElem?_cons_zero, List.getElem?_cons_succ, List.set_cons_zero, List.set_cons_succ, true_and, and_true, Option.some.injEq, if_true, if_false, ite_true, ite_false, reduceIte, Bool.not_true, Bool.not_false, Bool.false_eq_true, Nat.reduceAdd, Nat.reduceLeDiff, q_raise]
    exact hx
  · simp only [q_wpf, q_seq, q_set, q_ret, q_retN, q_if, q_drop, r_unp', r_par, q_next, q_brk, q_cont, q_for, sWhile, q_sub, sAug, q_rng1, r_rng1P, jRng2, q_jseq, r_seqT, r_seqK, r_seqR, r_seqL, r_ownP, q_op, r_var, r_varS, q_c, q_cons, q_nil, q_cb, q_tup, q_lst, r_test, r_tru, q_not, q_and, q_or, r_andV, r_orV, r_notV, q_if', q_un, q_call, q_slice, q_some, q_none, r_intP, r_chn, r_chnT, r_link, r_last, q_lc, q_yes, q_make, r_nonP, q_fldg, r_eqT2, r_set0, r_set1, q_put1, q_putN, r_blP, r_boolP, r_unpP, r_parP, r_opt, r_pick, r_add, r_addT, r_addR, r_addL, r_sub, r_mul, r_div, r_mod, r_pow, r_cmp, r_lt, r_neg, r_isN, r_isNr, r_isNi, r_isNn, r_isNt, r_eqI, r_ixT, r_ixK, r_ixR, r_lstOf, r_sliT, r_sliK, r_sliR, r_sliL, r_truB, r_truI, r_truT, r_truN, r_truR, r_truL, r_max, r_min, r_intB, r_intI, r_abs, r_lenT, r_lenK, r_lenR, r_lenL, r_nat, r_set, r_setL, r_isI, r_isB, r_isT, r_fld, r_fldR, r_fldI, r_sfd, r_sfdR, r_sfdI, r_met, r_metR, r_met1, atI0, atI1, atI2, atI3, atI4, ixN1a, ixN2a, ixN2b, ixN3a, ixN3b, ixN3c, put_same, List.map_cons, List.map_nil, List.length_cons, List.length_nil, List.length_set, List.replicate, List.cons_append, List.nil_append, List.append_nil, List.getElem?_cons_zero, List.getElem?_cons_succ, List.set_cons_zero, List.set_cons_succ, true_and, and_true, Option.some.injEq, if_true, if_false, ite_true, ite_false, reduceIte, Bool.not_true, Bool.not_false, Bool.false_eq_true, Nat.reduceAdd, Nat.reduceLeDiff, q_raise]
    refine whole_no (ty := "list") (by simp only [tyD, h]) (by decide) ?_
    simp only [q_wpf, q_seq, q_set, q_ret, q_retN, q_if, q_drop, r_unp', r_par, q_next, q_brk, q_cont, q_for, sWhile, q_sub, sAug, q_rng1, r_rng1P, jRng2, q_jseq, r_seqT, r_seqK, r_seqR, r_seqL, r_ownP, q_op, r_var, r_varS, q_c, q_cons, q_nil, q_cb, q_tup, q_lst, r_test, r_tru, q_not, q_and, q_or, r_andV, r_orV, r_notV, q_if', q_un, q_call, q_slice, q_some, q_none, r_intP, r_chn, r_chnT, r_link, r_last, q_lc, q_yes, q_make, r_nonP, q_fldg, r_eqT2, r_set0, r_set1, q_put1, q_putN, r_blP, r_boolP, r_unpP, r_parP, r_opt, r_pick, r_add, r_addT, r_addR, r_addL, r_sub, r_mul, r_div, r_mod, r_pow, r_cmp, r_lt, r_neg, r_isN, r_isNr, r_isNi, r_isNn, r_isNt, r_eqI, r_ixT, r_ixK, r_ixR, r_lstOf, r_sliT, r_sliK, r_sliR, r_sliL, r_truB, r_truI, r_truT, r_truN, r_truR, r_truL, r_max, r_min, r_intB, r_intI, r_abs, r_lenT, r_lenK, r_lenR, r_lenL, r_nat, r_set, r_setL, r_isI, r_isB, r_isT, r_fld, r_fldR, r_fldI, r_sfd, r_sfdR, r_sfdI, r_met, r_metR, r_met1, atI0, atI1, atI2, atI3, atI4, ixN1a, ixN2a, ixN2b, ixN3a, ixN3b, ixN3c, put_same, List.map_cons, List.map_nil, List.length_cons, List.length_nil, List.length_set, List.replicate, List.cons_append, List.nil_append, List.append_nil, List.getElem?_cons_zero, List.getElem?_cons_succ, List.set_cons_zero, List.set_cons_succ, true_and, and_true, Option.some.injEq, if_true, if_false, ite_true, ite_false, reduceIte, Bool.not_true, Bool.not_false, Bool.false_eq_true, Nat.reduceAdd, Nat.reduceLeDiff, q_raise]
    exact hx
  · simp only [q_wpf, q_seq, q_set, q_ret, q_retN, q_if, q_drop, r_unp', r_par, q_next, q_brk, q_cont, q_for, sWhile, q_sub, sAug, q_rng1, r_rng1P, jRng2, q_jseq, r_seqT, r_seqK, r_seqR, r_seqL, r_ownP, q_op, r_var, r_varS, q_c, q_cons, q_nil, q_cb, q_tup, q_lst, r_test, r_tru, q_not, q_and, q_or, r_andV, r_orV, r_notV, q_if', q_un, q_call, q_slice, q_some, q_none, r_intP, r_chn, r_chnT, r_link, r_last, q_lc, q_yes, q_make, r_nonP, q_fldg, r_eqT2, r_set0, r_set1, q_put1, q_putN, r_blP, r_boolP, r_unpP, r_parP, r_opt, r_pick, r_add, r_addT, r_addR, r_addL, r_sub, r_mul, r_div, r_mod, r_pow, r_cmp, r_lt, r_neg, r_isN, r_isNr, r_isNi, r_isNn, r_isNt, r_eqI, r_ixT, r_ixK, r_ixR, r_lstOf, r_sliT, r_sliK, r_sliR, r_sliL, r_truB, r_truI, r_truT, r_truN, r_truR, r_truL, r_max, r_min, r_intB, r_intI, r_abs, r_lenT, r_lenK, r_lenR, r_lenL, r_nat, r_set, r_setL, r_isI, r_isB, r_isT, r_fld, r_fldR, r_fldI, r_sfd, r_sfdR, r_sfdI, r_met, r_metR, r_met1, atI0, atI1, atI2, atI3, atI4, ixN1a, ixN2a, ixN2b, ixN3a, ixN3b, ixN3c, put_same, List.map_cons, List.map_nil, List.length_cons, List.length_nil, List.length_set, List.replicate, List.cons_append, List.nil_append, List.append_nil, List.getElem?_cons_zero, List.getElem?_cons_succ, List.set_cons_zero, List.set_cons_succ, true_and, and_true, Option.some.injEq, if_true, if_false, ite_true, ite_false, reduceIte, Bool.not_true, Bool.not_false, Bool.false_eq_true, Nat.reduceAdd, Nat.reduceLeDiff, q_raise]
    refine whole_no (ty := "tuple") rfl (by decide) ?_
    simp only [q_wpf, q_seq, q_set, q_ret, q_retN, q_if, q_drop, r_unp', r_par, q_next, q_brk, q_cont, q_for, sWhile, q_sub, sAug, q_rng1, r_rng1P, jRng2, q_jseq, r_seqT, r_seqK, r_seqR, r_seqL, r_ownP, q_op, r_var, r_varS, q_c, q_cons, q_nil, q_cb, q_tup, q_lst, r_test, r_tru, q_not, q_and, q_or, r_andV, r_orV, r_notV, q_if', q_un, q_call, q_slice, q_some, q_none, r_intP, r_chn, r_chnT, r_link, r_last, q_lc, q_yes, q_make, r_nonP, q_fldg, r_eqT2, r_set0, r_set1, q_put1, q_putN, r_blP, r_boolP, r_unpP, r_parP, r_opt, r_pick, r_add, r_addT, r_addR, r_addL, r_sub, r_mul, r_div, r_mod, r_pow, r_cmp, r_lt, r_neg, r_isN, r_isNr, r_isNi, r_isNn, r_isNt, r_eqI, r_ixT, r_ixK, r_ixR, r_lstOf, r_sliT, r_sliK, r_sliR, r_sliL, r_truB, r_truI, r_truT, r_truN, r_truR, r_truL, r_max, r_min, r_intB, r_intI, r_abs, r_lenT, r_lenK, r_lenR, r_lenL, r_nat, r_set, r_setL, r_isI, r_isB, r_isT, r_fld, r_fldR, r_fldI, r_sfd, r_sfdR, r_sfdI, r_met, r_metR, r_met1, atI0, atI1, atI2, atI3, atI4, ixN1a, ixN2a, ixN2b, ixN3a, ixN3b, ixN3c, put_same, List.map_cons, List.map_nil, List.length_cons, List.length_nil, List.length_set, List.replicate, List.cons_append, List.nil_append, List.append_nil, List.getElem?_cons_zero, List.getElem?_cons_succ, List.set_cons_zero, List.set_cons_succ, true_and, and_true, Option.some.injEq, if_true, if_false, ite_true, ite_false, reduceIte, Bool.not_true, Bool.not_false, Bool.false_eq_true, Nat.reduceAdd, Nat.reduceLeDiff, q_raise]
    exact hx
  · simp only [q_wpf, q_seq, q_set, q_ret, q_retN, q_if, q_drop, r_unp', r_par, q_next, q_brk, q_cont, q_for, sWhile, q_sub, sAug, q_rng1, r_rng1P, jRng2, q_jseq, r_seqT, r_seqK, r_seqR, r_seqL, r_ownP, q_op, r_var, r_varS, q_c, q_cons, q_nil, q_cb, q_tup, q_lst, r_test, r_tru, q_not, q_and, q_or, r_andV, r_orV, r_notV, q_if', q_un, q_call, q_slice, q_some, q_none, r_intP, r_chn, r_chnT, r_link, r_last, q_lc, q_yes, q_make, r_nonP, q_fldg, r_eqT2, r_set0, r_set1, q_put1, q_putN, r_blP, r_boolP, r_unpP, r_parP, r_opt, r_pick, r_add, r_addT, r_addR, r_addL, r_sub, r_mul, r_div, r_mod, r_pow, r_cmp, r_lt, r_neg, r_isN, r_isNr, r_isNi, r_isNn, r_isNt, r_eqI, r_ixT, r_ixK, r_ixR, r_lstOf, r_sliT, r_sliK, r_sliR, r_sliL, r_truB, r_truI, r_truT, r_truN, r_truR, r_truL, r_max, r_min, r_intB, r_intI, r_abs, r_lenT, r_lenK, r_lenR, r_lenL, r_nat, r_set, r_setL, r_isI, r_isB, r_isT, r_fld, r_fldR, r_fldI, r_sfd, r_sfdR, r_sfdI, r_met, r_metR, r_met1, atI0, atI1, atI2, atI3, atI4, ixN1a, ixN2a, ixN2b, ixN3a, ixN3b, ixN3c, put_same, List.map_cons, List.map_nil, List.length_cons, List.length_nil, List.length_set, List.replicate, List.cons_append, List.nil_append, List.append_nil, List.getElem?_cons_zero, List.getElem?_cons_succ, List.set_cons_zero, List.set_cons_succ, true_and, and_true, Option.some.injEq, if_true, if_false, ite_true, ite_false, reduceIte, Bool.not_true, Bool.not_false, Bool.false_eq_true, Nat.reduceAdd, Nat.reduceLeDiff, q_raise]
    refine whole_no (ty := "dict") (by simp only [tyD, h]) (by decide) ?_
    simp only [q_wpf, q_seq, q_set, q_ret, q_retN, q_if, q_drop, r_unp', r_par, q_next, q_brk, q_cont, q_for, sWhile, q_sub, sAug, q_rng1, r_rng1P, jRng2, q_jseq, r_seqT, r_seqK, r_seqR, r_seqL, r_ownP, q_op, r_var, r_varS, q_c, q_cons, q_nil, q_cb, q_tup, q_lst, r_test, r_tru, q_not, q_and, q_or, r_andV, r_orV, r_notV, q_if', q_un, q_call, q_slice, q_some, q_none, r_intP, r_chn, r_chnT, r_link, r_last, q_lc, q_yes, q_make, r_nonP, q_fldg, r_eqT2, r_set0, r_set1, q_put1, q_putN, r_blP, r_boolP, r_unpP, r_parP, r_opt, r_pick, r_add, r_addT, r_addR, r_addL, r_sub, r_mul, r_div, r_mod, r_pow, r_cmp, r_lt, r_neg, r_isN, r_isNr, r_isNi, r_isNn, r_isNt, r_eqI, r_ixT, r_ixK, r_ixR, r_lstOf, r_sliT, r_sliK, r_sliR, r_sliL, r_truB, r_truI, r_truT, r_truN, r_truR, r_truL, r_max, r_min, r_intB, r_intI, r_abs, r_lenT, r_lenK, r_lenR, r_lenL, r_nat, r_set, r_setL, r_isI, r_isB, r_isT, r_fld, r_fldR, r_fldI, r_sfd, r_sfdR, r_sfdI, r_met, r_metR, r_met1, atI0, atI1, atI2, atI3, atI4, ixN1a, ixN2a, ixN2b, ixN3a, ixN3b, ixN3c, put_same, List.map_cons, List.map_nil, List.length_cons, List.length_nil, List.length_set, List.replicate, List.cons_append, List.nil_append, List.append_nil, List.getElem?_cons_zero, List.getElem?_cons_succ, List.set_cons_zero, List.set_cons_succ, true_and, and_true, Option.some.injEq, if_true, if_false, ite_true, ite_false, reduceIte, Bool.not_true, Bool.not_false, Bool.false_eq_true, Nat.reduceAdd, Nat.reduceLeDiff, q_raise]
    exact hx
theorem least_no {e : Env} {G : HD} {d w : D} {Q : Post} {E : DX} (h : Odd G d) (hE : E (.ref e.C_NoNumber) [] G) : w_least_passed e [d, w] G Q E := by
  unfold w_least_passed
  try simp only [q_wpf, q_seq, q_set, q_ret, q_retN, q_if, q_drop, r_unp', r_par, q_next, q_brk, q_cont, q_for, sWhile, q_sub, sAug, q_rng1, r_rng1P, jRng2, q_jseq, r_seqT, r_seqK, r_seqR, r_seqL, r_ownP, q_op, r_var, r_varS, q_c, q_cons, q_nil, q_cb, q_tup, q_lst, r_test, r_tru, q_not, q_and, q_or, r_andV, r_orV, r_notV, q_if', q_un, q_call, q_slice, q_some, q_none, r_intP, r_chn, r_chnT, r_link, r_last, q_lc, q_yes, q_make, r_nonP, q_fldg, r_eqT2, r_set0, r_set1, q_put1, q_putN, r_blP, r_boolP, r_unpP, r_parP, r_opt, r_pick, r_add, r_addT, r_addR, r_addL, r_sub, r_mul, r_div, r_mod, r_pow, r_cmp, r_lt, r_neg, r_isN, r_isNr, r_isNi, r_isNn, r_isNt, r_eqI, r_ixT, r_ixK, r_ixR, r_lstOf, r_sliT, r_sliK, r_sliR, r_sliL, r_truB, r_truI, r_truT, r_truN, r_truR, r_truL, r_max, r_min, r_intB, r_intI, r_abs, r_lenT, r_lenK, r_lenR, r_lenL, r_nat, r_set, r_setL, r_isI, r_isB, r_isT, r_fld, r_fldR, r_fldI, r_sfd, r_sfdR, r_sfdI, r_met, r_metR, r_met1, atI0, atI1, atI2, atI3, atI4, ixN1a, ixN2a, ixN2b, ixN3a, ixN3b, ixN3c, put_same, List.map_cons, List.map_nil, List.length_cons, List.length_nil, List.length_set, List.replicate, List.cons_append, List.nil_append, List.append_nil, List.getElem?_cons_zero, List.getElem?_cons_succ, List.set_cons_zero, List.set_cons_succ, true_and, and_true, Option.some.injEq, if_true, if_false, ite_true, ite_false, reduceIte, Bool.not_true, Bool.not_false, Bool.false_eq_true, Nat.reduceAdd, Nat.reduceLeDiff]
  exact look_no h ⟨G, Le.refl _, hE⟩
theorem most_no {e : Env} {G : HD} {d w : D} {Q : Post} {E : DX} (h : Odd G d) (hE : E (.ref e.C_NoNumber) [] G) : w_most_passed e [d, w] G Q E := by
  unfold w_most_passed
  try simp only [q_wpf, q_seq, q_set, q_ret, q_retN, q_if, q_drop, r_unp', r_par, q_next, q_brk, q_cont, q_for, sWhile, q_sub, sAug, q_rng1, r_rng1P, jRng2, q_jseq, r_seqT, r_seqK, r_seqR, r_seqL, r_ownP, q_op, r_var, r_varS, q_c, q_cons, q_nil, q_cb, q_tup, q_lst, r_test, r_tru, q_not, q_and, q_or, r_andV, r_orV, r_notV, q_if', q_un, q_call, q_slice, q_some, q_none, r_intP, r_chn, r_chnT, r_link, r_last, q_lc, q_yes, q_make, r_nonP, q_fldg, r_eqT2, r_set0, r_set1, q_put1, q_putN, r_blP, r_boolP, r_unpP, r_parP, r_opt, r_pick, r_add, r_addT, r_addR, r_addL, r_sub, r_mul, r_div, r_mod, r_pow, r_cmp, r_lt, r_neg, r_isN, r_isNr, r_isNi, r_isNn, r_isNt, r_eqI, r_ixT, r_ixK, r_ixR, r_lstOf, r_sliT, r_sliK, r_sliR, r_sliL, r_truB, r_truI, r_truT, r_truN, r_truR, r_truL, r_max, r_min, r_intB, r_intI, r_abs, r_lenT, r_lenK, r_lenR, r_lenL, r_nat, r_set, r_setL, r_isI, r_isB, r_isT, r_fld, r_fldR, r_fldI, r_sfd, r_sfdR, r_sfdI, r_met, r_metR, r_met1, atI0, atI1, atI2, atI3, atI4, ixN1a, ixN2a, ixN2b, ixN3a, ixN3b, ixN3c, put_same, List.map_cons, List.map_nil, List.length_cons, List.length_nil, List.length_set, List.replicate, List.cons_append, List.nil_append, List.append_nil, List.getElem?_cons_zero, List.getElem?_cons_succ, List.set_cons_zero, List.set_cons_succ, true_and, and_true, Option.some.injEq, if_true, if_false, ite_true, ite_false, reduceIte, Bool.not_true, Bool.not_false, Bool.false_eq_true, Nat.reduceAdd, Nat.reduceLeDiff]
  exact look_no h ⟨G, Le.refl _, hE⟩
theorem eq01 {G : HD} {p q : Addr} (h1 : G p = some (.lst [.int 0, .int 1])) (h2 : G q = some (.lst [.int 0, .int 1])) : eqO G (.ref p) (.ref q) = some true := by
  simp only [eqO, pyD, h1, h2, List.mapM_cons, List.mapM_nil]
  rfl
theorem refused_ok {e : Env} {G : HD} {d w : D} {Q : Post} {E : DX} (g : e.Good) (h : Odd G d) (hQ : ∀ G', Le G G' → Q (.bl true) G') : w_law_refused e [d, w] G Q E := by
  unfold w_law_refused
  try simp only [q_wpf, q_seq, q_set, q_ret, q_retN, q_if, q_drop, r_unp', r_par, q_next, q_brk, q_cont, q_for, sWhile, q_sub, sAug, q_rng1, r_rng1P, jRng2, q_jseq, r_seqT, r_seqK, r_seqR, r_seqL, r_ownP, q_op, r_var, r_varS, q_c, q_cons, q_nil, q_cb, q_tup, q_lst, r_test, r_tru, q_not, q_and, q_or, r_andV, r_orV, r_notV, q_if', q_un, q_call, q_slice, q_some, q_none, r_intP, r_chn, r_chnT, r_link, r_last, q_lc, q_yes, q_make, r_nonP, q_fldg, r_eqT2, r_set0, r_set1, q_put1, q_putN, r_blP, r_boolP, r_unpP, r_parP, r_opt, r_pick, r_add, r_addT, r_addR, r_addL, r_sub, r_mul, r_div, r_mod, r_pow, r_cmp, r_lt, r_neg, r_isN, r_isNr, r_isNi, r_isNn, r_isNt, r_eqI, r_ixT, r_ixK, r_ixR, r_lstOf, r_sliT, r_sliK, r_sliR, r_sliL, r_truB, r_truI, r_truT, r_truN, r_truR, r_truL, r_max, r_min, r_intB, r_intI, r_abs, r_lenT, r_lenK, r_lenR, r_lenL, r_nat, r_set, r_setL, r_isI, r_isB, r_isT, r_fld, r_fldR, r_fldI, r_sfd, r_sfdR, r_sfdI, r_met, r_metR, r_met1, atI0, atI1, atI2, atI3, atI4, ixN1a, ixN2a, ixN2b, ixN3a, ixN3b, ixN3c, put_same, List.map_cons, List.map_nil, List.length_cons, List.length_nil, List.length_set, List.replicate, List.cons_append, List.nil_append, List.append_nil, List.getElem?_cons_zero, List.getElem?_cons_succ, List.set_cons_zero, List.set_cons_succ, true_and, and_true, Option.some.injEq, if_true, if_false, ite_true, ite_false, reduceIte, Bool.not_true, Bool.not_false, Bool.false_eq_true, Nat.reduceAdd, Nat.reduceLeDiff]
  refine newL_in fun p G1 hp _ h1 l1 _ => ?_
  try simp only [q_wpf, q_seq, q_set, q_ret, q_retN, q_if, q_drop, r_unp', r_par, q_next, q_brk, q_cont, q_for, sWhile, q_sub, sAug, q_rng1, r_rng1P, jRng2, q_jseq, r_seqT, r_seqK, r_seqR, r_seqL, r_ownP, q_op, r_var, r_varS, q_c, q_cons, q_nil, q_cb, q_tup, q_lst, r_test, r_tru, q_not, q_and, q_or, r_andV, r_orV, r_notV, q_if', q_un, q_call, q_slice, q_some, q_none, r_intP, r_chn, r_chnT, r_link, r_last, q_lc, q_yes, q_make, r_nonP, q_fldg, r_eqT2, r_set0, r_set1, q_put1, q_putN, r_blP, r_boolP, r_unpP, r_parP, r_opt, r_pick, r_add, r_addT, r_addR, r_addL, r_sub, r_mul, r_div, r_mod, r_pow, r_cmp, r_lt, r_neg, r_isN, r_isNr, r_isNi, r_isNn, r_isNt, r_eqI, r_ixT, r_ixK, r_ixR, r_lstOf, r_sliT, r_sliK, r_sliR, r_sliL, r_truB, r_truI, r_truT, r_truN, r_truR, r_truL, r_max, r_min, r_intB, r_intI, r_abs, r_lenT, r_lenK, r_lenR, r_lenL, r_nat, r_set, r_setL, r_isI, r_isB, r_isT, r_fld, r_fldR, r_fldI, r_sfd, r_sfdR, r_sfdI, r_met, r_metR, r_met1, atI0, atI1, atI2, atI3, atI4, ixN1a, ixN2a, ixN2b, ixN3a, ixN3b, ixN3c, put_same, List.map_cons, List.map_nil, List.length_cons, List.length_nil, List.length_set, List.replicate, List.cons_append, List.nil_append, List.append_nil, List.getElem?_cons_zero, List.getElem?_cons_succ, List.set_cons_zero, List.set_cons_succ, true_and, and_true, Option.some.injEq, if_true, if_false, ite_true, ite_false, reduceIte, Bool.not_true, Bool.not_false, Bool.false_eq_true, Nat.reduceAdd, Nat.reduceLeDiff]
  refine ⟨by omega, by omega, ?_⟩
  refine forR_inv (I := fun i σ G' => Le G G' ∧ G' p = some (.lst (intsD 0 i)) ∧ ∃ y, σ = [some d, some w, some (.ref p), y]) (fun _ => trivial) (fun i k σ G' hi hI hk => ?_) (fun σ G' hI => ?_) ⟨l1, h1, _, rfl⟩
  · obtain ⟨l, hpp, y, rfl⟩ := hI
    have hi2 : i < 2 := hi
    have ho := h.le l
    have hend : ∀ x : Int, x = (i : Nat) → dApp (dVar 2) (dCons (dVar 3) dNil) W0 [some d, some w, some (.ref p), some (.int x)] G' fun _ G1 => k [some d, some w, some (.ref p), some (.int x)] G1 := fun x hx => by
      refine q_app rfl rfl hpp (by rw [ints_len]; omega) ?_
      refine hk _ _ ⟨fun b o hb => (put_ne (ne_of hb hp)).trans (l b o hb), ?_, _, rfl⟩
      rw [put_same]
      unfold intsD
      rw [List.range_succ, List.map_append, hx]
      simp
    unfold l_law_refused_1
    simp only [q_try, q_wpf, q_seq, q_set, q_ret, q_retN, q_if, q_drop, r_unp', r_par, q_next, q_brk, q_cont, q_for, sWhile, q_sub, sAug, q_rng1, r_rng1P, jRng2, q_jseq, r_seqT, r_seqK, r_seqR, r_seqL, r_ownP, q_op, r_var, r_varS, q_c, q_cons, q_nil, q_cb, q_tup, q_lst, r_test, r_tru, q_not, q_and, q_or, r_andV, r_orV, r_notV, q_if', q_un, q_call, q_slice, q_some, q_none, r_intP, r_chn, r_chnT, r_link, r_last, q_lc, q_yes, q_make, r_nonP, q_fldg, r_eqT2, r_set0, r_set1, q_put1, q_putN, r_blP, r_boolP, r_unpP, r_parP, r_opt, r_pick, r_add, r_addT, r_addR, r_addL, r_sub, r_mul, r_div, r_mod, r_pow, r_cmp, r_lt, r_neg, r_isN, r_isNr, r_isNi, r_isNn, r_isNt, r_eqI, r_ixT, r_ixK, r_ixR, r_lstOf, r_sliT, r_sliK, r_sliR, r_sliL, r_truB, r_truI, r_truT, r_truN, r_truR, r_truL, r_max, r_min, r_intB, r_intI, r_abs, r_lenT, r_lenK, r_lenR, r_lenL, r_nat, r_set, r_setL, r_isI, r_isB, r_isT, r_fld, r_fldR, r_fldI, r_sfd, r_sfdR, r_sfdI, r_met, r_metR, r_met1, atI0, atI1, atI2, atI3, atI4, ixN1a, ixN2a, ixN2b, ixN3a, ixN3b, ixN3c, put_same, List.map_cons, List.map_nil, List.length_cons, List.length_nil, List.length_set, List.replicate, List.cons_append, List.nil_append, List.append_nil, List.getElem?_cons_zero, List.getElem?_cons_succ, List.set_cons_zero, List.set_cons_succ, true_and, and_true, Option.some.injEq, if_true, if_false, ite_true, ite_false, reduceIte, Bool.not_true, Bool.not_false, Bool.false_eq_true, Nat.reduceAdd, Nat.reduceLeDiff]
    by_cases h0 : i = 0
    · subst h0
      simp only [Int.zero_add, Int.ofNat_zero, Int.cast_ofNat_Int, decide_true, q_wpf, q_seq, q_set, q_ret, q_retN, q_if, q_drop, r_unp', r_par, q_next, q_brk, q_cont, q_for, sWhile, q_sub, sAug, q_rng1, r_rng1P, jRng2, q_jseq, r_seqT, r_seqK, r_seqR, r_seqL, r_ownP, q_op, r_var, r_varS, q_c, q_cons, q_nil, q_cb, q_tup, q_lst, r_test, r_tru, q_not, q_and, q_or, r_andV, r_orV, r_notV, q_if', q_un, q_call, q_slice, q_some, q_none, r_intP, r_chn, r_chnT, r_link, r_last, q_lc, q_yes, q_make, r_nonP, q_fldg, r_eqT2, r_set0, r_set1, q_put1, q_putN, r_blP, r_boolP, r_unpP, r_parP, r_opt, r_pick, r_add, r_addT, r_addR, r_addL, r_sub, r_mul, r_div, r_mod, r_pow, r_cmp, r_lt, r_neg, r_isN, r_isNr, r_isNi, r_isNn, r_isNt, r_eqI, r_ixT, r_ixK, r_ixR, r_lstOf, r_sliT, r_sliK, r_sliR, r_sliL, r_truB, r_truI, r_truT, r_truN, r_truR, r_truL, r_max, r_min, r_intB, r_intI, r_abs, r_lenT, r_lenK, r_lenR, r_lenL, r_nat, r_set, r_setL, r_isI, r_isB, r_isT, r_fld, r_fldR, r_fldI, r_sfd, r_sfdR, r_sfdI, r_met, r_metR, r_met1, atI0, atI1, atI2, atI3, atI4, ixN1a, ixN2a, ixN2b, ixN3a, ixN3b, ixN3c, put_same, List.map_cons, List.map_nil, List.length_cons, List.length_nil, List.length_set, List.replicate, List.cons_append, List.nil_append, List.append_nil, List.getElem?_cons_zero, List.getElem?_cons_succ, List.set_cons_zero, List.set_cons_succ, true_and, and_true, Option.some.injEq, if_true, if_false, ite_true, ite_false, reduceIte, Bool.not_true, Bool.not_false, Bool.false_eq_true, Nat.reduceAdd, Nat.reduceLeDiff]
      exact least_no ho ⟨true, g.xm_NoNumber_NoNumber, fun _ => hend _ (by simp), fun z => by cases z⟩
    · simp only [show ¬ ((0 : Int) + (i : Nat) = 0) by omega, decide_false, q_wpf, q_seq, q_set, q_ret, q_retN, q_if, q_drop, r_unp', r_par, q_next, q_brk, q_cont, q_for, sWhile, q_sub, sAug, q_rng1, r_rng1P, jRng2, q_jseq, r_seqT, r_seqK, r_seqR, r_seqL, r_ownP, q_op, r_var, r_varS, q_c, q_cons, q_nil, q_cb, q_tup, q_lst, r_test, r_tru, q_not, q_and, q_or, r_andV, r_orV, r_notV, q_if', q_un, q_call, q_slice, q_some, q_none, r_intP, r_chn, r_chnT, r_link, r_last, q_lc, q_yes, q_make, r_nonP, q_fldg, r_eqT2, r_set0, r_set1, q_put1, q_putN, r_blP, r_boolP, r_unpP, r_parP, r_opt, r_pick, r_add, r_addT, r_addR, r_addL, r_sub, r_mul, r_div, r_mod, r_pow, r_cmp, r_lt, r_neg, r_isN, r_isNr, r_isNi, r_isNn, r_isNt, r_eqI, r_ixT, r_ixK, r_ixR, r_lstOf, r_sliT, r_sliK, r_sliR, r_sliL, r_truB, r_truI, r_truT, r_truN, r_truR, r_truL, r_max, r_min, r_intB, r_intI, r_abs, r_lenT, r_lenK, r_lenR, r_lenL, r_nat, r_set, r_setL, r_isI, r_isB, r_isT, r_fld, r_fldR, r_fldI, r_sfd, r_sfdR, r_sfdI, r_met, r_metR, r_met1, atI0, atI1, atI2, atI3, atI4, ixN1a, ixN2a, ixN2b, ixN3a, ixN3b, ixN3c, put_same, List.map_cons, List.map_nil, List.length_cons, List.length_nil, List.length_set, List.replicate, List.cons_append, List.nil_append, List.append_nil, List.getElem?_cons_zero, List.getElem?_cons_succ, List.set_cons_zero, List.set_cons_succ, true_and, and_true, Option.some.injEq, if_true, if_false, ite_true, ite_false, reduceIte, Bool.not_true, Bool.not_false, Bool.false_eq_true, Nat.reduceAdd, Nat.reduceLeDiff]
      exact most_no ho ⟨true, g.xm_NoNumber_NoNumber, fun _ => hend _ (by simp), fun z => by cases z⟩
  · obtain ⟨l, hpp, y, rfl⟩ := hI
    try simp only [q_wpf, q_seq, q_set, q_ret, q_retN, q_if, q_drop, r_unp', r_par, q_next, q_brk, q_cont, q_for, sWhile, q_sub, sAug, q_rng1, r_rng1P, jRng2, q_jseq, r_seqT, r_seqK, r_seqR, r_seqL, r_ownP, q_op, r_var, r_varS, q_c, q_cons, q_nil, q_cb, q_tup, q_lst, r_test, r_tru, q_not, q_and, q_or, r_andV, r_orV, r_notV, q_if', q_un, q_call, q_slice, q_some, q_none, r_intP, r_chn, r_chnT, r_link, r_last, q_lc, q_yes, q_make, r_nonP, q_fldg, r_eqT2, r_set0, r_set1, q_put1, q_putN, r_blP, r_boolP, r_unpP, r_parP, r_opt, r_pick, r_add, r_addT, r_addR, r_addL, r_sub, r_mul, r_div, r_mod, r_pow, r_cmp, r_lt, r_neg, r_isN, r_isNr, r_isNi, r_isNn, r_isNt, r_eqI, r_ixT, r_ixK, r_ixR, r_lstOf, r_sliT, r_sliK, r_sliR, r_sliL, r_truB, r_truI, r_truT, r_truN, r_truR, r_truL, r_max, r_min, r_intB, r_intI, r_abs, r_lenT, r_lenK, r_lenR, r_lenL, r_nat, r_set, r_setL, r_isI, r_isB, r_isT, r_fld, r_fldR, r_fldI, r_sfd, r_sfdR, r_sfdI, r_met, r_metR, r_met1, atI0, atI1, atI2, atI3, atI4, ixN1a, ixN2a, ixN2b, ixN3a, ixN3b, ixN3c, put_same, List.map_cons, List.map_nil, List.length_cons, List.length_nil, List.length_set, List.replicate, List.cons_append, List.nil_append, List.append_nil, List.getElem?_cons_zero, List.getElem?_cons_succ, List.set_cons_zero, List.set_cons_succ, true_and, and_true, Option.some.injEq, if_true, if_false, ite_true, ite_false, reduceIte, Bool.not_true, Bool.not_false, Bool.false_eq_true, Nat.reduceAdd, Nat.reduceLeDiff]
    refine newL_in fun q G2 hq _ h2 l2 _ => ?_
    have e1 := eq01 (l2 _ _ hpp) h2
    have e2 : dEq false (.ref p) (.ref q) G2 (fg Q) = fg Q (.bl true) G2 := by
      simp only [dEq, e1]
      rfl
    rw [e2]
    exact fg_in (hQ _ (l.trans l2))
theorem lwhole_ok {e : Env} {G : HD} {c : Int} {Q : Post} {E : DX} (hQ : Q (.bl true) G) : w_law_is_whole e [.int c] G Q E := by
  unfold w_law_is_whole
  try simp only [q_wpf, q_seq, q_set, q_ret, q_retN, q_if, q_drop, r_unp', r_par, q_next, q_brk, q_cont, q_for, sWhile, q_sub, sAug, q_rng1, r_rng1P, jRng2, q_jseq, r_seqT, r_seqK, r_seqR, r_seqL, r_ownP, q_op, r_var, r_varS, q_c, q_cons, q_nil, q_cb, q_tup, q_lst, r_test, r_tru, q_not, q_and, q_or, r_andV, r_orV, r_notV, q_if', q_un, q_call, q_slice, q_some, q_none, r_intP, r_chn, r_chnT, r_link, r_last, q_lc, q_yes, q_make, r_nonP, q_fldg, r_eqT2, r_set0, r_set1, q_put1, q_putN, r_blP, r_boolP, r_unpP, r_parP, r_opt, r_pick, r_add, r_addT, r_addR, r_addL, r_sub, r_mul, r_div, r_mod, r_pow, r_cmp, r_lt, r_neg, r_isN, r_isNr, r_isNi, r_isNn, r_isNt, r_eqI, r_ixT, r_ixK, r_ixR, r_lstOf, r_sliT, r_sliK, r_sliR, r_sliL, r_truB, r_truI, r_truT, r_truN, r_truR, r_truL, r_max, r_min, r_intB, r_intI, r_abs, r_lenT, r_lenK, r_lenR, r_lenL, r_nat, r_set, r_setL, r_isI, r_isB, r_isT, r_fld, r_fldR, r_fldI, r_sfd, r_sfdR, r_sfdI, r_met, r_metR, r_met1, atI0, atI1, atI2, atI3, atI4, ixN1a, ixN2a, ixN2b, ixN3a, ixN3b, ixN3c, put_same, List.map_cons, List.map_nil, List.length_cons, List.length_nil, List.length_set, List.replicate, List.cons_append, List.nil_append, List.append_nil, List.getElem?_cons_zero, List.getElem?_cons_succ, List.set_cons_zero, List.set_cons_succ, true_and, and_true, Option.some.injEq, if_true, if_false, ite_true, ite_false, reduceIte, Bool.not_true, Bool.not_false, Bool.false_eq_true, Nat.reduceAdd, Nat.reduceLeDiff]
  exact fg_in hQ
theorem ar_l {t b n : Int} (d0 : 0 ≤ t) (d1 : t < b) : n * b ≤ least n t b * (b + t) ∧ (least n t b - 1) * (b + t) < n * b := by
  have q1 : -n * b / (b + t) * (b + t) ≤ -n * b := Int.ediv_mul_le _ (by omega)
  have q2 : -n * b < (-n * b / (b + t) + 1) * (b + t) := Int.lt_ediv_add_one_mul_self _ (by omega)
  have e1 : -n * b = -(n * b) := Int.neg_mul _ _
  unfold least
  generalize -n * b / (b + t) = q at *
  have e2 : -q * (b + t) = -(q * (b + t)) := Int.neg_mul _ _
  have e3 : (-q - 1) * (b + t) = -((q + 1) * (b + t)) := by rw [← Int.neg_mul]; congr 1; omega
  omega
theorem ar_m {t b n : Int} (d1 : t < b) : most n t b * (b - t) < (n + 1) * b ∧ (n + 1) * b ≤ (most n t b + 1) * (b - t) := by
  have q1 : ((n + 1) * b - 1) / (b - t) * (b - t) ≤ (n + 1) * b - 1 := Int.ediv_mul_le _ (by omega)
  have q2 : (n + 1) * b - 1 < (((n + 1) * b - 1) / (b - t) + 1) * (b - t) := Int.lt_ediv_add_one_mul_self _ (by omega)
  unfold most
  omega
theorem Row.le {G G' : HD} {a : Addr} (h : Row G a) (l : Le G G') : Row G' a := let ⟨x, y, z, h0, h1⟩ := h; ⟨x, y, z, h0, l _ _ h1⟩
theorem Row.ne {G : HD} {a p : Addr} (h : Row G a) (hp : G p = none) : p ≠ a := let ⟨_, _, _, _, h1⟩ := h; (ne_of h1 hp).symm
theorem main (e : P.Env) (g : e.Good) (ns : List Int) (h : ns.length ≤ 63) : w_law e [.kl (ns.map D.int)] (fun _ => none) (fun d _ => d = .bl true) fun _ _ _ => False := by
  unfold w_law
  try simp only [q_wpf, q_seq, q_set, q_ret, q_retN, q_if, q_drop, r_unp', r_par, q_next, q_brk, q_cont, q_for, sWhile, q_sub, sAug, q_rng1, r_rng1P, jRng2, q_jseq, r_seqT, r_seqK, r_seqR, r_seqL, r_ownP, q_op, r_var, r_varS, q_c, q_cons, q_nil, q_cb, q_tup, q_lst, r_test, r_tru, q_not, q_and, q_or, r_andV, r_orV, r_notV, q_if', q_un, q_call, q_slice, q_some, q_none, r_intP, r_chn, r_chnT, r_link, r_last, q_lc, q_yes, q_make, r_nonP, q_fldg, r_eqT2, r_set0, r_set1, q_put1, q_putN, r_blP, r_boolP, r_unpP, r_parP, r_opt, r_pick, r_add, r_addT, r_addR, r_addL, r_sub, r_mul, r_div, r_mod, r_pow, r_cmp, r_lt, r_neg, r_isN, r_isNr, r_isNi, r_isNn, r_isNt, r_eqI, r_ixT, r_ixK, r_ixR, r_lstOf, r_sliT, r_sliK, r_sliR, r_sliL, r_truB, r_truI, r_truT, r_truN, r_truR, r_truL, r_max, r_min, r_intB, r_intI, r_abs, r_lenT, r_lenK, r_lenR, r_lenL, r_nat, r_set, r_setL, r_isI, r_isB, r_isT, r_fld, r_fldR, r_fldI, r_sfd, r_sfdR, r_sfdI, r_met, r_metR, r_met1, atI0, atI1, atI2, atI3, atI4, ixN1a, ixN2a, ixN2b, ixN3a, ixN3b, ixN3c, put_same, List.map_cons, List.map_nil, List.length_cons, List.length_nil, List.length_set, List.replicate, List.cons_append, List.nil_append, List.append_nil, List.getElem?_cons_zero, List.getElem?_cons_succ, List.set_cons_zero, List.set_cons_succ, true_and, and_true, Option.some.injEq, if_true, if_false, ite_true, ite_false, reduceIte, Bool.not_true, Bool.not_false, Bool.false_eq_true, Nat.reduceAdd, Nat.reduceLeDiff]
  have hb : (0 : Int) ≤ (ns.map D.int).length ∧ ((ns.map D.int).length : Int) ≤ 63 := by rw [List.length_map]; omega
  generalize ((ns.map D.int).length : Int) = N at hb
  refine ⟨by split <;> split <;> omega, by split <;> split <;> omega, ?_⟩
  refine forR_inv (I := fun _ σ _ => ∃ x1 x2 x3 x4 x5 x6 x7 x8, σ = [some (.kl (ns.map D.int)), x1, x2, x3, x4, x5, x6, x7, x8]) (fun _ => trivial) (fun i k σ G hi hI hk => ?_) (fun σ G hI => ?_) ⟨_, _, _, _, _, _, _, _, rfl⟩
  · obtain ⟨x1, x2, x3, x4, x5, x6, x7, x8, rfl⟩ := hI
    have hi2 : i < 64 := by revert hi; split <;> split <;> omega
    unfold l_law_1
    try simp only [q_wpf, q_seq, q_set, q_ret, q_retN, q_if, q_drop, r_unp', r_par, q_next, q_brk, q_cont, q_for, sWhile, q_sub, sAug, q_rng1, r_rng1P, jRng2, q_jseq, r_seqT, r_seqK, r_seqR, r_seqL, r_ownP, q_op, r_var, r_varS, q_c, q_cons, q_nil, q_cb, q_tup, q_lst, r_test, r_tru, q_not, q_and, q_or, r_andV, r_orV, r_notV, q_if', q_un, q_call, q_slice, q_some, q_none, r_intP, r_chn, r_chnT, r_link, r_last, q_lc, q_yes, q_make, r_nonP, q_fldg, r_eqT2, r_set0, r_set1, q_put1, q_putN, r_blP, r_boolP, r_unpP, r_parP, r_opt, r_pick, r_add, r_addT, r_addR, r_addL, r_sub, r_mul, r_div, r_mod, r_pow, r_cmp, r_lt, r_neg, r_isN, r_isNr, r_isNi, r_isNn, r_isNt, r_eqI, r_ixT, r_ixK, r_ixR, r_lstOf, r_sliT, r_sliK, r_sliR, r_sliL, r_truB, r_truI, r_truT, r_truN, r_truR, r_truL, r_max, r_min, r_intB, r_intI, r_abs, r_lenT, r_lenK, r_lenR, r_lenL, r_nat, r_set, r_setL, r_isI, r_isB, r_isT, r_fld, r_fldR, r_fldI, r_sfd, r_sfdR, r_sfdI, r_met, r_metR, r_met1, atI0, atI1, atI2, atI3, atI4, ixN1a, ixN2a, ixN2b, ixN3a, ixN3b, ixN3c, put_same, List.map_cons, List.map_nil, List.length_cons, List.length_nil, List.length_set, List.replicate, List.cons_append, List.nil_append, List.append_nil, List.getElem?_cons_zero, List.getElem?_cons_succ, List.set_cons_zero, List.set_cons_succ, true_and, and_true, Option.some.injEq, if_true, if_false, ite_true, ite_false, reduceIte, Bool.not_true, Bool.not_false, Bool.false_eq_true, Nat.reduceAdd, Nat.reduceLeDiff]
    refine begun_ok (by omega) (by omega) fun a G1 hR1 => ?_
    try simp only [q_wpf, q_seq, q_set, q_ret, q_retN, q_if, q_drop, r_unp', r_par, q_next, q_brk, q_cont, q_for, sWhile, q_sub, sAug, q_rng1, r_rng1P, jRng2, q_jseq, r_seqT, r_seqK, r_seqR, r_seqL, r_ownP, q_op, r_var, r_varS, q_c, q_cons, q_nil, q_cb, q_tup, q_lst, r_test, r_tru, q_not, q_and, q_or, r_andV, r_orV, r_notV, q_if', q_un, q_call, q_slice, q_some, q_none, r_intP, r_chn, r_chnT, r_link, r_last, q_lc, q_yes, q_make, r_nonP, q_fldg, r_eqT2, r_set0, r_set1, q_put1, q_putN, r_blP, r_boolP, r_unpP, r_parP, r_opt, r_pick, r_add, r_addT, r_addR, r_addL, r_sub, r_mul, r_div, r_mod, r_pow, r_cmp, r_lt, r_neg, r_isN, r_isNr, r_isNi, r_isNn, r_isNt, r_eqI, r_ixT, r_ixK, r_ixR, r_lstOf, r_sliT, r_sliK, r_sliR, r_sliL, r_truB, r_truI, r_truT, r_truN, r_truR, r_truL, r_max, r_min, r_intB, r_intI, r_abs, r_lenT, r_lenK, r_lenR, r_lenL, r_nat, r_set, r_setL, r_isI, r_isB, r_isT, r_fld, r_fldR, r_fldI, r_sfd, r_sfdR, r_sfdI, r_met, r_metR, r_met1, atI0, atI1, atI2, atI3, atI4, ixN1a, ixN2a, ixN2b, ixN3a, ixN3b, ixN3c, put_same, List.map_cons, List.map_nil, List.length_cons, List.length_nil, List.length_set, List.replicate, List.cons_append, List.nil_append, List.append_nil, List.getElem?_cons_zero, List.getElem?_cons_succ, List.set_cons_zero, List.set_cons_succ, true_and, and_true, Option.some.injEq, if_true, if_false, ite_true, ite_false, reduceIte, Bool.not_true, Bool.not_false, Bool.false_eq_true, Nat.reduceAdd, Nat.reduceLeDiff]
    refine drift_ok hR1 fun t b G2 hR2 hd => ?_
    obtain ⟨d0, d1, d2⟩ := hd.f
    try simp only [q_wpf, q_seq, q_set, q_ret, q_retN, q_if, q_drop, r_unp', r_par, q_next, q_brk, q_cont, q_for, sWhile, q_sub, sAug, q_rng1, r_rng1P, jRng2, q_jseq, r_seqT, r_seqK, r_seqR, r_seqL, r_ownP, q_op, r_var, r_varS, q_c, q_cons, q_nil, q_cb, q_tup, q_lst, r_test, r_tru, q_not, q_and, q_or, r_andV, r_orV, r_notV, q_if', q_un, q_call, q_slice, q_some, q_none, r_intP, r_chn, r_chnT, r_link, r_last, q_lc, q_yes, q_make, r_nonP, q_fldg, r_eqT2, r_set0, r_set1, q_put1, q_putN, r_blP, r_boolP, r_unpP, r_parP, r_opt, r_pick, r_add, r_addT, r_addR, r_addL, r_sub, r_mul, r_div, r_mod, r_pow, r_cmp, r_lt, r_neg, r_isN, r_isNr, r_isNi, r_isNn, r_isNt, r_eqI, r_ixT, r_ixK, r_ixR, r_lstOf, r_sliT, r_sliK, r_sliR, r_sliL, r_truB, r_truI, r_truT, r_truN, r_truR, r_truL, r_max, r_min, r_intB, r_intI, r_abs, r_lenT, r_lenK, r_lenR, r_lenL, r_nat, r_set, r_setL, r_isI, r_isB, r_isT, r_fld, r_fldR, r_fldI, r_sfd, r_sfdR, r_sfdI, r_met, r_metR, r_met1, atI0, atI1, atI2, atI3, atI4, ixN1a, ixN2a, ixN2b, ixN3a, ixN3b, ixN3c, put_same, List.map_cons, List.map_nil, List.length_cons, List.length_nil, List.length_set, List.replicate, List.cons_append, List.nil_append, List.append_nil, List.getElem?_cons_zero, List.getElem?_cons_succ, List.set_cons_zero, List.set_cons_succ, true_and, and_true, Option.some.injEq, if_true, if_false, ite_true, ite_false, reduceIte, Bool.not_true, Bool.not_false, Bool.false_eq_true, Nat.reduceAdd, Nat.reduceLeDiff]
    refine take_ok hR2 (by omega) (by omega) fun r3 G3 hr0 hr1 hR3 _ => ?_
    try simp only [q_wpf, q_seq, q_set, q_ret, q_retN, q_if, q_drop, r_unp', r_par, q_next, q_brk, q_cont, q_for, sWhile, q_sub, sAug, q_rng1, r_rng1P, jRng2, q_jseq, r_seqT, r_seqK, r_seqR, r_seqL, r_ownP, q_op, r_var, r_varS, q_c, q_cons, q_nil, q_cb, q_tup, q_lst, r_test, r_tru, q_not, q_and, q_or, r_andV, r_orV, r_notV, q_if', q_un, q_call, q_slice, q_some, q_none, r_intP, r_chn, r_chnT, r_link, r_last, q_lc, q_yes, q_make, r_nonP, q_fldg, r_eqT2, r_set0, r_set1, q_put1, q_putN, r_blP, r_boolP, r_unpP, r_parP, r_opt, r_pick, r_add, r_addT, r_addR, r_addL, r_sub, r_mul, r_div, r_mod, r_pow, r_cmp, r_lt, r_neg, r_isN, r_isNr, r_isNi, r_isNn, r_isNt, r_eqI, r_ixT, r_ixK, r_ixR, r_lstOf, r_sliT, r_sliK, r_sliR, r_sliL, r_truB, r_truI, r_truT, r_truN, r_truR, r_truL, r_max, r_min, r_intB, r_intI, r_abs, r_lenT, r_lenK, r_lenR, r_lenL, r_nat, r_set, r_setL, r_isI, r_isB, r_isT, r_fld, r_fldR, r_fldI, r_sfd, r_sfdR, r_sfdI, r_met, r_metR, r_met1, atI0, atI1, atI2, atI3, atI4, ixN1a, ixN2a, ixN2b, ixN3a, ixN3b, ixN3c, put_same, List.map_cons, List.map_nil, List.length_cons, List.length_nil, List.length_set, List.replicate, List.cons_append, List.nil_append, List.append_nil, List.getElem?_cons_zero, List.getElem?_cons_succ, List.set_cons_zero, List.set_cons_succ, true_and, and_true, Option.some.injEq, if_true, if_false, ite_true, ite_false, reduceIte, Bool.not_true, Bool.not_false, Bool.false_eq_true, Nat.reduceAdd, Nat.reduceLeDiff]
    refine ⟨⟨by omega, by omega, by omega⟩, take_ok hR3 (by decide) (by decide) fun r4 G4 hs0 hs1 hR4 _ => ?_⟩
    try simp only [q_wpf, q_seq, q_set, q_ret, q_retN, q_if, q_drop, r_unp', r_par, q_next, q_brk, q_cont, q_for, sWhile, q_sub, sAug, q_rng1, r_rng1P, jRng2, q_jseq, r_seqT, r_seqK, r_seqR, r_seqL, r_ownP, q_op, r_var, r_varS, q_c, q_cons, q_nil, q_cb, q_tup, q_lst, r_test, r_tru, q_not, q_and, q_or, r_andV, r_orV, r_notV, q_if', q_un, q_call, q_slice, q_some, q_none, r_intP, r_chn, r_chnT, r_link, r_last, q_lc, q_yes, q_make, r_nonP, q_fldg, r_eqT2, r_set0, r_set1, q_put1, q_putN, r_blP, r_boolP, r_unpP, r_parP, r_opt, r_pick, r_add, r_addT, r_addR, r_addL, r_sub, r_mul, r_div, r_mod, r_pow, r_cmp, r_lt, r_neg, r_isN, r_isNr, r_isNi, r_isNn, r_isNt, r_eqI, r_ixT, r_ixK, r_ixR, r_lstOf, r_sliT, r_sliK, r_sliR, r_sliL, r_truB, r_truI, r_truT, r_truN, r_truR, r_truL, r_max, r_min, r_intB, r_intI, r_abs, r_lenT, r_lenK, r_lenR, r_lenL, r_nat, r_set, r_setL, r_isI, r_isB, r_isT, r_fld, r_fldR, r_fldI, r_sfd, r_sfdR, r_sfdI, r_met, r_metR, r_met1, atI0, atI1, atI2, atI3, atI4, ixN1a, ixN2a, ixN2b, ixN3a, ixN3b, ixN3c, put_same, List.map_cons, List.map_nil, List.length_cons, List.length_nil, List.length_set, List.replicate, List.cons_append, List.nil_append, List.append_nil, List.getElem?_cons_zero, List.getElem?_cons_succ, List.set_cons_zero, List.set_cons_succ, true_and, and_true, Option.some.injEq, if_true, if_false, ite_true, ite_false, reduceIte, Bool.not_true, Bool.not_false, Bool.false_eq_true, Nat.reduceAdd, Nat.reduceLeDiff]
    refine ⟨⟨by omega, by omega, by omega⟩, take_ok hR4 (by decide) (by decide) fun r5 G5 ht0 ht1 hR5 _ => ?_⟩
    try simp only [q_wpf, q_seq, q_set, q_ret, q_retN, q_if, q_drop, r_unp', r_par, q_next, q_brk, q_cont, q_for, sWhile, q_sub, sAug, q_rng1, r_rng1P, jRng2, q_jseq, r_seqT, r_seqK, r_seqR, r_seqL, r_ownP, q_op, r_var, r_varS, q_c, q_cons, q_nil, q_cb, q_tup, q_lst, r_test, r_tru, q_not, q_and, q_or, r_andV, r_orV, r_notV, q_if', q_un, q_call, q_slice, q_some, q_none, r_intP, r_chn, r_chnT, r_link, r_last, q_lc, q_yes, q_make, r_nonP, q_fldg, r_eqT2, r_set0, r_set1, q_put1, q_putN, r_blP, r_boolP, r_unpP, r_parP, r_opt, r_pick, r_add, r_addT, r_addR, r_addL, r_sub, r_mul, r_div, r_mod, r_pow, r_cmp, r_lt, r_neg, r_isN, r_isNr, r_isNi, r_isNn, r_isNt, r_eqI, r_ixT, r_ixK, r_ixR, r_lstOf, r_sliT, r_sliK, r_sliR, r_sliL, r_truB, r_truI, r_truT, r_truN, r_truR, r_truL, r_max, r_min, r_intB, r_intI, r_abs, r_lenT, r_lenK, r_lenR, r_lenL, r_nat, r_set, r_setL, r_isI, r_isB, r_isT, r_fld, r_fldR, r_fldI, r_sfd, r_sfdR, r_sfdI, r_met, r_metR, r_met1, atI0, atI1, atI2, atI3, atI4, ixN1a, ixN2a, ixN2b, ixN3a, ixN3b, ixN3c, put_same, List.map_cons, List.map_nil, List.length_cons, List.length_nil, List.length_set, List.replicate, List.cons_append, List.nil_append, List.append_nil, List.getElem?_cons_zero, List.getElem?_cons_succ, List.set_cons_zero, List.set_cons_succ, true_and, and_true, Option.some.injEq, if_true, if_false, ite_true, ite_false, reduceIte, Bool.not_true, Bool.not_false, Bool.false_eq_true, Nat.reduceAdd, Nat.reduceLeDiff]
    refine newL_in fun q G6 hq _ h6 l6 _ => ?_
    have nq := hR5.ne hq
    try simp only [q_wpf, q_seq, q_set, q_ret, q_retN, q_if, q_drop, r_unp', r_par, q_next, q_brk, q_cont, q_for, sWhile, q_sub, sAug, q_rng1, r_rng1P, jRng2, q_jseq, r_seqT, r_seqK, r_seqR, r_seqL, r_ownP, q_op, r_var, r_varS, q_c, q_cons, q_nil, q_cb, q_tup, q_lst, r_test, r_tru, q_not, q_and, q_or, r_andV, r_orV, r_notV, q_if', q_un, q_call, q_slice, q_some, q_none, r_intP, r_chn, r_chnT, r_link, r_last, q_lc, q_yes, q_make, r_nonP, q_fldg, r_eqT2, r_set0, r_set1, q_put1, q_putN, r_blP, r_boolP, r_unpP, r_parP, r_opt, r_pick, r_add, r_addT, r_addR, r_addL, r_sub, r_mul, r_div, r_mod, r_pow, r_cmp, r_lt, r_neg, r_isN, r_isNr, r_isNi, r_isNn, r_isNt, r_eqI, r_ixT, r_ixK, r_ixR, r_lstOf, r_sliT, r_sliK, r_sliR, r_sliL, r_truB, r_truI, r_truT, r_truN, r_truR, r_truL, r_max, r_min, r_intB, r_intI, r_abs, r_lenT, r_lenK, r_lenR, r_lenL, r_nat, r_set, r_setL, r_isI, r_isB, r_isT, r_fld, r_fldR, r_fldI, r_sfd, r_sfdR, r_sfdI, r_met, r_metR, r_met1, atI0, atI1, atI2, atI3, atI4, ixN1a, ixN2a, ixN2b, ixN3a, ixN3b, ixN3c, put_same, List.map_cons, List.map_nil, List.length_cons, List.length_nil, List.length_set, List.replicate, List.cons_append, List.nil_append, List.append_nil, List.getElem?_cons_zero, List.getElem?_cons_succ, List.set_cons_zero, List.set_cons_succ, true_and, and_true, Option.some.injEq, if_true, if_false, ite_true, ite_false, reduceIte, Bool.not_true, Bool.not_false, Bool.false_eq_true, Nat.reduceAdd, Nat.reduceLeDiff]
    refine take_ok (hR5.le l6) (by omega) (by omega) fun r6 G7 hu0 hu1 hR7 fr7 => ?_
    have h7 := (fr7 q nq).trans h6
    obtain ⟨z, hz, ez⟩ := pick hu0 (show r6 < ([.int 0, .int 1, .int r3, .int r4, .int r5] : List D).length from hu1)
    obtain ⟨c, rfl, hc⟩ : ∃ c, z = .int c ∧ 0 ≤ c := by
      simp only [List.mem_cons, List.not_mem_nil, or_false] at hz
      rcases hz with rfl | rfl | rfl | rfl | rfl <;> exact ⟨_, rfl, by omega⟩
    simp only [q_wpf, q_seq, q_set, q_ret, q_retN, q_if, q_drop, r_unp', r_par, q_next, q_brk, q_cont, q_for, sWhile, q_sub, sAug, q_rng1, r_rng1P, jRng2, q_jseq, r_seqT, r_seqK, r_seqR, r_seqL, r_ownP, q_op, r_var, r_varS, q_c, q_cons, q_nil, q_cb, q_tup, q_lst, r_test, r_tru, q_not, q_and, q_or, r_andV, r_orV, r_notV, q_if', q_un, q_call, q_slice, q_some, q_none, r_intP, r_chn, r_chnT, r_link, r_last, q_lc, q_yes, q_make, r_nonP, q_fldg, r_eqT2, r_set0, r_set1, q_put1, q_putN, r_blP, r_boolP, r_unpP, r_parP, r_opt, r_pick, r_add, r_addT, r_addR, r_addL, r_sub, r_mul, r_div, r_mod, r_pow, r_cmp, r_lt, r_neg, r_isN, r_isNr, r_isNi, r_isNn, r_isNt, r_eqI, r_ixT, r_ixK, r_ixR, r_lstOf, r_sliT, r_sliK, r_sliR, r_sliL, r_truB, r_truI, r_truT, r_truN, r_truR, r_truL, r_max, r_min, r_intB, r_intI, r_abs, r_lenT, r_lenK, r_lenR, r_lenL, r_nat, r_set, r_setL, r_isI, r_isB, r_isT, r_fld, r_fldR, r_fldI, r_sfd, r_sfdR, r_sfdI, r_met, r_metR, r_met1, atI0, atI1, atI2, atI3, atI4, ixN1a, ixN2a, ixN2b, ixN3a, ixN3b, ixN3c, put_same, List.map_cons, List.map_nil, List.length_cons, List.length_nil, List.length_set, List.replicate, List.cons_append, List.nil_append, List.append_nil, List.getElem?_cons_zero, List.getElem?_cons_succ, List.set_cons_zero, List.set_cons_succ, true_and, and_true, Option.some.injEq, if_true, if_false, ite_true, ite_false, reduceIte, Bool.not_true, Bool.not_false, Bool.false_eq_true, Nat.reduceAdd, Nat.reduceLeDiff, h7, ez]
    refine least_ok hc hd ?_
    try simp only [q_wpf, q_seq, q_set, q_ret, q_retN, q_if, q_drop, r_unp', r_par, q_next, q_brk, q_cont, q_for, sWhile, q_sub, sAug, q_rng1, r_rng1P, jRng2, q_jseq, r_seqT, r_seqK, r_seqR, r_seqL, r_ownP, q_op, r_var, r_varS, q_c, q_cons, q_nil, q_cb, q_tup, q_lst, r_test, r_tru, q_not, q_and, q_or, r_andV, r_orV, r_notV, q_if', q_un, q_call, q_slice, q_some, q_none, r_intP, r_chn, r_chnT, r_link, r_last, q_lc, q_yes, q_make, r_nonP, q_fldg, r_eqT2, r_set0, r_set1, q_put1, q_putN, r_blP, r_boolP, r_unpP, r_parP, r_opt, r_pick, r_add, r_addT, r_addR, r_addL, r_sub, r_mul, r_div, r_mod, r_pow, r_cmp, r_lt, r_neg, r_isN, r_isNr, r_isNi, r_isNn, r_isNt, r_eqI, r_ixT, r_ixK, r_ixR, r_lstOf, r_sliT, r_sliK, r_sliR, r_sliL, r_truB, r_truI, r_truT, r_truN, r_truR, r_truL, r_max, r_min, r_intB, r_intI, r_abs, r_lenT, r_lenK, r_lenR, r_lenL, r_nat, r_set, r_setL, r_isI, r_isB, r_isT, r_fld, r_fldR, r_fldI, r_sfd, r_sfdR, r_sfdI, r_met, r_metR, r_met1, atI0, atI1, atI2, atI3, atI4, ixN1a, ixN2a, ixN2b, ixN3a, ixN3b, ixN3c, put_same, List.map_cons, List.map_nil, List.length_cons, List.length_nil, List.length_set, List.replicate, List.cons_append, List.nil_append, List.append_nil, List.getElem?_cons_zero, List.getElem?_cons_succ, List.set_cons_zero, List.set_cons_succ, true_and, and_true, Option.some.injEq, if_true, if_false, ite_true, ite_false, reduceIte, Bool.not_true, Bool.not_false, Bool.false_eq_true, Nat.reduceAdd, Nat.reduceLeDiff]
    refine most_ok hc hd ?_
    try simp only [q_wpf, q_seq, q_set, q_ret, q_retN, q_if, q_drop, r_unp', r_par, q_next, q_brk, q_cont, q_for, sWhile, q_sub, sAug, q_rng1, r_rng1P, jRng2, q_jseq, r_seqT, r_seqK, r_seqR, r_seqL, r_ownP, q_op, r_var, r_varS, q_c, q_cons, q_nil, q_cb, q_tup, q_lst, r_test, r_tru, q_not, q_and, q_or, r_andV, r_orV, r_notV, q_if', q_un, q_call, q_slice, q_some, q_none, r_intP, r_chn, r_chnT, r_link, r_last, q_lc, q_yes, q_make, r_nonP, q_fldg, r_eqT2, r_set0, r_set1, q_put1, q_putN, r_blP, r_boolP, r_unpP, r_parP, r_opt, r_pick, r_add, r_addT, r_addR, r_addL, r_sub, r_mul, r_div, r_mod, r_pow, r_cmp, r_lt, r_neg, r_isN, r_isNr, r_isNi, r_isNn, r_isNt, r_eqI, r_ixT, r_ixK, r_ixR, r_lstOf, r_sliT, r_sliK, r_sliR, r_sliL, r_truB, r_truI, r_truT, r_truN, r_truR, r_truL, r_max, r_min, r_intB, r_intI, r_abs, r_lenT, r_lenK, r_lenR, r_lenL, r_nat, r_set, r_setL, r_isI, r_isB, r_isT, r_fld, r_fldR, r_fldI, r_sfd, r_sfdR, r_sfdI, r_met, r_metR, r_met1, atI0, atI1, atI2, atI3, atI4, ixN1a, ixN2a, ixN2b, ixN3a, ixN3b, ixN3c, put_same, List.map_cons, List.map_nil, List.length_cons, List.length_nil, List.length_set, List.replicate, List.cons_append, List.nil_append, List.append_nil, List.getElem?_cons_zero, List.getElem?_cons_succ, List.set_cons_zero, List.set_cons_succ, true_and, and_true, Option.some.injEq, if_true, if_false, ite_true, ite_false, reduceIte, Bool.not_true, Bool.not_false, Bool.false_eq_true, Nat.reduceAdd, Nat.reduceLeDiff]
    refine lwhole_ok ?_
    try simp only [q_wpf, q_seq, q_set, q_ret, q_retN, q_if, q_drop, r_unp', r_par, q_next, q_brk, q_cont, q_for, sWhile, q_sub, sAug, q_rng1, r_rng1P, jRng2, q_jseq, r_seqT, r_seqK, r_seqR, r_seqL, r_ownP, q_op, r_var, r_varS, q_c, q_cons, q_nil, q_cb, q_tup, q_lst, r_test, r_tru, q_not, q_and, q_or, r_andV, r_orV, r_notV, q_if', q_un, q_call, q_slice, q_some, q_none, r_intP, r_chn, r_chnT, r_link, r_last, q_lc, q_yes, q_make, r_nonP, q_fldg, r_eqT2, r_set0, r_set1, q_put1, q_putN, r_blP, r_boolP, r_unpP, r_parP, r_opt, r_pick, r_add, r_addT, r_addR, r_addL, r_sub, r_mul, r_div, r_mod, r_pow, r_cmp, r_lt, r_neg, r_isN, r_isNr, r_isNi, r_isNn, r_isNt, r_eqI, r_ixT, r_ixK, r_ixR, r_lstOf, r_sliT, r_sliK, r_sliR, r_sliL, r_truB, r_truI, r_truT, r_truN, r_truR, r_truL, r_max, r_min, r_intB, r_intI, r_abs, r_lenT, r_lenK, r_lenR, r_lenL, r_nat, r_set, r_setL, r_isI, r_isB, r_isT, r_fld, r_fldR, r_fldI, r_sfd, r_sfdR, r_sfdI, r_met, r_metR, r_met1, atI0, atI1, atI2, atI3, atI4, ixN1a, ixN2a, ixN2b, ixN3a, ixN3b, ixN3c, put_same, List.map_cons, List.map_nil, List.length_cons, List.length_nil, List.length_set, List.replicate, List.cons_append, List.nil_append, List.append_nil, List.getElem?_cons_zero, List.getElem?_cons_succ, List.set_cons_zero, List.set_cons_succ, true_and, and_true, Option.some.injEq, if_true, if_false, ite_true, ite_false, reduceIte, Bool.not_true, Bool.not_false, Bool.false_eq_true, Nat.reduceAdd, Nat.reduceLeDiff]
    refine lwhole_ok ?_
    have w1 := least_pos (n := c) d0 d1 hc
    have w2 := (width (n := c) d0 d1 hc).1
    have w3 := ar_l (n := c) d0 d1
    have w4 := ar_m (n := c) d1
    have w5 := least_mono (n := c) (m := c + 1) d0 d1 (by omega)
    have w6 := most_add (n := c) (k := 1) d0 d1 (by omega)
    simp only [q_wpf, q_seq, q_set, q_ret, q_retN, q_if, q_drop, r_unp', r_par, q_next, q_brk, q_cont, q_for, sWhile, q_sub, sAug, q_rng1, r_rng1P, jRng2, q_jseq, r_seqT, r_seqK, r_seqR, r_seqL, r_ownP, q_op, r_var, r_varS, q_c, q_cons, q_nil, q_cb, q_tup, q_lst, r_test, r_tru, q_not, q_and, q_or, r_andV, r_orV, r_notV, q_if', q_un, q_call, q_slice, q_some, q_none, r_intP, r_chn, r_chnT, r_link, r_last, q_lc, q_yes, q_make, r_nonP, q_fldg, r_eqT2, r_set0, r_set1, q_put1, q_putN, r_blP, r_boolP, r_unpP, r_parP, r_opt, r_pick, r_add, r_addT, r_addR, r_addL, r_sub, r_mul, r_div, r_mod, r_pow, r_cmp, r_lt, r_neg, r_isN, r_isNr, r_isNi, r_isNn, r_isNt, r_eqI, r_ixT, r_ixK, r_ixR, r_lstOf, r_sliT, r_sliK, r_sliR, r_sliL, r_truB, r_truI, r_truT, r_truN, r_truR, r_truL, r_max, r_min, r_intB, r_intI, r_abs, r_lenT, r_lenK, r_lenR, r_lenL, r_nat, r_set, r_setL, r_isI, r_isB, r_isT, r_fld, r_fldR, r_fldI, r_sfd, r_sfdR, r_sfdI, r_met, r_metR, r_met1, atI0, atI1, atI2, atI3, atI4, ixN1a, ixN2a, ixN2b, ixN3a, ixN3b, ixN3c, put_same, List.map_cons, List.map_nil, List.length_cons, List.length_nil, List.length_set, List.replicate, List.cons_append, List.nil_append, List.append_nil, List.getElem?_cons_zero, List.getElem?_cons_succ, List.set_cons_zero, List.set_cons_succ, true_and, and_true, Option.some.injEq, if_true, if_false, ite_true, ite_false, reduceIte, Bool.not_true, Bool.not_false, Bool.false_eq_true, Nat.reduceAdd, Nat.reduceLeDiff, w1, w2, decide_true, q_swp, r_swp]
    refine least_ok hc hd ?_
    simp only [q_wpf, q_seq, q_set, q_ret, q_retN, q_if, q_drop, r_unp', r_par, q_next, q_brk, q_cont, q_for, sWhile, q_sub, sAug, q_rng1, r_rng1P, jRng2, q_jseq, r_seqT, r_seqK, r_seqR, r_seqL, r_ownP, q_op, r_var, r_varS, q_c, q_cons, q_nil, q_cb, q_tup, q_lst, r_test, r_tru, q_not, q_and, q_or, r_andV, r_orV, r_notV, q_if', q_un, q_call, q_slice, q_some, q_none, r_intP, r_chn, r_chnT, r_link, r_last, q_lc, q_yes, q_make, r_nonP, q_fldg, r_eqT2, r_set0, r_set1, q_put1, q_putN, r_blP, r_boolP, r_unpP, r_parP, r_opt, r_pick, r_add, r_addT, r_addR, r_addL, r_sub, r_mul, r_div, r_mod, r_pow, r_cmp, r_lt, r_neg, r_isN, r_isNr, r_isNi, r_isNn, r_isNt, r_eqI, r_ixT, r_ixK, r_ixR, r_lstOf, r_sliT, r_sliK, r_sliR, r_sliL, r_truB, r_truI, r_truT, r_truN, r_truR, r_truL, r_max, r_min, r_intB, r_intI, r_abs, r_lenT, r_lenK, r_lenR, r_lenL, r_nat, r_set, r_setL, r_isI, r_isB, r_isT, r_fld, r_fldR, r_fldI, r_sfd, r_sfdR, r_sfdI, r_met, r_metR, r_met1, atI0, atI1, atI2, atI3, atI4, ixN1a, ixN2a, ixN2b, ixN3a, ixN3b, ixN3c, put_same, List.map_cons, List.map_nil, List.length_cons, List.length_nil, List.length_set, List.replicate, List.cons_append, List.nil_append, List.append_nil, List.getElem?_cons_zero, List.getElem?_cons_succ, List.set_cons_zero, List.set_cons_succ, true_and, and_true, Option.some.injEq, if_true, if_false, ite_true, ite_false, reduceIte, Bool.not_true, Bool.not_false, Bool.false_eq_true, Nat.reduceAdd, Nat.reduceLeDiff, decide_true, q_swp, r_swp]
    refine most_ok hc hd ?_
    simp only [q_wpf, q_seq, q_set, q_ret, q_retN, q_if, q_drop, r_unp', r_par, q_next, q_brk, q_cont, q_for, sWhile, q_sub, sAug, q_rng1, r_rng1P, jRng2, q_jseq, r_seqT, r_seqK, r_seqR, r_seqL, r_ownP, q_op, r_var, r_varS, q_c, q_cons, q_nil, q_cb, q_tup, q_lst, r_test, r_tru, q_not, q_and, q_or, r_andV, r_orV, r_notV, q_if', q_un, q_call, q_slice, q_some, q_none, r_intP, r_chn, r_chnT, r_link, r_last, q_lc, q_yes, q_make, r_nonP, q_fldg, r_eqT2, r_set0, r_set1, q_put1, q_putN, r_blP, r_boolP, r_unpP, r_parP, r_opt, r_pick, r_add, r_addT, r_addR, r_addL, r_sub, r_mul, r_div, r_mod, r_pow, r_cmp, r_lt, r_neg, r_isN, r_isNr, r_isNi, r_isNn, r_isNt, r_eqI, r_ixT, r_ixK, r_ixR, r_lstOf, r_sliT, r_sliK, r_sliR, r_sliL, r_truB, r_truI, r_truT, r_truN, r_truR, r_truL, r_max, r_min, r_intB, r_intI, r_abs, r_lenT, r_lenK, r_lenR, r_lenL, r_nat, r_set, r_setL, r_isI, r_isB, r_isT, r_fld, r_fldR, r_fldI, r_sfd, r_sfdR, r_sfdI, r_met, r_metR, r_met1, atI0, atI1, atI2, atI3, atI4, ixN1a, ixN2a, ixN2b, ixN3a, ixN3b, ixN3c, put_same, List.map_cons, List.map_nil, List.length_cons, List.length_nil, List.length_set, List.replicate, List.cons_append, List.nil_append, List.append_nil, List.getElem?_cons_zero, List.getElem?_cons_succ, List.set_cons_zero, List.set_cons_succ, true_and, and_true, Option.some.injEq, if_true, if_false, ite_true, ite_false, reduceIte, Bool.not_true, Bool.not_false, Bool.false_eq_true, Nat.reduceAdd, Nat.reduceLeDiff, decide_true]
    refine ⟨mul_r (by omega) (by omega), mul_r (by omega) (by omega), ?_⟩
    simp only [q_wpf, q_seq, q_set, q_ret, q_retN, q_if, q_drop, r_unp', r_par, q_next, q_brk, q_cont, q_for, sWhile, q_sub, sAug, q_rng1, r_rng1P, jRng2, q_jseq, r_seqT, r_seqK, r_seqR, r_seqL, r_ownP, q_op, r_var, r_varS, q_c, q_cons, q_nil, q_cb, q_tup, q_lst, r_test, r_tru, q_not, q_and, q_or, r_andV, r_orV, r_notV, q_if', q_un, q_call, q_slice, q_some, q_none, r_intP, r_chn, r_chnT, r_link, r_last, q_lc, q_yes, q_make, r_nonP, q_fldg, r_eqT2, r_set0, r_set1, q_put1, q_putN, r_blP, r_boolP, r_unpP, r_parP, r_opt, r_pick, r_add, r_addT, r_addR, r_addL, r_sub, r_mul, r_div, r_mod, r_pow, r_cmp, r_lt, r_neg, r_isN, r_isNr, r_isNi, r_isNn, r_isNt, r_eqI, r_ixT, r_ixK, r_ixR, r_lstOf, r_sliT, r_sliK, r_sliR, r_sliL, r_truB, r_truI, r_truT, r_truN, r_truR, r_truL, r_max, r_min, r_intB, r_intI, r_abs, r_lenT, r_lenK, r_lenR, r_lenL, r_nat, r_set, r_setL, r_isI, r_isB, r_isT, r_fld, r_fldR, r_fldI, r_sfd, r_sfdR, r_sfdI, r_met, r_metR, r_met1, atI0, atI1, atI2, atI3, atI4, ixN1a, ixN2a, ixN2b, ixN3a, ixN3b, ixN3c, put_same, List.map_cons, List.map_nil, List.length_cons, List.length_nil, List.length_set, List.replicate, List.cons_append, List.nil_append, List.append_nil, List.getElem?_cons_zero, List.getElem?_cons_succ, List.set_cons_zero, List.set_cons_succ, true_and, and_true, Option.some.injEq, if_true, if_false, ite_true, ite_false, reduceIte, Bool.not_true, Bool.not_false, Bool.false_eq_true, Nat.reduceAdd, Nat.reduceLeDiff, show ¬ least c t b * (b + t) < c * b by omega, decide_false]
    by_cases u : 0 < least c t b
    · simp only [u, decide_true, q_wpf, q_seq, q_set, q_ret, q_retN, q_if, q_drop, r_unp', r_par, q_next, q_brk, q_cont, q_for, sWhile, q_sub, sAug, q_rng1, r_rng1P, jRng2, q_jseq, r_seqT, r_seqK, r_seqR, r_seqL, r_ownP, q_op, r_var, r_varS, q_c, q_cons, q_nil, q_cb, q_tup, q_lst, r_test, r_tru, q_not, q_and, q_or, r_andV, r_orV, r_notV, q_if', q_un, q_call, q_slice, q_some, q_none, r_intP, r_chn, r_chnT, r_link, r_last, q_lc, q_yes, q_make, r_nonP, q_fldg, r_eqT2, r_set0, r_set1, q_put1, q_putN, r_blP, r_boolP, r_unpP, r_parP, r_opt, r_pick, r_add, r_addT, r_addR, r_addL, r_sub, r_mul, r_div, r_mod, r_pow, r_cmp, r_lt, r_neg, r_isN, r_isNr, r_isNi, r_isNn, r_isNt, r_eqI, r_ixT, r_ixK, r_ixR, r_lstOf, r_sliT, r_sliK, r_sliR, r_sliL, r_truB, r_truI, r_truT, r_truN, r_truR, r_truL, r_max, r_min, r_intB, r_intI, r_abs, r_lenT, r_lenK, r_lenR, r_lenL, r_nat, r_set, r_setL, r_isI, r_isB, r_isT, r_fld, r_fldR, r_fldI, r_sfd, r_sfdR, r_sfdI, r_met, r_metR, r_met1, atI0, atI1, atI2, atI3, atI4, ixN1a, ixN2a, ixN2b, ixN3a, ixN3b, ixN3c, put_same, List.map_cons, List.map_nil, List.length_cons, List.length_nil, List.length_set, List.replicate, List.cons_append, List.nil_append, List.append_nil, List.getElem?_cons_zero, List.getElem?_cons_succ, List.set_cons_zero, List.set_cons_succ, true_and, and_true, Option.some.injEq, if_true, if_false, ite_true, ite_false, reduceIte, Bool.not_true, Bool.not_false, Bool.false_eq_true, Nat.reduceAdd, Nat.reduceLeDiff]
      refine ⟨mul_r (by omega) (by omega), mul_r (by omega) (by omega), ?_⟩
      simp only [q_wpf, q_seq, q_set, q_ret, q_retN, q_if, q_drop, r_unp', r_par, q_next, q_brk, q_cont, q_for, sWhile, q_sub, sAug, q_rng1, r_rng1P, jRng2, q_jseq, r_seqT, r_seqK, r_seqR, r_seqL, r_ownP, q_op, r_var, r_varS, q_c, q_cons, q_nil, q_cb, q_tup, q_lst, r_test, r_tru, q_not, q_and, q_or, r_andV, r_orV, r_notV, q_if', q_un, q_call, q_slice, q_some, q_none, r_intP, r_chn, r_chnT, r_link, r_last, q_lc, q_yes, q_make, r_nonP, q_fldg, r_eqT2, r_set0, r_set1, q_put1, q_putN, r_blP, r_boolP, r_unpP, r_parP, r_opt, r_pick, r_add, r_addT, r_addR, r_addL, r_sub, r_mul, r_div, r_mod, r_pow, r_cmp, r_lt, r_neg, r_isN, r_isNr, r_isNi, r_isNn, r_isNt, r_eqI, r_ixT, r_ixK, r_ixR, r_lstOf, r_sliT, r_sliK, r_sliR, r_sliL, r_truB, r_truI, r_truT, r_truN, r_truR, r_truL, r_max, r_min, r_intB, r_intI, r_abs, r_lenT, r_lenK, r_lenR, r_lenL, r_nat, r_set, r_setL, r_isI, r_isB, r_isT, r_fld, r_fldR, r_fldI, r_sfd, r_sfdR, r_sfdI, r_met, r_metR, r_met1, atI0, atI1, atI2, atI3, atI4, ixN1a, ixN2a, ixN2b, ixN3a, ixN3b, ixN3c, put_same, List.map_cons, List.map_nil, List.length_cons, List.length_nil, List.length_set, List.replicate, List.cons_append, List.nil_append, List.append_nil, List.getElem?_cons_zero, List.getElem?_cons_succ, List.set_cons_zero, List.set_cons_succ, true_and, and_true, Option.some.injEq, if_true, if_false, ite_true, ite_false, reduceIte, Bool.not_true, Bool.not_false, Bool.false_eq_true, Nat.reduceAdd, Nat.reduceLeDiff, show ¬ c * b ≤ (least c t b - 1) * (b + t) by omega, decide_false]
      refine ⟨mul_r (by omega) (by omega), mul_r (by omega) (by omega), ?_⟩
      simp only [q_wpf, q_seq, q_set, q_ret, q_retN, q_if, q_drop, r_unp', r_par, q_next, q_brk, q_cont, q_for, sWhile, q_sub, sAug, q_rng1, r_rng1P, jRng2, q_jseq, r_seqT, r_seqK, r_seqR, r_seqL, r_ownP, q_op, r_var, r_varS, q_c, q_cons, q_nil, q_cb, q_tup, q_lst, r_test, r_tru, q_not, q_and, q_or, r_andV, r_orV, r_notV, q_if', q_un, q_call, q_slice, q_some, q_none, r_intP, r_chn, r_chnT, r_link, r_last, q_lc, q_yes, q_make, r_nonP, q_fldg, r_eqT2, r_set0, r_set1, q_put1, q_putN, r_blP, r_boolP, r_unpP, r_parP, r_opt, r_pick, r_add, r_addT, r_addR, r_addL, r_sub, r_mul, r_div, r_mod, r_pow, r_cmp, r_lt, r_neg, r_isN, r_isNr, r_isNi, r_isNn, r_isNt, r_eqI, r_ixT, r_ixK, r_ixR, r_lstOf, r_sliT, r_sliK, r_sliR, r_sliL, r_truB, r_truI, r_truT, r_truN, r_truR, r_truL, r_max, r_min, r_intB, r_intI, r_abs, r_lenT, r_lenK, r_lenR, r_lenL, r_nat, r_set, r_setL, r_isI, r_isB, r_isT, r_fld, r_fldR, r_fldI, r_sfd, r_sfdR, r_sfdI, r_met, r_metR, r_met1, atI0, atI1, atI2, atI3, atI4, ixN1a, ixN2a, ixN2b, ixN3a, ixN3b, ixN3c, put_same, List.map_cons, List.map_nil, List.length_cons, List.length_nil, List.length_set, List.replicate, List.cons_append, List.nil_append, List.append_nil, List.getElem?_cons_zero, List.getElem?_cons_succ, List.set_cons_zero, List.set_cons_succ, true_and, and_true, Option.some.injEq, if_true, if_false, ite_true, ite_false, reduceIte, Bool.not_true, Bool.not_false, Bool.false_eq_true, Nat.reduceAdd, Nat.reduceLeDiff, show ¬ (c + 1) * b ≤ most c t b * (b - t) by omega, decide_false]
      refine ⟨mul_r (by omega) (by omega), mul_r (by omega) (by omega), ?_⟩
      simp only [q_wpf, q_seq, q_set, q_ret, q_retN, q_if, q_drop, r_unp', r_par, q_next, q_brk, q_cont, q_for, sWhile, q_sub, sAug, q_rng1, r_rng1P, jRng2, q_jseq, r_seqT, r_seqK, r_seqR, r_seqL, r_ownP, q_op, r_var, r_varS, q_c, q_cons, q_nil, q_cb, q_tup, q_lst, r_test, r_tru, q_not, q_and, q_or, r_andV, r_orV, r_notV, q_if', q_un, q_call, q_slice, q_some, q_none, r_intP, r_chn, r_chnT, r_link, r_last, q_lc, q_yes, q_make, r_nonP, q_fldg, r_eqT2, r_set0, r_set1, q_put1, q_putN, r_blP, r_boolP, r_unpP, r_parP, r_opt, r_pick, r_add, r_addT, r_addR, r_addL, r_sub, r_mul, r_div, r_mod, r_pow, r_cmp, r_lt, r_neg, r_isN, r_isNr, r_isNi, r_isNn, r_isNt, r_eqI, r_ixT, r_ixK, r_ixR, r_lstOf, r_sliT, r_sliK, r_sliR, r_sliL, r_truB, r_truI, r_truT, r_truN, r_truR, r_truL, r_max, r_min, r_intB, r_intI, r_abs, r_lenT, r_lenK, r_lenR, r_lenL, r_nat, r_set, r_setL, r_isI, r_isB, r_isT, r_fld, r_fldR, r_fldI, r_sfd, r_sfdR, r_sfdI, r_met, r_metR, r_met1, atI0, atI1, atI2, atI3, atI4, ixN1a, ixN2a, ixN2b, ixN3a, ixN3b, ixN3c, put_same, List.map_cons, List.map_nil, List.length_cons, List.length_nil, List.length_set, List.replicate, List.cons_append, List.nil_append, List.append_nil, List.getElem?_cons_zero, List.getElem?_cons_succ, List.set_cons_zero, List.set_cons_succ, true_and, and_true, Option.some.injEq, if_true, if_false, ite_true, ite_false, reduceIte, Bool.not_true, Bool.not_false, Bool.false_eq_true, Nat.reduceAdd, Nat.reduceLeDiff, show ¬ (most c t b + 1) * (b - t) < (c + 1) * b by omega, decide_false]
      refine newL_in fun p1 G8 hp1 _ e1 l8 _ => fun p2 hp2 => newL_in fun p3 G10 hp3 _ e3 l10 _ => ?_
      have l9 : Le G8 (put G8 p2 (.dK [])) := Le.newB hp2
      have hR9 := (hR7.le l8).le l9
      refine take_ok (hR9.le l10) (by omega) (by omega) fun r7 G11 hv0 hv1 hR11 fr11 => ?_
      have e11 := (fr11 p3 (hR9.ne hp3)).trans e3
      have f1 : G11 p1 = some (.lst [.int 1]) := (fr11 p1 (hR7.ne hp1)).trans (l10 _ _ (l9 _ _ e1))
      have f2 : G11 p2 = some (.dK []) := (fr11 p2 ((hR7.le l8).ne hp2)).trans (l10 _ _ put_same)
      obtain ⟨z, hz, ez⟩ := pick hv0 (show r7 < ([.int (-1), .non, .bl true, .str "1", .ref p1, .tup [.int 2], .ref p2] : List D).length from hv1)
      have ho : Odd G11 z := by
        simp only [List.mem_cons, List.not_mem_nil, or_false] at hz
        rcases hz with rfl | rfl | rfl | rfl | rfl | rfl | rfl
        · exact .inl rfl
        · exact .inr (.inl rfl)
        · exact .inr (.inr (.inl rfl))
        · exact .inr (.inr (.inr (.inl ⟨_, rfl⟩)))
        · exact .inr (.inr (.inr (.inr (.inl ⟨_, _, rfl, f1⟩))))
        · exact .inr (.inr (.inr (.inr (.inr (.inl ⟨_, rfl⟩)))))
        · exact .inr (.inr (.inr (.inr (.inr (.inr ⟨_, _, rfl, f2⟩)))))
      simp only [q_wpf, q_seq, q_set, q_ret, q_retN, q_if, q_drop, r_unp', r_par, q_next, q_brk, q_cont, q_for, sWhile, q_sub, sAug, q_rng1, r_rng1P, jRng2, q_jseq, r_seqT, r_seqK, r_seqR, r_seqL, r_ownP, q_op, r_var, r_varS, q_c, q_cons, q_nil, q_cb, q_tup, q_lst, r_test, r_tru, q_not, q_and, q_or, r_andV, r_orV, r_notV, q_if', q_un, q_call, q_slice, q_some, q_none, r_intP, r_chn, r_chnT, r_link, r_last, q_lc, q_yes, q_make, r_nonP, q_fldg, r_eqT2, r_set0, r_set1, q_put1, q_putN, r_blP, r_boolP, r_unpP, r_parP, r_opt, r_pick, r_add, r_addT, r_addR, r_addL, r_sub, r_mul, r_div, r_mod, r_pow, r_cmp, r_lt, r_neg, r_isN, r_isNr, r_isNi, r_isNn, r_isNt, r_eqI, r_ixT, r_ixK, r_ixR, r_lstOf, r_sliT, r_sliK, r_sliR, r_sliL, r_truB, r_truI, r_truT, r_truN, r_truR, r_truL, r_max, r_min, r_intB, r_intI, r_abs, r_lenT, r_lenK, r_lenR, r_lenL, r_nat, r_set, r_setL, r_isI, r_isB, r_isT, r_fld, r_fldR, r_fldI, r_sfd, r_sfdR, r_sfdI, r_met, r_metR, r_met1, atI0, atI1, atI2, atI3, atI4, ixN1a, ixN2a, ixN2b, ixN3a, ixN3b, ixN3c, put_same, List.map_cons, List.map_nil, List.length_cons, List.length_nil, List.length_set, List.replicate, List.cons_append, List.nil_append, List.append_nil, List.getElem?_cons_zero, List.getElem?_cons_succ, List.set_cons_zero, List.set_cons_succ, true_and, and_true, Option.some.injEq, if_true, if_false, ite_true, ite_false, reduceIte, Bool.not_true, Bool.not_false, Bool.false_eq_true, Nat.reduceAdd, Nat.reduceLeDiff, e11, ez]
      refine refused_ok g ho fun G12 l12 => ?_
      try simp only [q_wpf, q_seq, q_set, q_ret, q_retN, q_if, q_drop, r_unp', r_par, q_next, q_brk, q_cont, q_for, sWhile, q_sub, sAug, q_rng1, r_rng1P, jRng2, q_jseq, r_seqT, r_seqK, r_seqR, r_seqL, r_ownP, q_op, r_var, r_varS, q_c, q_cons, q_nil, q_cb, q_tup, q_lst, r_test, r_tru, q_not, q_and, q_or, r_andV, r_orV, r_notV, q_if', q_un, q_call, q_slice, q_some, q_none, r_intP, r_chn, r_chnT, r_link, r_last, q_lc, q_yes, q_make, r_nonP, q_fldg, r_eqT2, r_set0, r_set1, q_put1, q_putN, r_blP, r_boolP, r_unpP, r_parP, r_opt, r_pick, r_add, r_addT, r_addR, r_addL, r_sub, r_mul, r_div, r_mod, r_pow, r_cmp, r_lt, r_neg, r_isN, r_isNr, r_isNi, r_isNn, r_isNt, r_eqI, r_ixT, r_ixK, r_ixR, r_lstOf, r_sliT, r_sliK, r_sliR, r_sliL, r_truB, r_truI, r_truT, r_truN, r_truR, r_truL, r_max, r_min, r_intB, r_intI, r_abs, r_lenT, r_lenK, r_lenR, r_lenL, r_nat, r_set, r_setL, r_isI, r_isB, r_isT, r_fld, r_fldR, r_fldI, r_sfd, r_sfdR, r_sfdI, r_met, r_metR, r_met1, atI0, atI1, atI2, atI3, atI4, ixN1a, ixN2a, ixN2b, ixN3a, ixN3b, ixN3c, put_same, List.map_cons, List.map_nil, List.length_cons, List.length_nil, List.length_set, List.replicate, List.cons_append, List.nil_append, List.append_nil, List.getElem?_cons_zero, List.getElem?_cons_succ, List.set_cons_zero, List.set_cons_succ, true_and, and_true, Option.some.injEq, if_true, if_false, ite_true, ite_false, reduceIte, Bool.not_true, Bool.not_false, Bool.false_eq_true, Nat.reduceAdd, Nat.reduceLeDiff]
      refine least_ok (by omega) hd ?_
      simp only [q_wpf, q_seq, q_set, q_ret, q_retN, q_if, q_drop, r_unp', r_par, q_next, q_brk, q_cont, q_for, sWhile, q_sub, sAug, q_rng1, r_rng1P, jRng2, q_jseq, r_seqT, r_seqK, r_seqR, r_seqL, r_ownP, q_op, r_var, r_varS, q_c, q_cons, q_nil, q_cb, q_tup, q_lst, r_test, r_tru, q_not, q_and, q_or, r_andV, r_orV, r_notV, q_if', q_un, q_call, q_slice, q_some, q_none, r_intP, r_chn, r_chnT, r_link, r_last, q_lc, q_yes, q_make, r_nonP, q_fldg, r_eqT2, r_set0, r_set1, q_put1, q_putN, r_blP, r_boolP, r_unpP, r_parP, r_opt, r_pick, r_add, r_addT, r_addR, r_addL, r_sub, r_mul, r_div, r_mod, r_pow, r_cmp, r_lt, r_neg, r_isN, r_isNr, r_isNi, r_isNn, r_isNt, r_eqI, r_ixT, r_ixK, r_ixR, r_lstOf, r_sliT, r_sliK, r_sliR, r_sliL, r_truB, r_truI, r_truT, r_truN, r_truR, r_truL, r_max, r_min, r_intB, r_intI, r_abs, r_lenT, r_lenK, r_lenR, r_lenL, r_nat, r_set, r_setL, r_isI, r_isB, r_isT, r_fld, r_fldR, r_fldI, r_sfd, r_sfdR, r_sfdI, r_met, r_metR, r_met1, atI0, atI1, atI2, atI3, atI4, ixN1a, ixN2a, ixN2b, ixN3a, ixN3b, ixN3c, put_same, List.map_cons, List.map_nil, List.length_cons, List.length_nil, List.length_set, List.replicate, List.cons_append, List.nil_append, List.append_nil, List.getElem?_cons_zero, List.getElem?_cons_succ, List.set_cons_zero, List.set_cons_succ, true_and, and_true, Option.some.injEq, if_true, if_false, ite_true, ite_false, reduceIte, Bool.not_true, Bool.not_false, Bool.false_eq_true, Nat.reduceAdd, Nat.reduceLeDiff, show ¬ least (c + 1) t b < least c t b by omega, decide_false]
      refine most_ok (by omega) hd ?_
      simp only [q_wpf, q_seq, q_set, q_ret, q_retN, q_if, q_drop, r_unp', r_par, q_next, q_brk, q_cont, q_for, sWhile, q_sub, sAug, q_rng1, r_rng1P, jRng2, q_jseq, r_seqT, r_seqK, r_seqR, r_seqL, r_ownP, q_op, r_var, r_varS, q_c, q_cons, q_nil, q_cb, q_tup, q_lst, r_test, r_tru, q_not, q_and, q_or, r_andV, r_orV, r_notV, q_if', q_un, q_call, q_slice, q_some, q_none, r_intP, r_chn, r_chnT, r_link, r_last, q_lc, q_yes, q_make, r_nonP, q_fldg, r_eqT2, r_set0, r_set1, q_put1, q_putN, r_blP, r_boolP, r_unpP, r_parP, r_opt, r_pick, r_add, r_addT, r_addR, r_addL, r_sub, r_mul, r_div, r_mod, r_pow, r_cmp, r_lt, r_neg, r_isN, r_isNr, r_isNi, r_isNn, r_isNt, r_eqI, r_ixT, r_ixK, r_ixR, r_lstOf, r_sliT, r_sliK, r_sliR, r_sliL, r_truB, r_truI, r_truT, r_truN, r_truR, r_truL, r_max, r_min, r_intB, r_intI, r_abs, r_lenT, r_lenK, r_lenR, r_lenL, r_nat, r_set, r_setL, r_isI, r_isB, r_isT, r_fld, r_fldR, r_fldI, r_sfd, r_sfdR, r_sfdI, r_met, r_metR, r_met1, atI0, atI1, atI2, atI3, atI4, ixN1a, ixN2a, ixN2b, ixN3a, ixN3b, ixN3c, put_same, List.map_cons, List.map_nil, List.length_cons, List.length_nil, List.length_set, List.replicate, List.cons_append, List.nil_append, List.append_nil, List.getElem?_cons_zero, List.getElem?_cons_succ, List.set_cons_zero, List.set_cons_succ, true_and, and_true, Option.some.injEq, if_true, if_false, ite_true, ite_false, reduceIte, Bool.not_true, Bool.not_false, Bool.false_eq_true, Nat.reduceAdd, Nat.reduceLeDiff, show ¬ most (c + 1) t b ≤ most c t b by omega, decide_false]
      exact hk _ _ ⟨_, _, _, _, _, _, _, _, rfl⟩
    · simp only [u, decide_false, q_wpf, q_seq, q_set, q_ret, q_retN, q_if, q_drop, r_unp', r_par, q_next, q_brk, q_cont, q_for, sWhile, q_sub, sAug, q_rng1, r_rng1P, jRng2, q_jseq, r_seqT, r_seqK, r_seqR, r_seqL, r_ownP, q_op, r_var, r_varS, q_c, q_cons, q_nil, q_cb, q_tup, q_lst, r_test, r_tru, q_not, q_and, q_or, r_andV, r_orV, r_notV, q_if', q_un, q_call, q_slice, q_some, q_none, r_intP, r_chn, r_chnT, r_link, r_last, q_lc, q_yes, q_make, r_nonP, q_fldg, r_eqT2, r_set0, r_set1, q_put1, q_putN, r_blP, r_boolP, r_unpP, r_parP, r_opt, r_pick, r_add, r_addT, r_addR, r_addL, r_sub, r_mul, r_div, r_mod, r_pow, r_cmp, r_lt, r_neg, r_isN, r_isNr, r_isNi, r_isNn, r_isNt, r_eqI, r_ixT, r_ixK, r_ixR, r_lstOf, r_sliT, r_sliK, r_sliR, r_sliL, r_truB, r_truI, r_truT, r_truN, r_truR, r_truL, r_max, r_min, r_intB, r_intI, r_abs, r_lenT, r_lenK, r_lenR, r_lenL, r_nat, r_set, r_setL, r_isI, r_isB, r_isT, r_fld, r_fldR, r_fldI, r_sfd, r_sfdR, r_sfdI, r_met, r_metR, r_met1, atI0, atI1, atI2, atI3, atI4, ixN1a, ixN2a, ixN2b, ixN3a, ixN3b, ixN3c, put_same, List.map_cons, List.map_nil, List.length_cons, List.length_nil, List.length_set, List.replicate, List.cons_append, List.nil_append, List.append_nil, List.getElem?_cons_zero, List.getElem?_cons_succ, List.set_cons_zero, List.set_cons_succ, true_and, and_true, Option.some.injEq, if_true, if_false, ite_true, ite_false, reduceIte, Bool.not_true, Bool.not_false, Bool.false_eq_true, Nat.reduceAdd, Nat.reduceLeDiff]
      refine ⟨mul_r (by omega) (by omega), mul_r (by omega) (by omega), ?_⟩
      simp only [q_wpf, q_seq, q_set, q_ret, q_retN, q_if, q_drop, r_unp', r_par, q_next, q_brk, q_cont, q_for, sWhile, q_sub, sAug, q_rng1, r_rng1P, jRng2, q_jseq, r_seqT, r_seqK, r_seqR, r_seqL, r_ownP, q_op, r_var, r_varS, q_c, q_cons, q_nil, q_cb, q_tup, q_lst, r_test, r_tru, q_not, q_and, q_or, r_andV, r_orV, r_notV, q_if', q_un, q_call, q_slice, q_some, q_none, r_intP, r_chn, r_chnT, r_link, r_last, q_lc, q_yes, q_make, r_nonP, q_fldg, r_eqT2, r_set0, r_set1, q_put1, q_putN, r_blP, r_boolP, r_unpP, r_parP, r_opt, r_pick, r_add, r_addT, r_addR, r_addL, r_sub, r_mul, r_div, r_mod, r_pow, r_cmp, r_lt, r_neg, r_isN, r_isNr, r_isNi, r_isNn, r_isNt, r_eqI, r_ixT, r_ixK, r_ixR, r_lstOf, r_sliT, r_sliK, r_sliR, r_sliL, r_truB, r_truI, r_truT, r_truN, r_truR, r_truL, r_max, r_min, r_intB, r_intI, r_abs, r_lenT, r_lenK, r_lenR, r_lenL, r_nat, r_set, r_setL, r_isI, r_isB, r_isT, r_fld, r_fldR, r_fldI, r_sfd, r_sfdR, r_sfdI, r_met, r_metR, r_met1, atI0, atI1, atI2, atI3, atI4, ixN1a, ixN2a, ixN2b, ixN3a, ixN3b, ixN3c, put_same, List.map_cons, List.map_nil, List.length_cons, List.length_nil, List.length_set, List.replicate, List.cons_append, List.nil_append, List.append_nil, List.getElem?_cons_zero, List.getElem?_cons_succ, List.set_cons_zero, List.set_cons_succ, true_and, and_true, Option.some.injEq, if_true, if_false, ite_true, ite_false, reduceIte, Bool.not_true, Bool.not_false, Bool.false_eq_true, Nat.reduceAdd, Nat.reduceLeDiff, show ¬ (c + 1) * b ≤ most c t b * (b - t) by omega, decide_false]
      refine ⟨mul_r (by omega) (by omega), mul_r (by omega) (by omega), ?_⟩
      simp only [q_wpf, q_seq, q_set, q_ret, q_retN, q_if, q_drop, r_unp', r_par, q_next, q_brk, q_cont, q_for, sWhile, q_sub, sAug, q_rng1, r_rng1P, jRng2, q_jseq, r_seqT, r_seqK, r_seqR, r_seqL, r_ownP, q_op, r_var, r_varS, q_c, q_cons, q_nil, q_cb, q_tup, q_lst, r_test, r_tru, q_not, q_and, q_or, r_andV, r_orV, r_notV, q_if', q_un, q_call, q_slice, q_some, q_none, r_intP, r_chn, r_chnT, r_link, r_last, q_lc, q_yes, q_make, r_nonP, q_fldg, r_eqT2, r_set0, r_set1, q_put1, q_putN, r_blP, r_boolP, r_unpP, r_parP, r_opt, r_pick, r_add, r_addT, r_addR, r_addL, r_sub, r_mul, r_div, r_mod, r_pow, r_cmp, r_lt, r_neg, r_isN, r_isNr, r_isNi, r_isNn, r_isNt, r_eqI, r_ixT, r_ixK, r_ixR, r_lstOf, r_sliT, r_sliK, r_sliR, r_sliL, r_truB, r_truI, r_truT, r_truN, r_truR, r_truL, r_max, r_min, r_intB, r_intI, r_abs, r_lenT, r_lenK, r_lenR, r_lenL, r_nat, r_set, r_setL, r_isI, r_isB, r_isT, r_fld, r_fldR, r_fldI, r_sfd, r_sfdR, r_sfdI, r_met, r_metR, r_met1, atI0, atI1, atI2, atI3, atI4, ixN1a, ixN2a, ixN2b, ixN3a, ixN3b, ixN3c, put_same, List.map_cons, List.map_nil, List.length_cons, List.length_nil, List.length_set, List.replicate, List.cons_append, List.nil_append, List.append_nil, List.getElem?_cons_zero, List.getElem?_cons_succ, List.set_cons_zero, List.set_cons_succ, true_and, and_true, Option.some.injEq, if_true, if_false, ite_true, ite_false, reduceIte, Bool.not_true, Bool.not_false, Bool.false_eq_true, Nat.reduceAdd, Nat.reduceLeDiff, show ¬ (most c t b + 1) * (b - t) < (c + 1) * b by omega, decide_false]
      refine newL_in fun p1 G8 hp1 _ e1 l8 _ => fun p2 hp2 => newL_in fun p3 G10 hp3 _ e3 l10 _ => ?_
      have l9 : Le G8 (put G8 p2 (.dK [])) := Le.newB hp2
      have hR9 := (hR7.le l8).le l9
      refine take_ok (hR9.le l10) (by omega) (by omega) fun r7 G11 hv0 hv1 hR11 fr11 => ?_
      have e11 := (fr11 p3 (hR9.ne hp3)).trans e3
      have f1 : G11 p1 = some (.lst [.int 1]) := (fr11 p1 (hR7.ne hp1)).trans (l10 _ _ (l9 _ _ e1))
      have f2 : G11 p2 = some (.dK []) := (fr11 p2 ((hR7.le l8).ne hp2)).trans (l10 _ _ put_same)
      obtain ⟨z, hz, ez⟩ := pick hv0 (show r7 < ([.int (-1), .non, .bl true, .str "1", .ref p1, .tup [.int 2], .ref p2] : List D).length from hv1)
      have ho : Odd G11 z := by
        simp only [List.mem_cons, List.not_mem_nil, or_false] at hz
        rcases hz with rfl | rfl | rfl | rfl | rfl | rfl | rfl
        · exact .inl rfl
        · exact .inr (.inl rfl)
        · exact .inr (.inr (.inl rfl))
        · exact .inr (.inr (.inr (.inl ⟨_, rfl⟩)))
        · exact .inr (.inr (.inr (.inr (.inl ⟨_, _, rfl, f1⟩))))
        · exact .inr (.inr (.inr (.inr (.inr (.inl ⟨_, rfl⟩)))))
        · exact .inr (.inr (.inr (.inr (.inr (.inr ⟨_, _, rfl, f2⟩)))))
      simp only [q_wpf, q_seq, q_set, q_ret, q_retN, q_if, q_drop, r_unp', r_par, q_next, q_brk, q_cont, q_for, sWhile, q_sub, sAug, q_rng1, r_rng1P, jRng2, q_jseq, r_seqT, r_seqK, r_seqR, r_seqL, r_ownP, q_op, r_var, r_varS, q_c, q_cons, q_nil, q_cb, q_tup, q_lst, r_test, r_tru, q_not, q_and, q_or, r_andV, r_orV, r_notV, q_if', q_un, q_call, q_slice, q_some, q_none, r_intP, r_chn, r_chnT, r_link, r_last, q_lc, q_yes, q_make, r_nonP, q_fldg, r_eqT2, r_set0, r_set1, q_put1, q_putN, r_blP, r_boolP, r_unpP, r_parP, r_opt, r_pick, r_add, r_addT, r_addR, r_addL, r_sub, r_mul, r_div, r_mod, r_pow, r_cmp, r_lt, r_neg, r_isN, r_isNr, r_isNi, r_isNn, r_isNt, r_eqI, r_ixT, r_ixK, r_ixR, r_lstOf, r_sliT, r_sliK, r_sliR, r_sliL, r_truB, r_truI, r_truT, r_truN, r_truR, r_truL, r_max, r_min, r_intB, r_intI, r_abs, r_lenT, r_lenK, r_lenR, r_lenL, r_nat, r_set, r_setL, r_isI, r_isB, r_isT, r_fld, r_fldR, r_fldI, r_sfd, r_sfdR, r_sfdI, r_met, r_metR, r_met1, atI0, atI1, atI2, atI3, atI4, ixN1a, ixN2a, ixN2b, ixN3a, ixN3b, ixN3c, put_same, List.map_cons, List.map_nil, List.length_cons, List.length_nil, List.length_set, List.replicate, List.cons_append, List.nil_append, List.append_nil, List.getElem?_cons_zero, List.getElem?_cons_succ, List.set_cons_zero, List.set_cons_succ, true_and, and_true, Option.some.injEq, if_true, if_false, ite_true, ite_false, reduceIte, Bool.not_true, Bool.not_false, Bool.false_eq_true, Nat.reduceAdd, Nat.reduceLeDiff, e11, ez]
      refine refused_ok g ho fun G12 l12 => ?_
      try simp only [q_wpf, q_seq, q_set, q_ret, q_retN, q_if, q_drop, r_unp', r_par, q_next, q_brk, q_cont, q_for, sWhile, q_sub, sAug, q_rng1, r_rng1P, jRng2, q_jseq, r_seqT, r_seqK, r_seqR, r_seqL, r_ownP, q_op, r_var, r_varS, q_c, q_cons, q_nil, q_cb, q_tup, q_lst, r_test, r_tru, q_not, q_and, q_or, r_andV, r_orV, r_notV, q_if', q_un, q_call, q_slice, q_some, q_none, r_intP, r_chn, r_chnT, r_link, r_last, q_lc, q_yes, q_make, r_nonP, q_fldg, r_eqT2, r_set0, r_set1, q_put1, q_putN, r_blP, r_boolP, r_unpP, r_parP, r_opt, r_pick, r_add, r_addT, r_addR, r_addL, r_sub, r_mul, r_div, r_mod, r_pow, r_cmp, r_lt, r_neg, r_isN, r_isNr, r_isNi, r_isNn, r_isNt, r_eqI, r_ixT, r_ixK, r_ixR, r_lstOf, r_sliT, r_sliK, r_sliR, r_sliL, r_truB, r_truI, r_truT, r_truN, r_truR, r_truL, r_max, r_min, r_intB, r_intI, r_abs, r_lenT, r_lenK, r_lenR, r_lenL, r_nat, r_set, r_setL, r_isI, r_isB, r_isT, r_fld, r_fldR, r_fldI, r_sfd, r_sfdR, r_sfdI, r_met, r_metR, r_met1, atI0, atI1, atI2, atI3, atI4, ixN1a, ixN2a, ixN2b, ixN3a, ixN3b, ixN3c, put_same, List.map_cons, List.map_nil, List.length_cons, List.length_nil, List.length_set, List.replicate, List.cons_append, List.nil_append, List.append_nil, List.getElem?_cons_zero, List.getElem?_cons_succ, List.set_cons_zero, List.set_cons_succ, true_and, and_true, Option.some.injEq, if_true, if_false, ite_true, ite_false, reduceIte, Bool.not_true, Bool.not_false, Bool.false_eq_true, Nat.reduceAdd, Nat.reduceLeDiff]
      refine least_ok (by omega) hd ?_
      simp only [q_wpf, q_seq, q_set, q_ret, q_retN, q_if, q_drop, r_unp', r_par, q_next, q_brk, q_cont, q_for, sWhile, q_sub, sAug, q_rng1, r_rng1P, jRng2, q_jseq, r_seqT, r_seqK, r_seqR, r_seqL, r_ownP, q_op, r_var, r_varS, q_c, q_cons, q_nil, q_cb, q_tup, q_lst, r_test, r_tru, q_not, q_and, q_or, r_andV, r_orV, r_notV, q_if', q_un, q_call, q_slice, q_some, q_none, r_intP, r_chn, r_chnT, r_link, r_last, q_lc, q_yes, q_make, r_nonP, q_fldg, r_eqT2, r_set0, r_set1, q_put1, q_putN, r_blP, r_boolP, r_unpP, r_parP, r_opt, r_pick, r_add, r_addT, r_addR, r_addL, r_sub, r_mul, r_div, r_mod, r_pow, r_cmp, r_lt, r_neg, r_isN, r_isNr, r_isNi, r_isNn, r_isNt, r_eqI, r_ixT, r_ixK, r_ixR, r_lstOf, r_sliT, r_sliK, r_sliR, r_sliL, r_truB, r_truI, r_truT, r_truN, r_truR, r_truL, r_max, r_min, r_intB, r_intI, r_abs, r_lenT, r_lenK, r_lenR, r_lenL, r_nat, r_set, r_setL, r_isI, r_isB, r_isT, r_fld, r_fldR, r_fldI, r_sfd, r_sfdR, r_sfdI, r_met, r_metR, r_met1, atI0, atI1, atI2, atI3, atI4, ixN1a, ixN2a, ixN2b, ixN3a, ixN3b, ixN3c, put_same, List.map_cons, List.map_nil, List.length_cons, List.length_nil, List.length_set, List.replicate, List.cons_append, List.nil_append, List.append_nil, List.getElem?_cons_zero, List.getElem?_cons_succ, List.set_cons_zero, List.set_cons_succ, true_and, and_true, Option.some.injEq, if_true, if_false, ite_true, ite_false, reduceIte, Bool.not_true, Bool.not_false, Bool.false_eq_true, Nat.reduceAdd, Nat.reduceLeDiff, show ¬ least (c + 1) t b < least c t b by omega, decide_false]
      refine most_ok (by omega) hd ?_
      simp only [q_wpf, q_seq, q_set, q_ret, q_retN, q_if, q_drop, r_unp', r_par, q_next, q_brk, q_cont, q_for, sWhile, q_sub, sAug, q_rng1, r_rng1P, jRng2, q_jseq, r_seqT, r_seqK, r_seqR, r_seqL, r_ownP, q_op, r_var, r_varS, q_c, q_cons, q_nil, q_cb, q_tup, q_lst, r_test, r_tru, q_not, q_and, q_or, r_andV, r_orV, r_notV, q_if', q_un, q_call, q_slice, q_some, q_none, r_intP, r_chn, r_chnT, r_link, r_last, q_lc, q_yes, q_make, r_nonP, q_fldg, r_eqT2, r_set0, r_set1, q_put1, q_putN, r_blP, r_boolP, r_unpP, r_parP, r_opt, r_pick, r_add, r_addT, r_addR, r_addL, r_sub, r_mul, r_div, r_mod, r_pow, r_cmp, r_lt, r_neg, r_isN, r_isNr, r_isNi, r_isNn, r_isNt, r_eqI, r_ixT, r_ixK, r_ixR, r_lstOf, r_sliT, r_sliK, r_sliR, r_sliL, r_truB, r_truI, r_truT, r_truN, r_truR, r_truL, r_max, r_min, r_intB, r_intI, r_abs, r_lenT, r_lenK, r_lenR, r_lenL, r_nat, r_set, r_setL, r_isI, r_isB, r_isT, r_fld, r_fldR, r_fldI, r_sfd, r_sfdR, r_sfdI, r_met, r_metR, r_met1, atI0, atI1, atI2, atI3, atI4, ixN1a, ixN2a, ixN2b, ixN3a, ixN3b, ixN3c, put_same, List.map_cons, List.map_nil, List.length_cons, List.length_nil, List.length_set, List.replicate, List.cons_append, List.nil_append, List.append_nil, List.getElem?_cons_zero, List.getElem?_cons_succ, List.set_cons_zero, List.set_cons_succ, true_and, and_true, Option.some.injEq, if_true, if_false, ite_true, ite_false, reduceIte, Bool.not_true, Bool.not_false, Bool.false_eq_true, Nat.reduceAdd, Nat.reduceLeDiff, show ¬ most (c + 1) t b ≤ most c t b by omega, decide_false]
      exact hk _ _ ⟨_, _, _, _, _, _, _, _, rfl⟩
  · obtain ⟨x1, x2, x3, x4, x5, x6, x7, x8, rfl⟩ := hI
    try simp only [q_wpf, q_seq, q_set, q_ret, q_retN, q_if, q_drop, r_unp', r_par, q_next, q_brk, q_cont, q_for, sWhile, q_sub, sAug, q_rng1, r_rng1P, jRng2, q_jseq, r_seqT, r_seqK, r_seqR, r_seqL, r_ownP, q_op, r_var, r_varS, q_c, q_cons, q_nil, q_cb, q_tup, q_lst, r_test, r_tru, q_not, q_and, q_or, r_andV, r_orV, r_notV, q_if', q_un, q_call, q_slice, q_some, q_none, r_intP, r_chn, r_chnT, r_link, r_last, q_lc, q_yes, q_make, r_nonP, q_fldg, r_eqT2, r_set0, r_set1, q_put1, q_putN, r_blP, r_boolP, r_unpP, r_parP, r_opt, r_pick, r_add, r_addT, r_addR, r_addL, r_sub, r_mul, r_div, r_mod, r_pow, r_cmp, r_lt, r_neg, r_isN, r_isNr, r_isNi, r_isNn, r_isNt, r_eqI, r_ixT, r_ixK, r_ixR, r_lstOf, r_sliT, r_sliK, r_sliR, r_sliL, r_truB, r_truI, r_truT, r_truN, r_truR, r_truL, r_max, r_min, r_intB, r_intI, r_abs, r_lenT, r_lenK, r_lenR, r_lenL, r_nat, r_set, r_setL, r_isI, r_isB, r_isT, r_fld, r_fldR, r_fldI, r_sfd, r_sfdR, r_sfdI, r_met, r_metR, r_met1, atI0, atI1, atI2, atI3, atI4, ixN1a, ixN2a, ixN2b, ixN3a, ixN3b, ixN3c, put_same, List.map_cons, List.map_nil, List.length_cons, List.length_nil, List.length_set, List.replicate, List.cons_append, List.nil_append, List.append_nil, List.getElem?_cons_zero, List.getElem?_cons_succ, List.set_cons_zero, List.set_cons_succ, true_and, and_true, Option.some.injEq, if_true, if_false, ite_true, ite_false, reduceIte, Bool.not_true, Bool.not_false, Bool.false_eq_true, Nat.reduceAdd, Nat.reduceLeDiff]
    exact fg_in rfl
end P

set_option maxHeartbeats 4000000
namespace P
open PySem PySem.Spec L2 DL
open PyProof.Rows hiding St
def top (i : Nat) : Stmt := PySem.Challenge.pw_stampedwait_k02_true_ticks_behind_a_coun.main.body.getD i (.Pass ⟨0, 0, 0, 0⟩)
abbrev s_law_begun : Stmt := top 9
abbrev N_law_begun : List Str := ["_law_script", "_law_k", "_law_cell", "_law_number", "_law_mixed"]
abbrev s_law_take : Stmt := top 10
abbrev N_law_take : List Str := ["_law_state", "_law_many", "_law_digit", "_law_made", "_law_turn"]
abbrev s_law_low : Stmt := top 11
abbrev N_law_low : List Str := ["_law_upper", "_law_lower", "_law_here", "_law_there"]
abbrev s_law_drift : Stmt := top 12
abbrev N_law_drift : List Str := ["_law_state", "_law_lower", "_law_some"]
abbrev s_is_whole : Stmt := top 4
abbrev N_is_whole : List Str := ["thing"]
abbrev s_look_at_ticks : Stmt := top 5
abbrev N_look_at_ticks : List Str := ["thing"]
abbrev s_least_passed : Stmt := top 6
abbrev N_least_passed : List Str := ["ticks", "drift", "top", "bottom"]
abbrev s_most_passed : Stmt := top 7
abbrev N_most_passed : List Str := ["ticks", "drift", "top", "bottom"]
abbrev s_law_refused : Stmt := top 14
abbrev N_law_refused : List Str := ["_law_odd", "_law_way", "_law_found", "_law_door"]
abbrev s_law_is_whole : Stmt := top 13
abbrev N_law_is_whole : List Str := ["_law_thing"]
abbrev s_law : Stmt := top 15
abbrev N_law : List Str := ["_law_script", "_law_k", "_law_state", "_law_way", "_law_count", "_law_least", "_law_most", "_law_fast", "_law_slow"]
theorem bt_bool : bootBuiltins "bool" = some (.type "bool") := by decide +kernel
theorem bt_int : bootBuiltins "int" = some (.type "int") := by decide +kernel
/-! ### what the top has left of them -/
structure Txt (K : PySem.W.Frag) (mg : Str → Option Value) (e : Env) : Prop where
  hok : ∀ C f, e.ok C f → AttrOk K C f
  hic : ∀ a c b, e.ic a c b → IsiOk K a c b
  hxm : ∀ c u b, e.xm c u b → PySem.W.exmOne K u c = some b
  rs_NoNumber : RaiseF K mg "NoNumber" e.C_NoNumber
  n_abs : mg "abs" = none
  n_bool : mg "bool" = none
  n_int : mg "int" = none
  n_isinstance : mg "isinstance" = none
  n_len : mg "len" = none
  n_max : mg "max" = none
  n_min : mg "min" = none
  n_range : mg "range" = none
  f_law_begun : DefF K mg "_law_begun" s_law_begun ([])
  f_law_take : DefF K mg "_law_take" s_law_take ([])
  f_law_low : DefF K mg "_law_low" s_law_low ([])
  f_law_drift : DefF K mg "_law_drift" s_law_drift ([])
  f_is_whole : DefF K mg "is_whole" s_is_whole ([])
  f_look_at_ticks : DefF K mg "look_at_ticks" s_look_at_ticks ([])
  f_least_passed : DefF K mg "least_passed" s_least_passed ([])
  f_most_passed : DefF K mg "most_passed" s_most_passed ([])
  f_law_refused : DefF K mg "_law_refused" s_law_refused ([])
  f_law_is_whole : DefF K mg "_law_is_whole" s_law_is_whole ([])
  f_law : DefF K mg "law" s_law ([])
section
variable {P : Program} {w : World} {K : PySem.W.Frag} {mg : Str → Option Value} {base : Heap} {e : Env}
theorem sc_law_begun : FnScope N_law_begun ["_law_script", "_law_k"] (defScope s_law_begun) := ⟨rfl, rfl, rfl, by decide +kernel, rfl, by decide +kernel, by decide +kernel⟩
theorem ok_law_begun (T : Txt K mg e) {f : Addr} {fd : FuncData} {dvs : List V} (F : L2.FunD K "_law_begun" "_law_begun" (defArgs s_law_begun) (defBody s_law_begun) (defScope s_law_begun) dvs [] f fd) : FnK P w K mg base 1 f fd ["_law_script", "_law_k"] (w_law_begun e) :=
  fnd (k := 0) F sc_law_begun rfl rfl fun cdv A outer s H E hr =>
    (dss_cons (ds_set (i := 2) (de_item (de_add (de_slice (dv 0) (do_some (dv 1)) (do_some (de_add (dv 1) de_int))) (de_lst (da_cons de_int da_nil))) de_int) sc_law_begun.nd)
    (dss_cons (ds_set (i := 3) (bc_max rfl T.n_max (da_cons (dv 2) (da_cons (de_sub (de_neg de_int) (dv 2)) da_nil))) sc_law_begun.nd)
    (dss_cons (ds_set (i := 4) (de_mod (de_add (de_add (de_add (de_mod (dv 3) de_int) (de_mul de_int (dv 1))) (de_mul (de_mul de_int (dv 1)) (dv 1))) de_int) de_int) sc_law_begun.nd)
    (dss_one (ds_ret (de_lst (da_cons (dv 3) (da_cons (dv 4) (da_cons (de_c1 (c_ge hr.units) (dv 3) (de_pow de_int de_int)) da_nil)))))))))
theorem c_law_begun_2 (T : Txt K mg e) : DefK P w K mg base 1 "_law_begun" (w_law_begun e) [] := by
    obtain ⟨f, fd, dvs, hdd, F, hm⟩ := T.f_law_begun
    have hdl : dvs.length = 0 := (hdd.rel (fun _ => none)).length
    obtain ⟨ds, hv, hb⟩ : ∃ ds, Vals (dvs.drop 0) ds ∧ Binds K fd ["_law_script", "_law_k"] ds := by
      obtain rfl : dvs = [] := List.eq_nil_of_length_eq_zero hdl
      exact ⟨[], .nil, F.bindsN (ps := ["_law_script", "_law_k"]) fun _ _ _ _ _ _ us hl => match us, hl with | [_, _], _ => rfl⟩
    exact ⟨f, fd, _, _, _, ok_law_begun T F, hm, F.kp, hb, hv, hdd.drop 0, wpf_len⟩
theorem sc_law_take : FnScope N_law_take ["_law_state", "_law_many"] (defScope s_law_take) := ⟨rfl, rfl, rfl, by decide +kernel, rfl, by decide +kernel, by decide +kernel⟩
theorem ok_law_take (T : Txt K mg e) {f : Addr} {fd : FuncData} {dvs : List V} (F : L2.FunD K "_law_take" "_law_take" (defArgs s_law_take) (defBody s_law_take) (defScope s_law_take) dvs [] f fd) : FnK P w K mg base 1 f fd ["_law_state", "_law_many"] (w_law_take e) :=
  fnd (k := 0) F sc_law_take rfl rfl fun cdv A outer s H E hr =>
    (dss_cons (ds_if (dt_tru (de_item (dv 0) de_int))
    (dss_cons (ds_set (i := 2) (de_mod (de_item (dv 0) de_int) (dv 1)) sc_law_take.nd)
    (dss_cons (ds_sub set_list (sd_list _) (dv 0) de_int (de_div (de_item (dv 0) de_int) (dv 1)))
    (dss_cons (ds_sub set_list (sd_list _) (dv 0) de_int (de_c1 (c_gt hr.units) (de_item (dv 0) de_int) de_int))
    (dss_one (ds_ret (dv 2))))))
    dss_nil)
    (dss_cons (ds_set (i := 3) de_int sc_law_take.nd)
    (dss_cons (ds_for (passes_of rfl) rfl (di_range1 T.n_range (da_cons (de_add de_int (bc_int T.n_int (da_cons (de_c1 (c_gt hr.units) (dv 1) (de_pow de_int de_int)) da_nil))) da_nil)) (tg_one sc_law_take.nd 4)
    (dss_cons (ds_sub set_list (sd_list _) (dv 0) de_int (de_mod (de_add (de_mul (de_item (dv 0) de_int) de_int) de_int) de_int))
    (dss_one (ds_set (i := 3) (de_add (de_mul (dv 3) de_int) (de_mod (de_mul (de_item (dv 0) de_int) (de_item (dv 0) de_int)) de_int)) sc_law_take.nd))))
    (dss_one (ds_ret (de_mod (de_div (dv 3) de_int) (dv 1)))))))
theorem c_law_take_2 (T : Txt K mg e) : DefK P w K mg base 1 "_law_take" (w_law_take e) [] := by
    obtain ⟨f, fd, dvs, hdd, F, hm⟩ := T.f_law_take
    have hdl : dvs.length = 0 := (hdd.rel (fun _ => none)).length
    obtain ⟨ds, hv, hb⟩ : ∃ ds, Vals (dvs.drop 0) ds ∧ Binds K fd ["_law_state", "_law_many"] ds := by
      obtain rfl : dvs = [] := List.eq_nil_of_length_eq_zero hdl
      exact ⟨[], .nil, F.bindsN (ps := ["_law_state", "_law_many"]) fun _ _ _ _ _ _ us hl => match us, hl with | [_, _], _ => rfl⟩
    exact ⟨f, fd, _, _, _, ok_law_take T F, hm, F.kp, hb, hv, hdd.drop 0, wpf_len⟩
theorem sc_law_low : FnScope N_law_low ["_law_upper", "_law_lower"] (defScope s_law_low) := ⟨rfl, rfl, rfl, by decide +kernel, rfl, by decide +kernel, by decide +kernel⟩
theorem ok_law_low (T : Txt K mg e) {f : Addr} {fd : FuncData} {dvs : List V} (F : L2.FunD K "_law_low" "_law_low" (defArgs s_law_low) (defBody s_law_low) (defScope s_law_low) dvs [] f fd) : FnK P w K mg base 1 f fd ["_law_upper", "_law_lower"] (w_law_low e) :=
  fnd (k := 0) F sc_law_low rfl rfl fun cdv A outer s H E hr =>
    (dss_cons (ds_par (ps_par (i := 2) (j := 3) rfl sc_law_low.nd rfl rfl (by decide) rfl rfl paSem (by rfl)) (da_cons (bc_abs T.n_abs (da_cons (dv 0) da_nil)) (da_cons (dv 1) da_nil)))
    (dss_cons (ds_while (passes_of rfl) (dt_c1 (c_ne hr.units) (dv 3) de_int)
    (dss_one (ds_par (ps_par (i := 2) (j := 3) rfl sc_law_low.nd rfl rfl (by decide) rfl rfl paSem (by rfl)) (da_cons (dv 3) (da_cons (de_mod (dv 2) (dv 3)) da_nil)))))
    (dss_one (ds_ret (de_tup (da_cons (de_div (dv 0) (dv 2)) (da_cons (de_div (dv 1) (dv 2)) da_nil)))))))
theorem c_law_low_2 (T : Txt K mg e) : DefK P w K mg base 1 "_law_low" (w_law_low e) [] := by
    obtain ⟨f, fd, dvs, hdd, F, hm⟩ := T.f_law_low
    have hdl : dvs.length = 0 := (hdd.rel (fun _ => none)).length
    obtain ⟨ds, hv, hb⟩ : ∃ ds, Vals (dvs.drop 0) ds ∧ Binds K fd ["_law_upper", "_law_lower"] ds := by
      obtain rfl : dvs = [] := List.eq_nil_of_length_eq_zero hdl
      exact ⟨[], .nil, F.bindsN (ps := ["_law_upper", "_law_lower"]) fun _ _ _ _ _ _ us hl => match us, hl with | [_, _], _ => rfl⟩
    exact ⟨f, fd, _, _, _, ok_law_low T F, hm, F.kp, hb, hv, hdd.drop 0, wpf_len⟩
theorem sc_law_drift : FnScope N_law_drift ["_law_state"] (defScope s_law_drift) := ⟨rfl, rfl, rfl, by decide +kernel, rfl, by decide +kernel, by decide +kernel⟩
theorem ok_law_drift (T : Txt K mg e) {f : Addr} {fd : FuncData} {dvs : List V} (F : L2.FunD K "_law_drift" "_law_drift" (defArgs s_law_drift) (defBody s_law_drift) (defScope s_law_drift) dvs [] f fd) : FnK P w K mg base 2 f fd ["_law_state"] (w_law_drift e) :=
  fnd (k := 1) F sc_law_drift rfl rfl fun cdv A outer s H E hr =>
    (dss_cons (ds_set (i := 1) (de_add de_int (dk_call (c_law_take_2 T) hr (da_cons (dv 0) (da_cons (de_item (de_lst (da_cons de_int (da_cons de_int (da_cons de_int da_nil)))) (dk_call (c_law_take_2 T) hr (da_cons (dv 0) (da_cons de_int da_nil)))) da_nil)))) sc_law_drift.nd)
    (dss_cons (ds_set (i := 2) (de_lst (da_cons (de_tup (da_cons de_int (da_cons de_int da_nil))) (da_cons (de_tup (da_cons de_int (da_cons de_int da_nil))) (da_cons (de_tup (da_cons de_int (da_cons de_int da_nil))) (da_cons (de_tup (da_cons de_int (da_cons de_int da_nil))) (da_cons (dk_call (c_law_low_2 T) hr (da_cons (dk_call (c_law_take_2 T) hr (da_cons (dv 0) (da_cons (dv 1) da_nil))) (da_cons (dv 1) da_nil))) da_nil)))))) sc_law_drift.nd)
    (dss_one (ds_ret (de_item (dv 2) (dk_call (c_law_take_2 T) hr (da_cons (dv 0) (da_cons de_int da_nil))))))))
theorem c_law_drift_1 (T : Txt K mg e) : DefK P w K mg base 2 "_law_drift" (w_law_drift e) [] := by
    obtain ⟨f, fd, dvs, hdd, F, hm⟩ := T.f_law_drift
    have hdl : dvs.length = 0 := (hdd.rel (fun _ => none)).length
    obtain ⟨ds, hv, hb⟩ : ∃ ds, Vals (dvs.drop 0) ds ∧ Binds K fd ["_law_state"] ds := by
      obtain rfl : dvs = [] := List.eq_nil_of_length_eq_zero hdl
      exact ⟨[], .nil, F.bindsN (ps := ["_law_state"]) fun _ _ _ _ _ _ us hl => match us, hl with | [_], _ => rfl⟩
    exact ⟨f, fd, _, _, _, ok_law_drift T F, hm, F.kp, hb, hv, hdd.drop 0, wpf_len⟩
theorem sc_is_whole : FnScope N_is_whole ["thing"] (defScope s_is_whole) := ⟨rfl, rfl, rfl, by decide +kernel, rfl, by decide +kernel, by decide +kernel⟩
theorem ok_is_whole (T : Txt K mg e) {f : Addr} {fd : FuncData} {dvs : List V} (F : L2.FunD K "is_whole" "is_whole" (defArgs s_is_whole) (defBody s_is_whole) (defScope s_is_whole) dvs [] f fd) : FnK P w K mg base 1 f fd ["thing"] (w_is_whole e) :=
  fnd (k := 0) F sc_is_whole rfl rfl fun cdv A outer s H E hr =>
    (dss_one (ds_ret (de_and (bc_isi T.hic T.n_isinstance (da_cons (dv 0) (da_cons (de_bty rfl T.n_int bt_int) da_nil))) (de_one (de_not (bc_isi T.hic T.n_isinstance (da_cons (dv 0) (da_cons (de_bty rfl T.n_bool bt_bool) da_nil))))))))
theorem c_is_whole_1 (T : Txt K mg e) : DefK P w K mg base 1 "is_whole" (w_is_whole e) [] := by
    obtain ⟨f, fd, dvs, hdd, F, hm⟩ := T.f_is_whole
    have hdl : dvs.length = 0 := (hdd.rel (fun _ => none)).length
    obtain ⟨ds, hv, hb⟩ : ∃ ds, Vals (dvs.drop 0) ds ∧ Binds K fd ["thing"] ds := by
      obtain rfl : dvs = [] := List.eq_nil_of_length_eq_zero hdl
      exact ⟨[], .nil, F.bindsN (ps := ["thing"]) fun _ _ _ _ _ _ us hl => match us, hl with | [_], _ => rfl⟩
    exact ⟨f, fd, _, _, _, ok_is_whole T F, hm, F.kp, hb, hv, hdd.drop 0, wpf_len⟩
theorem sc_look_at_ticks : FnScope N_look_at_ticks ["thing"] (defScope s_look_at_ticks) := ⟨rfl, rfl, rfl, by decide +kernel, rfl, by decide +kernel, by decide +kernel⟩
theorem ok_look_at_ticks (T : Txt K mg e) {f : Addr} {fd : FuncData} {dvs : List V} (F : L2.FunD K "look_at_ticks" "look_at_ticks" (defArgs s_look_at_ticks) (defBody s_look_at_ticks) (defScope s_look_at_ticks) dvs [] f fd) : FnK P w K mg base 2 f fd ["thing"] (w_look_at_ticks e) :=
  fnd (k := 1) F sc_look_at_ticks rfl rfl fun cdv A outer s H E hr =>
    (dss_one (ds_if (dt_w (dtw_or (dt_not (dt_tru (dk_call (c_is_whole_1 T) hr (da_cons (dv 0) da_nil)))) (dtw_or1 (dt_c1 (c_lt hr.units) (dv 0) de_int))))
    (dss_one (ds_raise T.rs_NoNumber rfl))
    dss_nil))
theorem c_look_at_ticks_1 (T : Txt K mg e) : DefK P w K mg base 2 "look_at_ticks" (w_look_at_ticks e) [] := by
    obtain ⟨f, fd, dvs, hdd, F, hm⟩ := T.f_look_at_ticks
    have hdl : dvs.length = 0 := (hdd.rel (fun _ => none)).length
    obtain ⟨ds, hv, hb⟩ : ∃ ds, Vals (dvs.drop 0) ds ∧ Binds K fd ["thing"] ds := by
      obtain rfl : dvs = [] := List.eq_nil_of_length_eq_zero hdl
      exact ⟨[], .nil, F.bindsN (ps := ["thing"]) fun _ _ _ _ _ _ us hl => match us, hl with | [_], _ => rfl⟩
    exact ⟨f, fd, _, _, _, ok_look_at_ticks T F, hm, F.kp, hb, hv, hdd.drop 0, wpf_len⟩
theorem sc_least_passed : FnScope N_least_passed ["ticks", "drift"] (defScope s_least_passed) := ⟨rfl, rfl, rfl, by decide +kernel, rfl, by decide +kernel, by decide +kernel⟩
theorem ok_least_passed (T : Txt K mg e) {f : Addr} {fd : FuncData} {dvs : List V} (F : L2.FunD K "least_passed" "least_passed" (defArgs s_least_passed) (defBody s_least_passed) (defScope s_least_passed) dvs [] f fd) : FnK P w K mg base 3 f fd ["ticks", "drift"] (w_least_passed e) :=
  fnd (k := 2) F sc_least_passed rfl rfl fun cdv A outer s H E hr =>
    (dss_cons (ds_expr (dk_call (c_look_at_ticks_1 T) hr (da_cons (dv 0) da_nil)))
    (dss_cons (ds_unp (is := [2, 3]) (dv 1) rfl (.one sc_least_passed.nd 2 (.one sc_least_passed.nd 3 .nil)))
    (dss_one (ds_ret (de_neg (de_div (de_mul (de_neg (dv 0)) (dv 3)) (de_add (dv 3) (dv 2))))))))
theorem q_least_passed (T : Txt K mg e) : SwpK P w K mg base 3 "least_passed" (w_least_passed e) "ticks" "drift" := by
    obtain ⟨f, fd, dvs, hdd, F, hm⟩ := T.f_least_passed
    obtain rfl : dvs = [] := List.eq_nil_of_length_eq_zero (hdd.rel (fun _ => none)).length
    refine ⟨f, fd, ok_least_passed T F, hm, F.kp, ?_⟩
    obtain ⟨oc, od, dV, kV, doc, pm, an, cdv, ct, osl, rfl, lk, hcd, hD, hK⟩ := F.ex
    rcases hD with ⟨_, rfl⟩ | ⟨z, _⟩
    · exact fun s u v => .of_eq rfl
    · exact absurd rfl z
theorem c_least_passed_2 (T : Txt K mg e) : DefK P w K mg base 3 "least_passed" (w_least_passed e) [] := by
    obtain ⟨f, fd, dvs, hdd, F, hm⟩ := T.f_least_passed
    have hdl : dvs.length = 0 := (hdd.rel (fun _ => none)).length
    obtain ⟨ds, hv, hb⟩ : ∃ ds, Vals (dvs.drop 0) ds ∧ Binds K fd ["ticks", "drift"] ds := by
      obtain rfl : dvs = [] := List.eq_nil_of_length_eq_zero hdl
      exact ⟨[], .nil, F.bindsN (ps := ["ticks", "drift"]) fun _ _ _ _ _ _ us hl => match us, hl with | [_, _], _ => rfl⟩
    exact ⟨f, fd, _, _, _, ok_least_passed T F, hm, F.kp, hb, hv, hdd.drop 0, wpf_len⟩
theorem sc_most_passed : FnScope N_most_passed ["ticks", "drift"] (defScope s_most_passed) := ⟨rfl, rfl, rfl, by decide +kernel, rfl, by decide +kernel, by decide +kernel⟩
theorem ok_most_passed (T : Txt K mg e) {f : Addr} {fd : FuncData} {dvs : List V} (F : L2.FunD K "most_passed" "most_passed" (defArgs s_most_passed) (defBody s_most_passed) (defScope s_most_passed) dvs [] f fd) : FnK P w K mg base 3 f fd ["ticks", "drift"] (w_most_passed e) :=
  fnd (k := 2) F sc_most_passed rfl rfl fun cdv A outer s H E hr =>
    (dss_cons (ds_expr (dk_call (c_look_at_ticks_1 T) hr (da_cons (dv 0) da_nil)))
    (dss_cons (ds_unp (is := [2, 3]) (dv 1) rfl (.one sc_most_passed.nd 2 (.one sc_most_passed.nd 3 .nil)))
    (dss_one (ds_ret (de_div (de_sub (de_mul (de_add (dv 0) de_int) (dv 3)) de_int) (de_sub (dv 3) (dv 2)))))))
theorem q_most_passed (T : Txt K mg e) : SwpK P w K mg base 3 "most_passed" (w_most_passed e) "ticks" "drift" := by
    obtain ⟨f, fd, dvs, hdd, F, hm⟩ := T.f_most_passed
    obtain rfl : dvs = [] := List.eq_nil_of_length_eq_zero (hdd.rel (fun _ => none)).length
    refine ⟨f, fd, ok_most_passed T F, hm, F.kp, ?_⟩
    obtain ⟨oc, od, dV, kV, doc, pm, an, cdv, ct, osl, rfl, lk, hcd, hD, hK⟩ := F.ex
    rcases hD with ⟨_, rfl⟩ | ⟨z, _⟩
    · exact fun s u v => .of_eq rfl
    · exact absurd rfl z
theorem c_most_passed_2 (T : Txt K mg e) : DefK P w K mg base 3 "most_passed" (w_most_passed e) [] := by
    obtain ⟨f, fd, dvs, hdd, F, hm⟩ := T.f_most_passed
    have hdl : dvs.length = 0 := (hdd.rel (fun _ => none)).length
    obtain ⟨ds, hv, hb⟩ : ∃ ds, Vals (dvs.drop 0) ds ∧ Binds K fd ["ticks", "drift"] ds := by
      obtain rfl : dvs = [] := List.eq_nil_of_length_eq_zero hdl
      exact ⟨[], .nil, F.bindsN (ps := ["ticks", "drift"]) fun _ _ _ _ _ _ us hl => match us, hl with | [_, _], _ => rfl⟩
    exact ⟨f, fd, _, _, _, ok_most_passed T F, hm, F.kp, hb, hv, hdd.drop 0, wpf_len⟩
theorem sc_law_refused : FnScope N_law_refused ["_law_odd", "_law_way"] (defScope s_law_refused) := ⟨rfl, rfl, rfl, by decide +kernel, rfl, by decide +kernel, by decide +kernel⟩
theorem ok_law_refused (T : Txt K mg e) {f : Addr} {fd : FuncData} {dvs : List V} (F : L2.FunD K "_law_refused" "_law_refused" (defArgs s_law_refused) (defBody s_law_refused) (defScope s_law_refused) dvs [] f fd) : FnK P w K mg base 4 f fd ["_law_odd", "_law_way"] (w_law_refused e) :=
  fnd (k := 3) F sc_law_refused rfl rfl fun cdv A outer s H E hr =>
    (dss_cons (ds_set (i := 2) (de_lst da_nil) sc_law_refused.nd)
    (dss_cons (ds_for (passes_of rfl) rfl (di_range1 T.n_range (da_cons de_int da_nil)) (tg_one sc_law_refused.nd 3)
    (dss_one (ds_try rfl rfl ⟨rfl, rfl, .inl T.rs_NoNumber.mgC⟩ (T.hxm _) (fun pn xe => (dss_one (ds_if (dt_c1 (c_eq hr.units) (dv 3) de_int)
    (dss_one (ds_expr (dk_call (c_least_passed_2 T) hr (da_cons (dv 0) (da_cons (dv 1) da_nil)))))
    (dss_one (ds_expr (dk_call (c_most_passed_2 T) hr (da_cons (dv 0) (da_cons (dv 1) da_nil))))))))
    (fun a pn => (dss_one (ds_expr (de_app (dv 2) (da_cons (dv 3) da_nil))))))))
    (dss_one (ds_ret (de_c1 (c_eq hr.units) (dv 2) (de_lst (da_cons de_int (da_cons de_int da_nil))))))))
theorem c_law_refused_2 (T : Txt K mg e) : DefK P w K mg base 4 "_law_refused" (w_law_refused e) [] := by
    obtain ⟨f, fd, dvs, hdd, F, hm⟩ := T.f_law_refused
    have hdl : dvs.length = 0 := (hdd.rel (fun _ => none)).length
    obtain ⟨ds, hv, hb⟩ : ∃ ds, Vals (dvs.drop 0) ds ∧ Binds K fd ["_law_odd", "_law_way"] ds := by
      obtain rfl : dvs = [] := List.eq_nil_of_length_eq_zero hdl
      exact ⟨[], .nil, F.bindsN (ps := ["_law_odd", "_law_way"]) fun _ _ _ _ _ _ us hl => match us, hl with | [_, _], _ => rfl⟩
    exact ⟨f, fd, _, _, _, ok_law_refused T F, hm, F.kp, hb, hv, hdd.drop 0, wpf_len⟩
theorem sc_law_is_whole : FnScope N_law_is_whole ["_law_thing"] (defScope s_law_is_whole) := ⟨rfl, rfl, rfl, by decide +kernel, rfl, by decide +kernel, by decide +kernel⟩
theorem ok_law_is_whole (T : Txt K mg e) {f : Addr} {fd : FuncData} {dvs : List V} (F : L2.FunD K "_law_is_whole" "_law_is_whole" (defArgs s_law_is_whole) (defBody s_law_is_whole) (defScope s_law_is_whole) dvs [] f fd) : FnK P w K mg base 1 f fd ["_law_thing"] (w_law_is_whole e) :=
  fnd (k := 0) F sc_law_is_whole rfl rfl fun cdv A outer s H E hr =>
    (dss_one (ds_ret (de_and (bc_isi T.hic T.n_isinstance (da_cons (dv 0) (da_cons (de_bty rfl T.n_int bt_int) da_nil))) (de_one (de_not (bc_isi T.hic T.n_isinstance (da_cons (dv 0) (da_cons (de_bty rfl T.n_bool bt_bool) da_nil))))))))
theorem c_law_is_whole_1 (T : Txt K mg e) : DefK P w K mg base 1 "_law_is_whole" (w_law_is_whole e) [] := by
    obtain ⟨f, fd, dvs, hdd, F, hm⟩ := T.f_law_is_whole
    have hdl : dvs.length = 0 := (hdd.rel (fun _ => none)).length
    obtain ⟨ds, hv, hb⟩ : ∃ ds, Vals (dvs.drop 0) ds ∧ Binds K fd ["_law_thing"] ds := by
      obtain rfl : dvs = [] := List.eq_nil_of_length_eq_zero hdl
      exact ⟨[], .nil, F.bindsN (ps := ["_law_thing"]) fun _ _ _ _ _ _ us hl => match us, hl with | [_], _ => rfl⟩
    exact ⟨f, fd, _, _, _, ok_law_is_whole T F, hm, F.kp, hb, hv, hdd.drop 0, wpf_len⟩
theorem sc_law : FnScope N_law ["_law_script"] (defScope s_law) := ⟨rfl, rfl, rfl, by decide +kernel, rfl, by decide +kernel, by decide +kernel⟩
theorem ok_law (T : Txt K mg e) {f : Addr} {fd : FuncData} {dvs : List V} (F : L2.FunD K "law" "law" (defArgs s_law) (defBody s_law) (defScope s_law) dvs [] f fd) : FnK P w K mg base 5 f fd ["_law_script"] (w_law e) :=
  fnd (k := 4) F sc_law rfl rfl fun cdv A outer s H E hr =>
    (dss_cons (ds_for (passes_of rfl) rfl (di_range1 T.n_range (da_cons (bc_max rfl T.n_max (da_cons de_int (da_cons (bc_min rfl T.n_min (da_cons de_int (da_cons (bc_len T.n_len (da_cons (dv 0) da_nil)) da_nil))) da_nil))) da_nil)) (tg_one sc_law.nd 1)
    (dss_cons (ds_set (i := 2) (dk_call (c_law_begun_2 T) hr (da_cons (dv 0) (da_cons (dv 1) da_nil))) sc_law.nd)
    (dss_cons (ds_set (i := 3) (dk_call (c_law_drift_1 T) hr (da_cons (dv 2) da_nil)) sc_law.nd)
    (dss_cons (ds_set (i := 4) (de_item (de_lst (da_cons de_int (da_cons de_int (da_cons (dk_call (c_law_take_2 T) hr (da_cons (dv 2) (da_cons de_int da_nil))) (da_cons (dk_call (c_law_take_2 T) hr (da_cons (dv 2) (da_cons (de_pow de_int de_int) da_nil))) (da_cons (dk_call (c_law_take_2 T) hr (da_cons (dv 2) (da_cons (de_pow de_int de_int) da_nil))) da_nil)))))) (dk_call (c_law_take_2 T) hr (da_cons (dv 2) (da_cons de_int da_nil)))) sc_law.nd)
    (dss_cons (ds_set (i := 5) (dk_call (c_least_passed_2 T) hr (da_cons (dv 4) (da_cons (dv 3) da_nil))) sc_law.nd)
    (dss_cons (ds_set (i := 6) (dk_call (c_most_passed_2 T) hr (da_cons (dv 4) (da_cons (dv 3) da_nil))) sc_law.nd)
    (dss_cons (ds_if (dt_w (dtw_or (dt_not (dt_tru (dk_call (c_law_is_whole_1 T) hr (da_cons (dv 5) da_nil)))) (dtw_or (dt_not (dt_tru (dk_call (c_law_is_whole_1 T) hr (da_cons (dv 6) da_nil)))) (dtw_or1 (dt_not (dt_chain de_int (dch_link (c_le hr.units) (dv 5) (dch_last (c_le hr.units) (dv 6)))))))))
    (dss_one (ds_ret de_bl))
    dss_nil)
    (dss_cons (ds_if (dt_w (dtw_or (dt_c1 (c_ne hr.units) (de_swp (q_least_passed T) hr (dkw_cons (dv 3) (dkw_cons (dv 4) dkw_nil))) (dv 5)) (dtw_or1 (dt_c1 (c_ne hr.units) (de_swp (q_most_passed T) hr (dkw_cons (dv 3) (dkw_cons (dv 4) dkw_nil))) (dv 6)))))
    (dss_one (ds_ret de_bl))
    dss_nil)
    (dss_cons (ds_set (i := 7) (de_add (de_item (dv 3) de_int) (de_item (dv 3) de_int)) sc_law.nd)
    (dss_cons (ds_set (i := 8) (de_sub (de_item (dv 3) de_int) (de_item (dv 3) de_int)) sc_law.nd)
    (dss_cons (ds_if (dt_w (dtw_or (dt_c1 (c_lt hr.units) (de_mul (dv 5) (dv 7)) (de_mul (dv 4) (de_item (dv 3) de_int))) (dtw_or1 (dt_w (dtw_and (dt_c1 (c_gt hr.units) (dv 5) de_int) (dtw_and1 (dt_c1 (c_ge hr.units) (de_mul (de_sub (dv 5) de_int) (dv 7)) (de_mul (dv 4) (de_item (dv 3) de_int)))))))))
    (dss_one (ds_ret de_bl))
    dss_nil)
    (dss_cons (ds_if (dt_w (dtw_or (dt_c1 (c_ge hr.units) (de_mul (dv 6) (dv 8)) (de_mul (de_add (dv 4) de_int) (de_item (dv 3) de_int))) (dtw_or1 (dt_c1 (c_lt hr.units) (de_mul (de_add (dv 6) de_int) (dv 8)) (de_mul (de_add (dv 4) de_int) (de_item (dv 3) de_int))))))
    (dss_one (ds_ret de_bl))
    dss_nil)
    (dss_cons (ds_if (dt_not (dt_tru (dk_call (c_law_refused_2 T) hr (da_cons (de_item (de_lst (da_cons (de_neg de_int) (da_cons de_non (da_cons de_bl (da_cons de_str (da_cons (de_lst (da_cons de_int da_nil)) (da_cons (de_tup (da_cons de_int da_nil)) (da_cons de_dic da_nil)))))))) (dk_call (c_law_take_2 T) hr (da_cons (dv 2) (da_cons de_int da_nil)))) (da_cons (dv 3) da_nil)))))
    (dss_one (ds_ret de_bl))
    dss_nil)
    (dss_one (ds_if (dt_w (dtw_or (dt_c1 (c_lt hr.units) (dk_call (c_least_passed_2 T) hr (da_cons (de_add (dv 4) de_int) (da_cons (dv 3) da_nil))) (dv 5)) (dtw_or1 (dt_c1 (c_le hr.units) (dk_call (c_most_passed_2 T) hr (da_cons (de_add (dv 4) de_int) (da_cons (dv 3) da_nil))) (dv 6)))))
    (dss_one (ds_ret de_bl))
    dss_nil)))))))))))))))
    (dss_one (ds_ret de_bl)))
end
/-! ### each fact, as the head has it -/
theorem all_mk {l : PySem.W.OpenLaw} {w : World} {K : PySem.W.Frag} {h : Heap} {mg : Str → Option Value} {fa : Addr} (X : K.In h) (G : h.Ns mainGlobals mg) (hfa : mg "law" = some (.ref fa)) (hmain : ∀ e : Env, e.Good → ∀ ns : List Int, ns.length ≤ 63 → w_law e [.kl (ns.map D.int)] (fun _ => none) (fun d _ => d = .bl true) fun _ _ _ => False)
    {C_NoNumber f_law_begun f_law_take f_law_low f_law_drift f_is_whole f_look_at_ticks f_least_passed f_most_passed f_law_refused f_law_is_whole f_law : Addr}  {od_law_begun an_law_begun od_law_take an_law_take od_law_low an_law_low od_law_drift an_law_drift od_is_whole an_is_whole od_look_at_ticks an_look_at_ticks od_least_passed an_least_passed od_most_passed an_most_passed od_law_refused an_law_refused od_law_is_whole an_law_is_whole od_law an_law : Option Addr} {sl_law_begun sl_law_take sl_law_low sl_law_drift sl_is_whole sl_look_at_ticks sl_least_passed sl_most_passed sl_law_refused sl_law_is_whole sl_law : Array (Option Value)} {oc_law_begun dV_law_begun kV_law_begun dc_law_begun pm_law_begun cd_law_begun ct_law_begun oc_law_take dV_law_take kV_law_take dc_law_take pm_law_take cd_law_take ct_law_take oc_law_low dV_law_low kV_law_low dc_law_low pm_law_low cd_law_low ct_law_low oc_law_drift dV_law_drift kV_law_drift dc_law_drift pm_law_drift cd_law_drift ct_law_drift oc_is_whole dV_is_whole kV_is_whole dc_is_whole pm_is_whole cd_is_whole ct_is_whole oc_look_at_ticks dV_look_at_ticks kV_look_at_ticks dc_look_at_ticks pm_look_at_ticks cd_look_at_ticks ct_look_at_ticks oc_least_passed dV_least_passed kV_least_passed dc_least_passed pm_least_passed cd_least_passed ct_least_passed oc_most_passed dV_most_passed kV_most_passed dc_most_passed pm_most_passed cd_most_passed ct_most_passed oc_law_refused dV_law_refused kV_law_refused dc_law_refused pm_law_refused cd_law_refused ct_law_refused oc_law_is_whole dV_law_is_whole kV_law_is_whole dc_law_is_whole pm_law_is_whole cd_law_is_whole ct_law_is_whole oc_law dV_law kV_law dc_law pm_law cd_law ct_law : Value}
    (z_abs : PySem.W.nsIn K mainGlobals "abs" = some none)
    (z_bool : PySem.W.nsIn K mainGlobals "bool" = some none)
    (z_int : PySem.W.nsIn K mainGlobals "int" = some none)
    (z_isinstance : PySem.W.nsIn K mainGlobals "isinstance" = some none)
    (z_len : PySem.W.nsIn K mainGlobals "len" = some none)
    (z_max : PySem.W.nsIn K mainGlobals "max" = some none)
    (z_min : PySem.W.nsIn K mainGlobals "min" = some none)
    (z_range : PySem.W.nsIn K mainGlobals "range" = some none)
    (a_NoNumber : PySem.W.nsIn K mainGlobals "NoNumber" = some (some (.ref C_NoNumber)))
    (ei_NoNumber : PySem.W.excIn K C_NoNumber [.type "ValueError", .type "Exception", .type "BaseException", .type "object"] "ValueError.__new__" = true)
    (ek_NoNumber : PySem.W.keepIn K (.ref C_NoNumber) = true)
    (es_NoNumber : PySem.W.subIn K (.ref C_NoNumber) (.type "BaseException") = some true)
    (et_NoNumber : PySem.W.typeIn K (.ref C_NoNumber) = some (.type "type"))
    (ej_NoNumber : PySem.W.isClsIn K C_NoNumber = true)
    (eu_NoNumber_NoNumber : PySem.W.subIn K (.ref C_NoNumber) (.ref C_NoNumber) = some true)
    (a_law_begun : PySem.W.nsIn K mainGlobals "_law_begun" = some (some (.ref f_law_begun)))
    (l_law_begun : K.lookup f_law_begun = some ⟨oc_law_begun, od_law_begun, .func (PySem.W.fnOf "_law_begun" "_law_begun" (defArgs s_law_begun) (defBody s_law_begun) (defScope s_law_begun) dV_law_begun kV_law_begun dc_law_begun pm_law_begun an_law_begun cd_law_begun ct_law_begun), sl_law_begun⟩)
    (c_law_begun : PySem.W.codeIn K cd_law_begun "_law_begun" = true)
    (k_law_begun : PySem.W.keepIn K (.ref f_law_begun) = true)
    (e_law_begun : dV_law_begun = .none)
    (a_law_take : PySem.W.nsIn K mainGlobals "_law_take" = some (some (.ref f_law_take)))
    (l_law_take : K.lookup f_law_take = some ⟨oc_law_take, od_law_take, .func (PySem.W.fnOf "_law_take" "_law_take" (defArgs s_law_take) (defBody s_law_take) (defScope s_law_take) dV_law_take kV_law_take dc_law_take pm_law_take an_law_take cd_law_take ct_law_take), sl_law_take⟩)
    (c_law_take : PySem.W.codeIn K cd_law_take "_law_take" = true)
    (k_law_take : PySem.W.keepIn K (.ref f_law_take) = true)
    (e_law_take : dV_law_take = .none)
    (a_law_low : PySem.W.nsIn K mainGlobals "_law_low" = some (some (.ref f_law_low)))
    (l_law_low : K.lookup f_law_low = some ⟨oc_law_low, od_law_low, .func (PySem.W.fnOf "_law_low" "_law_low" (defArgs s_law_low) (defBody s_law_low) (defScope s_law_low) dV_law_low kV_law_low dc_law_low pm_law_low an_law_low cd_law_low ct_law_low), sl_law_low⟩)
    (c_law_low : PySem.W.codeIn K cd_law_low "_law_low" = true)
    (k_law_low : PySem.W.keepIn K (.ref f_law_low) = true)
    (e_law_low : dV_law_low = .none)
    (a_law_drift : PySem.W.nsIn K mainGlobals "_law_drift" = some (some (.ref f_law_drift)))
    (l_law_drift : K.lookup f_law_drift = some ⟨oc_law_drift, od_law_drift, .func (PySem.W.fnOf "_law_drift" "_law_drift" (defArgs s_law_drift) (defBody s_law_drift) (defScope s_law_drift) dV_law_drift kV_law_drift dc_law_drift pm_law_drift an_law_drift cd_law_drift ct_law_drift), sl_law_drift⟩)
    (c_law_drift : PySem.W.codeIn K cd_law_drift "_law_drift" = true)
    (k_law_drift : PySem.W.keepIn K (.ref f_law_drift) = true)
    (e_law_drift : dV_law_drift = .none)
    (a_is_whole : PySem.W.nsIn K mainGlobals "is_whole" = some (some (.ref f_is_whole)))
    (l_is_whole : K.lookup f_is_whole = some ⟨oc_is_whole, od_is_whole, .func (PySem.W.fnOf "is_whole" "is_whole" (defArgs s_is_whole) (defBody s_is_whole) (defScope s_is_whole) dV_is_whole kV_is_whole dc_is_whole pm_is_whole an_is_whole cd_is_whole ct_is_whole), sl_is_whole⟩)
    (c_is_whole : PySem.W.codeIn K cd_is_whole "is_whole" = true)
    (k_is_whole : PySem.W.keepIn K (.ref f_is_whole) = true)
    (e_is_whole : dV_is_whole = .none)
    (a_look_at_ticks : PySem.W.nsIn K mainGlobals "look_at_ticks" = some (some (.ref f_look_at_ticks)))
    (l_look_at_ticks : K.lookup f_look_at_ticks = some ⟨oc_look_at_ticks, od_look_at_ticks, .func (PySem.W.fnOf "look_at_ticks" "look_at_ticks" (defArgs s_look_at_ticks) (defBody s_look_at_ticks) (defScope s_look_at_ticks) dV_look_at_ticks kV_look_at_ticks dc_look_at_ticks pm_look_at_ticks an_look_at_ticks cd_look_at_ticks ct_look_at_ticks), sl_look_at_ticks⟩)
    (c_look_at_ticks : PySem.W.codeIn K cd_look_at_ticks "look_at_ticks" = true)
    (k_look_at_ticks : PySem.W.keepIn K (.ref f_look_at_ticks) = true)
    (e_look_at_ticks : dV_look_at_ticks = .none)
    (a_least_passed : PySem.W.nsIn K mainGlobals "least_passed" = some (some (.ref f_least_passed)))
    (l_least_passed : K.lookup f_least_passed = some ⟨oc_least_passed, od_least_passed, .func (PySem.W.fnOf "least_passed" "least_passed" (defArgs s_least_passed) (defBody s_least_passed) (defScope s_least_passed) dV_least_passed kV_least_passed dc_least_passed pm_least_passed an_least_passed cd_least_passed ct_least_passed), sl_least_passed⟩)
    (c_least_passed : PySem.W.codeIn K cd_least_passed "least_passed" = true)
    (k_least_passed : PySem.W.keepIn K (.ref f_least_passed) = true)
    (e_least_passed : dV_least_passed = .none)
    (a_most_passed : PySem.W.nsIn K mainGlobals "most_passed" = some (some (.ref f_most_passed)))
    (l_most_passed : K.lookup f_most_passed = some ⟨oc_most_passed, od_most_passed, .func (PySem.W.fnOf "most_passed" "most_passed" (defArgs s_most_passed) (defBody s_most_passed) (defScope s_most_passed) dV_most_passed kV_most_passed dc_most_passed pm_most_passed an_most_passed cd_most_passed ct_most_passed), sl_most_passed⟩)
    (c_most_passed : PySem.W.codeIn K cd_most_passed "most_passed" = true)
    (k_most_passed : PySem.W.keepIn K (.ref f_most_passed) = true)
    (e_most_passed : dV_most_passed = .none)
    (a_law_refused : PySem.W.nsIn K mainGlobals "_law_refused" = some (some (.ref f_law_refused)))
    (l_law_refused : K.lookup f_law_refused = some ⟨oc_law_refused, od_law_refused, .func (PySem.W.fnOf "_law_refused" "_law_refused" (defArgs s_law_refused) (defBody s_law_refused) (defScope s_law_refused) dV_law_refused kV_law_refused dc_law_refused pm_law_refused an_law_refused cd_law_refused ct_law_refused), sl_law_refused⟩)
    (c_law_refused : PySem.W.codeIn K cd_law_refused "_law_refused" = true)
    (k_law_refused : PySem.W.keepIn K (.ref f_law_refused) = true)
    (e_law_refused : dV_law_refused = .none)
    (a_law_is_whole : PySem.W.nsIn K mainGlobals "_law_is_whole" = some (some (.ref f_law_is_whole)))
    (l_law_is_whole : K.lookup f_law_is_whole = some ⟨oc_law_is_whole, od_law_is_whole, .func (PySem.W.fnOf "_law_is_whole" "_law_is_whole" (defArgs s_law_is_whole) (defBody s_law_is_whole) (defScope s_law_is_whole) dV_law_is_whole kV_law_is_whole dc_law_is_whole pm_law_is_whole an_law_is_whole cd_law_is_whole ct_law_is_whole), sl_law_is_whole⟩)
    (c_law_is_whole : PySem.W.codeIn K cd_law_is_whole "_law_is_whole" = true)
    (k_law_is_whole : PySem.W.keepIn K (.ref f_law_is_whole) = true)
    (e_law_is_whole : dV_law_is_whole = .none)
    (a_law : PySem.W.nsIn K mainGlobals "law" = some (some (.ref f_law)))
    (l_law : K.lookup f_law = some ⟨oc_law, od_law, .func (PySem.W.fnOf "law" "law" (defArgs s_law) (defBody s_law) (defScope s_law) dV_law kV_law dc_law pm_law an_law cd_law ct_law), sl_law⟩)
    (c_law : PySem.W.codeIn K cd_law "law" = true)
    (k_law : PySem.W.keepIn K (.ref f_law) = true)
    (e_law : dV_law = .none)
    : ∃ fd : FuncData, (∀ (s : Shared) (v : Value), BindsTo s fd ⟨[v], []⟩ [("_law_script", v)]) ∧ ∀ base : Heap, K.In base → base.Ns mainGlobals mg → FnOk l.prog w K mg base (L2.CX l.prog w) 5 fa fd ["_law_script"] (lawSp K) := by
  have q0 : f_law = fa := by
    have q := (PySem.W.mg_of X G a_law).symm.trans hfa
    injection q with q; injection q
  subst q0
  subst e_law_begun
  subst e_law_take
  subst e_law_low
  subst e_law_drift
  subst e_is_whole
  subst e_look_at_ticks
  subst e_least_passed
  subst e_most_passed
  subst e_law_refused
  subst e_law_is_whole
  subst e_law
  let e : Env := { C_NoNumber := C_NoNumber, xm := fun c u b => PySem.W.exmOne K u c = some b, ok := AttrOk K, ic := IsiOk K }
  have gd : e.Good := ⟨trivial, exm_of es_NoNumber ej_NoNumber et_NoNumber eu_NoNumber_NoNumber⟩
  obtain ⟨dvs_law_begun, hdd_law_begun, F_law_begun⟩ := fun_nd l_law_begun c_law_begun k_law_begun
  obtain ⟨dvs_law_take, hdd_law_take, F_law_take⟩ := fun_nd l_law_take c_law_take k_law_take
  obtain ⟨dvs_law_low, hdd_law_low, F_law_low⟩ := fun_nd l_law_low c_law_low k_law_low
  obtain ⟨dvs_law_drift, hdd_law_drift, F_law_drift⟩ := fun_nd l_law_drift c_law_drift k_law_drift
  obtain ⟨dvs_is_whole, hdd_is_whole, F_is_whole⟩ := fun_nd l_is_whole c_is_whole k_is_whole
  obtain ⟨dvs_look_at_ticks, hdd_look_at_ticks, F_look_at_ticks⟩ := fun_nd l_look_at_ticks c_look_at_ticks k_look_at_ticks
  obtain ⟨dvs_least_passed, hdd_least_passed, F_least_passed⟩ := fun_nd l_least_passed c_least_passed k_least_passed
  obtain ⟨dvs_most_passed, hdd_most_passed, F_most_passed⟩ := fun_nd l_most_passed c_most_passed k_most_passed
  obtain ⟨dvs_law_refused, hdd_law_refused, F_law_refused⟩ := fun_nd l_law_refused c_law_refused k_law_refused
  obtain ⟨dvs_law_is_whole, hdd_law_is_whole, F_law_is_whole⟩ := fun_nd l_law_is_whole c_law_is_whole k_law_is_whole
  obtain ⟨dvs_law, hdd_law, F_law⟩ := fun_nd l_law c_law k_law
  have T : Txt K mg e := ⟨fun _ _ h => h,
    fun _ _ _ h => h,
    fun _ _ _ h => h,
    ⟨⟨_, _, _, _, PySem.F.excBase_ValueError, ei_NoNumber⟩, PySem.W.mg_of X G a_NoNumber, ek_NoNumber, es_NoNumber, et_NoNumber⟩,
    PySem.W.mg_none_of X G z_abs,
    PySem.W.mg_none_of X G z_bool,
    PySem.W.mg_none_of X G z_int,
    PySem.W.mg_none_of X G z_isinstance,
    PySem.W.mg_none_of X G z_len,
    PySem.W.mg_none_of X G z_max,
    PySem.W.mg_none_of X G z_min,
    PySem.W.mg_none_of X G z_range,
    ⟨f_law_begun, _, dvs_law_begun, hdd_law_begun, F_law_begun, PySem.W.mg_of X G a_law_begun⟩,
    ⟨f_law_take, _, dvs_law_take, hdd_law_take, F_law_take, PySem.W.mg_of X G a_law_take⟩,
    ⟨f_law_low, _, dvs_law_low, hdd_law_low, F_law_low, PySem.W.mg_of X G a_law_low⟩,
    ⟨f_law_drift, _, dvs_law_drift, hdd_law_drift, F_law_drift, PySem.W.mg_of X G a_law_drift⟩,
    ⟨f_is_whole, _, dvs_is_whole, hdd_is_whole, F_is_whole, PySem.W.mg_of X G a_is_whole⟩,
    ⟨f_look_at_ticks, _, dvs_look_at_ticks, hdd_look_at_ticks, F_look_at_ticks, PySem.W.mg_of X G a_look_at_ticks⟩,
    ⟨f_least_passed, _, dvs_least_passed, hdd_least_passed, F_least_passed, PySem.W.mg_of X G a_least_passed⟩,
    ⟨f_most_passed, _, dvs_most_passed, hdd_most_passed, F_most_passed, PySem.W.mg_of X G a_most_passed⟩,
    ⟨f_law_refused, _, dvs_law_refused, hdd_law_refused, F_law_refused, PySem.W.mg_of X G a_law_refused⟩,
    ⟨f_law_is_whole, _, dvs_law_is_whole, hdd_law_is_whole, F_law_is_whole, PySem.W.mg_of X G a_law_is_whole⟩,
    ⟨f_law, _, dvs_law, hdd_law, F_law, PySem.W.mg_of X G a_law⟩⟩
  refine ⟨_, ?_, fun base _ _ => FnOk.imp (ok_law (P := l.prog) (w := w) (base := base) T F_law) (law_lift (hmain e gd))⟩
  exact fun s v => .of_eq rfl
theorem walk {l : PySem.W.OpenLaw} {q : Program} {loose : List Str} {XP : (Str → Option Value) → Heap → Prop} {YP : World → Heap → Prop} {d : DefRec} {K : Params → PySem.W.Frag} (hn : l.most = some 63) (hdf : d.params.defaults = [])
    (hY : ∀ (w : World) (h : Heap), YP w h → (K w.params).In h)
    (F : ∀ (w : World) (mg : Str → Option Value) (fa : Addr) (h : Heap), (K w.params).In h → h.Ns mainGlobals mg → mg d.name = some (.ref fa) →
      ∃ fd : FuncData, (∀ (s : Shared) (u : Value), BindsTo s fd ⟨[u], []⟩ [("_law_script", u)]) ∧ ∀ base : Heap, (K w.params).In base → base.Ns mainGlobals mg → FnOk l.prog w (K w.params) mg base (L2.CX l.prog w) 5 fa fd ["_law_script"] (lawSp (K w.params))) :
    PySem.W.WalkO q loose XP YP l.row.toRowW d [] (fun f vs => PySem.call f vs) :=
  L2.walk_of (n := 63) (k := 5) (x := "_law_script") (CX := fun w => L2.CX l.prog w) (sp := fun w => lawSp (K w.params)) hn (by decide) hdf ⟨rfl, by decide, by decide⟩ hY F (fun _ H a ns hl ho hS => ⟨a, ns, rfl, hl, ho, hS, fun _ => rfl⟩)
    fun _ _ _ _ _ ⟨_, _, _, _, _, _, _, _, _, _, _, _, z⟩ => z
end P
open PySem PySem.W PyProof.Rows
set_option maxRecDepth 100000 in
set_option maxHeartbeats 0 in
theorem PySem.Challenge.cw_stampedwait_k02_true_ticks_behind_a_coun_holds : PySem.Challenge.rw_stampedwait_k02_true_ticks_behind_a_coun.Holds := by
  w_on; o_law; k_head; (case hw => w_witness2)
  k_fill
  refine P.walk (l := PySem.Challenge.rw_stampedwait_k02_true_ticks_behind_a_coun) rfl rfl (fun w h Y => PySem.W.kIn_of Y) ?F
  case F =>
    intro w mg fa h KX G hmg
    refine' P.all_mk KX G hmg P.main ?z_abs ?z_bool ?z_int ?z_isinstance ?z_len ?z_max ?z_min ?z_range ?a_NoNumber ?ei_NoNumber ?ek_NoNumber ?es_NoNumber ?et_NoNumber ?ej_NoNumber ?eu_NoNumber_NoNumber ?a_law_begun ?l_law_begun ?c_law_begun ?k_law_begun ?e_law_begun ?a_law_take ?l_law_take ?c_law_take ?k_law_take ?e_law_take ?a_law_low ?l_law_low ?c_law_low ?k_law_low ?e_law_low ?a_law_drift ?l_law_drift ?c_law_drift ?k_law_drift ?e_law_drift ?a_is_whole ?l_is_whole ?c_is_whole ?k_is_whole ?e_is_whole ?a_look_at_ticks ?l_look_at_ticks ?c_look_at_ticks ?k_look_at_ticks ?e_look_at_ticks ?a_least_passed ?l_least_passed ?c_least_passed ?k_least_passed ?e_least_passed ?a_most_passed ?l_most_passed ?c_most_passed ?k_most_passed ?e_most_passed ?a_law_refused ?l_law_refused ?c_law_refused ?k_law_refused ?e_law_refused ?a_law_is_whole ?l_law_is_whole ?c_law_is_whole ?k_law_is_whole ?e_law_is_whole ?a_law ?l_law ?c_law ?k_law ?e_law
    (case z_abs => k_is)
    (case z_bool => k_is)
    (case z_int => k_is)
    (case z_isinstance => k_is)
    (case z_len => k_is)
    (case z_max => k_is)
    (case z_min => k_is)
    (case z_range => k_is)
    (case a_NoNumber => k_is)
    (case ei_NoNumber => k_exc)
    (case ek_NoNumber => k_is)
    (case es_NoNumber => k_is)
    (case et_NoNumber => k_is)
    (case ej_NoNumber => k_is)
    (case eu_NoNumber_NoNumber => first | rfl | k_is)
    (case a_law_begun => k_is)
    (case l_law_begun => k_is)
    (case c_law_begun => k_is)
    (case k_law_begun => k_is)
    (case e_law_begun => rfl)
    (case a_law_take => k_is)
    (case l_law_take => k_is)
    (case c_law_take => k_is)
    (case k_law_take => k_is)
    (case e_law_take => rfl)
    (case a_law_low => k_is)
    (case l_law_low => k_is)
    (case c_law_low => k_is)
    (case k_law_low => k_is)
    (case e_law_low => rfl)
    (case a_law_drift => k_is)
    (case l_law_drift => k_is)
    (case c_law_drift => k_is)
    (case k_law_drift => k_is)
    (case e_law_drift => rfl)
    (case a_is_whole => k_is)
    (case l_is_whole => k_is)
    (case c_is_whole => k_is)
    (case k_is_whole => k_is)
    (case e_is_whole => rfl)
    (case a_look_at_ticks => k_is)
    (case l_look_at_ticks => k_is)
    (case c_look_at_ticks => k_is)
    (case k_look_at_ticks => k_is)
    (case e_look_at_ticks => rfl)
    (case a_least_passed => k_is)
    (case l_least_passed => k_is)
    (case c_least_passed => k_is)
    (case k_least_passed => k_is)
    (case e_least_passed => rfl)
    (case a_most_passed => k_is)
    (case l_most_passed => k_is)
    (case c_most_passed => k_is)
    (case k_most_passed => k_is)
    (case e_most_passed => rfl)
    (case a_law_refused => k_is)
    (case l_law_refused => k_is)
    (case c_law_refused => k_is)
    (case k_law_refused => k_is)
    (case e_law_refused => rfl)
    (case a_law_is_whole => k_is)
    (case l_law_is_whole => k_is)
    (case c_law_is_whole => k_is)
    (case k_law_is_whole => k_is)
    (case e_law_is_whole => rfl)
    (case a_law => k_is)
    (case l_law => k_is)
    (case c_law => k_is)
    (case k_law => k_is)
    (case e_law => rfl)

