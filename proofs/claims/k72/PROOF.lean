import PyProof.Rows.All
import Wide.All
import OpenK.AllK
import Wide.FinOn
import HandS.ForMost
import HandS.ForExc
import HandS.Deep
import HandS.SortInts
import HandS.RaiseMore
import HandS.Style
import HandS.TupAny
import HandS.IsInst
import HandS.Conv
import HandS.Codes
import HandS.SetFor
import HandS.Defaults
import HandS.Lambda
import HandS.Ends
import HandS.Head0
import HandS.Head1
import HandS.Head2
import HandS.HeadEnd
import HandS.HeadHook1
import HandS.HeadHook2
import PySem.Challenge.RW_riverknown_k72_whole_panes_closed_by_one
set_option Elab.async false
set_option linter.all false
set_option maxRecDepth 100000
set_option maxHeartbeats 0
/-! DL: a layer of plain data over the hand layer: what stands in a def's slots is data, told without the heap. -/
namespace DL
open PySem PySem.Spec L2

abbrev D := PyData

/-- what an object of one's own holds -/
inductive Ow where
  | lst (ds : List D)
  | dic (kvs : List (Key × D))

/-- what stands in a slot: nothing known, data that nobody changes, an object that this body alone holds, the state of draws, a list of n items -/
inductive Sl where
  | no
  | val (d : D)
  | own (o : Ow)
  | st (B : Int)
  | scr (n : Nat)

/-- slots, and objects just made that no slot holds yet -/
structure Sg where
  s : List Sl
  t : List Sl

/-- what an expression comes to: data, what slot i holds, what was just made -/
inductive R where
  | d (d : D)
  | v (i : Nat)
  | t (j : Nat)

/-- the state of draws: its dict, its two lists -/
structure StA where
  a : Addr
  g : Addr
  c : Addr

def NotSt (S : Option StA) (b : Addr) : Prop := ∀ s, S = some s → b ≠ s.a ∧ b ≠ s.g

def stKvs (s : StA) (r t : Int) : List (Key × V) := [(.inr "great", .ref s.g), (.inr "cells", .ref s.c), (.inr "rest", .int r), (.inr "turn", .int t)]

/-- the state stands in the heap -/
structure StOk (H : Hp) (s : StA) : Prop where
  ex : ∃ (gr : List Int) (r t : Int), H s.a = some (.dK (stKvs s r t)) ∧ H s.g = some (.lst (gr.map V.int))

/-- no more than B turns so far -/
def TurnLe (H : Hp) (s : StA) (B : Int) : Prop := ∃ r t, H s.a = some (.dK (stKvs s r t)) ∧ 0 ≤ t ∧ t ≤ B
theorem TurnLe.at {H H' : Hp} {s : StA} {B : Int} (h : TurnLe H s B) (e : H' s.a = H s.a) : TurnLe H' s B := by
  obtain ⟨r, t, a, b⟩ := h
  exact ⟨r, t, by rw [e]; exact a, b⟩

/-- the frame of a body: the state's addresses, what was known at its entry, what stood at its entry -/
structure Fr where
  S : Option StA
  G0 : Hp
  H0 : Hp

structure RlB (F : Fr) (G H : Hp) : Prop where
  sub : Same G H
  mono : Same F.G0 G
  keep : ∀ b o, F.H0 b = some o → NotSt F.S b → H b = some o
  grow : ∀ b o, G b = some o → F.G0 b = some o ∨ F.H0 b = none
  ste : ∀ s, F.S = some s → StOk H s ∧ G s.a = none ∧ G s.g = none ∧ ∃ ce : List Int, G s.c = some (.lst (ce.map V.int))

/-! ### data that stands -/
mutual
/-- v is d: a list stands in the abstract heap, a tuple there or in the module -/
inductive Dp (K : PySem.W.Frag) (H : Hp) : V → D → Prop
  | non : Dp K H .non .none
  | bl (b : Bool) : Dp K H (.bl b) (.bool b)
  | int (i : Int) : Dp K H (.int i) (.int i)
  | str (x : Str) : Dp K H (.str x) (.str x)
  | lst {a : Addr} {xs : List V} {ds : List D} : Rd H a (.lst xs) → DpAll K H xs ds → Dp K H (.ref a) (.list ds)
  | tup {a : Addr} {xs : List V} {ds : List D} : SqT K H a xs → DpAll K H xs ds → Dp K H (.ref a) (.tuple ds)
inductive DpAll (K : PySem.W.Frag) (H : Hp) : List V → List D → Prop
  | nil : DpAll K H [] []
  | cons {v : V} {vs : List V} {d : D} {ds : List D} : Dp K H v d → DpAll K H vs ds → DpAll K H (v :: vs) (d :: ds)
end
theorem rd_mono {G G' : Hp} (h : Same G G') {a : Addr} {u : HO} (r : Rd G a u) : Rd G' a u := by
  rcases r with r | ⟨o, r⟩
  · exact .inl (h _ _ r)
  · exact .inr ⟨o, h _ _ r⟩
theorem sqT_mono {K : PySem.W.Frag} {G G' : Hp} (h : Same G G') {a : Addr} {xs : List V} (q : SqT K G a xs) : SqT K G' a xs := by
  rcases q with r | r
  · exact .inl (rd_mono h r)
  · exact .inr r
mutual
theorem toDp {K : PySem.W.Frag} {H : Hp} : ∀ (d : D) (v : V), Dp K H v d → L2.Dp K H v d
  | .none, _, q => by cases q; exact .non
  | .bool b, _, q => by cases q; exact .bl b
  | .int i, _, q => by cases q; exact .int i
  | .str x, _, q => by cases q; exact .str x
  | .list ds, _, q => by
    cases q with
    | lst a b => exact .lst (.inl a) (toDpAll ds _ b)
  | .tuple ds, _, q => by
    cases q with
    | tup a b => exact .tup a (toDpAll ds _ b)
  | .dict _, _, q => by cases q
theorem toDpAll {K : PySem.W.Frag} {H : Hp} : ∀ (ds : List D) (vs : List V), DpAll K H vs ds → L2.DpAll K H vs ds
  | [], _, q => by cases q; exact .nil
  | d :: ds, _, q => by
    cases q with
    | cons a b => exact .cons (toDp d _ a) (toDpAll ds _ b)
end
mutual
theorem dp_mono {K : PySem.W.Frag} {G G' : Hp} (h : Same G G') : ∀ (d : D) (v : V), Dp K G v d → Dp K G' v d
  | .none, _, q => by cases q; exact .non
  | .bool b, _, q => by cases q; exact .bl b
  | .int i, _, q => by cases q; exact .int i
  | .str x, _, q => by cases q; exact .str x
  | .list ds, _, q => by
    cases q with
    | lst a b => exact .lst (rd_mono h a) (dpAll_mono h ds _ b)
  | .tuple ds, _, q => by
    cases q with
    | tup a b => exact .tup (sqT_mono h a) (dpAll_mono h ds _ b)
  | .dict _, _, q => by cases q
theorem dpAll_mono {K : PySem.W.Frag} {G G' : Hp} (h : Same G G') : ∀ (ds : List D) (vs : List V), DpAll K G vs ds → DpAll K G' vs ds
  | [], _, q => by cases q; exact .nil
  | d :: ds, _, q => by
    cases q with
    | cons a b => exact .cons (dp_mono h d _ a) (dpAll_mono h ds _ b)
end

theorem dpAll_len {K : PySem.W.Frag} {G : Hp} : ∀ {ds : List D} {vs : List V}, DpAll K G vs ds → vs.length = ds.length
  | [], _, q => by cases q; rfl
  | d :: ds, _, q => by
    cases q with
    | cons a b => simp [dpAll_len b]
theorem dpAll_get {K : PySem.W.Frag} {G : Hp} : ∀ {ds : List D} {vs : List V}, DpAll K G vs ds → ∀ (i : Nat) (d : D), ds[i]? = some d → ∃ v, vs[i]? = some v ∧ Dp K G v d
  | [], _, q, i, d, e => by simp at e
  | d' :: ds, _, q, i, d, e => by
    cases q with
    | cons a b =>
      cases i with
      | zero => simp at e; subst e; exact ⟨_, by simp, a⟩
      | succ i => simpa using dpAll_get b i d (by simpa using e)
theorem dpAll_append {K : PySem.W.Frag} {G : Hp} : ∀ {ds es : List D} {vs ws : List V}, DpAll K G vs ds → DpAll K G ws es → DpAll K G (vs ++ ws) (ds ++ es)
  | [], _, _, _, q, r => by cases q; exact r
  | d :: ds, _, _, _, q, r => by
    cases q with
    | cons a b => exact .cons a (dpAll_append b r)
theorem dpAll_one {K : PySem.W.Frag} {G : Hp} {v : V} {d : D} (h : Dp K G v d) : DpAll K G [v] [d] := .cons h .nil
theorem dpAll_drop {K : PySem.W.Frag} {G : Hp} : ∀ (n : Nat) {ds : List D} {vs : List V}, DpAll K G vs ds → DpAll K G (vs.drop n) (ds.drop n)
  | 0, _, _, q => q
  | n + 1, _, _, .nil => .nil
  | n + 1, _, _, .cons a b => dpAll_drop n b
theorem dpAll_take {K : PySem.W.Frag} {G : Hp} : ∀ (n : Nat) {ds : List D} {vs : List V}, DpAll K G vs ds → DpAll K G (vs.take n) (ds.take n)
  | 0, _, _, q => .nil
  | n + 1, _, _, .nil => .nil
  | n + 1, _, _, .cons a b => .cons a (dpAll_take n b)
theorem dpAll_rev {K : PySem.W.Frag} {G : Hp} : ∀ {ds : List D} {vs : List V}, DpAll K G vs ds → DpAll K G vs.reverse ds.reverse
  | _, _, .nil => .nil
  | _, _, .cons a b => by
    rw [List.reverse_cons, List.reverse_cons]
    exact dpAll_append (dpAll_rev b) (dpAll_one a)
theorem dpAll_set {K : PySem.W.Frag} {G : Hp} {v : V} {d : D} (h : Dp K G v d) : ∀ (i : Nat) {ds : List D} {vs : List V}, DpAll K G vs ds → DpAll K G (vs.set i v) (ds.set i d)
  | _, _, _, .nil => .nil
  | 0, _, _, .cons a b => .cons h b
  | i + 1, _, _, .cons a b => .cons a (dpAll_set h i b)
theorem dpAll_rep {K : PySem.W.Frag} {G : Hp} : ∀ (n : Nat) {ds : List D} {vs : List V}, DpAll K G vs ds → DpAll K G (List.replicate n vs).flatten (List.replicate n ds).flatten
  | 0, _, _, _ => .nil
  | n + 1, _, _, q => by
    rw [List.replicate_succ, List.replicate_succ, List.flatten_cons, List.flatten_cons]
    exact dpAll_append q (dpAll_rep n q)

/-! ### dInts as data -/
def dInts (ns : List Int) : List D := ns.map PyData.int
theorem dpAll_ints {K : PySem.W.Frag} {G : Hp} : ∀ {ns : List Int} {vs : List V}, DpAll K G vs (dInts ns) → vs = ns.map V.int
  | [], _, q => by cases q; rfl
  | n :: ns, _, q => by
    cases q with
    | cons a b =>
      cases a
      rw [dpAll_ints (ns := ns) b]
      rfl
theorem dpAll_of_ints {K : PySem.W.Frag} {G : Hp} : ∀ (ns : List Int), DpAll K G (ns.map V.int) (dInts ns)
  | [] => .nil
  | n :: ns => .cons (.int n) (dpAll_of_ints ns)
def toInts : List D → Option (List Int)
  | [] => some []
  | .int i :: r => (toInts r).map (i :: ·)
  | _ :: _ => none
theorem toInts_eq : ∀ {ds : List D} {ns : List Int}, toInts ds = some ns → ds = dInts ns
  | [], ns, h => by simp [toInts] at h; subst h; rfl
  | .int i :: r, ns, h => by
    simp only [toInts, Option.map_eq_some_iff] at h
    obtain ⟨ms, h1, h2⟩ := h
    subst h2
    rw [toInts_eq h1]
    rfl
  | .none :: _, _, h => by simp [toInts] at h
  | .bool _ :: _, _, h => by simp [toInts] at h
  | .str _ :: _, _, h => by simp [toInts] at h
  | .list _ :: _, _, h => by simp [toInts] at h
  | .tuple _ :: _, _, h => by simp [toInts] at h
  | .dict _ :: _, _, h => by simp [toInts] at h
theorem toInts_ints : ∀ (ns : List Int), toInts (dInts ns) = some ns
  | [] => rfl
  | n :: ns => by
    show (toInts (dInts ns)).map (n :: ·) = _
    rw [toInts_ints ns]
    rfl

/-! ### the relation of slots -/
def KDp (K : PySem.W.Frag) (G : Hp) : List (Key × V) → List (Key × D) → Prop := Paired fun p q => p.1 = q.1 ∧ Dp K G p.2 q.2

def OwOk (K : PySem.W.Frag) (G H : Hp) (p : Addr) : Ow → Prop
  | .lst ds => ∃ vs, H p = some (.lst vs) ∧ DpAll K G vs ds
  | .dic kvs => ∃ ws, H p = some (.dK ws) ∧ KDp K G ws kvs

/-- p is an object of the body's own: nobody knew it -/
structure Mine (F : Fr) (G : Hp) (p : Addr) : Prop where
  g : G p = none
  h : F.H0 p = none
  s : NotSt F.S p

def SlOk (K : PySem.W.Frag) (F : Fr) (G H : Hp) (x : Option V) : Sl → Prop
  | .no => True
  | .val d => ∃ v, x = some v ∧ Dp K G v d
  | .own o => ∃ p, x = some (.ref p) ∧ Mine F G p ∧ OwOk K G H p o
  | .st B => ∃ s, F.S = some s ∧ x = some (.ref s.a) ∧ TurnLe H s B
  | .scr n => ∃ (a : Addr) (ns : List Int), x = some (.ref a) ∧ SqL K G a (ns.map V.int) ∧ ns.length = n

/-- values ρ (slots, then what was just made) are told by l -/
structure RlS (K : PySem.W.Frag) (F : Fr) (G H : Hp) (ρ : List (Option V)) (l : List Sl) : Prop where
  b : RlB F G H
  len : l.length = ρ.length
  slot : ∀ (i : Nat) (x : Option V) (y : Sl), ρ[i]? = some x → l[i]? = some y → SlOk K F G H x y
  dis : ∀ (i j : Nat) (p : Addr) (o o' : Ow), ρ[i]? = some (some (.ref p)) → ρ[j]? = some (some (.ref p)) → l[i]? = some (.own o) → l[j]? = some (.own o') → i = j

structure Rl (K : PySem.W.Frag) (F : Fr) (G H : Hp) (σ : L2.St) (τ : List V) (e : Sg) : Prop where
  r : RlS K F G H (σ ++ τ.map some) (e.s ++ e.t)
  ls : e.s.length = σ.length

theorem kdp_mono {K : PySem.W.Frag} {G G' : Hp} (h : Same G G') : ∀ {ws : List (Key × V)} {kvs : List (Key × D)}, KDp K G ws kvs → KDp K G' ws kvs
  | _, _, .nil => .nil
  | _, _, .cons a b => .cons ⟨a.1, dp_mono h _ _ a.2⟩ (kdp_mono h b)
theorem OwOk.mono {K : PySem.W.Frag} {G G' H H' : Hp} {p : Addr} (h : Same G G') (e : H' p = H p) : ∀ {o : Ow}, OwOk K G H p o → OwOk K G' H' p o
  | .lst ds, ⟨vs, h1, h2⟩ => ⟨vs, by rw [e]; exact h1, dpAll_mono h _ _ h2⟩
  | .dic kvs, ⟨ws, h1, h2⟩ => ⟨ws, by rw [e]; exact h1, kdp_mono h h2⟩
theorem OwOk.some {K : PySem.W.Frag} {G H : Hp} {p : Addr} : ∀ {o : Ow}, OwOk K G H p o → ∃ x, H p = some x ∧ (∀ t, x ≠ .tup t)
  | .lst ds, ⟨vs, h1, _⟩ => ⟨_, h1, fun t z => by cases z⟩
  | .dic kvs, ⟨ws, h1, _⟩ => ⟨_, h1, fun t z => by cases z⟩

end DL

namespace DL
open PySem PySem.Spec L2

section
variable {K : PySem.W.Frag} {F : Fr} {G H G' H' : Hp} {ρ : List (Option V)} {l : List Sl} {p : Addr} {o : HO}

theorem same_upd (h : H p = none) : Same H (upd H p o) := fun b x e => by
  rw [upd_ne (ne_of_none e h)]
  exact e

theorem RlB.isNew (r : RlB F G H) (h : H p = none) : Mine F G p where
  g := r.sub.free h
  h := by
    cases q : F.H0 p with
    | none => rfl
    | some x =>
      have n : ¬ NotSt F.S p := fun z => by
        rw [r.keep p x q z] at h
        cases h
      refine absurd (fun s hs => ?_) n
      obtain ⟨⟨gr, rr, t, h1, h2⟩, _⟩ := r.ste s hs
      exact ⟨ne_of_none h1 h |>.symm, ne_of_none h2 h |>.symm⟩
  s := fun s hs => by
    obtain ⟨⟨gr, rr, t, h1, h2⟩, _⟩ := r.ste s hs
    exact ⟨ne_of_none h1 h |>.symm, ne_of_none h2 h |>.symm⟩

theorem StOk.at {s : StA} (x : StOk H s) (ha : H' s.a = H s.a) (hg : H' s.g = H s.g) : StOk H' s := by
  obtain ⟨gr, r, t, h1, h2⟩ := x
  exact ⟨gr, r, t, by rw [ha]; exact h1, by rw [hg]; exact h2⟩

/-- what a step leaves -/
structure Step (F : Fr) (G H G' H' : Hp) : Prop where
  g : Same G G'
  b : RlB F G' H'
  own : ∀ q x, H q = some x → Mine F G q → H' q = some x ∧ G' q = none
  st : ∀ s, F.S = some s → H' s.a = H s.a
/-- a step that may draw -/
structure Step0 (F : Fr) (G H G' H' : Hp) : Prop where
  g : Same G G'
  b : RlB F G' H'
  own : ∀ q x, H q = some x → Mine F G q → H' q = some x ∧ G' q = none

theorem Step.refl (r : RlB F G H) : Step F G H G H := ⟨Same.refl G, r, fun _ _ h m => ⟨h, m.g⟩, fun _ _ => rfl⟩
theorem Step.mine (t : Step F G H G' H') {q : Addr} {x : HO} (h : H q = some x) (m : Mine F G q) : Mine F G' q := ⟨(t.own q x h m).2, m.h, m.s⟩
theorem Step.trans {G2 H2 : Hp} (a : Step F G H G' H') (b : Step F G' H' G2 H2) : Step F G H G2 H2 :=
  ⟨a.g.trans b.g, b.b, fun q x h m => b.own q x (a.own q x h m).1 (a.mine h m), fun s e => (b.st s e).trans (a.st s e)⟩

/-- a new object that is known from now on -/
theorem RlB.newG (r : RlB F G H) (h : H p = none) : Step F G H (upd G p o) (upd H p o) := by
  have m := r.isNew h
  refine ⟨same_upd m.g, ⟨fun b x e => ?_, r.mono.trans (same_upd m.g), fun b x e n => ?_, fun b x e => ?_, fun s hs => ?_⟩, fun q x e mq => ?_, fun s hs => ?_⟩
  · by_cases hb : b = p
    · subst hb
      rw [upd_same] at e ⊢
      exact e
    · rw [upd_ne hb] at e ⊢
      exact r.sub b x e
  · have q := r.keep b x e n
    rw [upd_ne (ne_of_none q h)]
    exact q
  · by_cases hb : b = p
    · subst hb
      exact .inr m.h
    · rw [upd_ne hb] at e
      exact r.grow b x e
  · obtain ⟨x, a1, a2, a3⟩ := r.ste s hs
    have n := m.s s hs
    obtain ⟨ce, a3⟩ := a3
    exact ⟨x.at (upd_ne n.1.symm) (upd_ne n.2.symm), by rw [upd_ne n.1.symm]; exact a1, by rw [upd_ne n.2.symm]; exact a2, ce, same_upd m.g _ _ a3⟩
  · have ne := ne_of_none e h
    rw [upd_ne ne, upd_ne ne]
    exact ⟨e, mq.g⟩
  · exact upd_ne (m.s s hs).1.symm
/-- a new object that nobody knows yet -/
theorem RlB.newH (r : RlB F G H) (h : H p = none) : Step F G H G (upd H p o) := by
  have m := r.isNew h
  refine ⟨Same.refl G, ⟨r.sub.trans (same_upd h), r.mono, fun b x e n => ?_, r.grow, fun s hs => ?_⟩, fun q x e mq => ?_, fun s hs => ?_⟩
  · have q := r.keep b x e n
    rw [upd_ne (ne_of_none q h)]
    exact q
  · obtain ⟨x, a1, a2, a3⟩ := r.ste s hs
    have n := m.s s hs
    exact ⟨x.at (upd_ne n.1.symm) (upd_ne n.2.symm), a1, a2, a3⟩
  · have ne := ne_of_none e h
    rw [upd_ne ne]
    exact ⟨e, mq.g⟩
  · exact upd_ne (m.s s hs).1.symm
/-- an object of one's own is written -/
theorem RlB.wr (r : RlB F G H) (m : Mine F G p) : RlB F G (upd H p o) := by
  refine ⟨fun b x e => ?_, r.mono, fun b x e n => ?_, r.grow, fun s hs => ?_⟩
  · have ne : b ≠ p := ne_of_none e m.g
    rw [upd_ne ne]
    exact r.sub b x e
  · have ne : b ≠ p := ne_of_none e m.h
    rw [upd_ne ne]
    exact r.keep b x e n
  · obtain ⟨x, a1, a2, a3⟩ := r.ste s hs
    have n := m.s s hs
    exact ⟨x.at (upd_ne n.1.symm) (upd_ne n.2.symm), a1, a2, a3⟩
/-- an object of one's own is given away: from now on all know it -/
theorem RlB.fz (r : RlB F G H) (m : Mine F G p) (h : H p = some o) : RlB F (upd G p o) H := by
  refine ⟨fun b x e => ?_, r.mono.trans (same_upd m.g), r.keep, fun b x e => ?_, fun s hs => ?_⟩
  · by_cases hb : b = p
    · subst hb
      rw [upd_same] at e
      cases e
      exact h
    · rw [upd_ne hb] at e
      exact r.sub b x e
  · by_cases hb : b = p
    · subst hb
      exact .inr m.h
    · rw [upd_ne hb] at e
      exact r.grow b x e
  · obtain ⟨x, a1, a2, a3⟩ := r.ste s hs
    have n := m.s s hs
    obtain ⟨ce, a3⟩ := a3
    exact ⟨x, by rw [upd_ne n.1.symm]; exact a1, by rw [upd_ne n.2.symm]; exact a2, ce, same_upd m.g _ _ a3⟩

theorem stAt {s : StA} (x : StOk H s) : (∃ u, H s.a = some u) ∧ (∃ u, H s.g = some u) := by
  obtain ⟨gr, r, t, h1, h2⟩ := x
  exact ⟨⟨_, h1⟩, ⟨_, h2⟩⟩

/-- behind a call: the callee's frame began here -/
theorem RlB.call {S' : Option StA} (r : RlB F G H) (hS : S' = F.S ∨ S' = none) (c : RlB ⟨S', G, H⟩ G' H') : Step0 F G H G' H' := by
  have nS : ∀ b, NotSt F.S b → NotSt S' b := fun b n => by
    rcases hS with e | e
    · rw [e]; exact n
    · rw [e]; exact fun s z => by cases z
  refine ⟨c.mono, ⟨c.sub, r.mono.trans c.mono, fun b x e n => c.keep b x (r.keep b x e n) (nS b n), fun b x e => ?_, fun s hs => ?_⟩, fun q x e mq => ⟨c.keep q x e (nS q mq.s), ?_⟩⟩
  · rcases c.grow b x e with q | q
    · exact r.grow b x q
    · refine .inr ?_
      have q : H b = none := q
      exact (r.isNew q).h
  · rcases hS with e | e
    · exact c.ste s (by show S' = some s; rw [e]; exact hs)
    · obtain ⟨x, a1, a2, a3⟩ := r.ste s hs
      obtain ⟨⟨u1, b1⟩, ⟨u2, b2⟩⟩ := stAt x
      obtain ⟨ce, a3⟩ := a3
      have nn : ∀ b, NotSt S' b := fun b s z => by rw [e] at z; cases z
      have gn : ∀ b u, H b = some u → G b = none → G' b = none := fun b u h1 h2 => by
        cases q : G' b with
        | none => rfl
        | some y =>
          rcases c.grow b y q with z | z
          · have z : G b = some y := z
            rw [h2] at z; cases z
          · have z : H b = none := z
            rw [h1] at z; cases z
      exact ⟨x.at (by rw [b1]; exact c.keep _ _ b1 (nn _)) (by rw [b2]; exact c.keep _ _ b2 (nn _)), gn _ _ b1 a1, gn _ _ b2 a2, ce, c.mono _ _ a3⟩
  · cases z : G' q with
    | none => rfl
    | some y =>
      rcases c.grow q y z with w | w
      · have w : G q = some y := w
        rw [mq.g] at w; cases w
      · have w : H q = none := w
        rw [e] at w; cases w

theorem RlB.callN (r : RlB F G H) (c : RlB ⟨none, G, H⟩ G' H') : Step F G H G' H' :=
  ⟨(r.call (.inr rfl) c).g, (r.call (.inr rfl) c).b, (r.call (.inr rfl) c).own, fun s hs => by
    obtain ⟨x, _⟩ := r.ste s hs
    obtain ⟨⟨u, hu⟩, _⟩ := stAt x
    rw [hu]
    exact c.keep _ _ hu fun _ z => by cases z⟩
/-- the bound on turns moves -/
def mapSt (m : Int → Int) : Sl → Sl
  | .st B => .st (m B)
  | x => x
/-! ### slots over a step -/
theorem SlOk.step (t : Step F G H G' H') : ∀ {x : Option V} {y : Sl}, SlOk K F G H x y → SlOk K F G' H' x y
  | _, .no, _ => trivial
  | _, .val d, ⟨v, e, h⟩ => ⟨v, e, dp_mono t.g d v h⟩
  | _, .own o, ⟨p, e, m, h⟩ => by
    obtain ⟨x, hx, _⟩ := h.some
    have q := t.own p x hx m
    exact ⟨p, e, t.mine hx m, h.mono t.g (by rw [q.1, hx])⟩
  | _, .st B, ⟨s, e, h, w⟩ => ⟨s, e, h, w.at (t.st s e)⟩
  | _, .scr n, ⟨a, xs, e, h, l⟩ => ⟨a, xs, e, t.g.seq h, l⟩
theorem RlS.step (r : RlS K F G H ρ l) (t : Step F G H G' H') : RlS K F G' H' ρ l :=
  ⟨t.b, r.len, fun i x y e1 e2 => (r.slot i x y e1 e2).step t, r.dis⟩
theorem SlOk.step0 (t : Step0 F G H G' H') {m : Int → Int} (hm : ∀ s B, F.S = some s → TurnLe H s B → TurnLe H' s (m B)) : ∀ {x : Option V} {y : Sl}, SlOk K F G H x y → SlOk K F G' H' x (mapSt m y)
  | _, .no, _ => trivial
  | _, .val d, ⟨v, e, h⟩ => ⟨v, e, dp_mono t.g d v h⟩
  | _, .own o, ⟨p, e, m, h⟩ => by
    obtain ⟨x, hx, _⟩ := h.some
    have q := t.own p x hx m
    exact ⟨p, e, ⟨q.2, m.h, m.s⟩, h.mono t.g (by rw [q.1, hx])⟩
  | _, .st B, ⟨s, e, h, w⟩ => ⟨s, e, h, hm s B e w⟩
  | _, .scr n, ⟨a, xs, e, h, l⟩ => ⟨a, xs, e, t.g.seq h, l⟩
theorem mapSt_own {m : Int → Int} {y : Sl} {o : Ow} (h : mapSt m y = .own o) : y = .own o := by
  cases y <;> simp [mapSt] at h ⊢ <;> exact h
theorem RlS.step0 (r : RlS K F G H ρ l) (t : Step0 F G H G' H') {m : Int → Int} (hm : ∀ s B, F.S = some s → TurnLe H s B → TurnLe H' s (m B)) : RlS K F G' H' ρ (l.map (mapSt m)) :=
  ⟨t.b, by rw [List.length_map]; exact r.len, fun i x y e1 e2 => by
    rw [List.getElem?_map] at e2
    obtain ⟨z, hz, rfl⟩ := Option.map_eq_some_iff.mp e2
    exact (r.slot i x z e1 hz).step0 t hm, fun i j p o o' e1 e2 e3 e4 => by
    rw [List.getElem?_map] at e3 e4
    obtain ⟨z, hz, a⟩ := Option.map_eq_some_iff.mp e3
    obtain ⟨z', hz', a'⟩ := Option.map_eq_some_iff.mp e4
    have := mapSt_own a
    have := mapSt_own a'
    subst_vars
    exact r.dis i j p _ _ e1 e2 hz hz'⟩
theorem RlS.at (r : RlS K F G H ρ l) {i : Nat} {y : Sl} (e : l[i]? = some y) : ∃ x, ρ[i]? = some x ∧ SlOk K F G H x y := by
  have hi : i < ρ.length := by rw [← r.len]; exact (List.getElem?_eq_some_iff.mp e).1
  exact ⟨ρ[i], List.getElem?_eq_getElem hi, r.slot i _ y (List.getElem?_eq_getElem hi) e⟩
/-- forgetting -/
theorem RlS.set (r : RlS K F G H ρ l) (i : Nat) (x : Option V) (y : Sl) (h : SlOk K F G H x y)
    (hd : ∀ p o, x = some (.ref p) → y = .own o → ∀ (j : Nat) o', ρ[j]? = some (some (.ref p)) → l[j]? = some (.own o') → j = i) : RlS K F G H (ρ.set i x) (l.set i y) := by
  refine ⟨r.b, by rw [List.length_set, List.length_set]; exact r.len, fun j x' y' e1 e2 => ?_, fun j k p o o' e1 e2 e3 e4 => ?_⟩
  · by_cases hj : i = j
    · subst hj
      have h1 := (List.getElem?_eq_some_iff.mp e1).1
      have h2 := (List.getElem?_eq_some_iff.mp e2).1
      rw [List.length_set] at h1 h2
      rw [List.getElem?_set_self h1] at e1
      rw [List.getElem?_set_self h2] at e2
      cases e1; cases e2
      exact h
    · rw [List.getElem?_set_ne hj] at e1 e2
      exact r.slot j x' y' e1 e2
  · by_cases hj : i = j
    · by_cases hk : i = k
      · rw [← hj, hk]
      · subst hj
        have h1 := (List.getElem?_eq_some_iff.mp e1).1
        have h2 := (List.getElem?_eq_some_iff.mp e3).1
        rw [List.length_set] at h1 h2
        rw [List.getElem?_set_self h1] at e1
        rw [List.getElem?_set_self h2] at e3
        rw [List.getElem?_set_ne hk] at e2 e4
        cases e1; cases e3
        exact (hd p o rfl rfl k o' e2 e4).symm
    · by_cases hk : i = k
      · subst hk
        have h1 := (List.getElem?_eq_some_iff.mp e2).1
        have h2 := (List.getElem?_eq_some_iff.mp e4).1
        rw [List.length_set] at h1 h2
        rw [List.getElem?_set_self h1] at e2
        rw [List.getElem?_set_self h2] at e4
        rw [List.getElem?_set_ne hj] at e1 e3
        cases e2; cases e4
        exact hd p o' rfl rfl j o e1 e3
      · rw [List.getElem?_set_ne hj] at e1 e3
        rw [List.getElem?_set_ne hk] at e2 e4
        exact r.dis j k p o o' e1 e2 e3 e4
theorem RlS.push (r : RlS K F G H ρ l) (x : Option V) (y : Sl) (h : SlOk K F G H x y)
    (hd : ∀ p o, x = some (.ref p) → y = .own o → ∀ (j : Nat) o', ρ[j]? = some (some (.ref p)) → l[j]? = some (.own o') → False) : RlS K F G H (ρ ++ [x]) (l ++ [y]) := by
  have hl := r.len
  have g1 : ∀ {j : Nat} {z : Option V}, (ρ ++ [x])[j]? = some z → (j < ρ.length ∧ ρ[j]? = some z) ∨ (j = ρ.length ∧ z = x) := fun {j z} e => by
    by_cases hj : j < ρ.length
    · rw [List.getElem?_append_left hj] at e; exact .inl ⟨hj, e⟩
    · rw [List.getElem?_append_right (by omega)] at e
      have h0 : j - ρ.length = 0 := by
        have := (List.getElem?_eq_some_iff.mp e).1
        simp at this; omega
      rw [h0] at e
      simp at e
      exact .inr ⟨by omega, e.symm⟩
  have g2 : ∀ {j : Nat} {z : Sl}, (l ++ [y])[j]? = some z → (j < ρ.length ∧ l[j]? = some z) ∨ (j = ρ.length ∧ z = y) := fun {j z} e => by
    by_cases hj : j < l.length
    · rw [List.getElem?_append_left hj] at e; exact .inl ⟨by omega, e⟩
    · rw [List.getElem?_append_right (by omega)] at e
      have h0 : j - l.length = 0 := by
        have := (List.getElem?_eq_some_iff.mp e).1
        simp at this; omega
      rw [h0] at e
      simp at e
      exact .inr ⟨by omega, e.symm⟩
  refine ⟨r.b, by simp [hl], fun j x' y' e1 e2 => ?_, fun j k p o o' e1 e2 e3 e4 => ?_⟩
  · rcases g1 e1 with ⟨a, b⟩ | ⟨a, b⟩ <;> rcases g2 e2 with ⟨c, d⟩ | ⟨c, d⟩
    · exact r.slot j x' y' b d
    · omega
    · omega
    · subst b; subst d; exact h
  · rcases g1 e1 with ⟨a1, b1⟩ | ⟨a1, b1⟩ <;> rcases g2 e3 with ⟨c1, d1⟩ | ⟨c1, d1⟩ <;> rcases g1 e2 with ⟨a2, b2⟩ | ⟨a2, b2⟩ <;> rcases g2 e4 with ⟨c2, d2⟩ | ⟨c2, d2⟩
    all_goals first | omega | skip
    · exact r.dis j k p o o' b1 b2 d1 d2
    · exact (hd p o' b2.symm d2.symm j o b1 d1).elim
    · exact (hd p o b1.symm d1.symm k o' b2 d2).elim
theorem RlS.take (r : RlS K F G H ρ l) (n : Nat) : RlS K F G H (ρ.take n) (l.take n) := by
  refine ⟨r.b, by rw [List.length_take, List.length_take, r.len], fun j x y e1 e2 => ?_, fun j k p o o' e1 e2 e3 e4 => ?_⟩
  all_goals simp only [List.getElem?_take] at *
  · split at e1
    · rw [if_pos (by assumption)] at e2
      exact r.slot j x y e1 e2
    · cases e1
  · split at e1
    · split at e2
      · rw [if_pos (by assumption)] at e3 e4
        exact r.dis j k p o o' e1 e2 e3 e4
      · cases e2
    · cases e1

/-- an own list in place i is given away -/
theorem RlS.fz (r : RlS K F G H ρ l) {i : Nat} {ds : List D} (e : l[i]? = some (.own (.lst ds))) :
    ∃ p G', ρ[i]? = some (some (.ref p)) ∧ Same G G' ∧ Dp K G' (.ref p) (.list ds) ∧ RlS K F G' H ρ (l.set i (.val (.list ds))) := by
  obtain ⟨x, ex, p, rfl, m, vs, hp, hd⟩ := r.at e
  have sG : Same G (upd G p (.lst vs)) := same_upd m.g
  have dp : Dp K (upd G p (.lst vs)) (.ref p) (.list ds) := .lst (.inl upd_same) (dpAll_mono sG _ _ hd)
  refine ⟨p, upd G p (.lst vs), ex, sG, dp, r.b.fz m hp, by rw [List.length_set]; exact r.len, fun j x' y' e1 e2 => ?_, fun j k q o o' e1 e2 e3 e4 => ?_⟩
  · by_cases hj : i = j
    · subst hj
      have h2 := (List.getElem?_eq_some_iff.mp e2).1
      rw [List.length_set] at h2
      rw [List.getElem?_set_self h2] at e2
      rw [ex] at e1
      cases e1; cases e2
      exact ⟨_, rfl, dp⟩
    · rw [List.getElem?_set_ne hj] at e2
      have q := r.slot j x' y' e1 e2
      match y', q with
      | .no, _ => trivial
      | .val d, ⟨v, a, b⟩ => exact ⟨v, a, dp_mono sG d v b⟩
      | .own o, ⟨q', a, b, c⟩ =>
        subst a
        have ne : q' ≠ p := fun z => by
          subst z
          exact hj (r.dis i j q' _ o ex e1 e e2)
        exact ⟨q', rfl, ⟨by rw [upd_ne ne]; exact b.g, b.h, b.s⟩, c.mono sG rfl⟩
      | .st B, ⟨s, a, b⟩ => exact ⟨s, a, b⟩
      | .scr n, ⟨a, xs, e, h, l⟩ => exact ⟨a, xs, e, sG.seq h, l⟩
  · by_cases hj : i = j
    · subst hj
      have h2 := (List.getElem?_eq_some_iff.mp e3).1
      rw [List.length_set] at h2
      rw [List.getElem?_set_self h2] at e3
      cases e3
    · by_cases hk : i = k
      · subst hk
        have h2 := (List.getElem?_eq_some_iff.mp e4).1
        rw [List.length_set] at h2
        rw [List.getElem?_set_self h2] at e4
        cases e4
      · rw [List.getElem?_set_ne hj] at e3
        rw [List.getElem?_set_ne hk] at e4
        exact r.dis j k q o o' e1 e2 e3 e4
/-- an own object in place i is written -/
theorem RlS.wr (r : RlS K F G H ρ l) {i : Nat} {o : Ow} (e : l[i]? = some (.own o)) {p : Addr} (ep : ρ[i]? = some (some (.ref p))) {u : HO} {o' : Ow} (h' : OwOk K G (upd H p u) p o') :
    RlS K F G (upd H p u) ρ (l.set i (.own o')) := by
  obtain ⟨x, ex, p', e', m, hp⟩ := r.at e
  rw [ep] at ex
  cases ex
  cases e'
  refine ⟨r.b.wr m, by rw [List.length_set]; exact r.len, fun j x' y' e1 e2 => ?_, fun j k q o1 o2 e1 e2 e3 e4 => ?_⟩
  · by_cases hj : i = j
    · subst hj
      have h2 := (List.getElem?_eq_some_iff.mp e2).1
      rw [List.length_set] at h2
      rw [List.getElem?_set_self h2] at e2
      rw [ep] at e1
      cases e1; cases e2
      exact ⟨p, rfl, m, h'⟩
    · rw [List.getElem?_set_ne hj] at e2
      have q := r.slot j x' y' e1 e2
      match y', q with
      | .no, _ => trivial
      | .val d, ⟨v, a, b⟩ => exact ⟨v, a, b⟩
      | .own o, ⟨q', a, b, c⟩ =>
        subst a
        have ne : q' ≠ p := fun z => by
          subst z
          exact hj (r.dis i j q' _ o ep e1 e e2)
        exact ⟨q', rfl, b, c.mono (Same.refl G) (upd_ne ne)⟩
      | .st B, ⟨s, a, b, w⟩ => exact ⟨s, a, b, w.at (upd_ne (m.s s a).1.symm)⟩
      | .scr n, ⟨a, xs, e, h, l⟩ => exact ⟨a, xs, e, h, l⟩
  · have back : ∀ {m : Nat} {o3 : Ow}, (l.set i (.own o'))[m]? = some (.own o3) → ∃ o4, l[m]? = some (.own o4) := fun {m o3} h => by
      by_cases hm : i = m
      · subst hm; exact ⟨o, e⟩
      · rw [List.getElem?_set_ne hm] at h; exact ⟨o3, h⟩
    obtain ⟨o3, e3'⟩ := back e3
    obtain ⟨o4, e4'⟩ := back e4
    exact r.dis j k q o3 o4 e1 e2 e3' e4'
end
end DL

namespace DL
open PySem PySem.Spec L2

abbrev DT := Sg → (R → Sg → Prop) → Prop
abbrev DTT := Sg → (Bool → Sg → Prop) → Prop
abbrev DTA := Sg → (List R → Sg → Prop) → Prop

def IsR (K : PySem.W.Frag) (G : Hp) (σ : L2.St) (τ : List V) (v : V) : R → Prop
  | .d d => Dp K G v d
  | .v i => σ[i]? = some (some v)
  | .t j => τ[j]? = some v
def IsRs (K : PySem.W.Frag) (G : Hp) (σ : L2.St) (τ : List V) : List V → List R → Prop
  | [], [] => True
  | v :: vs, r :: rs => IsR K G σ τ v r ∧ IsRs K G σ τ vs rs
  | _, _ => False

def look (e : Sg) : R → Option Sl
  | .d d => some (.val d)
  | .v i => e.s[i]?
  | .t j => e.t[j]?
def see (e : Sg) (r : R) (k : D → Prop) : Prop :=
  match look e r with
  | some (.val d) => k d
  | some (.own (.lst ds)) => k (.list ds)
  | _ => False
def sees (e : Sg) : List R → (List D → Prop) → Prop
  | [], k => k []
  | r :: rs, k => see e r fun d => sees e rs fun ds => k (d :: ds)
def cut (e : Sg) (n : Nat) : Sg := ⟨e.s, e.t.take n⟩
def fz (e : Sg) (r : R) (k : D → Sg → Prop) : Prop :=
  match r with
  | .d d => k d e
  | .v i => match e.s[i]? with
    | some (.val d) => k d e
    | some (.own (.lst ds)) => k (.list ds) ⟨e.s.set i (.val (.list ds)), e.t⟩
    | _ => False
  | .t j => match e.t[j]? with
    | some (.val d) => k d e
    | some (.own (.lst ds)) => k (.list ds) ⟨e.s, e.t.set j (.val (.list ds))⟩
    | _ => False
def fzs (e : Sg) : List R → (List D → Sg → Prop) → Prop
  | [], k => k [] e
  | r :: rs, k => fz e r fun d e1 => fzs e1 rs fun ds e2 => k (d :: ds) e2

/-- what an operation comes to: data, or a new list -/
inductive Res where
  | d (d : D)
  | l (ds : List D)
def put (e : Sg) (x : Res) (k : R → Sg → Prop) : Prop :=
  match x with
  | .d d => k (.d d) e
  | .l ds => k (.t e.t.length) ⟨e.s, e.t ++ [.own (.lst ds)]⟩

def DR (K : PySem.W.Frag) (F : Fr) (te : TE) (T : DT) : Prop := ∀ G H σ τ e k (Q : VK), Rl K F G H σ τ e → T e k →
  (∀ v G' H' τ' e' r, Same G G' → Rl K F G' H' σ (τ ++ τ') e' → IsR K G' σ (τ ++ τ') v r → k r e' → Q v H') → te σ H Q
def DRT (K : PySem.W.Frag) (F : Fr) (tt : TT) (T : DTT) : Prop := ∀ G H σ τ e k (Q : Bool → Hp → Prop), Rl K F G H σ τ e → T e k →
  (∀ b G' H' e', Same G G' → Rl K F G' H' σ τ e' → k b e' → Q b H') → tt σ H Q
def DRA (K : PySem.W.Frag) (F : Fr) (ta : TA) (T : DTA) : Prop := ∀ G H σ τ e k (Q : List V → Hp → Prop), Rl K F G H σ τ e → T e k →
  (∀ vs G' H' τ' e' rs, Same G G' → Rl K F G' H' σ (τ ++ τ') e' → IsRs K G' σ (τ ++ τ') vs rs → k rs e' → Q vs H') → ta σ H Q

section
variable {K : PySem.W.Frag} {F : Fr} {G H G' H' : Hp} {σ : L2.St} {τ τ' : List V} {e : Sg} {v : V} {r : R}

theorem Rl.tl (h : Rl K F G H σ τ e) : e.t.length = τ.length := by
  have a := h.r.len
  have b := h.ls
  simp at a
  omega
theorem Rl.step (h : Rl K F G H σ τ e) (t : Step F G H G' H') : Rl K F G' H' σ τ e := ⟨h.r.step t, h.ls⟩
theorem Rl.cut (h : Rl K F G H σ (τ ++ τ') e) : Rl K F G H σ τ (cut e τ.length) := by
  have q := h.r.take (σ.length + τ.length)
  have l1 := h.ls
  refine ⟨?_, h.ls⟩
  have e1 : (σ ++ (τ ++ τ').map some).take (σ.length + τ.length) = σ ++ τ.map some := by
    rw [List.take_length_add_append, List.map_append, List.take_append_of_le_length (by simp), List.take_of_length_le (by simp)]
  have e2 : (e.s ++ e.t).take (σ.length + τ.length) = e.s ++ e.t.take τ.length := by
    rw [← l1, List.take_length_add_append]
  rw [e1, e2] at q
  exact q
theorem Rl.cut' {n : Nat} (h : Rl K F G H σ (τ ++ τ') e) (hn : n = τ.length) : Rl K F G H σ τ (DL.cut e n) := by
  subst hn
  exact h.cut
theorem IsR.mono (h : Same G G') : ∀ {r : R}, IsR K G σ τ v r → IsR K G' σ τ v r
  | .d d, q => dp_mono h d v q
  | .v _, q => q
  | .t _, q => q
theorem IsR.ext : ∀ {r : R}, IsR K G σ τ v r → IsR K G σ (τ ++ τ') v r
  | .d d, q => q
  | .v _, q => q
  | .t j, q => by
    have q : τ[j]? = some v := q
    show (τ ++ τ')[j]? = some v
    rw [List.getElem?_append_left (List.getElem?_eq_some_iff.mp q).1]
    exact q
theorem IsRs.mono (h : Same G G') : ∀ {vs : List V} {rs : List R}, IsRs K G σ τ vs rs → IsRs K G' σ τ vs rs
  | [], [], _ => trivial
  | _ :: _, _ :: _, q => ⟨q.1.mono h, IsRs.mono h q.2⟩
theorem IsRs.ext : ∀ {vs : List V} {rs : List R}, IsRs K G σ τ vs rs → IsRs K G σ (τ ++ τ') vs rs
  | [], [], _ => trivial
  | _ :: _, _ :: _, q => ⟨q.1.ext, IsRs.ext q.2⟩

/-- data, at least as far as its own items -/
def Sn (K : PySem.W.Frag) (G H : Hp) (v : V) (d : D) : Prop := Dp K G v d ∨ ∃ p vs ds, v = .ref p ∧ d = .list ds ∧ H p = some (.lst vs) ∧ DpAll K G vs ds
def Sns (K : PySem.W.Frag) (G H : Hp) : List V → List D → Prop
  | [], [] => True
  | v :: vs, d :: ds => Sn K G H v d ∧ Sns K G H vs ds
  | _, _ => False
theorem Sn.dp {d : D} (s : Same G H) (h : Sn K G H v d) : Dp K H v d := by
  rcases h with h | ⟨p, vs, ds, rfl, rfl, a, b⟩
  · exact dp_mono s _ _ h
  · exact .lst (.inl a) (dpAll_mono s _ _ b)
theorem Sn.list {ds : List D} (s : Same G H) (h : Sn K G H v (.list ds)) : ∃ p xs, v = .ref p ∧ Rd H p (.lst xs) ∧ DpAll K G xs ds := by
  rcases h with h | ⟨p, vs, ds', rfl, e, a, b⟩
  · cases h with
    | lst a b => exact ⟨_, _, rfl, rd_mono s a, b⟩
  · cases e
    exact ⟨_, _, rfl, .inl a, b⟩
theorem Sn.tuple {ds : List D} (s : Same G H) (h : Sn K G H v (.tuple ds)) : ∃ p xs, v = .ref p ∧ SqT K H p xs ∧ DpAll K G xs ds := by
  rcases h with h | ⟨p, vs, ds', rfl, e, a, b⟩
  · cases h with
    | tup a b => exact ⟨_, _, rfl, sqT_mono s a, b⟩
  · cases e
theorem Sn.int {i : Int} (h : Sn K G H v (.int i)) : v = .int i := by
  rcases h with h | ⟨p, vs, ds', rfl, e, a, b⟩
  · cases h; rfl
  · cases e
theorem Sn.bool {b : Bool} (h : Sn K G H v (.bool b)) : v = .bl b := by
  rcases h with h | ⟨p, vs, ds', rfl, e, a, b⟩
  · cases h; rfl
  · cases e
theorem Sn.str {x : Str} (h : Sn K G H v (.str x)) : v = .str x := by
  rcases h with h | ⟨p, vs, ds', rfl, e, a, b⟩
  · cases h; rfl
  · cases e
theorem Sn.none (h : Sn K G H v .none) : v = .non := by
  rcases h with h | ⟨p, vs, ds', rfl, e, a, b⟩
  · cases h; rfl
  · cases e

theorem Rl.slotV (h : Rl K F G H σ τ e) {i : Nat} {y : Sl} (q : e.s[i]? = some y) (hv : σ[i]? = some (some v)) : SlOk K F G H (some v) y := by
  have h1 := (List.getElem?_eq_some_iff.mp q).1
  have h2 := (List.getElem?_eq_some_iff.mp hv).1
  refine h.r.slot i (some v) y ?_ ?_
  · rw [List.getElem?_append_left h2]; exact hv
  · rw [List.getElem?_append_left h1]; exact q
theorem Rl.slotT (h : Rl K F G H σ τ e) {j : Nat} {y : Sl} (q : e.t[j]? = some y) (hv : τ[j]? = some v) : SlOk K F G H (some v) y := by
  refine h.r.slot (σ.length + j) (some v) y ?_ ?_
  · rw [List.getElem?_append_right (by omega), Nat.add_sub_cancel_left, List.getElem?_map, hv]
    rfl
  · have := h.ls
    rw [List.getElem?_append_right (by omega), this, Nat.add_sub_cancel_left]
    exact q
theorem look_ok (h : Rl K F G H σ τ e) (q : IsR K G σ τ v r) {y : Sl} (l : look e r = some y) : SlOk K F G H (some v) y := by
  cases r with
  | d d =>
    cases l
    exact ⟨v, rfl, q⟩
  | v i => exact h.slotV l q
  | t j => exact h.slotT l q
theorem see_ok {k : D → Prop} (h : Rl K F G H σ τ e) (q : IsR K G σ τ v r) (s : see e r k) : ∃ d, Sn K G H v d ∧ k d := by
  unfold see at s
  split at s
  · rename_i d l
    obtain ⟨v', e1, e2⟩ := look_ok h q l
    cases e1
    exact ⟨d, .inl e2, s⟩
  · rename_i ds l
    obtain ⟨p, e1, m, vs, a, b⟩ := look_ok h q l
    cases e1
    exact ⟨_, .inr ⟨p, vs, ds, rfl, rfl, a, b⟩, s⟩
  · exact s.elim
theorem sees_ok (h : Rl K F G H σ τ e) : ∀ {vs : List V} {rs : List R} {k : List D → Prop}, IsRs K G σ τ vs rs → sees e rs k → ∃ ds, Sns K G H vs ds ∧ k ds
  | [], [], k, _, s => ⟨[], trivial, s⟩
  | v :: vs, r :: rs, k, q, s => by
    obtain ⟨d, a, b⟩ := see_ok h q.1 s
    obtain ⟨ds, c, f⟩ := sees_ok h q.2 b
    exact ⟨d :: ds, ⟨a, c⟩, f⟩
theorem fz_ok {k : D → Sg → Prop} (h : Rl K F G H σ τ e) (q : IsR K G σ τ v r) (s : fz e r k) : ∃ G' e' d, Same G G' ∧ Rl K F G' H σ τ e' ∧ Dp K G' v d ∧ k d e' := by
  cases r with
  | d d => exact ⟨G, e, d, Same.refl G, h, q, s⟩
  | v i =>
    unfold fz at s
    simp only at s
    split at s
    · rename_i d l
      obtain ⟨v', e1, e2⟩ := h.slotV l q
      cases e1
      exact ⟨G, e, d, Same.refl G, h, e2, s⟩
    · rename_i ds l
      have li := (List.getElem?_eq_some_iff.mp l).1
      have l2 := h.ls
      obtain ⟨p, G', a, b, c, f⟩ := h.r.fz (i := i) (ds := ds) (by rw [List.getElem?_append_left li]; exact l)
      rw [List.getElem?_append_left (by omega)] at a
      have q : σ[i]? = some (some v) := q
      rw [q] at a
      cases a
      rw [List.set_append_left _ _ li] at f
      exact ⟨G', ⟨e.s.set i (.val (.list ds)), e.t⟩, .list ds, b, ⟨f, by rw [List.length_set]; exact l2⟩, c, s⟩
    · exact s.elim
  | t j =>
    unfold fz at s
    simp only at s
    split at s
    · rename_i d l
      obtain ⟨v', e1, e2⟩ := h.slotT l q
      cases e1
      exact ⟨G, e, d, Same.refl G, h, e2, s⟩
    · rename_i ds l
      have li := (List.getElem?_eq_some_iff.mp l).1
      have l2 := h.ls
      obtain ⟨p, G', a, b, c, f⟩ := h.r.fz (i := e.s.length + j) (ds := ds) (by rw [List.getElem?_append_right (by omega), Nat.add_sub_cancel_left]; exact l)
      rw [List.getElem?_append_right (by omega), l2, Nat.add_sub_cancel_left, List.getElem?_map] at a
      have q : τ[j]? = some v := q
      rw [q] at a
      cases a
      rw [List.set_append_right _ _ (by omega), Nat.add_sub_cancel_left] at f
      exact ⟨G', ⟨e.s, e.t.set j (.val (.list ds))⟩, .list ds, b, ⟨f, l2⟩, c, s⟩
    · exact s.elim
theorem fzs_ok : ∀ {rs : List R} {vs : List V} {G : Hp} {e : Sg} {k : List D → Sg → Prop}, Rl K F G H σ τ e → IsRs K G σ τ vs rs → fzs e rs k → ∃ G' e' ds, Same G G' ∧ Rl K F G' H σ τ e' ∧ DpAll K G' vs ds ∧ k ds e'
  | [], [], G, e, k, h, _, s => ⟨G, e, [], Same.refl G, h, .nil, s⟩
  | r :: rs, v :: vs, G, e, k, h, q, s => by
    obtain ⟨G1, e1, d, a, b, c, f⟩ := fz_ok h q.1 s
    obtain ⟨G2, e2, ds, a2, b2, c2, f2⟩ := fzs_ok b (q.2.mono a) f
    exact ⟨G2, e2, d :: ds, a.trans a2, b2, .cons (dp_mono a2 _ _ c) c2, f2⟩

def ResOk (K : PySem.W.Frag) (F : Fr) (H G' H' : Hp) (v : V) : Res → Prop
  | .d d => Dp K G' v d
  | .l ds => ∃ p vs, v = .ref p ∧ H p = none ∧ H' p = some (.lst vs) ∧ Mine F G' p ∧ DpAll K G' vs ds

theorem own_some (h : Rl K F G H σ τ e) {j : Nat} {p : Addr} {o : Ow} (a : (σ ++ τ.map some)[j]? = some (some (.ref p))) (b : (e.s ++ e.t)[j]? = some (.own o)) : H p ≠ none := by
  obtain ⟨p', e1, m, q⟩ := h.r.slot j _ _ a b
  cases e1
  obtain ⟨x, hx, _⟩ := q.some
  rw [hx]
  exact fun z => by cases z

theorem fin_put {x : Res} {k : R → Sg → Prop} (h : Rl K F G H σ τ e) (t : Step F G H G' H') (ok : ResOk K F H G' H' v x) (hk : put e x k) :
    ∃ τ' e' r, Rl K F G' H' σ (τ ++ τ') e' ∧ IsR K G' σ (τ ++ τ') v r ∧ k r e' := by
  have h1 := h.step t
  cases x with
  | d d => exact ⟨[], e, .d d, by rw [List.append_nil]; exact h1, ok, hk⟩
  | l ds =>
    obtain ⟨p, vs, rfl, hp, hp', m, da⟩ := ok
    refine ⟨[.ref p], (⟨e.s, e.t ++ [Sl.own (Ow.lst ds)]⟩ : Sg), R.t e.t.length, ⟨?_, h.ls⟩, ?_, hk⟩
    · rw [List.map_append, ← List.append_assoc]
      show RlS K F G' H' ((σ ++ τ.map some) ++ [some (.ref p)]) (e.s ++ (e.t ++ [.own (.lst ds)]))
      rw [← List.append_assoc]
      refine h1.r.push _ _ ⟨p, rfl, m, vs, hp', da⟩ fun q o e1 e2 j o' a b => ?_
      cases e1
      exact own_some h a b hp
    · show (τ ++ [.ref p])[e.t.length]? = some (.ref p)
      rw [h.tl]
      simp

/-- a new list just laid -/
theorem res_new {p : Addr} {vs : List V} {ds : List D} (h : RlB F G H) (hp : H p = none) (da : DpAll K G vs ds) : Step F G H G (upd H p (.lst vs)) ∧ ResOk K F H G (upd H p (.lst vs)) (.ref p) (.l ds) :=
  ⟨h.newH hp, p, vs, rfl, hp, upd_same, h.isNew hp, da⟩
/-- a new tuple just laid -/
theorem res_tup {p : Addr} {vs : List V} {ds : List D} (h : RlB F G H) (hp : H p = none) (da : DpAll K G vs ds) : Step F G H (upd G p (.tup vs)) (upd H p (.tup vs)) ∧ ResOk K F H (upd G p (.tup vs)) (upd H p (.tup vs)) (.ref p) (.d (.tuple ds)) :=
  have t := h.newG (o := .tup vs) hp
  ⟨t, .tup (.inl (.inl upd_same)) (dpAll_mono t.g _ _ da)⟩
end

/-! ### variables and constants -/
def dVar (i : Nat) : DT := fun e k => match e.s[i]? with
  | some (.val d) => k (.d d) e
  | some (.own _) => k (.v i) e
  | some (.st _) => k (.v i) e
  | _ => False
def dC (d : D) : DT := fun e k => k (.d d) e
section
variable {K : PySem.W.Frag} {F : Fr}
theorem dr_var (i : Nat) : DR K F (tVar i) (dVar i) := fun G H σ τ e k Q h t q => by
  unfold dVar at t
  split at t
  · rename_i d l
    have l1 := (List.getElem?_eq_some_iff.mp l).1
    have l2 := h.ls
    have hx : σ[i]? = some σ[i] := List.getElem?_eq_getElem (by omega)
    have := h.r.slot i σ[i] (.val d) (by rw [List.getElem?_append_left (by omega)]; exact hx) (by rw [List.getElem?_append_left l1]; exact l)
    obtain ⟨v, e1, e2⟩ := this
    exact ⟨v, by rw [hx, e1], q v G H [] e (.d d) (Same.refl G) (by rw [List.append_nil]; exact h) e2 t⟩
  · rename_i o l
    have l1 := (List.getElem?_eq_some_iff.mp l).1
    have l2 := h.ls
    have hx : σ[i]? = some σ[i] := List.getElem?_eq_getElem (by omega)
    obtain ⟨p, e1, m, _⟩ := h.r.slot i σ[i] (.own o) (by rw [List.getElem?_append_left (by omega)]; exact hx) (by rw [List.getElem?_append_left l1]; exact l)
    have hx' : σ[i]? = some (some (.ref p)) := by rw [hx, e1]
    exact ⟨.ref p, hx', q _ G H [] e (.v i) (Same.refl G) (by rw [List.append_nil]; exact h) hx' t⟩
  · rename_i B l
    have l1 := (List.getElem?_eq_some_iff.mp l).1
    have l2 := h.ls
    have hx : σ[i]? = some σ[i] := List.getElem?_eq_getElem (by omega)
    obtain ⟨s, e1, e2, _⟩ := h.r.slot i σ[i] (.st B) (by rw [List.getElem?_append_left (by omega)]; exact hx) (by rw [List.getElem?_append_left l1]; exact l)
    have hx' : σ[i]? = some (some (.ref s.a)) := by rw [hx, e2]
    exact ⟨.ref s.a, hx', q _ G H [] e (.v i) (Same.refl G) (by rw [List.append_nil]; exact h) hx' t⟩
  · exact t.elim
theorem dr_c {v : V} {d : D} (hd : ∀ G, Dp K G v d) : DR K F (tC v) (dC d) := fun G H σ τ e k Q h t q =>
  q v G H [] e (.d d) (Same.refl G) (by rw [List.append_nil]; exact h) (hd G) t
theorem dr_int {i : Int} : DR K F (tC (.int i)) (dC (.int i)) := dr_c fun _ => .int i
theorem dr_bl {b : Bool} : DR K F (tC (.bl b)) (dC (.bool b)) := dr_c fun _ => .bl b
theorem dr_str {x : Str} : DR K F (tC (.str x)) (dC (.str x)) := dr_c fun _ => .str x
theorem dr_non : DR K F (tC .non) (dC .none) := dr_c fun _ => .non
end

/-! ### operations -/
/-- the operation r on values does f on data -/
def OpD (K : PySem.W.Frag) (r : R2) (f : D → D → (Res → Prop) → Prop) : Prop := ∀ F G H x y dx dy k (Q : VK), RlB F G H → Sn K G H x dx → Sn K G H y dy → f dx dy k →
  (∀ v G' H' z, Step F G H G' H' → ResOk K F H G' H' v z → k z → Q v H') → r x y H Q
def UnD (K : PySem.W.Frag) (r : V → Hp → VK → Prop) (f : D → (Res → Prop) → Prop) : Prop := ∀ F G H x dx k (Q : VK), RlB F G H → Sn K G H x dx → f dx k →
  (∀ v G' H' z, Step F G H G' H' → ResOk K F H G' H' v z → k z → Q v H') → r x H Q
def CaD (K : PySem.W.Frag) (r : List V → Hp → VK → Prop) (f : List D → (Res → Prop) → Prop) : Prop := ∀ F G H xs dxs k (Q : VK), RlB F G H → Sns K G H xs dxs → f dxs k →
  (∀ v G' H' z, Step F G H G' H' → ResOk K F H G' H' v z → k z → Q v H') → r xs H Q
def MtD (K : PySem.W.Frag) (T : String) (r : V → List V → Hp → VK → Prop) (f : D → List D → (Res → Prop) → Prop) : Prop := ∀ F G H x xs dx dxs k (Q : VK), RlB F G H → Sn K G H x dx → Sns K G H xs dxs → f dx dxs k →
  (∀ v G' H' z, Step F G H G' H' → ResOk K F H G' H' v z → k z → Q v H') → r x xs H Q

def dOp (f : D → D → (Res → Prop) → Prop) (ta tb : DT) : DT := fun e k => ta e fun rx e1 => tb e1 fun ry e2 => see e2 rx fun dx => see e2 ry fun dy => f dx dy fun z => put (cut e2 e.t.length) z k
def dUn (f : D → (Res → Prop) → Prop) (ta : DT) : DT := fun e k => ta e fun rx e1 => see e1 rx fun dx => f dx fun z => put (cut e1 e.t.length) z k
def dCB (f : List D → (Res → Prop) → Prop) (ta : DTA) : DT := fun e k => ta e fun rs e1 => sees e1 rs fun ds => f ds fun z => put (cut e1 e.t.length) z k
def dNil : DTA := fun e k => k [] e
def dCons (ta : DT) (tr : DTA) : DTA := fun e k => ta e fun r e1 => tr e1 fun rs e2 => k (r :: rs) e2
section
variable {K : PySem.W.Frag} {F : Fr} {ta tb tc : TE} {Ta Tb Tc : DT} {t : TA} {T : DTA} {tt : TT} {Tt : DTT}
theorem dr_op {r : R2} {f : D → D → (Res → Prop) → Prop} (ho : OpD K r f) (ha : DR K F ta Ta) (hb : DR K F tb Tb) : DR K F (tOp r ta tb) (dOp f Ta Tb) := fun G H σ τ e k Q h t q => by
  have hl := h.tl
  refine ha G H σ τ e _ _ h t fun x G1 H1 τ1 e1 rx s1 h1 i1 t1 => ?_
  refine hb G1 H1 σ _ e1 _ _ h1 t1 fun y G2 H2 τ2 e2 ry s2 h2 i2 t2 => ?_
  obtain ⟨dx, sx, t3⟩ := see_ok h2 ((i1.mono s2).ext) t2
  obtain ⟨dy, sy, t4⟩ := see_ok h2 i2 t3
  refine ho F G2 H2 x y dx dy _ Q h2.r.b sx sy t4 fun v G3 H3 z st ok kz => ?_
  rw [List.append_assoc] at h2
  obtain ⟨τ3, e3, r3, a, b, c⟩ := fin_put (h2.cut' hl) st ok kz
  exact q v G3 H3 τ3 e3 r3 ((s1.trans s2).trans st.g) a b c
theorem dr_un {r : V → Hp → VK → Prop} {f : D → (Res → Prop) → Prop} (ho : UnD K r f) (ha : DR K F ta Ta) : DR K F (tUn r ta) (dUn f Ta) := fun G H σ τ e k Q h t q => by
  have hl := h.tl
  refine ha G H σ τ e _ _ h t fun x G1 H1 τ1 e1 rx s1 h1 i1 t1 => ?_
  obtain ⟨dx, sx, t3⟩ := see_ok h1 i1 t1
  refine ho F G1 H1 x dx _ Q h1.r.b sx t3 fun v G3 H3 z st ok kz => ?_
  obtain ⟨τ3, e3, r3, a, b, c⟩ := fin_put (h1.cut' hl) st ok kz
  exact q v G3 H3 τ3 e3 r3 (s1.trans st.g) a b c
theorem dra_nil : DRA K F tNil dNil := fun G H σ τ e k Q h t q => q [] G H [] e [] (Same.refl G) (by rw [List.append_nil]; exact h) trivial t
theorem dra_cons (ha : DR K F ta Ta) (hr : DRA K F t T) : DRA K F (tCons ta t) (dCons Ta T) := fun G H σ τ e k Q h t q => by
  refine ha G H σ τ e _ _ h t fun x G1 H1 τ1 e1 rx s1 h1 i1 t1 => ?_
  refine hr G1 H1 σ _ e1 _ _ h1 t1 fun xs G2 H2 τ2 e2 rs s2 h2 i2 t2 => ?_
  refine q (x :: xs) G2 H2 (τ1 ++ τ2) e2 (rx :: rs) (s1.trans s2) (by rw [← List.append_assoc]; exact h2) ?_ t2
  rw [← List.append_assoc]
  exact ⟨(i1.mono s2).ext, i2⟩
theorem dr_cb {r : List V → Hp → VK → Prop} {f : List D → (Res → Prop) → Prop} (ho : CaD K r f) (ha : DRA K F t T) : DR K F (tCB r t) (dCB f T) := fun G H σ τ e k Q h t q => by
  have hl := h.tl
  refine ha G H σ τ e _ _ h t fun xs G1 H1 τ1 e1 rs s1 h1 i1 t1 => ?_
  obtain ⟨ds, sx, t3⟩ := sees_ok h1 i1 t1
  refine ho F G1 H1 xs ds _ Q h1.r.b sx t3 fun v G3 H3 z st ok kz => ?_
  obtain ⟨τ3, e3, r3, a, b, c⟩ := fin_put (h1.cut' hl) st ok kz
  exact q v G3 H3 τ3 e3 r3 (s1.trans st.g) a b c

/-! ### displays -/
def dLst (ta : DTA) : DT := fun e k => ta e fun rs e1 => fzs e1 rs fun ds e2 => ds.length ≤ sizeLine ∧ put (cut e2 e.t.length) (.l ds) k
def dTup (ta : DTA) : DT := fun e k => ta e fun rs e1 => fzs e1 rs fun ds e2 => ds.length ≤ sizeLine ∧ put (cut e2 e.t.length) (.d (.tuple ds)) k
theorem dr_lst (ha : DRA K F t T) : DR K F (tLst t) (dLst T) := fun G H σ τ e k Q h t q => by
  have hl := h.tl
  refine ha G H σ τ e _ _ h t fun xs G1 H1 τ1 e1 rs s1 h1 i1 t1 => ?_
  obtain ⟨G2, e2, ds, s2, h2, da, z, t2⟩ := fzs_ok h1 i1 t1
  refine ⟨by rw [dpAll_len da]; exact z, fun p hp => ?_⟩
  obtain ⟨st, ok⟩ := res_new h2.r.b hp da
  obtain ⟨τ3, e3, r3, a, b, c⟩ := fin_put (h2.cut' hl) st ok t2
  exact q _ _ _ τ3 e3 r3 (s1.trans (s2.trans st.g)) a b c
theorem dr_tup (ha : DRA K F t T) : DR K F (tTup t) (dTup T) := fun G H σ τ e k Q h t q => by
  have hl := h.tl
  refine ha G H σ τ e _ _ h t fun xs G1 H1 τ1 e1 rs s1 h1 i1 t1 => ?_
  obtain ⟨G2, e2, ds, s2, h2, da, z, t2⟩ := fzs_ok h1 i1 t1
  refine ⟨by rw [dpAll_len da]; exact z, fun p hp => ?_⟩
  obtain ⟨st, ok⟩ := res_tup h2.r.b hp da
  obtain ⟨τ3, e3, r3, a, b, c⟩ := fin_put (h2.cut' hl) st ok t2
  exact q _ _ _ τ3 e3 r3 (s1.trans (s2.trans st.g)) a b c

/-! ### tests -/
def dTest (ta : DT) : DTT := fun e k => ta e fun r e1 => see e1 r fun d => match d with
  | .bool b => k b (cut e1 e.t.length)
  | _ => False
def truth : D → Bool
  | .none => false
  | .bool b => b
  | .int i => i != 0
  | .str x => (x.length : Int) != 0
  | .list ds => !ds.isEmpty
  | .tuple ds => !ds.isEmpty
  | .dict _ => false
theorem drt_test (ha : DR K F ta Ta) : DRT K F (tTest ta) (dTest Ta) := fun G H σ τ e k Q h t q => by
  have hl := h.tl
  refine ha G H σ τ e _ _ h t fun x G1 H1 τ1 e1 rx s1 h1 i1 t1 => ?_
  obtain ⟨dx, sx, t3⟩ := see_ok h1 i1 t1
  split at t3
  · have := sx.bool
    exact ⟨_, this, q _ G1 H1 _ s1 (h1.cut' hl) t3⟩
  · exact t3.elim
theorem drt_B (ha : DR K F ta Ta) : DRT K F (tB ta) (dTest Ta) := drt_test ha
def dAnd (ta tb : DTT) : DTT := fun e k => ta e fun b e1 => if b = true then tb e1 k else k false e1
def dOr (ta tb : DTT) : DTT := fun e k => ta e fun b e1 => if b = true then k true e1 else tb e1 k
def dNot (ta : DTT) : DTT := fun e k => ta e fun b e1 => k (!b) e1
variable {tu : TT} {Tu : DTT}
theorem drt_and (ha : DRT K F tt Tt) (hb : DRT K F tu Tu) : DRT K F (tAnd tt tu) (dAnd Tt Tu) := fun G H σ τ e k Q h t q => by
  refine ha G H σ τ e _ _ h t fun b G1 H1 e1 s1 h1 t1 => ?_
  cases b with
  | true => exact hb G1 H1 σ τ e1 _ Q h1 t1 fun b G2 H2 e2 s2 h2 t2 => q b G2 H2 e2 (s1.trans s2) h2 t2
  | false => exact q false G1 H1 e1 s1 h1 t1
theorem drt_or (ha : DRT K F tt Tt) (hb : DRT K F tu Tu) : DRT K F (tOr tt tu) (dOr Tt Tu) := fun G H σ τ e k Q h t q => by
  refine ha G H σ τ e _ _ h t fun b G1 H1 e1 s1 h1 t1 => ?_
  cases b with
  | false => exact hb G1 H1 σ τ e1 _ Q h1 t1 fun b G2 H2 e2 s2 h2 t2 => q b G2 H2 e2 (s1.trans s2) h2 t2
  | true => exact q true G1 H1 e1 s1 h1 t1
theorem drt_not (ha : DRT K F tt Tt) : DRT K F (tNot tt) (dNot Tt) := fun G H σ τ e k Q h t q =>
  ha G H σ τ e _ _ h t fun b G1 H1 e1 s1 h1 t1 => q (!b) G1 H1 e1 s1 h1 t1
/-- and, or, not as values, all but the last True or False -/
def dAndV (ta tb : DT) : DT := fun e k => ta e fun r e1 => see e1 r fun d => match d with
  | .bool true => tb (cut e1 e.t.length) k
  | .bool false => k (.d (.bool false)) (cut e1 e.t.length)
  | _ => False
def dOrV (ta tb : DT) : DT := fun e k => ta e fun r e1 => see e1 r fun d => match d with
  | .bool false => tb (cut e1 e.t.length) k
  | .bool true => k (.d (.bool true)) (cut e1 e.t.length)
  | _ => False
def dNotV (ta : DT) : DT := fun e k => ta e fun r e1 => see e1 r fun d => match d with
  | .bool b => k (.d (.bool (!b))) (cut e1 e.t.length)
  | _ => False
theorem dr_andV (ha : DR K F ta Ta) (hb : DR K F tb Tb) : DR K F (tAndV ta tb) (dAndV Ta Tb) := fun G H σ τ e k Q h t q => by
  have hl := h.tl
  refine ha G H σ τ e _ _ h t fun x G1 H1 τ1 e1 rx s1 h1 i1 t1 => ?_
  obtain ⟨dx, sx, t3⟩ := see_ok h1 i1 t1
  split at t3
  · exact ⟨true, sx.bool, hb G1 H1 σ τ _ _ Q (h1.cut' hl) t3 fun v G2 H2 τ2 e2 r2 s2 h2 i2 t2 => q v G2 H2 τ2 e2 r2 (s1.trans s2) h2 i2 t2⟩
  · exact ⟨false, sx.bool, q _ G1 H1 [] _ _ s1 (by rw [List.append_nil]; exact h1.cut' hl) (show IsR K G1 σ (τ ++ []) _ (.d _) from Dp.bl false) t3⟩
  · exact t3.elim
theorem dr_orV (ha : DR K F ta Ta) (hb : DR K F tb Tb) : DR K F (tOrV ta tb) (dOrV Ta Tb) := fun G H σ τ e k Q h t q => by
  have hl := h.tl
  refine ha G H σ τ e _ _ h t fun x G1 H1 τ1 e1 rx s1 h1 i1 t1 => ?_
  obtain ⟨dx, sx, t3⟩ := see_ok h1 i1 t1
  split at t3
  · exact ⟨false, sx.bool, hb G1 H1 σ τ _ _ Q (h1.cut' hl) t3 fun v G2 H2 τ2 e2 r2 s2 h2 i2 t2 => q v G2 H2 τ2 e2 r2 (s1.trans s2) h2 i2 t2⟩
  · exact ⟨true, sx.bool, q _ G1 H1 [] _ _ s1 (by rw [List.append_nil]; exact h1.cut' hl) (show IsR K G1 σ (τ ++ []) _ (.d _) from Dp.bl true) t3⟩
  · exact t3.elim
theorem dr_notV (ha : DR K F ta Ta) : DR K F (tNotV ta) (dNotV Ta) := fun G H σ τ e k Q h t q => by
  have hl := h.tl
  refine ha G H σ τ e _ _ h t fun x G1 H1 τ1 e1 rx s1 h1 i1 t1 => ?_
  obtain ⟨dx, sx, t3⟩ := see_ok h1 i1 t1
  split at t3
  · exact ⟨_, sx.bool, q _ G1 H1 [] _ _ s1 (by rw [List.append_nil]; exact h1.cut' hl) (show IsR K G1 σ (τ ++ []) _ (.d _) from Dp.bl _) t3⟩
  · exact t3.elim
def dIf (tc : DTT) (ta tb : DT) : DT := fun e k => tc e fun b e1 => if b = true then ta e1 k else tb e1 k
theorem dr_if (hc : DRT K F tt Tt) (ha : DR K F ta Ta) (hb : DR K F tb Tb) : DR K F (tIf tt ta tb) (dIf Tt Ta Tb) := fun G H σ τ e k Q h t q => by
  refine hc G H σ τ e _ _ h t fun b G1 H1 e1 s1 h1 t1 => ?_
  cases b with
  | true => exact ha G1 H1 σ τ e1 _ Q h1 t1 fun v G2 H2 τ2 e2 r2 s2 h2 i2 t2 => q v G2 H2 τ2 e2 r2 (s1.trans s2) h2 i2 t2
  | false => exact hb G1 H1 σ τ e1 _ Q h1 t1 fun v G2 H2 τ2 e2 r2 s2 h2 i2 t2 => q v G2 H2 τ2 e2 r2 (s1.trans s2) h2 i2 t2
/-- a < b < c -/
def dChain (f g : D → D → (Bool → Prop) → Prop) (ta tb tc : DT) : DT := fun e k => ta e fun rx e1 => tb e1 fun ry e2 => see e2 rx fun dx => see e2 ry fun dy => f dx dy fun b =>
  if b = true then tc e2 fun rz e3 => see e3 ry fun dy' => see e3 rz fun dz => g dy' dz fun c => k (.d (.bool c)) (cut e3 e.t.length) else k (.d (.bool false)) (cut e2 e.t.length)
/-- a comparison on data that leaves all as it is -/
def CmD (K : PySem.W.Frag) (r : R2) (f : D → D → (Bool → Prop) → Prop) : Prop := ∀ G H x y dx dy k (Q : VK), Same G H → Sn K G H x dx → Sn K G H y dy → f dx dy k → (∀ b, k b → Q (.bl b) H) → r x y H Q
theorem dr_chain {r r' : R2} {f g : D → D → (Bool → Prop) → Prop} (ho : CmD K r f) (ho' : CmD K r' g) (ha : DR K F ta Ta) (hb : DR K F tb Tb) (hc : DR K F tc Tc) : DR K F (tChain r r' ta tb tc) (dChain f g Ta Tb Tc) := fun G H σ τ e k Q h t q => by
  have hl := h.tl
  refine ha G H σ τ e _ _ h t fun x G1 H1 τ1 e1 rx s1 h1 i1 t1 => ?_
  refine hb G1 H1 σ _ e1 _ _ h1 t1 fun y G2 H2 τ2 e2 ry s2 h2 i2 t2 => ?_
  obtain ⟨dx, sx, t3⟩ := see_ok h2 ((i1.mono s2).ext) t2
  obtain ⟨dy, sy, t4⟩ := see_ok h2 i2 t3
  refine ho G2 H2 x y dx dy _ _ h2.r.b.sub sx sy t4 fun b kb => ?_
  refine ⟨b, rfl, ?_⟩
  cases b with
  | false =>
    rw [List.append_assoc] at h2
    exact q _ G2 H2 [] _ _ (s1.trans s2) (by rw [List.append_nil]; exact h2.cut' hl) (show IsR K G2 σ (τ ++ []) _ (.d _) from Dp.bl false) kb
  | true =>
    refine hc G2 H2 σ _ e2 _ _ h2 kb fun z G3 H3 τ3 e3 rz s3 h3 i3 t5 => ?_
    obtain ⟨dy', sy', t6⟩ := see_ok h3 ((i2.mono s3).ext) t5
    obtain ⟨dz, sz, t7⟩ := see_ok h3 i3 t6
    refine ho' G3 H3 y z dy' dz _ _ h3.r.b.sub sy' sz t7 fun c kc => ?_
    rw [List.append_assoc, List.append_assoc] at h3
    exact q _ G3 H3 [] _ _ ((s1.trans s2).trans s3) (by rw [List.append_nil]; exact h3.cut' hl) (show IsR K G3 σ (τ ++ []) _ (.d _) from Dp.bl c) kc
theorem CmD.op {r : R2} {f : D → D → (Bool → Prop) → Prop} (h : CmD K r f) : OpD K r (fun x y k => f x y fun b => k (.d (.bool b))) := fun F G H x y dx dy k Q b sx sy t q =>
  h G H x y dx dy _ Q b.sub sx sy t fun c kc => q _ G H (.d (.bool c)) (Step.refl b) (Dp.bl c) kc
end
end DL

/-! The single operations: on values (rules), on data (what they do). -/
namespace DL
open PySem PySem.Spec L2

/-! ### rules on values that the layer below lacks in this form -/
section
variable {X : Cx}
theorem lstAt {pins : List (Addr × Obj)} {s : Shared} {σ : L2.St} {H : Hp} {l : Addr} {xs : List V} (I : Inv X pins σ H s) (h : Rd H l (.lst xs)) :
    ∃ (its : List Value) (n : Nat), Vals xs its ∧ xs.length ≤ sizeLine ∧ s.heap.get? l = some { cls := .type "list", data := .seq its.toArray n } := by
  obtain ⟨z, its, n, r, e⟩ := h.ok I.hok
  exact ⟨its, n, r, z, e⟩
def rCatR : R2 := fun x y H Q => ∃ l b xs zs, x = .ref l ∧ y = .ref b ∧ Rd H l (.lst xs) ∧ Rd H b (.lst zs) ∧ xs.length + zs.length ≤ sizeLine ∧ ∀ p, H p = none → Q (.ref p) (upd H p (.lst (xs ++ zs)))
theorem op_catR : OpR X (binaryOp .Add) rCatR := by
  intro pins s σ H x y v u Q I rx ry h
  obtain ⟨l, b, xs, zs, rfl, rfl, hl, hb, hz, q⟩ := h
  cases rx
  cases ry
  obtain ⟨its, n, r, zl, e⟩ := lstAt I hl
  obtain ⟨jts, m, r2, zl2, e2⟩ := lstAt I hb
  have h1 := r.length
  have h2 := r2.length
  refine PySem.P.add_list e e2 ?_ (by simp only [List.size_toArray]; omega)
  rw [show its.toArray ++ jts.toArray = (its ++ jts).toArray by simp]
  exact ⟨.ref _, _, I.lnew (t' := s.toks) (r.append r2) (by simp; omega), rfl, q _ I.fresh⟩
def rRepR : R2 := fun x y H Q => ∃ l k xs, x = .ref l ∧ y = .int k ∧ Rd H l (.lst xs) ∧ -(2 ^ 63) ≤ k ∧ k < 2 ^ 63 ∧ xs.length * k.toNat ≤ sizeLine ∧
  ∀ p, H p = none → Q (.ref p) (upd H p (.lst (List.replicate k.toNat xs).flatten))
theorem op_repR : OpR X (binaryOp .Mult) rRepR := by
  intro pins s σ H x y v u Q I rx ry h
  obtain ⟨l, k, xs, rfl, rfl, hl, h1, h2, hz, q⟩ := h
  cases rx
  obtain ⟨t, rfl⟩ := ry
  obtain ⟨its, n, r, zl, e⟩ := lstAt I hl
  have hlen : its.toArray.size * k.toNat ≤ sizeLine := by
    have := r.length
    rw [List.size_toArray, ← this]
    exact hz
  have cap : ¬ its.toArray.size * k.toNat > (2 ^ 63 - 1) / 8 := by
    have : (sizeLine : Nat) ≤ (2 ^ 63 - 1) / 8 := by decide
    omega
  have fit : ¬ (!Builtin.List.listFitsIndex k) = true := by
    rw [fitsIndex_both h1 h2]
    exact Bool.false_ne_true
  have long : ¬ Builtin.List.listTooLong (its.toArray.size * k.toNat) = true := by
    rw [notLongL hlen]
    exact Bool.false_ne_true
  have new : List.foldl (fun x1 x2 => x1 ++ x2) #[] (List.replicate (if its.toArray.isEmpty = true then 0 else k.toNat) its.toArray) = (List.replicate k.toNat its).flatten.toArray := by
    have f0 : ∀ m : Nat, List.foldl (fun x1 x2 => x1 ++ x2) #[] (List.replicate m its.toArray) = (List.replicate m its).flatten.toArray := fun m => by
      have z := foldl_rep its m []
      rw [List.nil_append] at z
      exact z
    rw [f0]
    cases its with
    | nil => simp
    | cons a r' => rw [if_neg (by simp)]
  refine wpAny_binaryOp_repeat_ref (T := "list") (U := "int") (by decide) ⟨_, e, rfl⟩ (fun s' => typeIs_int s' k t) noFill_list_mul F.fills_int_mul F.slot_int_rmul repeat_list F.slot_int_index.lookup ?_
  refine call_meets F.slot_int_rmul (typeIs_int s k t) F.entry_int_rmul (F.args_int_rmul_2 _ _) (int___rmul___int_list k t l its.toArray n) ⟨e, rfl, ⟨_, e, rfl⟩, ?_⟩
  refine call_meets F.slot_list_mul ⟨_, e, rfl⟩ F.entry_list_mul (F.args_list_mul_2 _ _) (AutoListH.list___mul___list_int_3 l its.toArray n k t fit cap long) ⟨e, ?_⟩
  rw [new]
  exact ⟨.ref _, _, I.lnew (t' := s.toks) (r.rep k.toNat) (by rw [PyProof.Rows.lm_len_rep_flat, Nat.mul_comm]; exact hz), rfl, q _ I.fresh⟩
/-- x is True, x is False -/
def rIsBo : R2 := fun x y H Q => ∃ b : Bool, y = .bl b ∧ (∀ n, x ≠ .ty n) ∧ Q (.bl (decide (x = .bl b))) H
theorem op_isBo : OpR X (compareOp .Is) rIsBo := by
  intro pins s σ H x y v u Q I rx ry h
  obtain ⟨b, rfl, nt, q⟩ := h
  cases (show u = Value.bool b from ry)
  have fin : ∀ c : Bool, decide (x = .bl b) = c → EP X pins σ Q (.bool c) s := fun c e => ⟨.bl c, H, I, rfl, by rw [← e]; exact q⟩
  cases x with
  | bl a =>
    cases (show v = Value.bool a from rx)
    exact wpAny_pure (fin (Value.bool a == Value.bool b) (by cases a <;> cases b <;> rfl))
  | non => cases rx; exact wpAny_pure (fin _ rfl)
  | int i => obtain ⟨t, rfl⟩ := rx; exact wpAny_pure (fin _ rfl)
  | str z => obtain ⟨t, rfl⟩ := rx; exact wpAny_pure (fin _ rfl)
  | byt z => obtain ⟨t, rfl⟩ := rx; exact wpAny_pure (fin _ rfl)
  | flt z => obtain ⟨t, rfl⟩ := rx; exact wpAny_pure (fin _ rfl)
  | ref a => cases rx; exact wpAny_pure (fin _ rfl)
  | ty n => exact absurd rfl (nt n)
/-- repr of data -/
def rRepr (K : PySem.W.Frag) : List V → Hp → VK → Prop := fun xs H Q => ∃ x d, xs = [x] ∧ L2.Dp K H x d ∧ d.showable = true ∧ d.hasDict = false ∧ d.depth ≤ 60 ∧ d.shown.length ≤ sizeLine ∧ Q (.str d.shown) H
theorem call_repr (hg : X.A.guards = some []) (hu : X.A.units + 64 < cLine) : CallR X (.builtin "repr") (rRepr X.K) := by
  intro pins s σ H xs us Q I r h
  obtain ⟨x, d, rfl, hd, sh, nd, dep, z, q⟩ := h
  obtain ⟨u, rfl, rx⟩ := vals1 r
  obtain ⟨as, rd⟩ := L2.Dp.reads I d x u hd rx
  have fin : ∀ (h' : Heap) (t : Tok) (tk : Nat), (∀ b o, s.heap.get? b = some o → h'.get? b = some o) → EP X pins σ Q (.str d.shown t) { s with heap := h', toks := tk } := fun h' t tk k => ⟨.str d.shown, H, I.kept k, ⟨t, rfl⟩, q⟩
  cases d with
  | none => cases hd; cases rx; exact PySem.P.repr_of_none (fin s.heap _ _ fun _ _ e => e)
  | bool b =>
    cases hd
    cases (show u = Value.bool b from rx)
    have e : (PyData.bool b).shown = (if b = true then ("True" : Str) else "False") := by simp only [PyData.shown]
    rw [e] at fin
    exact PySem.P.repr_of_bool (fin s.heap _ _ fun _ _ e => e)
  | int i =>
    cases hd
    obtain ⟨t, rfl⟩ := rx
    have e : (PyData.int i).shown = toString i := by simp only [PyData.shown]
    rw [e] at fin
    exact PySem.P.repr_of_int (by simpa [PyData.showable] using sh) (fin s.heap _ _ fun _ _ e => e)
  | str y =>
    cases hd
    obtain ⟨t, rfl⟩ := rx
    have e : (PyData.str y).shown = reprText y := by simp only [PyData.shown]
    rw [e] at fin z
    exact PySem.P.repr_of_str (fin s.heap _ _ fun _ _ e => e) z
  | list ds =>
    cases hd
    cases rx
    exact repr_of_reads' rd sh (PyData.noDict_hsm nd) hg (by omega) (fun _ _ e => e) fin z
  | tuple ds =>
    cases hd
    cases rx
    exact repr_of_reads' rd sh (PyData.noDict_hsm nd) hg (by omega) (fun _ _ e => e) fin z
  | dict kvs => cases hd
end

/-! ### what they do on data -/
def cutL {α : Type} (xs : List α) (lo hi : Option Int) : List α := (xs.drop (HT.sIx xs.length 0 lo)).take (HT.sIx xs.length xs.length hi - HT.sIx xs.length 0 lo)

def fAdd : D → D → (Res → Prop) → Prop
  | .int i, .int j, k => k (.d (.int (i + j)))
  | .list a, .list b, k => a.length + b.length ≤ sizeLine ∧ k (.l (a ++ b))
  | .tuple a, .tuple b, k => a.length + b.length ≤ sizeLine ∧ k (.d (.tuple (a ++ b)))
  | .str x, .str y, k => x.length + y.length ≤ sizeLine ∧ k (.d (.str (x ++ y)))
  | _, _, _ => False
def fSub : D → D → (Res → Prop) → Prop
  | .int i, .int j, k => k (.d (.int (i - j)))
  | _, _, _ => False
def fMul : D → D → (Res → Prop) → Prop
  | .int i, .int j, k => CMul i j ∧ k (.d (.int (i * j)))
  | .list a, .int n, k => -(2 ^ 63) ≤ n ∧ n < 2 ^ 63 ∧ a.length * n.toNat ≤ sizeLine ∧ k (.l (List.replicate n.toNat a).flatten)
  | _, _, _ => False
def fDiv : D → D → (Res → Prop) → Prop
  | .int i, .int j, k => (0 < j ∧ j < 1073741824) ∧ k (.d (.int (i / j)))
  | _, _, _ => False
def fMod : D → D → (Res → Prop) → Prop
  | .int i, .int j, k => 0 < j ∧ k (.d (.int (i % j)))
  | _, _, _ => False
def fPow : D → D → (Res → Prop) → Prop
  | .int i, .int j, k => (0 ≤ j ∧ j ≤ 1000000 ∧ i.natAbs < 2 ^ 64) ∧ k (.d (.int (i ^ j.toNat)))
  | _, _, _ => False
def fNeg : D → (Res → Prop) → Prop
  | .int i, k => k (.d (.int (-i)))
  | _, _ => False
/-- comparisons -/
def gEq (d e : D) (k : Bool → Prop) : Prop := SeqAt.shaped d = true ∧ SeqAt.shaped e = true ∧ k (PyData.eqv d e)
def gNe (d e : D) (k : Bool → Prop) : Prop := SeqAt.shaped d = true ∧ SeqAt.shaped e = true ∧ k (!PyData.eqv d e)
def gLt : D → D → (Bool → Prop) → Prop
  | .int i, .int j, k => k (decide (i < j))
  | _, _, _ => False
def gLe : D → D → (Bool → Prop) → Prop
  | .int i, .int j, k => k (decide (i ≤ j))
  | _, _, _ => False
def gGt : D → D → (Bool → Prop) → Prop
  | .int i, .int j, k => k (decide (j < i))
  | _, _, _ => False
def gGe : D → D → (Bool → Prop) → Prop
  | .int i, .int j, k => k (decide (j ≤ i))
  | _, _, _ => False
def gIn : D → D → (Bool → Prop) → Prop
  | d, .list ds, k => SeqAt.shaped d = true ∧ SeqAt.shaped (.list ds) = true ∧ k (ds.any fun z => PyData.eqv z d)
  | _, _, _ => False
def gNotIn : D → D → (Bool → Prop) → Prop
  | d, .list ds, k => SeqAt.shaped d = true ∧ SeqAt.shaped (.list ds) = true ∧ k (!ds.any fun z => PyData.eqv z d)
  | _, _, _ => False
def isNone : D → Bool
  | .none => true
  | _ => false
def isBool (b : Bool) : D → Bool
  | .bool c => c == b
  | _ => false
/-- x is None, x is True, x is False -/
def gIs : D → D → (Bool → Prop) → Prop
  | d, .none, k => k (isNone d)
  | d, .bool b, k => k (isBool b d)
  | _, _, _ => False
def gIsNot : D → D → (Bool → Prop) → Prop
  | d, .none, k => k (!isNone d)
  | _, _, _ => False
def cD (g : D → D → (Bool → Prop) → Prop) : D → D → (Res → Prop) → Prop := fun x y k => g x y fun b => k (.d (.bool b))
/-- xs[i] -/
def fIx : D → D → (Res → Prop) → Prop
  | .list ds, .int i, k => match atI ds i with
    | some d => k (.d d)
    | none => False
  | .tuple ds, .int i, k => match atI ds i with
    | some d => k (.d d)
    | none => False
  | .str z, .int i, k => z.length ≤ sizeLine ∧ match atI z.cps.toList i with
    | some c => k (.d (.str ⟨#[c]⟩))
    | none => False
  | _, _, _ => False

section
variable {K : PySem.W.Frag}
theorem od_of {r : R2} {f : D → D → (Res → Prop) → Prop} (h : ∀ F G H x y dx dy k (Q : VK), RlB F G H → Sn K G H x dx → Sn K G H y dy → f dx dy k → (∀ v d, Dp K G v d → k (.d d) → Q v H) → r x y H Q) : OpD K r f :=
  fun F G H x y dx dy k Q b sx sy t q => h F G H x y dx dy k Q b sx sy t fun v d hd kd => q v G H (.d d) (Step.refl b) hd kd

def rAddD (K : PySem.W.Frag) : R2 := fun x y H Q => (∃ i j, x = .int i ∧ y = .int j ∧ Q (.int (i + j)) H) ∨ rCatR x y H Q ∨ rCatA K x y H Q ∨ ∃ i j, x = .str i ∧ y = .str j ∧ i.length + j.length ≤ sizeLine ∧ Q (.str (i ++ j)) H
theorem op_addD {X : Cx} : OpR X (binaryOp .Add) (rAddD X.K) := OpR.or op_add (OpR.or op_catR (OpR.or op_catA op_add_str))
theorem sn_tup {G H : Hp} {v : V} {ds : List D} (h : Sn K G H v (.tuple ds)) : Dp K G v (.tuple ds) := by
  rcases h with h | ⟨_, _, _, _, z, _⟩
  · exact h
  · cases z
theorem od_add : OpD K (rAddD K) fAdd := by
  intro F G H x y dx dy k Q b sx sy t q
  have qd : ∀ v d, Dp K G v d → k (.d d) → Q v H := fun v d hd kd => q v G H (.d d) (Step.refl b) hd kd
  unfold fAdd at t
  split at t
  · exact .inl ⟨_, _, sx.int, sy.int, qd _ _ (Dp.int _) t⟩
  · obtain ⟨p, xs, rfl, h1, d1⟩ := sx.list b.sub
    obtain ⟨p', ys, rfl, h2, d2⟩ := sy.list b.sub
    refine .inr (.inl ⟨p, p', xs, ys, rfl, rfl, h1, h2, by rw [dpAll_len d1, dpAll_len d2]; exact t.1, fun l hl => ?_⟩)
    obtain ⟨st, ok⟩ := res_new b hl (dpAll_append d1 d2)
    exact q _ _ _ _ st ok t.2
  · rename_i a c
    obtain ⟨p, xs, rfl, h1, d1⟩ := sx.tuple b.sub
    obtain ⟨p', ys, rfl, h2, d2⟩ := sy.tuple b.sub
    have e1 := dpAll_len d1
    have e2 := dpAll_len d2
    refine .inr (.inr (.inl ⟨p, p', xs, ys, rfl, rfl, h1, h2, by rw [e1, e2]; exact t.1, fun z => ?_, fun z z2 => ?_, fun z z2 l hl => ?_⟩))
    · subst z
      have ea : a = [] := List.length_eq_zero_iff.mp (by rw [← e1]; rfl)
      subst ea
      exact qd _ _ (sn_tup sy) t.2
    · subst z2
      have ec : c = [] := List.length_eq_zero_iff.mp (by rw [← e2]; rfl)
      subst ec
      exact qd _ (.tuple (a ++ [])) (by rw [List.append_nil]; exact sn_tup sx) t.2
    · obtain ⟨st, ok⟩ := res_tup b hl (dpAll_append d1 d2)
      exact q _ _ _ _ st ok t.2
  · exact .inr (.inr (.inr ⟨_, _, sx.str, sy.str, t.1, qd _ _ (Dp.str _) t.2⟩))
  · exact t.elim
theorem od_sub : OpD K (rI0 fun i j => .int (i - j)) fSub := od_of fun F G H x y dx dy k Q b sx sy t q => by
  unfold fSub at t
  split at t
  · exact ⟨_, _, sx.int, sy.int, q _ _ (Dp.int _) t⟩
  · exact t.elim
def rMulD : R2 := fun x y H Q => (rI CMul fun i j => .int (i * j)) x y H Q ∨ rRepR x y H Q
theorem op_mulD {X : Cx} : OpR X (binaryOp .Mult) rMulD := OpR.or op_mul op_repR
theorem od_mul : OpD K rMulD fMul := by
  intro F G H x y dx dy k Q b sx sy t q
  unfold fMul at t
  split at t
  · exact .inl ⟨_, _, sx.int, sy.int, t.1, q _ G H (.d (.int _)) (Step.refl b) (Dp.int _) t.2⟩
  · obtain ⟨p, xs, rfl, h1, d1⟩ := sx.list b.sub
    obtain ⟨t1, t2, t3, t4⟩ := t
    refine .inr ⟨p, _, xs, rfl, sy.int, h1, t1, t2, by rw [dpAll_len d1]; exact t3, fun l hl => ?_⟩
    obtain ⟨st, ok⟩ := res_new b hl (dpAll_rep _ d1)
    exact q _ _ _ _ st ok t4
  · exact t.elim
theorem od_div : OpD K (rI CDiv fun i j => .int (i / j)) fDiv := od_of fun F G H x y dx dy k Q b sx sy t q => by
  unfold fDiv at t
  split at t
  · exact ⟨_, _, sx.int, sy.int, t.1, q _ _ (Dp.int _) t.2⟩
  · exact t.elim
theorem od_mod : OpD K (rI (fun _ j => 0 < j) fun i j => .int (i % j)) fMod := od_of fun F G H x y dx dy k Q b sx sy t q => by
  unfold fMod at t
  split at t
  · exact ⟨_, _, sx.int, sy.int, t.1, q _ _ (Dp.int _) t.2⟩
  · exact t.elim
theorem od_pow : OpD K (rI CPow fun i j => .int (i ^ j.toNat)) fPow := od_of fun F G H x y dx dy k Q b sx sy t q => by
  unfold fPow at t
  split at t
  · exact ⟨_, _, sx.int, sy.int, t.1, q _ _ (Dp.int _) t.2⟩
  · exact t.elim
theorem ud_neg : UnD K (rU fun i => .int (-i)) fNeg := fun F G H x dx k Q b sx t q => by
  unfold fNeg at t
  split at t
  · exact ⟨_, sx.int, q _ G H (.d (.int _)) (Step.refl b) (Dp.int _) t⟩
  · exact t.elim

/-! comparisons -/
theorem cm_eq : CmD K (rEqD K) gEq := fun G H x y dx dy k Q s sx sy t q => ⟨dx, dy, toDp _ _ (sx.dp s), toDp _ _ (sy.dp s), t.1, t.2.1, q _ t.2.2⟩
theorem cm_ne : CmD K (rNeD K) gNe := fun G H x y dx dy k Q s sx sy t q => ⟨dx, dy, toDp _ _ (sx.dp s), toDp _ _ (sy.dp s), t.1, t.2.1, q _ t.2.2⟩
theorem cm_lt : CmD K (rI0 fun i j => .bl (decide (i < j))) gLt := fun G H x y dx dy k Q s sx sy t q => by
  unfold gLt at t
  split at t
  · exact ⟨_, _, sx.int, sy.int, q _ t⟩
  · exact t.elim
theorem cm_le : CmD K (rI0 fun i j => .bl (decide (i ≤ j))) gLe := fun G H x y dx dy k Q s sx sy t q => by
  unfold gLe at t
  split at t
  · exact ⟨_, _, sx.int, sy.int, q _ t⟩
  · exact t.elim
theorem cm_gt : CmD K (rI0 fun i j => .bl (decide (j < i))) gGt := fun G H x y dx dy k Q s sx sy t q => by
  unfold gGt at t
  split at t
  · exact ⟨_, _, sx.int, sy.int, q _ t⟩
  · exact t.elim
theorem cm_ge : CmD K (rI0 fun i j => .bl (decide (j ≤ i))) gGe := fun G H x y dx dy k Q s sx sy t q => by
  unfold gGe at t
  split at t
  · exact ⟨_, _, sx.int, sy.int, q _ t⟩
  · exact t.elim
theorem cm_in : CmD K (rInD K) gIn := fun G H x y dx dy k Q s sx sy t q => by
  unfold gIn at t
  split at t
  · exact ⟨_, _, toDp _ _ (sx.dp s), toDp _ _ (sy.dp s), t.1, t.2.1, q _ t.2.2⟩
  · exact t.elim
theorem cm_notIn : CmD K (rNotInD K) gNotIn := fun G H x y dx dy k Q s sx sy t q => by
  unfold gNotIn at t
  split at t
  · exact ⟨_, _, toDp _ _ (sx.dp s), toDp _ _ (sy.dp s), t.1, t.2.1, q _ t.2.2⟩
  · exact t.elim
def rIsD : R2 := fun x y H Q => (y = .non ∧ Q (.bl (decide (x = .non))) H) ∨ rIsBo x y H Q
def rIsNotD : R2 := fun x y H Q => y = .non ∧ Q (.bl (!decide (x = .non))) H
theorem op_isD {X : Cx} : OpR X (compareOp .Is) rIsD := OpR.or op_isN op_isBo
theorem op_isNotD {X : Cx} : OpR X (compareOp .IsNot) rIsNotD := op_notN
theorem dp_isNone {G : Hp} {v : V} {d : D} (h : Dp K G v d) : decide (v = .non) = isNone d := by
  cases h <;> first | rfl | exact decide_eq_false (fun z => by cases z)
theorem dp_isBool {G : Hp} {v : V} {d : D} (h : Dp K G v d) (b : Bool) : decide (v = .bl b) = isBool b d := by
  cases h with
  | bl c => cases b <;> cases c <;> rfl
  | _ => exact decide_eq_false (fun z => by cases z)
theorem cm_is : CmD K rIsD gIs := fun G H x y dx dy k Q s sx sy t q => by
  unfold gIs at t
  split at t
  · refine .inl ⟨sy.none, ?_⟩
    rw [dp_isNone (sx.dp s)]
    exact q _ t
  · refine .inr ⟨_, sy.bool, ⟨fun n z => ?_, ?_⟩⟩
    · subst z
      have w := sx.dp s
      cases w
    rw [dp_isBool (sx.dp s)]
    exact q _ t
  · exact t.elim
theorem cm_isNot : CmD K rIsNotD gIsNot := fun G H x y dx dy k Q s sx sy t q => by
  unfold gIsNot at t
  split at t
  · refine ⟨sy.none, ?_⟩
    rw [dp_isNone (sx.dp s)]
    exact q _ t
  · exact t.elim

/-! items -/
theorem atI_dp {G : Hp} {vs : List V} {ds : List D} (h : DpAll K G vs ds) {i : Int} {d : D} (e : atI ds i = some d) : ∃ v, atI vs i = some v ∧ Dp K G v d := by
  have hl := dpAll_len h
  unfold atI at e ⊢
  rw [hl]
  cases hj : ixN ds.length i with
  | none => rw [hj] at e; cases e
  | some j =>
    rw [hj] at e
    obtain ⟨v, a, b⟩ := dpAll_get h j d e
    exact ⟨v, a, b⟩
theorem od_ix : OpD K (rIx K) fIx := od_of fun F G H x y dx dy k Q b sx sy t q => by
  unfold fIx at t
  split at t
  · obtain ⟨p, xs, rfl, h1, d1⟩ := sx.list b.sub
    split at t
    · rename_i e
      obtain ⟨v, a, c⟩ := atI_dp d1 e
      exact .inl ⟨p, xs, _, v, rfl, sy.int, .inl h1, a, q _ _ c t⟩
    · exact t.elim
  · obtain ⟨p, xs, rfl, h1, d1⟩ := sx.tuple b.sub
    split at t
    · rename_i e
      obtain ⟨v, a, c⟩ := atI_dp d1 e
      exact .inr (.inl ⟨p, xs, _, v, rfl, sy.int, h1, a, q _ _ c t⟩)
    · exact t.elim
  · obtain ⟨z, t⟩ := t
    split at t
    · rename_i e
      exact .inr (.inr ⟨_, _, _, sx.str, sy.int, z, e, q _ _ (Dp.str _) t⟩)
    · exact t.elim
  · exact t.elim
end
end DL

/-! Built-in functions, methods, slices, isinstance. -/
namespace DL
open PySem PySem.Spec L2

/-! ### plain functions -/
def lmax : List Int → Int
  | [] => 0
  | x :: xs => xs.foldl max x
def lmin : List Int → Int
  | [] => 0
  | x :: xs => xs.foldl min x
theorem foldl_max_ge (xs : List Int) (a : Int) : a ≤ xs.foldl max a ∧ (∀ y ∈ xs, y ≤ xs.foldl max a) ∧ (xs.foldl max a = a ∨ xs.foldl max a ∈ xs) := by
  induction xs generalizing a with
  | nil => simp
  | cons x xs ih =>
    obtain ⟨h1, h2, h3⟩ := ih (max a x)
    simp only [List.foldl_cons, List.mem_cons]
    refine ⟨by omega, fun y hy => ?_, ?_⟩
    · rcases hy with rfl | hy
      · omega
      · exact h2 y hy
    · rcases h3 with h | h
      · rw [h]
        by_cases c : a ≤ x
        · right; left; omega
        · left; omega
      · right; right; exact h
theorem foldl_min_le (xs : List Int) (a : Int) : xs.foldl min a ≤ a ∧ (∀ y ∈ xs, xs.foldl min a ≤ y) ∧ (xs.foldl min a = a ∨ xs.foldl min a ∈ xs) := by
  induction xs generalizing a with
  | nil => simp
  | cons x xs ih =>
    obtain ⟨h1, h2, h3⟩ := ih (min a x)
    simp only [List.foldl_cons, List.mem_cons]
    refine ⟨by omega, fun y hy => ?_, ?_⟩
    · rcases hy with rfl | hy
      · omega
      · exact h2 y hy
    · rcases h3 with h | h
      · rw [h]
        by_cases c : a ≤ x
        · left; omega
        · right; left; omega
      · right; right; exact h
theorem lmax_mem {ns : List Int} (h : ns ≠ []) : lmax ns ∈ ns := by
  cases ns with
  | nil => exact absurd rfl h
  | cons x xs =>
    rcases (foldl_max_ge xs x).2.2 with q | q
    · show xs.foldl max x ∈ x :: xs
      rw [q]; simp
    · exact List.mem_cons_of_mem _ q
theorem lmax_ge {ns : List Int} {y : Int} (h : y ∈ ns) : y ≤ lmax ns := by
  cases ns with
  | nil => cases h
  | cons x xs =>
    rcases List.mem_cons.mp h with rfl | h
    · exact (foldl_max_ge xs y).1
    · exact (foldl_max_ge xs x).2.1 y h
theorem lmin_mem {ns : List Int} (h : ns ≠ []) : lmin ns ∈ ns := by
  cases ns with
  | nil => exact absurd rfl h
  | cons x xs =>
    rcases (foldl_min_le xs x).2.2 with q | q
    · show xs.foldl min x ∈ x :: xs
      rw [q]; simp
    · exact List.mem_cons_of_mem _ q
theorem lmin_le {ns : List Int} {y : Int} (h : y ∈ ns) : lmin ns ≤ y := by
  cases ns with
  | nil => cases h
  | cons x xs =>
    rcases List.mem_cons.mp h with rfl | h
    · exact (foldl_min_le xs y).1
    · exact (foldl_min_le xs x).2.1 y h
theorem lmax_eq {ns : List Int} {m : Int} (h : m ∈ ns) (g : ∀ y ∈ ns, y ≤ m) : lmax ns = m := by
  have a := lmax_ge h
  have b := g _ (lmax_mem (List.ne_nil_of_mem h))
  omega
theorem lmin_eq {ns : List Int} {m : Int} (h : m ∈ ns) (g : ∀ y ∈ ns, m ≤ y) : lmin ns = m := by
  have a := lmin_le h
  have b := g _ (lmin_mem (List.ne_nil_of_mem h))
  omega
def sortI (ns : List Int) : List Int := ns.mergeSort (fun a b => decide (a ≤ b))
theorem sortI_perm (ns : List Int) : (sortI ns).Perm ns := List.mergeSort_perm ns _
theorem sortI_sorted (ns : List Int) : (sortI ns).Pairwise (· ≤ ·) := by
  have h := List.pairwise_mergeSort (le := fun a b : Int => decide (a ≤ b)) (fun a b c h1 h2 => by simp at *; omega) (fun a b => by simp; omega) ns
  exact h.imp (fun h => by simpa using h)
theorem sortI_eq {ns ms : List Int} (p : ms.Perm ns) (s : ms.Pairwise (· ≤ ·)) : ms = sortI ns :=
  PySem.W.ksm_same (p.trans (sortI_perm ns).symm) s (sortI_sorted ns)

/-! ### built-in functions on data -/
def fLen : List D → (Res → Prop) → Prop
  | [.list ds], k => k (.d (.int ds.length))
  | [.tuple ds], k => k (.d (.int ds.length))
  | [.str x], k => x.length ≤ sizeLine ∧ k (.d (.int x.length))
  | _, _ => False
def fMax : List D → (Res → Prop) → Prop
  | [.list ds], k => match toInts ds with
    | some ns => ns ≠ [] ∧ k (.d (.int (lmax ns)))
    | none => False
  | [.int i, .int j], k => k (.d (.int (max i j)))
  | _, _ => False
def fMin : List D → (Res → Prop) → Prop
  | [.list ds], k => match toInts ds with
    | some ns => ns ≠ [] ∧ k (.d (.int (lmin ns)))
    | none => False
  | [.int i, .int j], k => k (.d (.int (min i j)))
  | _, _ => False
def fSum : List D → (Res → Prop) → Prop
  | [.list ds], k => match toInts ds with
    | some ns => k (.d (.int ns.sum))
    | none => False
  | _, _ => False
def fSorted : List D → (Res → Prop) → Prop
  | [.list ds], k => match toInts ds with
    | some ns => k (.l (dInts (sortI ns)))
    | none => False
  | _, _ => False
def fAbs : List D → (Res → Prop) → Prop
  | [.int i], k => k (.d (.int (i.natAbs : Nat)))
  | _, _ => False
def fInt : List D → (Res → Prop) → Prop
  | [.int i], k => k (.d (.int i))
  | [.bool b], k => k (.d (.int (if b then 1 else 0)))
  | _, _ => False
def fList : List D → (Res → Prop) → Prop
  | [.list ds], k => k (.l ds)
  | [.tuple ds], k => k (.l ds)
  | _, _ => False
def fTuple : List D → (Res → Prop) → Prop
  | [.list ds], k => k (.d (.tuple ds))
  | [.tuple ds], k => k (.d (.tuple ds))
  | _, _ => False
def fRepr : List D → (Res → Prop) → Prop
  | [d], k => (d.showable = true ∧ d.hasDict = false ∧ d.depth ≤ 60 ∧ d.shown.length ≤ sizeLine) ∧ k (.d (.str d.shown))
  | _, _ => False

section
variable {K : PySem.W.Frag} {F : Fr} {G H : Hp}
theorem sns1 {xs : List V} {d : D} (h : Sns K G H xs [d]) : ∃ x, xs = [x] ∧ Sn K G H x d := by
  match xs, h with
  | [x], h => exact ⟨x, rfl, h.1⟩
  | _ :: _ :: _, h => exact h.2.elim
theorem sns2 {xs : List V} {d e : D} (h : Sns K G H xs [d, e]) : ∃ x y, xs = [x, y] ∧ Sn K G H x d ∧ Sn K G H y e := by
  match xs, h with
  | [x, y], h => exact ⟨x, y, rfl, h.1, h.2.1⟩
  | [_], h => exact h.2.elim
  | _ :: _ :: _ :: _, h => exact h.2.2.elim
theorem ca_of {r : List V → Hp → VK → Prop} {f : List D → (Res → Prop) → Prop} (h : ∀ F G H xs ds k (Q : VK), RlB F G H → Sns K G H xs ds → f ds k → (∀ v d, Dp K G v d → k (.d d) → Q v H) →
    (∀ p vs ds, H p = none → DpAll K G vs ds → k (.l ds) → Q (.ref p) (upd H p (.lst vs))) → r xs H Q) : CaD K r f :=
  fun F G H xs ds k Q b sx t q => h F G H xs ds k Q b sx t (fun v d hd kd => q v G H (.d d) (Step.refl b) hd kd) fun p vs ds hp da kd =>
    have z := res_new b hp da
    q _ _ _ (.l ds) z.1 z.2 kd
def rLenD (K : PySem.W.Frag) : List V → Hp → VK → Prop := fun xs H Q => ∃ x n, xs = [x] ∧ LenV K x H n ∧ Q (.int n) H
theorem call_lenD' {X : Cx} : CallR X (.builtin "len") (rLenD X.K) := call_len
theorem ite_max (i j : Int) : (if j > i then j else i) = max i j := by omega
theorem ite_min (i j : Int) : (if j < i then j else i) = min i j := by omega
theorem ite_abs (i : Int) : (if i < 0 then -i else i) = ((i.natAbs : Nat) : Int) := by omega
theorem ca_len : CaD K (rLenD K) fLen := ca_of fun F G H xs ds k Q b sx t qd ql => by
  unfold fLen at t
  split at t
  · obtain ⟨x, rfl, s1⟩ := sns1 sx
    obtain ⟨p, vs, rfl, h1, d1⟩ := s1.list b.sub
    exact ⟨_, _, rfl, .inl ⟨vs, .inl h1, (dpAll_len d1).symm⟩, qd _ _ (Dp.int _) t⟩
  · obtain ⟨x, rfl, s1⟩ := sns1 sx
    obtain ⟨p, vs, rfl, h1, d1⟩ := s1.tuple b.sub
    exact ⟨_, _, rfl, .inr ⟨vs, h1, (dpAll_len d1).symm⟩, qd _ _ (Dp.int _) t⟩
  · obtain ⟨x, rfl, s1⟩ := sns1 sx
    cases s1.str
    exact ⟨_, _, rfl, ⟨t.1, rfl⟩, qd _ _ (Dp.int _) t.2⟩
  · exact t.elim
theorem sn_ints {v : V} {ds : List D} {ns : List Int} (s : Same G H) (h : Sn K G H v (.list ds)) (e : toInts ds = some ns) : ∃ p, v = .ref p ∧ SqL K H p (ns.map V.int) := by
  obtain ⟨p, vs, rfl, h1, d1⟩ := h.list s
  rw [toInts_eq e] at d1
  rw [dpAll_ints d1] at h1
  exact ⟨p, rfl, .inl h1⟩
def rMaxD (K : PySem.W.Frag) : List V → Hp → VK → Prop := fun xs H Q => rMax K xs H Q ∨ ∃ i j, xs = [.int i, .int j] ∧ Q (.int (if j > i then j else i)) H
def rMinD (K : PySem.W.Frag) : List V → Hp → VK → Prop := fun xs H Q => rMin K xs H Q ∨ ∃ i j, xs = [.int i, .int j] ∧ Q (.int (if j < i then j else i)) H
theorem call_maxD {X : Cx} (hc : X.calm = true) : CallR X (.builtin "max") (rMaxD X.K) := CallR.or (cr_max hc) (call_max2 hc)
theorem call_minD {X : Cx} (hc : X.calm = true) : CallR X (.builtin "min") (rMinD X.K) := CallR.or (cr_min hc) (call_min2 hc)
theorem ca_max : CaD K (rMaxD K) fMax := ca_of fun F G H xs ds k Q b sx t qd ql => by
  unfold fMax at t
  split at t
  · obtain ⟨x, rfl, s1⟩ := sns1 sx
    split at t
    · rename_i ns e
      obtain ⟨p, rfl, h1⟩ := sn_ints b.sub s1 e
      refine .inl ⟨p, ns, rfl, h1, List.length_pos_iff.mpr t.1, fun m h2 h3 => ?_⟩
      rw [← lmax_eq h2 h3]
      exact qd _ _ (Dp.int _) t.2
    · exact t.elim
  · obtain ⟨x, y, rfl, s1, s2⟩ := sns2 sx
    cases s1.int
    cases s2.int
    refine .inr ⟨_, _, rfl, ?_⟩
    rw [ite_max]
    exact qd _ _ (Dp.int _) t
  · exact t.elim
theorem ca_min : CaD K (rMinD K) fMin := ca_of fun F G H xs ds k Q b sx t qd ql => by
  unfold fMin at t
  split at t
  · obtain ⟨x, rfl, s1⟩ := sns1 sx
    split at t
    · rename_i ns e
      obtain ⟨p, rfl, h1⟩ := sn_ints b.sub s1 e
      refine .inl ⟨p, ns, rfl, h1, List.length_pos_iff.mpr t.1, fun m h2 h3 => ?_⟩
      rw [← lmin_eq h2 h3]
      exact qd _ _ (Dp.int _) t.2
    · exact t.elim
  · obtain ⟨x, y, rfl, s1, s2⟩ := sns2 sx
    cases s1.int
    cases s2.int
    refine .inr ⟨_, _, rfl, ?_⟩
    rw [ite_min]
    exact qd _ _ (Dp.int _) t
  · exact t.elim
theorem ca_sum : CaD K (rSum K) fSum := ca_of fun F G H xs ds k Q b sx t qd ql => by
  unfold fSum at t
  split at t
  · obtain ⟨x, rfl, s1⟩ := sns1 sx
    split at t
    · rename_i ns e
      obtain ⟨p, rfl, h1⟩ := sn_ints b.sub s1 e
      exact ⟨p, ns, rfl, h1, qd _ _ (Dp.int _) t⟩
    · exact t.elim
  · exact t.elim
theorem ca_sorted : CaD K (rSortedI K) fSorted := ca_of fun F G H xs ds k Q b sx t qd ql => by
  unfold fSorted at t
  split at t
  · obtain ⟨x, rfl, s1⟩ := sns1 sx
    split at t
    · rename_i ns e
      obtain ⟨p, rfl, h1⟩ := sn_ints b.sub s1 e
      refine ⟨p, ns, rfl, h1, fun ms l pm so hl => ?_⟩
      rw [sortI_eq pm so]
      exact ql l _ _ hl (dpAll_of_ints _) t
    · exact t.elim
  · exact t.elim
def rAbs : List V → Hp → VK → Prop := fun xs H Q => ∃ i, xs = [.int i] ∧ Q (.int (if i < 0 then -i else i)) H
theorem ca_abs : CaD K rAbs fAbs := ca_of fun F G H xs ds k Q b sx t qd ql => by
  unfold fAbs at t
  split at t
  · obtain ⟨x, rfl, s1⟩ := sns1 sx
    cases s1.int
    refine ⟨_, rfl, ?_⟩
    rw [ite_abs]
    exact qd _ _ (Dp.int _) t
  · exact t.elim
def rInt1 : List V → Hp → VK → Prop := fun xs H Q => (∃ i, xs = [.int i] ∧ Q (.int i) H) ∨ ∃ k, xs = [.bl k] ∧ Q (.int (if k then 1 else 0)) H
theorem ca_int : CaD K rInt1 fInt := ca_of fun F G H xs ds k Q b sx t qd ql => by
  unfold fInt at t
  split at t
  · obtain ⟨x, rfl, s1⟩ := sns1 sx
    cases s1.int
    exact .inl ⟨_, rfl, qd _ _ (Dp.int _) t⟩
  · obtain ⟨x, rfl, s1⟩ := sns1 sx
    cases s1.bool
    exact .inr ⟨_, rfl, qd _ _ (Dp.int _) t⟩
  · exact t.elim
def rListOf (K : PySem.W.Frag) : List V → Hp → VK → Prop := fun xs H Q => ∃ p ys, xs = [.ref p] ∧ (SqL K H p ys ∨ SqT K H p ys) ∧ ∀ l, H l = none → Q (.ref l) (upd H l (.lst ys))
theorem ca_list : CaD K (rListOf K) fList := ca_of fun F G H xs ds k Q b sx t qd ql => by
  unfold fList at t
  split at t
  · obtain ⟨x, rfl, s1⟩ := sns1 sx
    obtain ⟨p, vs, rfl, h1, d1⟩ := s1.list b.sub
    exact ⟨p, vs, rfl, .inl (.inl h1), fun l hl => ql l _ _ hl d1 t⟩
  · obtain ⟨x, rfl, s1⟩ := sns1 sx
    obtain ⟨p, vs, rfl, h1, d1⟩ := s1.tuple b.sub
    exact ⟨p, vs, rfl, .inr h1, fun l hl => ql l _ _ hl d1 t⟩
  · exact t.elim
def rTupOf (K : PySem.W.Frag) : List V → Hp → VK → Prop := fun xs H Q => ∃ p ys, xs = [.ref p] ∧ ((SqL K H p ys ∧ ∀ l, H l = none → Q (.ref l) (upd H l (.tup ys))) ∨ (SqT K H p ys ∧ Q (.ref p) H))
theorem ca_tuple : CaD K (rTupOf K) fTuple := by
  intro F G H xs ds k Q b sx t q
  unfold fTuple at t
  split at t
  · obtain ⟨x, rfl, s1⟩ := sns1 sx
    obtain ⟨p, vs, rfl, h1, d1⟩ := s1.list b.sub
    refine ⟨p, vs, rfl, .inl ⟨.inl h1, fun l hl => ?_⟩⟩
    obtain ⟨st, ok⟩ := res_tup b hl d1
    exact q _ _ _ _ st ok t
  · obtain ⟨x, rfl, s1⟩ := sns1 sx
    have dd := sn_tup s1
    obtain ⟨p, vs, rfl, h1, d1⟩ := s1.tuple b.sub
    exact ⟨p, vs, rfl, .inr ⟨h1, q _ G H (.d _) (Step.refl b) dd t⟩⟩
  · exact t.elim
theorem ca_repr : CaD K (rRepr K) fRepr := ca_of fun F G H xs ds k Q b sx t qd ql => by
  unfold fRepr at t
  split at t
  · obtain ⟨x, rfl, s1⟩ := sns1 sx
    obtain ⟨⟨a1, a2, a3, a4⟩, t⟩ := t
    exact ⟨x, _, rfl, toDp _ _ (s1.dp b.sub), a1, a2, a3, a4, qd _ _ (Dp.str _) t⟩
  · exact t.elim

/-! ### isinstance of built-in classes -/
def tyName : D → String
  | .none => "NoneType"
  | .bool _ => "bool"
  | .int _ => "int"
  | .str _ => "str"
  | .list _ => "list"
  | .tuple _ => "tuple"
  | .dict _ => "dict"
theorem ty_ok {v : V} {d : D} (h : Dp K H v d) : TyX K H v (.type (tyName d)) := by
  cases h with
  | non => exact .base .non
  | bl b => exact .base (.bl b)
  | int i => exact .base (.int i)
  | str x => exact .base (.str x)
  | lst a b =>
    rcases a with a | ⟨o, a⟩
    · exact .base (.lst a)
    · exact .base (.frz a)
  | tup a b =>
    rcases a with (a | ⟨o, a⟩) | ⟨o, its, n, a, c, _⟩
    · exact .base (.tup a)
    · exact .fTuple a
    · exact .kTuple a c
def isTy (T : String) : D → Bool
  | .none => T == "NoneType"
  | .bool _ => T == "bool" || T == "int"
  | .int _ => T == "int"
  | .str _ => T == "str"
  | .list _ => T == "list"
  | .tuple _ => T == "tuple"
  | .dict _ => T == "dict"
def isTyN (a T : String) : Bool := a == T || (a == "bool" && T == "int")
theorem kit_all : ∀ a ∈ ["NoneType", "bool", "int", "str", "list", "tuple", "dict"], ∀ T ∈ ["bool", "int", "str", "list", "tuple", "dict"], kitB a T = some (isTyN a T) := by decide +kernel
theorem tyName_mem (d : D) : tyName d ∈ ["NoneType", "bool", "int", "str", "list", "tuple", "dict"] := by cases d <;> simp [tyName]
theorem kit_d {T : String} (hT : T ∈ ["bool", "int", "str", "list", "tuple", "dict"]) (d : D) : PySem.W.kitOne K (.type (tyName d)) (.type T) = some (isTyN (tyName d) T) := kit_ty (kit_all _ (tyName_mem d) T hT)
/-- isinstance(x, T) -/
def dIsi (T : String) (ta : DT) : DT := fun e k => ta e fun r e1 => see e1 r fun d => k (.d (.bool (isTyN (tyName d) T))) (cut e1 e.t.length)
variable {ta : TE} {Ta : DT}
theorem dr_isi {T : String} (hT : T ∈ ["bool", "int", "str", "list", "tuple", "dict"]) (ha : DR K F ta Ta) : DR K F (tCB (rIsi K) (tCons ta (tCons (tC (.ty T)) tNil))) (dIsi T Ta) := fun G H σ τ e k Q h t q => by
  have hl := h.tl
  refine ha G H σ τ e _ _ h t fun x G1 H1 τ1 e1 rx s1 h1 i1 t1 => ?_
  obtain ⟨d, sx, t2⟩ := see_ok h1 i1 t1
  exact ⟨x, .ty T, _, _, _, rfl, .ty T, ty_ok (sx.dp h1.r.b.sub), kit_d hT d, q _ G1 H1 [] _ (.d _) s1 (by rw [List.append_nil]; exact h1.cut' hl) (Dp.bl _) t2⟩
/-- isinstance(x, (T, U)) -/
def dIsi2 (T U : String) (ta : DT) : DT := fun e k => ta e fun r e1 => see e1 r fun d => k (.d (.bool (isTyN (tyName d) T || isTyN (tyName d) U))) (cut e1 e.t.length)
theorem dr_isi2 {T U : String} (hT : T ∈ ["bool", "int", "str", "list", "tuple", "dict"]) (hU : U ∈ ["bool", "int", "str", "list", "tuple", "dict"]) (ha : DR K F ta Ta) :
    DR K F (tCB (rIsiT K) (tCons ta (tCons (tTup (tCons (tC (.ty T)) (tCons (tC (.ty U)) tNil))) tNil))) (dIsi2 T U Ta) := fun G H σ τ e k Q h t q => by
  have hl := h.tl
  refine ha G H σ τ e _ _ h t fun x G1 H1 τ1 e1 rx s1 h1 i1 t1 => ?_
  refine ⟨(by show 2 ≤ sizeLine; decide), fun p hp => ?_⟩
  obtain ⟨d, sx, t2⟩ := see_ok h1 i1 t1
  have st := h1.r.b.newH (o := .tup [.ty T, .ty U]) hp
  have ty : TyX K (upd H1 p (.tup [.ty T, .ty U])) x (.type (tyName d)) := ty_ok (dp_mono (same_upd hp) _ _ (sx.dp h1.r.b.sub))
  have kk : PySem.W.kitAny K (.type (tyName d)) [.type T, .type U] = some (isTyN (tyName d) T || isTyN (tyName d) U) := by
    refine kitAny_cons (kit_d hT d) (fun e1 => ?_) fun e1 => by rw [e1]; rfl
    rw [e1, Bool.false_or]
    refine kitAny_cons (kit_d hU d) (fun e2 => ?_) fun e2 => e2
    rw [e2]
    exact kitAny_nil
  exact ⟨x, p, [.ty T, .ty U], _, [.type T, .type U], _, rfl, upd_same, .cons (.ty T) (.cons (.ty U) .nil), ty, kk, q _ G1 _ [] _ (.d _) s1 (by rw [List.append_nil]; exact (h1.cut' hl).step st) (Dp.bl _) t2⟩
end
end DL

/-! Statements over data. -/
namespace DL
open PySem PySem.Spec L2

structure DEnds where
  nx : List Sl → Prop
  rt : D → List Sl → Prop
  bk : List Sl → Prop
  ct : List Sl → Prop
abbrev DSt := DEnds → List Sl → Prop

/-- the ends, behind a start at which B was known -/
structure EndsOk (K : PySem.W.Frag) (F : Fr) (B : Hp) (A : DEnds) (E : Ends) : Prop where
  nx : ∀ G H σ s, Same B G → Rl K F G H σ [] ⟨s, []⟩ → A.nx s → E.nx σ H
  rt : ∀ G H σ v d s, Same B G → Rl K F G H σ [] ⟨s, []⟩ → Dp K G v d → A.rt d s → E.rt v H
  bk : ∀ G H σ s, Same B G → Rl K F G H σ [] ⟨s, []⟩ → A.bk s → E.bk σ H
  ct : ∀ G H σ s, Same B G → Rl K F G H σ [] ⟨s, []⟩ → A.ct s → E.ct σ H
theorem EndsOk.mono {K : PySem.W.Frag} {F : Fr} {B B' : Hp} {A : DEnds} {E : Ends} (q : EndsOk K F B A E) (h : Same B B') : EndsOk K F B' A E :=
  ⟨fun G H σ s z => q.nx G H σ s (h.trans z), fun G H σ v d s z => q.rt G H σ v d s (h.trans z), fun G H σ s z => q.bk G H σ s (h.trans z), fun G H σ s z => q.ct G H σ s (h.trans z)⟩

def DRs (K : PySem.W.Frag) (F : Fr) (t : TS) (T : DSt) : Prop := ∀ G H σ s A E, Rl K F G H σ [] ⟨s, []⟩ → T A s → EndsOk K F G A E → t E σ H

/-- own things of slots are given away; what was just made stays -/
def fzV (e : Sg) : List R → (List R → Sg → Prop) → Prop
  | [], k => k [] e
  | .v i :: rs, k => fz e (.v i) fun d e1 => fzV e1 rs fun ds e2 => k (.d d :: ds) e2
  | r :: rs, k => fzV e rs fun ds e2 => k (r :: ds) e2
/-- slots are filled -/
def fill (e : Sg) : List Nat → List R → (List Sl → Prop) → Prop
  | [], [], k => k e.s
  | i :: is, .d d :: rs, k => fill ⟨e.s.set i (.val d), e.t⟩ is rs k
  | i :: is, .t j :: rs, k => match e.t[j]? with
    | some y => fill ⟨e.s.set i y, e.t.set j .no⟩ is rs k
    | none => False
  | _, _, _ => False
def dSet (i : Nat) (T : DT) : DSt := fun A s => T ⟨s, []⟩ fun r e1 => fzV e1 [r] fun rs e2 => fill e2 [i] rs A.nx
def dPar (is : List Nat) (T : DTA) : DSt := fun A s => T ⟨s, []⟩ fun rs e1 => fzV e1 rs fun rs e2 => fill e2 is rs A.nx
def dSeq (T U : DSt) : DSt := fun A s => T { A with nx := U A } s
def dNext : DSt := fun A s => A.nx s
def dBreak : DSt := fun A s => A.bk s
def dCont : DSt := fun A s => A.ct s
def dNever : DSt := fun _ _ => False
def dRet (T : DT) : DSt := fun A s => T ⟨s, []⟩ fun r e1 => fz e1 r fun d e2 => A.rt d e2.s
def dRetN : DSt := fun A s => A.rt .none s
def dIfS (Tc : DTT) (T U : DSt) : DSt := fun A s => Tc ⟨s, []⟩ fun b e1 => if b = true then T A e1.s else U A e1.s
def dDrop (T : DT) : DSt := fun A s => T ⟨s, []⟩ fun _ e1 => A.nx e1.s
def dWhile (Tc : DTT) (T : DSt) : DSt := fun A s => ∃ W : Nat → List Sl → Prop, (∃ m, W m s) ∧ ∀ m s, W m s → Tc ⟨s, []⟩ fun b e1 =>
  if b = true then T { A with nx := fun s' => ∃ m', m' < m ∧ W m' s', ct := fun s' => ∃ m', m' < m ∧ W m' s', bk := A.nx } e1.s else A.nx e1.s
/-- xs.append(e), xs in slot i -/
def dAppend (i : Nat) (T : DT) : DSt := fun A s => match s[i]? with
  | some (.own (.lst _)) => T ⟨s, []⟩ fun r e1 => fz e1 r fun d e2 => match e2.s[i]? with
    | some (.own (.lst ds)) => ds.length < sizeLine ∧ A.nx (e2.s.set i (.own (.lst (ds ++ [d]))))
    | _ => False
  | _ => False
/-- xs[k] = e, xs in slot i -/
def dSetIx (i : Nat) (Tk : DT) (T : DT) : DSt := fun A s => T ⟨s, []⟩ fun r e1 => fz e1 r fun d e2 => match e2.s[i]? with
  | some (.own (.lst _)) => Tk ⟨e2.s, []⟩ fun rk e3 => see e3 rk fun dk => match dk with
    | .int j => match e3.s[i]? with
      | some (.own (.lst ds)) => match ixN ds.length j with
        | some m => A.nx (e3.s.set i (.own (.lst (ds.set m d))))
        | none => False
      | _ => False
    | _ => False
  | _ => False

section
variable {K : PySem.W.Frag} {F : Fr} {G H G' H' : Hp} {σ : L2.St} {τ : List V} {e : Sg} {ta tb : TE} {Ta Tb : DT} {t u : TS} {T U : DSt} {tc : TT} {Tc : DTT}

theorem fzV_ok : ∀ {rs : List R} {vs : List V} {G : Hp} {e : Sg} {k : List R → Sg → Prop}, Rl K F G H σ τ e → IsRs K G σ τ vs rs → fzV e rs k →
    ∃ G' e' rs', Same G G' ∧ Rl K F G' H σ τ e' ∧ IsRs K G' σ τ vs rs' ∧ k rs' e'
  | [], [], G, e, k, h, _, s => ⟨G, e, [], Same.refl G, h, trivial, s⟩
  | .v i :: rs, v :: vs, G, e, k, h, q, s => by
    obtain ⟨G1, e1, d, a, b, c, f⟩ := fz_ok h q.1 s
    obtain ⟨G2, e2, ds, a2, b2, c2, f2⟩ := fzV_ok b (q.2.mono a) f
    exact ⟨G2, e2, .d d :: ds, a.trans a2, b2, ⟨dp_mono a2 _ _ c, c2⟩, f2⟩
  | .d d :: rs, v :: vs, G, e, k, h, q, s => by
    obtain ⟨G2, e2, ds, a2, b2, c2, f2⟩ := fzV_ok h q.2 s
    exact ⟨G2, e2, .d d :: ds, a2, b2, ⟨q.1.mono a2, c2⟩, f2⟩
  | .t j :: rs, v :: vs, G, e, k, h, q, s => by
    obtain ⟨G2, e2, ds, a2, b2, c2, f2⟩ := fzV_ok h q.2 s
    exact ⟨G2, e2, .t j :: ds, a2, b2, ⟨q.1, c2⟩, f2⟩
  | [], _ :: _, _, _, _, _, q, _ => q.elim
  | .v _ :: _, [], _, _, _, _, q, _ => q.elim
  | .d _ :: _, [], _, _, _, _, q, _ => q.elim
  | .t _ :: _, [], _, _, _, _, q, _ => q.elim

theorem set_len_append {α : Type} (a b : List α) (i : Nat) (x : α) (h : i < a.length) : (a ++ b).set i x = a.set i x ++ b := List.set_append_left _ _ h

theorem Rl.setS (h : Rl K F G H σ τ e) (i : Nat) {v : V} {d : D} (hd : Dp K G v d) : Rl K F G H (σ.set i (some v)) τ ⟨e.s.set i (.val d), e.t⟩ := by
  have l := h.ls
  by_cases hi : i < σ.length
  · have q := h.r.set i (some v) (.val d) ⟨v, rfl, hd⟩ (fun _ _ _ z => by cases z)
    rw [set_len_append _ _ _ _ hi, set_len_append _ _ _ _ (by omega)] at q
    exact ⟨q, by simp [l]⟩
  · rw [List.set_eq_of_length_le (by omega), List.set_eq_of_length_le (by omega)]
    exact h
/-- what was just made goes to a slot -/
theorem Rl.setT (h : Rl K F G H σ τ e) (i j : Nat) {v : V} {y : Sl} (hv : τ[j]? = some v) (hy : e.t[j]? = some y) : Rl K F G H (σ.set i (some v)) τ ⟨e.s.set i y, e.t.set j .no⟩ := by
  have l := h.ls
  have ht := h.tl
  have hj := (List.getElem?_eq_some_iff.mp hy).1
  have pj : (σ ++ τ.map some)[σ.length + j]? = some (some v) := by
    rw [List.getElem?_append_right (by omega), Nat.add_sub_cancel_left, List.getElem?_map, hv]
    rfl
  have lj : (e.s ++ e.t)[σ.length + j]? = some y := by
    rw [List.getElem?_append_right (by omega), l, Nat.add_sub_cancel_left]
    exact hy
  have q1 := h.r.set (σ.length + j) (some v) .no trivial (fun _ _ _ z => by cases z)
  have e1 : (σ ++ τ.map some).set (σ.length + j) (some v) = σ ++ τ.map some := by
    apply List.ext_getElem?
    intro m
    by_cases hm : σ.length + j = m
    · subst hm
      rw [List.getElem?_set_self (by rw [List.length_append, List.length_map]; omega), pj]
    · rw [List.getElem?_set_ne hm]
  rw [e1] at q1
  have ok := h.r.slot _ _ _ pj lj
  by_cases hi : i < σ.length
  case neg =>
    rw [List.set_eq_of_length_le (by omega), List.set_eq_of_length_le (by omega)]
    rw [List.set_append_right _ _ (by omega), show σ.length + j - e.s.length = j by omega] at q1
    exact ⟨q1, l⟩
  have q2 := q1.set i (some v) y ok (fun p o e1 e2 m o' a b => by
    cases e1
    subst e2
    by_cases hm : σ.length + j = m
    · subst hm
      rw [List.getElem?_set_self (by rw [List.length_append]; omega)] at b
      cases b
    · rw [List.getElem?_set_ne hm] at b
      exact absurd (h.r.dis _ _ p _ _ pj a lj b) hm)
  rw [set_len_append _ _ _ _ hi] at q2
  have e2 : ((e.s ++ e.t).set (σ.length + j) .no).set i y = e.s.set i y ++ e.t.set j .no := by
    rw [List.set_append_right _ _ (by omega), set_len_append _ _ _ _ (by omega)]
    rw [show σ.length + j - e.s.length = j by omega]
  rw [e2] at q2
  exact ⟨q2, by simp [l]⟩
theorem Rl.drop0 (h : Rl K F G H σ τ e) : Rl K F G H σ [] ⟨e.s, []⟩ := by
  have q := (show Rl K F G H σ ([] ++ τ) e from h).cut' (n := 0) rfl
  simpa [DL.cut] using q
theorem isRs_nov {σ' : L2.St} : ∀ {rs : List R} {vs : List V}, (∀ i, R.v i ∉ rs) → IsRs K G σ τ vs rs → IsRs K G σ' τ vs rs
  | [], [], _, _ => trivial
  | .d _ :: rs, _ :: _, nv, q => ⟨q.1, isRs_nov (fun i z => nv i (List.mem_cons_of_mem _ z)) q.2⟩
  | .t _ :: rs, _ :: _, nv, q => ⟨q.1, isRs_nov (fun i z => nv i (List.mem_cons_of_mem _ z)) q.2⟩
  | .v m :: _, _, nv, _ => absurd List.mem_cons_self (nv m)
  | [], _ :: _, _, q => q.elim
  | .d _ :: _, [], _, q => q.elim
  | .t _ :: _, [], _, q => q.elim
theorem fill_ok {k : List Sl → Prop} : ∀ {is : List Nat} {rs : List R} {vs : List V} {σ : L2.St} {e : Sg}, Rl K F G H σ τ e → (∀ i, R.v i ∉ rs) → IsRs K G σ τ vs rs → fill e is rs k →
    ∃ s', Rl K F G H ((is.zip vs).foldl (fun σ p => σ.set p.1 (some p.2)) σ) [] ⟨s', []⟩ ∧ k s' ∧ vs.length = is.length
  | [], [], [], σ, e, h, _, _, f => ⟨e.s, h.drop0, f, rfl⟩
  | i :: is, .d d :: rs, v :: vs, σ, e, h, nv, q, f => by
    have h1 := h.setS i q.1
    have q2 : IsRs K G (σ.set i (some v)) τ vs rs := isRs_nov (fun m z => nv m (List.mem_cons_of_mem _ z)) q.2
    obtain ⟨s', a, b, c⟩ := fill_ok h1 (fun m z => nv m (List.mem_cons_of_mem _ z)) q2 f
    exact ⟨s', a, b, by simp [c]⟩
  | i :: is, .t j :: rs, v :: vs, σ, e, h, nv, q, f => by
    unfold fill at f
    split at f
    · rename_i y hy
      have h1 := h.setT i j q.1 hy
      have q2 : IsRs K G (σ.set i (some v)) τ vs rs := isRs_nov (fun m z => nv m (List.mem_cons_of_mem _ z)) q.2
      obtain ⟨s', a, b, c⟩ := fill_ok h1 (fun m z => nv m (List.mem_cons_of_mem _ z)) q2 f
      exact ⟨s', a, b, by simp [c]⟩
    · exact f.elim
  | _ :: _, .v m :: _, _, _, _, _, nv, _, _ => absurd List.mem_cons_self (nv m)
  | [], .d _ :: _, _, _, _, _, _, _, f => f.elim
  | [], .t _ :: _, _, _, _, _, _, _, f => f.elim
  | [], .v m :: _, _, _, _, _, nv, _, _ => absurd List.mem_cons_self (nv m)
  | _ :: _, [], _, _, _, _, _, _, f => f.elim
  | _ :: _, .d _ :: _, [], _, _, _, _, q, _ => q.elim
  | _ :: _, .t _ :: _, [], _, _, _, _, q, _ => q.elim
  | [], [], _ :: _, _, _, _, _, q, _ => q.elim
theorem fz_mono {e : Sg} {r : R} {k k' : D → Sg → Prop} (h : fz e r k) (m : ∀ d e, k d e → k' d e) : fz e r k' := by
  cases r with
  | d d => exact m _ _ h
  | v i =>
    unfold fz at h ⊢
    revert h
    dsimp only
    split
    · exact m _ _
    · exact m _ _
    · exact id
  | t i =>
    unfold fz at h ⊢
    revert h
    dsimp only
    split
    · exact m _ _
    · exact m _ _
    · exact id
theorem fzV_mono : ∀ {rs : List R} {e : Sg} {k k' : List R → Sg → Prop} (h : fzV e rs k) (m : ∀ r e, k r e → k' r e), fzV e rs k'
  | [], _, _, _, h, m => m _ _ h
  | .d d :: rs, e, k, k', h, m => fzV_mono (rs := rs) (e := e) (k := fun ds e2 => k (.d d :: ds) e2) (k' := fun ds e2 => k' (.d d :: ds) e2) h fun _ _ z => m _ _ z
  | .t d :: rs, e, k, k', h, m => fzV_mono (rs := rs) (e := e) (k := fun ds e2 => k (.t d :: ds) e2) (k' := fun ds e2 => k' (.t d :: ds) e2) h fun _ _ z => m _ _ z
  | .v i :: rs, e, k, k', h, m => by
    unfold fzV at h ⊢
    exact fz_mono h fun d e1 z => fzV_mono z fun _ _ z => m _ _ z
theorem fzV_nov : ∀ {rs : List R} {e : Sg} {k : List R → Sg → Prop}, fzV e rs k → fzV e rs fun rs' e' => (∀ i, R.v i ∉ rs') ∧ k rs' e'
  | [], e, k, h => ⟨(fun i z => by cases z), h⟩
  | .d d :: rs, e, k, h => fzV_mono (rs := rs) (e := e) (fzV_nov (rs := rs) (e := e) (k := fun ds e2 => k (.d d :: ds) e2) h) fun ds e2 hh => ⟨nov_cons (fun i z => by cases z) hh.1, hh.2⟩
  | .t d :: rs, e, k, h => fzV_mono (rs := rs) (e := e) (fzV_nov (rs := rs) (e := e) (k := fun ds e2 => k (.t d :: ds) e2) h) fun ds e2 hh => ⟨nov_cons (fun i z => by cases z) hh.1, hh.2⟩
  | .v i :: rs, e, k, h => by
    unfold fzV at h ⊢
    exact fz_mono h fun d e1 z => fzV_mono (fzV_nov z) fun ds e2 hh => ⟨nov_cons (fun i z => by cases z) hh.1, hh.2⟩
where
  nov_cons {r : R} {rs : List R} (h : ∀ i, R.v i ≠ r) (h2 : ∀ i, R.v i ∉ rs) : ∀ i, R.v i ∉ r :: rs := fun i z => by
    rcases List.mem_cons.mp z with z | z
    · exact h i z
    · exact h2 i z
end
end DL

namespace DL
open PySem PySem.Spec L2
section
variable {K : PySem.W.Frag} {F : Fr} {G H G' H' : Hp} {σ : L2.St} {τ : List V} {e : Sg} {te ta tb : TE} {Te Ta Tb : DT} {t u : TS} {T U : DSt} {tc : TT} {Tc : DTT}

theorem drs_set {i : Nat} (h : DR K F te Te) : DRs K F (tAsg te (gName i)) (dSet i Te) := fun G H σ s A E r t q => by
  refine h G H σ [] _ _ _ r t fun v G1 H1 τ1 e1 r1 s1 h1 i1 t1 => ?_
  obtain ⟨G2, e2, rs, s2, h2, i2, nv, t2⟩ := fzV_ok (vs := [v]) (rs := [r1]) h1 ⟨i1, trivial⟩ (fzV_nov t1)
  match rs, i2, nv, t2 with
  | [r2], i2, nv, t2 =>
    obtain ⟨s', a, b, _⟩ := fill_ok (vs := [v]) h2 nv i2 t2
    exact q.nx G2 H1 _ s' (s1.trans s2) a b
  | [], i2, _, _ => exact i2.elim
  | _ :: _ :: _, i2, _, _ => exact i2.2.elim
theorem drs_par {i j : Nat} {t : TA} {T : DTA} (h : DRA K F t T) : DRs K F (tPar i j t) (dPar [i, j] T) := fun G H σ s A E r t q => by
  refine h G H σ [] _ _ _ r t fun vs G1 H1 τ1 e1 rs1 s1 h1 i1 t1 => ?_
  obtain ⟨G2, e2, rs, s2, h2, i2, nv, t2⟩ := fzV_ok h1 i1 (fzV_nov t1)
  obtain ⟨s', a, b, c⟩ := fill_ok h2 nv i2 t2
  match vs, c, a with
  | [v, w], _, a => exact ⟨v, w, rfl, q.nx G2 H1 _ s' (s1.trans s2) a b⟩
theorem drs_par3 {i j l : Nat} {t : TA} {T : DTA} (h : DRA K F t T) : DRs K F (tPar3 i j l t) (dPar [i, j, l] T) := fun G H σ s A E r t q => by
  refine h G H σ [] _ _ _ r t fun vs G1 H1 τ1 e1 rs1 s1 h1 i1 t1 => ?_
  obtain ⟨G2, e2, rs, s2, h2, i2, nv, t2⟩ := fzV_ok h1 i1 (fzV_nov t1)
  obtain ⟨s', a, b, c⟩ := fill_ok h2 nv i2 t2
  match vs, c, a with
  | [v, w, x], _, a => exact ⟨v, w, x, rfl, q.nx G2 H1 _ s' (s1.trans s2) a b⟩
theorem drs_seq (h : DRs K F t T) (h' : DRs K F u U) : DRs K F (tSeq t u) (dSeq T U) := fun G H σ s A E r x q =>
  h G H σ s _ _ r x ⟨fun G' H σ s z r y => h' G' H σ s A E r y (q.mono z), q.rt, q.bk, q.ct⟩
theorem drs_next : DRs K F tNext dNext := fun G H σ s A E r x q => q.nx G H σ s (Same.refl G) r x
theorem drs_break : DRs K F tBreak dBreak := fun G H σ s A E r x q => q.bk G H σ s (Same.refl G) r x
theorem drs_cont : DRs K F tCont dCont := fun G H σ s A E r x q => q.ct G H σ s (Same.refl G) r x
theorem drs_never : DRs K F tNever dNever := fun G H σ s A E r x q => x.elim
theorem drs_ret (h : DR K F te Te) : DRs K F (tRet te) (dRet Te) := fun G H σ s A E r t q => by
  refine h G H σ [] _ _ _ r t fun v G1 H1 τ1 e1 r1 s1 h1 i1 t1 => ?_
  obtain ⟨G2, e2, d, s2, h2, i2, t2⟩ := fz_ok h1 i1 t1
  exact q.rt G2 H1 σ v d e2.s (s1.trans s2) h2.drop0 i2 t2
theorem drs_retN : DRs K F tRetN dRetN := fun G H σ s A E r t q => q.rt G H σ .non .none s (Same.refl G) r .non t
theorem drs_if (hc : DRT K F tc Tc) (h : DRs K F t T) (h' : DRs K F u U) : DRs K F (tIfS tc t u) (dIfS Tc T U) := fun G H σ s A E r x q => by
  refine hc G H σ [] _ _ _ r x fun b G1 H1 e1 s1 h1 t1 => ?_
  cases b with
  | true => exact h G1 H1 σ e1.s A E h1.drop0 t1 (q.mono s1)
  | false => exact h' G1 H1 σ e1.s A E h1.drop0 t1 (q.mono s1)
theorem drs_drop (h : DR K F te Te) : DRs K F (tDrop te) (dDrop Te) := fun G H σ s A E r t q =>
  h G H σ [] _ _ _ r t fun v G1 H1 τ1 e1 r1 s1 h1 i1 t1 => q.nx G1 H1 σ e1.s s1 h1.drop0 t1
theorem drs_while (hc : DRT K F tc Tc) (h : DRs K F t T) : DRs K F (tWhile tc t) (dWhile Tc T) := fun B H σ s A E r x q => by
  obtain ⟨W, ⟨m, hm⟩, hs⟩ := x
  refine ⟨fun m σ H => ∃ G s, Same B G ∧ Rl K F G H σ [] ⟨s, []⟩ ∧ W m s, ⟨m, B, s, Same.refl B, r, hm⟩, fun m σ H ⟨G, s, z, r, hw⟩ => ?_⟩
  refine hc G H σ [] _ _ _ r (hs m s hw) fun b G1 H1 e1 s1 h1 t1 => ?_
  have z1 := z.trans s1
  cases b with
  | false => exact q.nx G1 H1 σ e1.s z1 h1.drop0 t1
  | true =>
    refine ⟨fun σ' H' => ∃ m', m' < m ∧ ∃ G s, Same B G ∧ Rl K F G H' σ' [] ⟨s, []⟩ ∧ W m' s, fun _ _ z => z, ?_⟩
    have en : EndsOk K F G1 { A with nx := fun s' => ∃ m', m' < m ∧ W m' s', ct := fun s' => ∃ m', m' < m ∧ W m' s', bk := A.nx } { E with nx := fun σ' H' => ∃ m', m' < m ∧ ∃ G s, Same B G ∧ Rl K F G H' σ' [] ⟨s, []⟩ ∧ W m' s, ct := fun σ' H' => ∃ m', m' < m ∧ ∃ G s, Same B G ∧ Rl K F G H' σ' [] ⟨s, []⟩ ∧ W m' s, bk := E.nx } :=
      ⟨fun G H σ s z r ⟨m', a, b⟩ => ⟨m', a, G, s, z1.trans z, r, b⟩, fun G H σ v d s z => q.rt G H σ v d s (z1.trans z), fun G H σ s z => q.nx G H σ s (z1.trans z), fun G H σ s z r ⟨m', a, b⟩ => ⟨m', a, G, s, z1.trans z, r, b⟩⟩
    exact h G1 H1 σ e1.s _ _ h1.drop0 t1 en

/-- an own list of slot i, where it stands -/
theorem Rl.ownAt (h : Rl K F G H σ τ e) {i : Nat} {o : Ow} (q : e.s[i]? = some (.own o)) : ∃ p, σ[i]? = some (some (.ref p)) ∧ Mine F G p ∧ OwOk K G H p o := by
  have l := h.ls
  have hi := (List.getElem?_eq_some_iff.mp q).1
  obtain ⟨x, ex, p, rfl, m, ok⟩ := h.r.at (i := i) (y := .own o) (by rw [List.getElem?_append_left hi]; exact q)
  rw [List.getElem?_append_left (by omega)] at ex
  exact ⟨p, ex, m, ok⟩
theorem Rl.write (h : Rl K F G H σ τ e) {i : Nat} {o o' : Ow} {p : Addr} {u : HO} (q : e.s[i]? = some (.own o)) (ep : σ[i]? = some (some (.ref p))) (ok : OwOk K G (upd H p u) p o') :
    Rl K F G (upd H p u) σ τ ⟨e.s.set i (.own o'), e.t⟩ := by
  have l := h.ls
  have hi := (List.getElem?_eq_some_iff.mp q).1
  have z := h.r.wr (i := i) (o := o) (by rw [List.getElem?_append_left hi]; exact q) (p := p) (by rw [List.getElem?_append_left (by omega)]; exact ep) (u := u) ok
  rw [List.set_append_left _ _ hi] at z
  exact ⟨z, by simpa using l⟩
theorem drs_append {i : Nat} (h : DR K F te Te) : DRs K F (tDrop (tBM K "list" rAppend (tVar i) (tCons te tNil))) (dAppend i Te) := fun G H σ s A E r x q => by
  unfold dAppend at x
  split at x
  · rename_i ds e0
    obtain ⟨p, ep, m, vs, hp, _⟩ := r.ownAt (i := i) e0
    refine ⟨.ref p, ep, .inl ⟨rfl, vs, .inl (.inl hp)⟩, ?_⟩
    refine h G H σ [] _ _ _ r x fun v G1 H1 τ1 e1 r1 s1 h1 i1 t1 => ?_
    obtain ⟨G2, e2, d, s2, h2, i2, t2⟩ := fz_ok h1 i1 t1
    split at t2
    · rename_i ds2 e3
      obtain ⟨p2, ep2, m2, vs2, hp2, da⟩ := h2.ownAt (i := i) e3
      rw [ep] at ep2
      cases ep2
      refine ⟨p, vs2, v, rfl, rfl, hp2, by rw [dpAll_len da]; exact t2.1, ?_⟩
      exact q.nx G2 _ σ _ (s1.trans s2) (h2.drop0.write (e := ⟨e2.s, []⟩) e3 ep (o' := .lst (ds2 ++ [d])) ⟨_, upd_same, dpAll_append da (dpAll_one i2)⟩) t2.2
    · exact t2.elim
  · exact x.elim
theorem drs_setIx {i : Nat} {tk : TE} {Tk : DT} (h : DR K F te Te) (hk : DR K F tk Tk) : DRs K F (tAsg te (gSub (tVar i) tk rSetL)) (dSetIx i Tk Te) := fun G H σ s A E r x q => by
  refine h G H σ [] _ _ _ r x fun v G1 H1 τ1 e1 r1 s1 h1 i1 t1 => ?_
  obtain ⟨G2, e2, d, s2, h2, i2, t2⟩ := fz_ok h1 i1 t1
  split at t2
  · rename_i ds e0
    obtain ⟨p, ep, m, vs, hp, _⟩ := h2.ownAt (i := i) e0
    refine ⟨.ref p, ep, ?_⟩
    refine hk G2 H1 σ [] ⟨e2.s, []⟩ _ _ h2.drop0 t2 fun w G3 H3 τ3 e3 rk s3 h3 i3 t3 => ?_
    obtain ⟨dk, sk, t4⟩ := see_ok h3 i3 t3
    split at t4
    · rename_i j
      split at t4
      · rename_i ds3 e4
        split at t4
        · rename_i n en
          obtain ⟨p2, ep2, m2, vs2, hp2, da⟩ := h3.ownAt (i := i) e4
          rw [ep] at ep2
          cases ep2
          refine ⟨p, vs2, j, n, rfl, sk.int, hp2, by rw [dpAll_len da]; exact en, ?_⟩
          exact q.nx G3 _ σ _ ((s1.trans s2).trans s3) (h3.drop0.write (e := ⟨e3.s, []⟩) e4 ep (o' := .lst (ds3.set n d)) ⟨_, upd_same, dpAll_set (dp_mono s3 _ _ i2) n da⟩) t4
        · exact t4.elim
      · exact t4.elim
    · exact t4.elim
  · exact t2.elim
/-- x += e, numbers -/
def dAug (i : Nat) (f : D → D → (Res → Prop) → Prop) (T : DT) : DSt := fun A s => match s[i]? with
  | some (.val x) => T ⟨s, []⟩ fun r e1 => see e1 r fun y => f x y fun z => match z with
    | .d d => A.nx (e1.s.set i (.val d))
    | .l _ => False
  | _ => False
def PiD (K : PySem.W.Frag) (r : TIp) (f : D → D → (Res → Prop) → Prop) : Prop := ∀ G H x y dx dy k (Q : VK), Same G H → Dp K G x dx → Sn K G H y dy → f dx dy k → (∀ v d, (∀ G, Dp K G v d) → k (.d d) → Q v H) → r x y H Q
def fAddI : D → D → (Res → Prop) → Prop
  | .int i, .int j, k => k (.d (.int (i + j)))
  | _, _, _ => False
theorem pi_add : PiD K (ipI fun i j => i + j) fAddI := fun G H x y dx dy k Q s sx sy t q => by
  unfold fAddI at t
  split at t
  · cases sx
    cases sy.int
    exact ⟨_, _, rfl, rfl, q _ _ (fun _ => .int _) t⟩
  · exact t.elim
theorem drs_aug {i : Nat} {r : TIp} {f : D → D → (Res → Prop) → Prop} (ho : PiD K r f) (h : DR K F te Te) : DRs K F (tAug i te r) (dAug i f Te) := fun G H σ s A E rr x q => by
  unfold dAug at x
  split at x
  · rename_i d e0
    have l := rr.ls
    have hi := (List.getElem?_eq_some_iff.mp e0).1
    obtain ⟨y, ey, v, rfl, dv⟩ := rr.r.at (i := i) (y := .val d) (by rw [List.getElem?_append_left hi]; exact e0)
    rw [List.getElem?_append_left (by show i < σ.length; simp at l; omega)] at ey
    refine ⟨v, ey, ?_⟩
    refine h G H σ [] _ _ _ rr x fun w G1 H1 τ1 e1 r1 s1 h1 i1 t1 => ?_
    obtain ⟨dy, sy, t2⟩ := see_ok h1 i1 t1
    refine ho G1 H1 v w d dy _ _ h1.r.b.sub (dp_mono s1 _ _ dv) sy t2 fun z dz hz kz => ?_
    exact q.nx G1 H1 _ _ s1 (h1.drop0.setS (e := ⟨e1.s, []⟩) i (hz G1)) kz
  · exact x.elim
end
end DL

/-! Loops and comprehensions over data. -/
namespace DL
open PySem PySem.Spec L2

/-- J yields xs, whatever else is laid meanwhile -/
def ItOk (K : PySem.W.Frag) (B : Hp) (J : It) (xs : List D) : Prop := ∀ F G H, RlB F G H → Same B G → ∀ i,
  (∀ d, xs[i]? = some d → J.go i H ∧ ∀ x H2, J.yld i H x H2 → ∃ G2, Step F G H G2 H2 ∧ Dp K G2 x d) ∧ (xs.length ≤ i → J.stop i H)
abbrev DTI := Sg → (List D → Sg → Prop) → Prop
def DRi (K : PySem.W.Frag) (F : Fr) (wi : TI) (T : DTI) : Prop := ∀ G H σ τ e k (Q : It → Hp → Prop), Rl K F G H σ τ e → T e k →
  (∀ J G' H' τ' e' xs, Same G G' → Rl K F G' H' σ (τ ++ τ') e' → ItOk K G' J xs → k xs e' → Q J H') → wi σ H Q
abbrev DTg := D → List Sl → (List Sl → Prop) → Prop
def DRg (K : PySem.W.Frag) (g : TG) (T : DTg) : Prop := ∀ F G H σ s v d k (Q : L2.St → Hp → Prop), Rl K F G H σ [] ⟨s, []⟩ → Dp K G v d → T d s k →
  (∀ σ' s', Rl K F G H σ' [] ⟨s', []⟩ → k s' → Q σ' H) → g v σ H Q
def dName (i : Nat) : DTg := fun d s k => k (s.set i (.val d))
abbrev DTgs := List D → List Sl → (List Sl → Prop) → Prop
def DRgs (K : PySem.W.Frag) (g : TGs) (T : DTgs) : Prop := ∀ F G H σ s vs ds k (Q : L2.St → Hp → Prop), Rl K F G H σ [] ⟨s, []⟩ → DpAll K G vs ds → T ds s k →
  (∀ σ' s', Rl K F G H σ' [] ⟨s', []⟩ → k s' → Q σ' H) → g vs σ H Q
def dgNil : DTgs := fun ds s k => ds = [] ∧ k s
def dgCons (t : DTg) (u : DTgs) : DTgs := fun ds s k => match ds with
  | d :: r => t d s fun s1 => u r s1 k
  | [] => False
def dgTup (n : Nat) (t : DTgs) : DTg := fun d s k => match d with
  | .tuple ds => ds.length = n ∧ t ds s k
  | _ => False

def forGo (tg : DTg) (T : DSt) (A : DEnds) : List D → List Sl → Prop
  | [], s => A.nx s
  | x :: xs, s => tg x s fun s1 => T { A with nx := forGo tg T A xs, ct := forGo tg T A xs, bk := A.nx } s1
def dFor (Ti : DTI) (tg : DTg) (T : DSt) : DSt := fun A s => Ti ⟨s, []⟩ fun xs e1 => forGo tg T A xs e1.s

def wipeS (s : List Sl) : List Nat → List Sl
  | [] => s
  | v :: vs => (wipeS s vs).set v .no
def lcGo (tg : DTg) (Tc : DTT) (Te : DT) (vs : List Nat) : List D → List D → List Sl → (List D → List Sl → Prop) → Prop
  | [], acc, s, k => k acc s
  | x :: xs, acc, s, k => tg x s fun s1 => Tc ⟨s1, []⟩ fun b e2 =>
    if b = true then Te ⟨e2.s, []⟩ fun r e3 => fz e3 r fun d e4 => lcGo tg Tc Te vs xs (acc ++ [d]) (wipeS e4.s vs) k else lcGo tg Tc Te vs xs acc (wipeS e2.s vs) k
/-- no state of draws among what was just made -/
def noSts : List Sl → Bool
  | [] => true
  | .st _ :: _ => false
  | _ :: r => noSts r
theorem noSts_get : ∀ {t : List Sl} {i : Nat} {B : Int}, noSts t = true → t[i]? = some (.st B) → False
  | [], _, _, _, h => by cases h
  | .st _ :: _, _, _, h, _ => by cases h
  | .no :: r, i, B, h, e => by
    cases i with
    | zero => cases e
    | succ i => exact noSts_get (t := r) h e
  | .val _ :: r, i, B, h, e => by
    cases i with
    | zero => cases e
    | succ i => exact noSts_get (t := r) h e
  | .own _ :: r, i, B, h, e => by
    cases i with
    | zero => cases e
    | succ i => exact noSts_get (t := r) h e
  | .scr _ :: r, i, B, h, e => by
    cases i with
    | zero => cases e
    | succ i => exact noSts_get (t := r) h e
theorem noSts_app : ∀ {t u : List Sl}, noSts t = true → noSts u = true → noSts (t ++ u) = true
  | [], _, _, h => h
  | .st _ :: _, _, h, _ => by cases h
  | .no :: r, u, h, e => noSts_app (t := r) h e
  | .val _ :: r, u, h, e => noSts_app (t := r) h e
  | .own _ :: r, u, h, e => noSts_app (t := r) h e
  | .scr _ :: r, u, h, e => noSts_app (t := r) h e
theorem noSts_take : ∀ {t : List Sl} (n : Nat), noSts t = true → noSts (t.take n) = true
  | [], n, _ => by cases n <;> rfl
  | _ :: _, 0, _ => rfl
  | .st _ :: _, n + 1, h => by cases h
  | .no :: r, n + 1, h => noSts_take (t := r) n h
  | .val _ :: r, n + 1, h => noSts_take (t := r) n h
  | .own _ :: r, n + 1, h => noSts_take (t := r) n h
  | .scr _ :: r, n + 1, h => noSts_take (t := r) n h
def dLc (Ti : DTI) (tg : DTg) (Tc : DTT) (Te : DT) (vs : List Nat) : DT := fun e k => Ti e fun xs e1 => noSts e1.t = true ∧ xs.length < sizeLine ∧ lcGo tg Tc Te vs xs [] (wipeS e1.s vs) fun acc s =>
  k (.t e.t.length) ⟨s, e1.t.take e.t.length ++ [Sl.own (Ow.lst acc)]⟩
def dYes : DTT := fun e k => k true e

section
variable {K : PySem.W.Frag} {F : Fr} {G H G' H' : Hp} {σ : L2.St} {τ : List V} {e : Sg} {te : TE} {Te : DT} {tb : TS} {T : DSt} {wi : TI} {Ti : DTI} {g : TG} {tg : DTg} {tt : TT} {Tt : DTT}

theorem drg_name {i : Nat} : DRg K (gName i) (dName i) := fun F G H σ s v d k Q r hd t q => q _ _ (r.setS (e := ⟨s, []⟩) i hd) t
theorem drgs_nil : DRgs K gNil dgNil := fun F G H σ s vs ds k Q r hd t q => by
  obtain ⟨rfl, t⟩ := t
  cases hd
  exact ⟨rfl, q _ _ r t⟩
theorem drgs_cons {u : TGs} {U : DTgs} (h : DRg K g tg) (h' : DRgs K u U) : DRgs K (gCons g u) (dgCons tg U) := fun F G H σ s vs ds k Q r hd t q => by
  cases hd with
  | nil => exact t.elim
  | cons a b => exact ⟨_, _, rfl, h F G H σ s _ _ _ _ r a t fun σ' s' r' t' => h' F G H σ' s' _ _ _ _ r' b t' q⟩
theorem drg_tup {n : Nat} {u : TGs} {U : DTgs} (h : DRgs K u U) : DRg K (gTup K n u) (dgTup n U) := fun F G H σ s v d k Q r hd t q => by
  unfold dgTup at t
  split at t
  · cases hd with
    | tup a b => exact ⟨_, _, rfl, sqT_mono r.r.b.sub a, by rw [dpAll_len b]; exact t.1, h F G H σ s _ _ _ _ r b t.2 q⟩
  · exact t.elim

theorem drs_for (hi : DRi K F wi Ti) (hg : DRg K g tg) (h : DRs K F tb T) : DRs K F (tFor wi g tb) (dFor Ti tg T) := fun B H σ s A E r x q => by
  refine hi B H σ [] _ _ _ r x fun J G1 H1 τ1 e1 xs s1 h1 it t1 => ?_
  refine ⟨fun i m σ H => ∃ G s, Same G1 G ∧ Rl K F G H σ [] ⟨s, []⟩ ∧ i ≤ xs.length ∧ m = xs.length - i ∧ forGo tg T A (xs.drop i) s, ⟨xs.length, G1, e1.s, Same.refl G1, h1.drop0, Nat.zero_le _, rfl, t1⟩, fun i m σ H ⟨G, s, z, r, hle, hm, f⟩ => ?_⟩
  by_cases hlt : i < xs.length
  · have ex : xs[i]? = some xs[i] := List.getElem?_eq_getElem hlt
    obtain ⟨go, yl⟩ := (it F G H r.r.b z i).1 _ ex
    rw [List.drop_eq_getElem_cons hlt] at f
    refine .inr ⟨go, fun σ' H' => ∃ G s, Same G1 G ∧ Rl K F G H' σ' [] ⟨s, []⟩ ∧ forGo tg T A (xs.drop (i + 1)) s, fun σ' H' ⟨G, s, z, r, f⟩ => ⟨xs.length - (i + 1), by omega, G, s, z, r, hlt, rfl, f⟩, fun v H2 y => ?_⟩
    obtain ⟨G2, st, dv⟩ := yl v H2 y
    refine hg F G2 H2 σ s v _ _ _ (r.step st) dv f fun σ' s' r' f' => ?_
    have z2 := z.trans st.g
    refine h G2 H2 σ' s' _ _ r' f' ⟨fun G H σ s w r x => ⟨G, s, z2.trans w, r, x⟩, fun G H σ v d s w => q.rt G H σ v d s ((s1.trans z2).trans w), fun G H σ s w => q.nx G H σ s ((s1.trans z2).trans w), fun G H σ s w r x => ⟨G, s, z2.trans w, r, x⟩⟩
  · have e0 : i = xs.length := by omega
    subst e0
    rw [List.drop_length] at f
    exact .inl ⟨(it F G H r.r.b z xs.length).2 (Nat.le_refl _), q.nx G H σ s (s1.trans z) r f⟩

/-! ### objects at P stand still for a while -/
open Classical in
noncomputable def hidF (F : Fr) (H : Hp) (P : Addr → Prop) : Fr := ⟨F.S, F.G0, fun b => if P b then H b else F.H0 b⟩
structure Hid (F : Fr) (G H : Hp) (P : Addr → Prop) : Prop where
  m : ∀ b, P b → Mine F G b
  ex : ∀ b, P b → ∃ o, H b = some o
theorem hid_at {P : Addr → Prop} {b : Addr} (h : P b) : (hidF F H P).H0 b = H b := if_pos h
theorem hid_no {P : Addr → Prop} {b : Addr} (h : ¬ P b) : (hidF F H P).H0 b = F.H0 b := if_neg h
theorem hid_in {P : Addr → Prop} (r : RlB F G H) (x : Hid F G H P) : RlB (hidF F H P) G H := by
  refine ⟨r.sub, r.mono, fun b o e n => ?_, fun b o e => ?_, r.ste⟩
  · by_cases h : P b
    · rw [hid_at h] at e
      exact e
    · rw [hid_no h] at e
      exact r.keep b o e n
  · by_cases h : P b
    · have := (x.m b h).g
      rw [e] at this
      cases this
    · rw [hid_no h]
      exact r.grow b o e
theorem hid_out {P : Addr → Prop} (r : RlB F G H) (x : Hid F G H P) (c : RlB (hidF F H P) G' H') (s : Same G G') : RlB F G' H' ∧ ∀ b, P b → H' b = H b ∧ G' b = none := by
  have at_ : ∀ b, P b → H' b = H b ∧ G' b = none := fun b h => by
    obtain ⟨o, ho⟩ := x.ex b h
    have k := c.keep b o (by rw [hid_at h]; exact ho) (x.m b h).s
    refine ⟨by rw [k, ho], ?_⟩
    cases q : G' b with
    | none => rfl
    | some y =>
      rcases c.grow b y q with z | z
      · have := r.mono b y z
        rw [(x.m b h).g] at this
        cases this
      · rw [hid_at h, ho] at z
        cases z
  refine ⟨⟨c.sub, c.mono, fun b o e n => ?_, fun b o e => ?_, c.ste⟩, at_⟩
  · by_cases h : P b
    · have := (x.m b h).h
      rw [e] at this
      cases this
    · exact c.keep b o (by rw [hid_no h]; exact e) n
  · rcases c.grow b o e with z | z
    · exact .inl z
    · by_cases h : P b
      · exact .inr (x.m b h).h
      · rw [hid_no h] at z
        exact .inr z

theorem wipeS_len (s : List Sl) : ∀ vs : List Nat, (wipeS s vs).length = s.length
  | [] => rfl
  | v :: vs => by rw [wipeS, List.length_set, wipeS_len s vs]
theorem wipeS_get (s : List Sl) {i : Nat} : ∀ {vs : List Nat} {y : Sl}, (wipeS s vs)[i]? = some y → (i ∈ vs ∧ y = .no) ∨ (i ∉ vs ∧ s[i]? = some y)
  | [], y, h => .inr ⟨by simp, h⟩
  | v :: vs, y, h => by
    rw [wipeS] at h
    by_cases hv : v = i
    · subst hv
      have l := (List.getElem?_eq_some_iff.mp h).1
      rw [List.length_set] at l
      rw [List.getElem?_set_self l] at h
      cases h
      exact .inl ⟨List.mem_cons_self, rfl⟩
    · rw [List.getElem?_set_ne hv] at h
      rcases wipeS_get s h with ⟨a, b⟩ | ⟨a, b⟩
      · exact .inl ⟨List.mem_cons_of_mem _ a, b⟩
      · exact .inr ⟨fun z => (List.mem_cons.mp z).elim (fun z => hv z.symm) a, b⟩
theorem wipe_get {σ : L2.St} {i : Nat} : ∀ {vs : List Nat}, i ∉ vs → (wipe σ vs)[i]? = σ[i]?
  | [], _ => rfl
  | v :: vs, h => by
    unfold wipe
    rw [List.getElem?_set_ne (fun z => h (by rw [z]; exact List.mem_cons_self))]
    exact wipe_get fun z => h (List.mem_cons_of_mem _ z)

/-- what was just made and is one's own -/
def OwnT (τ : List V) (t : List Sl) (b : Addr) : Prop := ∃ (j : Nat) (o : Ow), τ[j]? = some (V.ref b) ∧ t[j]? = some (Sl.own o)
theorem Rl.own_t {s t : List Sl} (r : Rl K F G H σ τ ⟨s, t⟩) {b : Addr} (h : OwnT τ t b) : Mine F G b ∧ ∃ o, H b = some o := by
  obtain ⟨j, o, a, c⟩ := h
  obtain ⟨p, e1, m, ok⟩ := r.slotT (e := ⟨s, t⟩) c a
  cases e1
  obtain ⟨x, hx, _⟩ := ok.some
  exact ⟨m, x, hx⟩
theorem Rl.hid {s t : List Sl} (r : Rl K F G H σ τ ⟨s, t⟩) : Hid F G H (OwnT τ t) := ⟨fun b h => (r.own_t h).1, fun b h => (r.own_t h).2⟩
theorem Rl.posT {s t : List Sl} (r : Rl K F G H σ τ ⟨s, t⟩) {j : Nat} {v : V} {o : Sl} (a : τ[j]? = some v) (c : t[j]? = some o) :
    (σ ++ τ.map some)[σ.length + j]? = some (some v) ∧ (s ++ t)[σ.length + j]? = some o := by
  have l : s.length = σ.length := r.ls
  refine ⟨?_, ?_⟩
  · rw [List.getElem?_append_right (by omega), Nat.add_sub_cancel_left, List.getElem?_map, a]
    rfl
  · rw [List.getElem?_append_right (by omega), l, Nat.add_sub_cancel_left]
    exact c
theorem Rl.posS {s t : List Sl} (r : Rl K F G H σ τ ⟨s, t⟩) {j : Nat} {v : Option V} {o : Sl} (a : σ[j]? = some v) (c : s[j]? = some o) :
    (σ ++ τ.map some)[j]? = some v ∧ (s ++ t)[j]? = some o := by
  refine ⟨?_, ?_⟩
  · rw [List.getElem?_append_left (List.getElem?_eq_some_iff.mp a).1]; exact a
  · rw [List.getElem?_append_left (List.getElem?_eq_some_iff.mp c).1]; exact c
/-- into a block: its own names forgotten, what was just made stands still -/
theorem Rl.into {s t : List Sl} (r : Rl K F G H σ τ ⟨s, t⟩) (vs : List Nat) : Rl K (hidF F H (OwnT τ t)) G H (wipe σ vs) [] ⟨wipeS s vs, []⟩ := by
  have l : s.length = σ.length := r.ls
  refine ⟨⟨hid_in r.r.b r.hid, by simp [wipeS_len, wipe_length, l], fun i x y e1 e2 => ?_, fun i j p o o' e1 e2 e3 e4 => ?_⟩, by simp [wipeS_len, wipe_length, l]⟩
  all_goals simp only [List.map_nil, List.append_nil] at *
  · rcases wipeS_get s e2 with ⟨a, rfl⟩ | ⟨a, b⟩
    · trivial
    · rw [wipe_get a] at e1
      obtain ⟨p1, p2⟩ := r.posS e1 b
      have q := r.r.slot i x y p1 p2
      match y, q, b, p2 with
      | .no, _, _, _ => trivial
      | .val d, ⟨v, c, w⟩, _, _ => exact ⟨v, c, w⟩
      | .st B, ⟨v, c, w⟩, _, _ => exact ⟨v, c, w⟩
      | .scr n, h, _, _ => exact h
      | .own o, ⟨p, c, m, w⟩, b, p2 =>
        subst c
        refine ⟨p, rfl, ⟨m.g, ?_, m.s⟩, w⟩
        have nP : ¬ OwnT τ t p := fun ⟨j, o', u1, u2⟩ => by
          obtain ⟨q1, q2⟩ := r.posT u1 u2
          have := r.r.dis _ _ p _ _ p1 q1 p2 q2
          have := (List.getElem?_eq_some_iff.mp e1).1
          omega
        rw [hid_no nP]
        exact m.h
  · rcases wipeS_get s e3 with ⟨_, z⟩ | ⟨a, b⟩
    · cases z
    · rcases wipeS_get s e4 with ⟨_, z⟩ | ⟨a', b'⟩
      · cases z
      · rw [wipe_get a] at e1
        rw [wipe_get a'] at e2
        obtain ⟨p1, p2⟩ := r.posS e1 b
        obtain ⟨p3, p4⟩ := r.posS e2 b'
        exact r.r.dis i j p o o' p1 p3 p2 p4
/-- out of the block -/
theorem Rl.outof {s t s' : List Sl} {σ2 : L2.St} (r : Rl K F G H σ τ ⟨s, t⟩) (vs : List Nat) (c : Rl K (hidF F H (OwnT τ t)) G' H' σ2 [] ⟨s', []⟩) (w : wipe σ2 vs = wipe σ vs) (sm : Same G G') (nt : noSts t = true) :
    Rl K F G' H' σ τ ⟨wipeS s' vs, t⟩ := by
  have l : s.length = σ.length := r.ls
  have lw : σ2.length = σ.length := by
    have := congrArg List.length w
    rwa [wipe_length, wipe_length] at this
  have l2 : s'.length = σ2.length := c.ls
  have lt : t.length = τ.length := r.tl
  obtain ⟨b, st⟩ := hid_out r.r.b r.hid c.r.b sm
  have ge : ∀ i, i ∉ vs → σ2[i]? = σ[i]? := fun i hi => by
    rw [← wipe_get (σ := σ2) hi, w, wipe_get hi]
  -- one place
  have one : ∀ (i : Nat) (x : Option V) (y : Sl), (σ ++ τ.map some)[i]? = some x → (wipeS s' vs ++ t)[i]? = some y → (y = .no ∨ (i < σ.length ∧ σ2[i]? = some x ∧ s'[i]? = some y) ∨ (σ.length ≤ i ∧ ∃ v, x = some v ∧ τ[i - σ.length]? = some v ∧ t[i - σ.length]? = some y)) := fun i x y e1 e2 => by
    by_cases hi : i < σ.length
    · rw [List.getElem?_append_left hi] at e1
      rw [List.getElem?_append_left (by rw [wipeS_len]; omega)] at e2
      rcases wipeS_get s' e2 with ⟨_, z⟩ | ⟨a, b⟩
      · exact .inl z
      · exact .inr (.inl ⟨hi, by rw [ge i a]; exact e1, b⟩)
    · rw [List.getElem?_append_right (by omega), List.getElem?_map] at e1
      rw [List.getElem?_append_right (by rw [wipeS_len]; omega), wipeS_len, l2, lw] at e2
      obtain ⟨v, hv, rfl⟩ := Option.map_eq_some_iff.mp e1
      exact .inr (.inr ⟨by omega, v, rfl, hv, e2⟩)
  have own1 : ∀ {i : Nat} {p : Addr} {o : Ow}, σ2[i]? = some (some (.ref p)) → s'[i]? = some (.own o) → Mine F G' p ∧ OwOk K G' H' p o ∧ ¬ OwnT τ t p := fun {i p o} e1 e2 => by
    obtain ⟨q1, q2⟩ := c.posS e1 e2
    obtain ⟨p', z, m, ok⟩ := c.r.slot i _ _ q1 q2
    cases z
    have nP : ¬ OwnT τ t p := fun h => by
      obtain ⟨u, hu⟩ := (r.own_t h).2
      have := m.h
      rw [hid_at h, hu] at this
      cases this
    have := m.h
    rw [hid_no nP] at this
    exact ⟨⟨m.g, this, m.s⟩, ok, nP⟩
  refine ⟨⟨b, by simp [wipeS_len, l2, lw, lt], fun i x y e1 e2 => ?_, fun i j p o o' e1 e2 e3 e4 => ?_⟩, by show (wipeS s' vs).length = _; rw [wipeS_len, l2, lw]⟩
  · rcases one i x y e1 e2 with rfl | ⟨hi, a1, a2⟩ | ⟨hi, v, rfl, a1, a2⟩
    · trivial
    · obtain ⟨q1, q2⟩ := c.posS a1 a2
      have q := c.r.slot i x y q1 q2
      match y, q, a2 with
      | .no, _, _ => trivial
      | .val d, ⟨v, c, w⟩, _ => exact ⟨v, c, w⟩
      | .st B, ⟨v, c, w⟩, _ => exact ⟨v, c, w⟩
      | .scr n, h, _ => exact h
      | .own o, ⟨p, z, m, w⟩, a2 =>
        subst z
        obtain ⟨m1, ok, _⟩ := own1 a1 a2
        exact ⟨p, rfl, m1, ok⟩
    · have q := r.slotT (e := ⟨s, t⟩) a2 a1
      match y, q, a2 with
      | .no, _, _ => trivial
      | .val d, ⟨v, c, w⟩, _ => exact ⟨v, c, dp_mono sm _ _ w⟩
      | .st B, _, a2 => exact (noSts_get nt a2).elim
      | .scr n, ⟨a, xs, e, h, l⟩, _ => exact ⟨a, xs, e, sm.seq h, l⟩
      | .own o, ⟨p, z, m, ok⟩, a2 =>
        cases z
        obtain ⟨e5, e6⟩ := st p ⟨_, o, a1, a2⟩
        exact ⟨p, rfl, ⟨e6, m.h, m.s⟩, ok.mono sm e5⟩
  · rcases one i _ _ e1 e3 with z | ⟨hi, a1, a2⟩ | ⟨hi, v, z, a1, a2⟩
    · cases z
    · rcases one j _ _ e2 e4 with z | ⟨hj, b1, b2⟩ | ⟨hj, v, z, b1, b2⟩
      · cases z
      · obtain ⟨q1, q2⟩ := c.posS a1 a2
        obtain ⟨q3, q4⟩ := c.posS b1 b2
        exact c.r.dis i j p o o' q1 q3 q2 q4
      · cases z
        exact absurd ⟨_, o', b1, b2⟩ (own1 a1 a2).2.2
    · cases z
      rcases one j _ _ e2 e4 with z | ⟨hj, b1, b2⟩ | ⟨hj, v, z, b1, b2⟩
      · cases z
      · exact absurd ⟨_, o, a1, a2⟩ (own1 b1 b2).2.2
      · cases z
        obtain ⟨q1, q2⟩ := r.posT a1 a2
        obtain ⟨q3, q4⟩ := r.posT b1 b2
        have := r.r.dis _ _ p o o' q1 q3 q2 q4
        omega
theorem drt_yes : DRT K F tYes dYes := fun G H σ τ e k Q r t q => q true G H e (Same.refl G) r t

/-- a target that stores the block's own names alone -/
def Blk (g : TG) (vs : List Nat) : Prop := ∀ v σ H Q Q', g v (wipe σ vs) H Q → (∀ σ2 H2, wipe σ2 vs = wipe σ vs → Q σ2 H2 → Q' σ2 H2) → g v (wipe σ vs) H Q'
theorem wipe_none {j : Nat} : ∀ {vs : List Nat} {σ : L2.St}, j ∈ vs → j < σ.length → (wipe σ vs)[j]? = some none
  | [], _, h, _ => by cases h
  | v :: vs, σ, h, hl => by
    unfold wipe
    by_cases hv : v = j
    · subst hv
      rw [List.getElem?_set_self (by rw [wipe_length]; exact hl)]
    · rw [List.getElem?_set_ne hv]
      exact wipe_none ((List.mem_cons.mp h).resolve_left fun z => hv z.symm) hl
theorem wipe_ext {vs : List Nat} {σ σ' : L2.St} (hl : σ.length = σ'.length) (h : ∀ j, j ∉ vs → σ[j]? = σ'[j]?) : wipe σ vs = wipe σ' vs := by
  apply List.ext_getElem?
  intro j
  by_cases hj : j ∈ vs
  · by_cases hb : j < σ.length
    · rw [wipe_none hj hb, wipe_none hj (by omega)]
    · rw [List.getElem?_eq_none (by rw [wipe_length]; omega), List.getElem?_eq_none (by rw [wipe_length]; omega)]
  · rw [wipe_get hj, wipe_get hj, h j hj]
theorem wipe_wipe (σ : L2.St) (vs : List Nat) : wipe (wipe σ vs) vs = wipe σ vs := wipe_ext (wipe_length _ _) fun j hj => wipe_get hj
theorem wipe_set (σ : L2.St) {i : Nat} {vs : List Nat} (h : i ∈ vs) (x : Option V) : wipe (σ.set i x) vs = wipe σ vs :=
  wipe_ext (by simp) fun j hj => List.getElem?_set_ne (show i ≠ j from fun z => hj (z ▸ h))
theorem blk_name {i : Nat} {vs : List Nat} (h : i ∈ vs) : Blk (gName i) vs := fun v σ H Q Q' q f => f _ _ ((wipe_set _ h _).trans (wipe_wipe σ vs)) q
/-- several targets -/
def BlkS (t : TGs) (vs : List Nat) : Prop := ∀ xs σ σ0 H Q Q', wipe σ vs = wipe σ0 vs → t xs σ H Q → (∀ σ2 H2, wipe σ2 vs = wipe σ0 vs → Q σ2 H2 → Q' σ2 H2) → t xs σ H Q'
theorem blkS_nil {vs : List Nat} : BlkS gNil vs := fun xs σ σ0 H Q Q' w q f => ⟨q.1, f _ _ w q.2⟩
theorem blkS_name {i : Nat} {vs : List Nat} {u : TGs} (h : i ∈ vs) (hu : BlkS u vs) : BlkS (gCons (gName i) u) vs := fun xs σ σ0 H Q Q' w q f => by
  obtain ⟨v, r, e, q⟩ := q
  refine ⟨v, r, e, hu _ (σ.set i (some v)) σ0 H Q Q' ?_ q f⟩
  exact (wipe_set _ h _).trans w
theorem blk_tup {K : PySem.W.Frag} {n : Nat} {vs : List Nat} {u : TGs} (h : BlkS u vs) : Blk (gTup K n u) vs := fun v σ H Q Q' q f => by
  obtain ⟨a, xs, e, s, l, q⟩ := q
  exact ⟨a, xs, e, s, l, h xs _ σ H Q Q' (wipe_wipe σ vs) q f⟩
theorem wipeS_wipeS (s : List Sl) (vs : List Nat) : wipeS (wipeS s vs) vs = wipeS s vs := by
  apply List.ext_getElem?
  intro j
  cases h2 : (wipeS (wipeS s vs) vs)[j]? with
  | none =>
    have := List.getElem?_eq_none_iff.mp h2
    rw [wipeS_len, wipeS_len] at this
    rw [List.getElem?_eq_none (by rw [wipeS_len]; omega)]
  | some y =>
    rcases wipeS_get _ h2 with ⟨a, rfl⟩ | ⟨a, b⟩
    · have hl : j < (wipeS s vs).length := by
        have := (List.getElem?_eq_some_iff.mp h2).1
        rw [wipeS_len] at this
        exact this
      have hs : (wipeS s vs)[j]? = some ((wipeS s vs)[j]) := List.getElem?_eq_getElem hl
      rcases wipeS_get _ hs with ⟨_, b⟩ | ⟨b, _⟩
      · rw [hs, b]
      · exact absurd a b
    · rw [b]
theorem dr_lc {vs : List Nat} (hi : DRi K F wi Ti) (hg : DRg K g tg) (hw : Blk g vs) (ht : ∀ F, DRT K F tt Tt) (he : ∀ F, DR K F te Te) : DR K F (tLc wi g tt te vs) (dLc Ti tg Tt Te vs) := fun B H σ τ e k Q r x q => by
  have hl := r.tl
  refine hi B H σ τ _ _ _ r x fun J G1 H1 τ1 e1 xs s1 h1 it t1 => ?_
  obtain ⟨hnt, hz, t1⟩ := t1
  have nT : ∀ acc, noSts (e1.t.take e.t.length ++ [Sl.own (Ow.lst acc)]) = true := fun acc => noSts_app (noSts_take _ hnt) rfl
  intro X hX
  have h1c := h1.cut' hl
  -- what was made ahead, and the new list
  have base : Rl K F G1 (upd H1 X (.lst [])) σ (τ ++ [.ref X]) ⟨e1.s, e1.t.take e.t.length ++ [Sl.own (Ow.lst [])]⟩ := by
    obtain ⟨st, ok⟩ := res_new (F := F) (K := K) h1c.r.b hX (vs := []) (ds := []) .nil
    obtain ⟨p, ws, ep, _, hp', m, da⟩ := ok
    cases ep
    refine ⟨?_, h1c.ls⟩
    have z := (h1c.step st).r.push (some (.ref X)) (.own (.lst [])) ⟨X, rfl, m, ws, hp', da⟩ fun q o e1 e2 j o' a b => by
      cases e1
      exact own_some h1c a b hX
    simpa [DL.cut] using z
  have lt : (e1.t.take e.t.length).length = τ.length := h1c.tl
  refine ⟨fun i m H => ∃ G s acc, Same G1 G ∧ Rl K F G H σ (τ ++ [.ref X]) ⟨wipeS s vs, e1.t.take e.t.length ++ [Sl.own (Ow.lst acc)]⟩ ∧ i ≤ xs.length ∧ m = xs.length - i ∧ acc.length ≤ i ∧
    lcGo tg Tt Te vs (xs.drop i) acc (wipeS s vs) fun acc s => k (.t e.t.length) ⟨s, e1.t.take e.t.length ++ [Sl.own (Ow.lst acc)]⟩, ⟨xs.length, G1, e1.s, [], Same.refl G1, ?_, Nat.zero_le _, rfl, Nat.zero_le _, t1⟩, fun i m H ⟨G, s, acc, z, r, hle, hm, hacc, f⟩ => ?_⟩
  · exact base.outof (s' := e1.s) (σ2 := σ) (G' := G1) (H' := upd H1 X (.lst [])) vs (base.into []) rfl (Same.refl G1) (nT _)
  -- the new list is the last thing made
  have last : ∀ {G H : Hp} {s : List Sl} {acc : List D}, Rl K F G H σ (τ ++ [.ref X]) ⟨s, e1.t.take e.t.length ++ [Sl.own (Ow.lst acc)]⟩ → ∃ ws, H X = some (.lst ws) ∧ DpAll K G ws acc ∧ Mine F G X := fun {G H s acc} r => by
    obtain ⟨p, ep, m, ws, a, b⟩ := r.slotT (e := ⟨s, e1.t.take e.t.length ++ [Sl.own (Ow.lst acc)]⟩) (j := τ.length) (v := .ref X) (y := Sl.own (Ow.lst acc)) (by rw [← lt]; simp) (by simp)
    cases ep
    exact ⟨ws, a, b, m⟩
  by_cases hlt : i < xs.length
  · have ex : xs[i]? = some xs[i] := List.getElem?_eq_getElem hlt
    rw [List.drop_eq_getElem_cons hlt] at f
    obtain ⟨go, _⟩ := (it F G H r.r.b z i).1 _ ex
    refine .inr ⟨go, fun H' => ∃ m', m' < m ∧ ∃ G s acc, Same G1 G ∧ Rl K F G H' σ (τ ++ [.ref X]) ⟨wipeS s vs, e1.t.take e.t.length ++ [Sl.own (Ow.lst acc)]⟩ ∧ (i + 1) ≤ xs.length ∧ m' = xs.length - (i + 1) ∧ acc.length ≤ i + 1 ∧
      lcGo tg Tt Te vs (xs.drop (i + 1)) acc (wipeS s vs) fun acc s => k (.t e.t.length) ⟨s, e1.t.take e.t.length ++ [Sl.own (Ow.lst acc)]⟩, fun H' z => z, fun v H2 y => ?_⟩
    -- the block
    have rin := r.into vs
    obtain ⟨_, yl⟩ := (it _ G H rin.r.b z i).1 _ ex
    obtain ⟨G2, st, dv⟩ := yl v H2 y
    have r2 := rin.step st
    rw [wipeS_wipeS] at r2
    have key : ∀ (C : List Sl → Prop) (P : L2.St → Hp → Prop), tg xs[i] (wipeS s vs) C → (∀ σ3 s3, Rl K (hidF F H (OwnT (τ ++ [V.ref X]) (e1.t.take e.t.length ++ [Sl.own (Ow.lst acc)]))) G2 H2 σ3 [] ⟨s3, []⟩ → wipe σ3 vs = wipe σ vs → C s3 → P σ3 H2) → g v (wipe σ vs) H2 P := fun C P c p =>
      hw v σ H2 (fun σ3 H3 => H3 = H2 ∧ ∃ s3, Rl K (hidF F H (OwnT (τ ++ [V.ref X]) (e1.t.take e.t.length ++ [Sl.own (Ow.lst acc)]))) G2 H2 σ3 [] ⟨s3, []⟩ ∧ C s3) P (hg _ G2 H2 (wipe σ vs) (wipeS s vs) v _ C _ r2 dv c fun σ3 s3 r3 f3 => ⟨rfl, s3, r3, f3⟩)
        fun σ3 H3 w3 ⟨eH, s3, r3, f3⟩ => by
          subst eH
          exact p σ3 s3 r3 w3 f3
    refine key _ _ f fun σ3 s3 r3 w3 f3 => ⟨w3, ?_⟩
    refine ht _ G2 H2 σ3 [] ⟨s3, []⟩ _ _ r3 f3 fun b G4 H4 e4 sm4 r4 f4 => ?_
    have sm : Same G G4 := st.g.trans sm4
    cases b with
    | false =>
      have back := r.outof vs r4.drop0 w3 sm (nT _)
      exact ⟨_, (by omega : xs.length - (i + 1) < m), G4, e4.s, acc, z.trans sm, back, hlt, rfl, by omega, f4⟩
    | true =>
      simp only [if_true] at f4 ⊢
      refine he _ G4 H4 σ3 [] ⟨e4.s, []⟩ _ _ r4.drop0 f4 fun y G5 H5 τ5 e5 r5 sm5 h5 i5 f5 => ?_
      obtain ⟨G6, e6, d, sm6, h6, i6, f6⟩ := fz_ok h5 i5 f5
      have smE : Same G G6 := (sm.trans sm5).trans sm6
      have back := r.outof vs h6.drop0 w3 smE (nT _)
      obtain ⟨ws, hX5, da, mX⟩ := last back
      refine ⟨ws, hX5, by rw [dpAll_len da]; omega, _, (by omega : xs.length - (i + 1) < m), G6, e6.s, acc ++ [d], z.trans smE, ?_, hlt, rfl, by simp; omega, f6⟩
      -- the list grows
      have l2 : (wipeS e6.s vs).length = σ.length := back.ls
      have p1 : (wipeS e6.s vs ++ (e1.t.take e.t.length ++ [Sl.own (Ow.lst acc)]))[σ.length + τ.length]? = some (Sl.own (Ow.lst acc)) := by
        rw [List.getElem?_append_right (by omega), l2, Nat.add_sub_cancel_left, ← lt]
        simp
      have p2 : (σ ++ (τ ++ [V.ref X]).map some)[σ.length + τ.length]? = some (some (.ref X)) := by
        rw [List.getElem?_append_right (by omega), Nat.add_sub_cancel_left]
        simp
      have z2 := back.r.wr p1 p2 (u := .lst (ws ++ [y])) (o' := .lst (acc ++ [d])) ⟨_, upd_same, dpAll_append da (dpAll_one i6)⟩
      have e9 : (wipeS e6.s vs ++ (e1.t.take e.t.length ++ [Sl.own (Ow.lst acc)])).set (σ.length + τ.length) (.own (.lst (acc ++ [d]))) = wipeS e6.s vs ++ (e1.t.take e.t.length ++ [Sl.own (Ow.lst (acc ++ [d]))]) := by
        rw [List.set_append_right _ _ (by omega), l2, Nat.add_sub_cancel_left, List.set_append_right _ _ (by omega), lt, Nat.sub_self]
        rfl
      rw [e9] at z2
      exact ⟨z2, back.ls⟩
  · have e0 : i = xs.length := by omega
    subst e0
    rw [List.drop_length] at f
    refine .inl ⟨(it F G H r.r.b z xs.length).2 (Nat.le_refl _), ?_⟩
    refine q (.ref X) G H [.ref X] _ _ (s1.trans z) r ?_ f
    show (τ ++ [V.ref X])[e.t.length]? = some (V.ref X)
    rw [hl]
    simp
end
end DL

/-! What a loop walks, over data. -/
namespace DL
open PySem PySem.Spec L2

/-! ### a list or a tuple -/
def iSeq (K : PySem.W.Frag) (tl : TE) : TI := fun σ H Q => tl σ H fun x H1 => ∃ a, x = .ref a ∧ (((∃ xs, SqL K H1 a xs) ∧ Q (Itl K a) H1) ∨ ((∃ xs, SqT K H1 a xs) ∧ Q (Itt K a) H1))
section
variable {X : Cx} {tg : Expr}
theorem pi_seq {l : Expr} {tl : TE} (hl : PE X l tl) : PI X tg l (iSeq X.K tl) := by
  refine ⟨fun pins s σ H Q I h => thn (hl.run pins s σ H _ I h) fun v s1 ⟨x, H1, I1, r1, a, e, q⟩ => ?_⟩
  subst e
  cases r1
  have fp : ∀ b ∈ [s1.heap.objs.size], FpOk X pins H1 b := fun b hb => by
    rw [List.mem_singleton.mp hb]
    exact I1.fpOk (Nat.le_refl _) (I1.hok.fresh (Nat.le_refl _))
  rcases q with ⟨⟨xs, hq⟩, q⟩ | ⟨⟨xs, hq⟩, q⟩
  · obtain ⟨its, rv, p, hz⟩ := I1.list hq
    exact wpAny_pyIter_list p.isList ⟨s1.heap.objs.size, [s1.heap.objs.size], _, _, H1, rfl, I1.kept (t' := s1.toks) fun b o e => Heap.get?_push_of_some _ e, turn_list a _, ⟨_, Heap.get?_push_size _ rfl, rfl, rfl⟩, fp, q⟩
  · obtain ⟨its, rv, p, hz⟩ := I1.tuple hq
    exact wpAny_pyIter_tuple (show s1.heap.IsTuple a its.toArray from p) ⟨s1.heap.objs.size, [s1.heap.objs.size], _, _, H1, rfl, I1.kept (t' := s1.toks) fun b o e => Heap.get?_push_of_some _ e, turn_tuple a _, ⟨_, Heap.get?_push_size _ rfl, rfl, rfl⟩, fp, q⟩
end

def dSeqI (T : DT) : DTI := fun e k => T e fun r e1 => fz e1 r fun d e2 => match d with
  | .list xs => k xs e2
  | .tuple xs => k xs e2
  | _ => False
/-- the numbers from lo on -/
def rangeL (lo : Int) (n : Nat) : List D := (List.range n).map fun (i : Nat) => PyData.int (lo + (i : Int))
def rangeC (lo c : Int) (n : Nat) : List D := (List.range n).map fun (i : Nat) => PyData.int (lo + (i : Int) * c)
def dRng1 (T : DTA) : DTI := fun e k => T e fun rs e1 => sees e1 rs fun ds => match ds with
  | [.int j] => (-(2 ^ 62) ≤ j ∧ j < 2 ^ 62) ∧ k (rangeL 0 j.toNat) e1
  | _ => False
def dRng2 (T : DTA) : DTI := fun e k => T e fun rs e1 => sees e1 rs fun ds => match ds with
  | [.int i, .int j] => (-(2 ^ 62) ≤ i ∧ i < 2 ^ 62 ∧ -(2 ^ 62) ≤ j ∧ j < 2 ^ 62) ∧ k (rangeL i (j - i).toNat) e1
  | _ => False
def dRng3 (T : DTA) : DTI := fun e k => T e fun rs e1 => sees e1 rs fun ds => match ds with
  | [.int i, .int j, .int c] => ∃ n, RgC i j c n ∧ k (rangeC i c n) e1
  | _ => False
def enumL (xs : List D) : List D := xs.mapIdx fun (i : Nat) x => PyData.tuple [.int (i : Int), x]
def zipL (xs ys : List D) : List D := List.zipWith (fun x y => PyData.tuple [x, y]) xs ys
def dEnum (T : DTA) : DTI := fun e k => T e fun rs e1 => fzs e1 rs fun ds e2 => match ds with
  | [.list xs] => k (enumL xs) e2
  | _ => False
def dZip (T : DTA) : DTI := fun e k => T e fun rs e1 => fzs e1 rs fun ds e2 => match ds with
  | [.list xs, .list ys] => k (zipL xs ys) e2
  | _ => False

section
variable {K : PySem.W.Frag} {F : Fr} {G : Hp} {te : TE} {Te : DT} {ta : TA} {Ta : DTA}
theorem it_list {a : Addr} {vs : List V} {xs : List D} (h : Rd G a (.lst vs)) (d : DpAll K G vs xs) : ItOk K G (Itl K a) xs := fun F G1 H r s i => by
  have hs : SqL K H a vs := .inl (rd_mono (s.trans r.sub) h)
  refine ⟨fun y e => ?_, fun hi => ⟨vs, hs, by rw [dpAll_len d]; exact hi⟩⟩
  obtain ⟨v, hv, dv⟩ := dpAll_get d i y e
  refine ⟨⟨vs, v, hs, hv⟩, fun x H2 ⟨e2, q⟩ => ?_⟩
  subst e2
  rw [q vs hs] at hv
  cases hv
  exact ⟨G1, Step.refl r, dp_mono s _ _ dv⟩
theorem it_tup {a : Addr} {vs : List V} {xs : List D} (h : SqT K G a vs) (d : DpAll K G vs xs) : ItOk K G (Itt K a) xs := fun F G1 H r s i => by
  have hs : SqT K H a vs := sqT_mono (s.trans r.sub) h
  refine ⟨fun y e => ?_, fun hi => ⟨vs, hs, by rw [dpAll_len d]; exact hi⟩⟩
  obtain ⟨v, hv, dv⟩ := dpAll_get d i y e
  refine ⟨⟨vs, v, hs, hv⟩, fun x H2 ⟨e2, q⟩ => ?_⟩
  subst e2
  rw [q vs hs] at hv
  cases hv
  exact ⟨G1, Step.refl r, dp_mono s _ _ dv⟩
theorem dri_seq (h : DR K F te Te) : DRi K F (iSeq K te) (dSeqI Te) := fun G H σ τ e k Q r t q => by
  refine h G H σ τ e _ _ r t fun v G1 H1 τ1 e1 r1 s1 h1 i1 t1 => ?_
  obtain ⟨G2, e2, d, s2, h2, dv, t2⟩ := fz_ok h1 i1 t1
  split at t2
  · cases dv with
    | lst a b => exact ⟨_, rfl, .inl ⟨⟨_, .inl (rd_mono h2.r.b.sub a)⟩, q _ G2 H1 τ1 e2 _ (s1.trans s2) h2 (it_list a b) t2⟩⟩
  · cases dv with
    | tup a b => exact ⟨_, rfl, .inr ⟨⟨_, sqT_mono h2.r.b.sub a⟩, q _ G2 H1 τ1 e2 _ (s1.trans s2) h2 (it_tup a b) t2⟩⟩
  · exact t2.elim
theorem it_rng (lo : Int) (n : Nat) : ItOk K G (Itr lo n) (rangeL lo n) := fun F G1 H r s i => by
  refine ⟨fun d e => ?_, fun hi => show n ≤ i by simpa [rangeL] using hi⟩
  have hi : i < n := by
    have := (List.getElem?_eq_some_iff.mp e).1
    simpa [rangeL] using this
  refine ⟨hi, fun x H2 ⟨e2, q⟩ => ?_⟩
  subst e2
  refine ⟨G1, Step.refl r, ?_⟩
  unfold rangeL at e
  rw [List.getElem?_map, List.getElem?_range hi] at e
  cases e
  rw [q]
  exact .int _
theorem it_rngC (lo c : Int) (n : Nat) : ItOk K G (Itc lo c n) (rangeC lo c n) := fun F G1 H r s i => by
  refine ⟨fun d e => ?_, fun hi => show n ≤ i by simpa [rangeC] using hi⟩
  have hi : i < n := by
    have := (List.getElem?_eq_some_iff.mp e).1
    simpa [rangeC] using this
  refine ⟨hi, fun x H2 ⟨e2, q⟩ => ?_⟩
  subst e2
  refine ⟨G1, Step.refl r, ?_⟩
  unfold rangeC at e
  rw [List.getElem?_map, List.getElem?_range hi] at e
  cases e
  rw [q]
  exact .int _
theorem sns3 {G H : Hp} {xs : List V} {d e f : D} (h : Sns K G H xs [d, e, f]) : ∃ x y z, xs = [x, y, z] ∧ Sn K G H x d ∧ Sn K G H y e ∧ Sn K G H z f := by
  match xs, h with
  | [x, y, z], h => exact ⟨x, y, z, rfl, h.1, h.2.1, h.2.2.1⟩
  | [_], h => exact h.2.elim
  | [_, _], h => exact h.2.2.elim
  | _ :: _ :: _ :: _ :: _, h => exact h.2.2.2.elim
theorem dri_rng1 (h : DRA K F ta Ta) : DRi K F (iRng1 ta) (dRng1 Ta) := fun G H σ τ e k Q r t q => by
  refine h G H σ τ e _ _ r t fun vs G1 H1 τ1 e1 rs1 s1 h1 i1 t1 => ?_
  obtain ⟨ds, sx, t2⟩ := sees_ok h1 i1 t1
  split at t2
  · obtain ⟨x, rfl, sy⟩ := sns1 sx
    cases sy.int
    exact ⟨_, rfl, t2.1.1, t2.1.2, q _ G1 H1 τ1 e1 _ s1 h1 (it_rng 0 _) t2.2⟩
  · exact t2.elim
theorem dri_rng2 (h : DRA K F ta Ta) : DRi K F (iRng2 ta) (dRng2 Ta) := fun G H σ τ e k Q r t q => by
  refine h G H σ τ e _ _ r t fun vs G1 H1 τ1 e1 rs1 s1 h1 i1 t1 => ?_
  obtain ⟨ds, sx, t2⟩ := sees_ok h1 i1 t1
  split at t2
  · obtain ⟨x, y, rfl, sa, sb⟩ := sns2 sx
    cases sa.int
    cases sb.int
    exact ⟨_, _, rfl, t2.1, q _ G1 H1 τ1 e1 _ s1 h1 (it_rng _ _) t2.2⟩
  · exact t2.elim
theorem dri_rng3 (h : DRA K F ta Ta) : DRi K F (iRng3 ta) (dRng3 Ta) := fun G H σ τ e k Q r t q => by
  refine h G H σ τ e _ _ r t fun vs G1 H1 τ1 e1 rs1 s1 h1 i1 t1 => ?_
  obtain ⟨ds, sx, t2⟩ := sees_ok h1 i1 t1
  split at t2
  · obtain ⟨x, y, z, rfl, sa, sb, sc⟩ := sns3 sx
    cases sa.int
    cases sb.int
    cases sc.int
    obtain ⟨n, rg, t2⟩ := t2
    exact ⟨_, _, _, n, rfl, rg, q _ G1 H1 τ1 e1 _ s1 h1 (it_rngC _ _ _) t2⟩
  · exact t2.elim
theorem it_enum {a : Addr} {vs : List V} {xs : List D} (h : Rd G a (.lst vs)) (d : DpAll K G vs xs) : ItOk K G (Ite K a) (enumL xs) := fun F G1 H r s i => by
  have hs : SqL K H a vs := .inl (rd_mono (s.trans r.sub) h)
  refine ⟨fun y e => ?_, fun hi => ⟨vs, hs, by rw [dpAll_len d]; simpa [enumL] using hi⟩⟩
  unfold enumL at e
  rw [List.getElem?_mapIdx] at e
  obtain ⟨y', hy, rfl⟩ := Option.map_eq_some_iff.mp e
  obtain ⟨v, hv, dv⟩ := dpAll_get d i y' hy
  refine ⟨⟨vs, v, hs, hv⟩, fun x H2 ⟨T, x', e1, hT, e2, q⟩ => ?_⟩
  subst e1
  subst e2
  rw [q vs hs] at hv
  cases hv
  have dl : DpAll K G1 [.int (i : Nat), v] [.int (i : Int), y'] := .cons (.int _) (.cons (dp_mono s _ _ dv) .nil)
  obtain ⟨st, ok⟩ := res_tup r hT dl
  exact ⟨_, st, ok⟩
theorem it_zip {a b : Addr} {vs ws : List V} {xs ys : List D} (h : Rd G a (.lst vs)) (d : DpAll K G vs xs) (h' : Rd G b (.lst ws)) (d' : DpAll K G ws ys) : ItOk K G (Itz K a b) (zipL xs ys) := fun F G1 H r s i => by
  have hs : SqL K H a vs := .inl (rd_mono (s.trans r.sub) h)
  have hs' : SqL K H b ws := .inl (rd_mono (s.trans r.sub) h')
  refine ⟨fun y e => ?_, fun hi => ⟨vs, ws, hs, hs', ?_⟩⟩
  · unfold zipL at e
    rw [List.getElem?_zipWith] at e
    cases hx : xs[i]? with
    | none => rw [hx] at e; cases e
    | some x =>
      cases hy : ys[i]? with
      | none => rw [hx, hy] at e; cases e
      | some z =>
        rw [hx, hy] at e
        cases e
        obtain ⟨v, hv, dv⟩ := dpAll_get d i x hx
        obtain ⟨w, hw, dw⟩ := dpAll_get d' i z hy
        refine ⟨⟨vs, ws, v, w, hs, hs', hv, hw⟩, fun x H2 ⟨T, x', y', e1, hT, e2, q, q'⟩ => ?_⟩
        subst e1
        subst e2
        rw [q vs hs] at hv
        rw [q' ws hs'] at hw
        cases hv
        cases hw
        obtain ⟨st, ok⟩ := res_tup r hT (.cons (dp_mono s _ _ dv) (.cons (dp_mono s _ _ dw) .nil))
        exact ⟨_, st, ok⟩
  · rw [dpAll_len d, dpAll_len d']
    simp only [zipL, List.length_zipWith] at hi
    omega
theorem dri_enum (h : DRA K F ta Ta) : DRi K F (iEnum K ta) (dEnum Ta) := fun G H σ τ e k Q r t q => by
  refine h G H σ τ e _ _ r t fun vs G1 H1 τ1 e1 rs1 s1 h1 i1 t1 => ?_
  obtain ⟨G2, e2, ds, s2, h2, dv, t2⟩ := fzs_ok h1 i1 t1
  split at t2
  · cases dv with
    | cons a b =>
      cases b
      cases a with
      | lst a b => exact ⟨_, _, rfl, .inl (rd_mono h2.r.b.sub a), q _ G2 H1 τ1 e2 _ (s1.trans s2) h2 (it_enum a b) t2⟩
  · exact t2.elim
theorem dri_zip (h : DRA K F ta Ta) : DRi K F (iZip K ta) (dZip Ta) := fun G H σ τ e k Q r t q => by
  refine h G H σ τ e _ _ r t fun vs G1 H1 τ1 e1 rs1 s1 h1 i1 t1 => ?_
  obtain ⟨G2, e2, ds, s2, h2, dv, t2⟩ := fzs_ok h1 i1 t1
  split at t2
  · cases dv with
    | cons a b =>
      cases b with
      | cons b c =>
        cases c
        cases a with
        | lst a a' =>
          cases b with
          | lst b b' => exact ⟨_, _, _, _, rfl, .inl (rd_mono h2.r.b.sub a), .inl (rd_mono h2.r.b.sub b), q _ G2 H1 τ1 e2 _ (s1.trans s2) h2 (it_zip a a' b b') t2⟩
  · exact t2.elim

/-! ### slices -/
abbrev DTO := Sg → (Option Int → Sg → Prop) → Prop
def DRO (K : PySem.W.Frag) (F : Fr) (to : TO) (T : DTO) : Prop := ∀ G H σ τ e k (Q : Option Int → Hp → Prop), Rl K F G H σ τ e → T e k →
  (∀ o G' H' e', Same G G' → Rl K F G' H' σ τ e' → k o e' → Q o H') → to σ H Q
def dNoPart : DTO := fun e k => k none e
def dPart (T : DT) : DTO := fun e k => T e fun r e1 => see e1 r fun d => match d with
  | .int i => k (some i) (cut e1 e.t.length)
  | _ => False
theorem dro_none : DRO K F tNoPart dNoPart := fun G H σ τ e k Q r t q => q none G H e (Same.refl G) r t
theorem dro_some (h : DR K F te Te) : DRO K F (tPart te) (dPart Te) := fun G H σ τ e k Q r t q => by
  have hl := r.tl
  refine h G H σ τ e _ _ r t fun v G1 H1 τ1 e1 r1 s1 h1 i1 t1 => ?_
  obtain ⟨d, sx, t2⟩ := see_ok h1 i1 t1
  split at t2
  · exact ⟨_, sx.int, q _ G1 H1 _ s1 (h1.cut' hl) t2⟩
  · exact t2.elim
def fSl (d : D) (lo hi : Option Int) (k : Res → Prop) : Prop :=
  match d with
  | .list ds => k (.l (cutL ds lo hi))
  | .tuple ds => k (.d (.tuple (cutL ds lo hi)))
  | .str z => z.length ≤ sizeLine ∧ k (.d (.str (Txt.slice z lo hi)))
  | _ => False
def rSlD (K : PySem.W.Frag) : V → Option Int → Option Int → Hp → VK → Prop := fun x lo hi H Q => rSlL K x lo hi H Q ∨ rSlA K x lo hi H Q ∨ C8.rSlX x lo hi H Q
theorem sl_D {X : Cx} : SlR X (rSlD X.K) := SlR.or sl_list (SlR.or sl_tupA C8.sl_txt)
def dSl (T : DT) (Tl Th : DTO) : DT := fun e k => T e fun r e1 => Tl e1 fun lo e2 => Th e2 fun hi e3 => see e3 r fun d => fSl d lo hi fun z => put (cut e3 e.t.length) z k
theorem cut_dp {G : Hp} {vs : List V} {ds : List D} (h : DpAll K G vs ds) (lo hi : Option Int) : DpAll K G (cutV vs lo hi) (cutL ds lo hi) := by
  unfold cutV cutL
  rw [dpAll_len h]
  exact dpAll_take _ (dpAll_drop _ h)
theorem cut_whole {α : Type} {xs : List α} {lo hi : Option Int} (h : HT.sIx xs.length 0 lo = 0 ∧ HT.sIx xs.length xs.length hi = xs.length) : cutL xs lo hi = xs := by
  unfold cutL
  rw [h.1, h.2]
  simp
theorem dr_sl {tl th : TO} {Tl Th : DTO} (h : DR K F te Te) (hl : DRO K F tl Tl) (hh : DRO K F th Th) : DR K F (tSl (rSlD K) te tl th) (dSl Te Tl Th) := fun G H σ τ e k Q r t q => by
  have hlen := r.tl
  refine h G H σ τ e _ _ r t fun v G1 H1 τ1 e1 r1 s1 h1 i1 t1 => ?_
  refine hl G1 H1 σ _ e1 _ _ h1 t1 fun lo G2 H2 e2 s2 h2 t2 => ?_
  refine hh G2 H2 σ _ e2 _ _ h2 t2 fun hi G3 H3 e3 s3 h3 t3 => ?_
  obtain ⟨d, sx, t4⟩ := see_ok h3 ((i1.mono s2).mono s3) t3
  have h4 := h3.cut' hlen
  have sm := (s1.trans s2).trans s3
  unfold fSl at t4
  split at t4
  · obtain ⟨p, vs, rfl, hp, da⟩ := sx.list h3.r.b.sub
    refine .inl ⟨p, vs, rfl, .inl hp, fun l hl => ?_⟩
    obtain ⟨st, ok⟩ := res_new h3.r.b hl (cut_dp da lo hi)
    obtain ⟨τ5, e5, r5, a, b, c⟩ := fin_put h4 st ok t4
    exact q _ _ _ τ5 e5 r5 (sm.trans st.g) a b c
  · rename_i ds
    have sv := sn_tup sx
    obtain ⟨p, vs, rfl, hp, da⟩ := sx.tuple h3.r.b.sub
    have lv := dpAll_len da
    refine .inr (.inl ⟨p, vs, rfl, hp, fun w => ?_, fun w l hl => ?_⟩)
    · rw [cut_whole (xs := ds) (by rw [← lv]; exact w)] at t4
      exact q _ G3 H3 [] _ (.d _) sm (by rw [List.append_nil]; exact h4) sv t4
    · obtain ⟨st, ok⟩ := res_tup h3.r.b hl (cut_dp da lo hi)
      obtain ⟨τ5, e5, r5, a, b, c⟩ := fin_put h4 st ok t4
      exact q _ _ _ τ5 e5 r5 (sm.trans st.g) a b c
  · exact .inr (.inr ⟨_, sx.str, t4.1, q _ G3 H3 [] _ (.d _) sm (by rw [List.append_nil]; exact h4) (Dp.str _) t4.2⟩)
  · exact t4.elim
/-- xs[::-1] -/
def dRev (T : DT) : DT := fun e k => T e fun r e1 => see e1 r fun d => match d with
  | .list ds => put (cut e1 e.t.length) (.l ds.reverse) k
  | _ => False
theorem dr_rev (h : DR K F te Te) : DR K F (tRevL K te) (dRev Te) := fun G H σ τ e k Q r t q => by
  have hlen := r.tl
  refine h G H σ τ e _ _ r t fun v G1 H1 τ1 e1 r1 s1 h1 i1 t1 => ?_
  obtain ⟨d, sx, t2⟩ := see_ok h1 i1 t1
  split at t2
  · obtain ⟨p, vs, rfl, hp, da⟩ := sx.list h1.r.b.sub
    refine ⟨p, vs, rfl, .inl hp, fun l hl => ?_⟩
    obtain ⟨st, ok⟩ := res_new h1.r.b hl (dpAll_rev da)
    obtain ⟨τ5, e5, r5, a, b, c⟩ := fin_put (h1.cut' hlen) st ok t2
    exact q _ _ _ τ5 e5 r5 (s1.trans st.g) a b c
  · exact t2.elim

/-! ### methods of lists -/
def dBM (f : D → List D → (Res → Prop) → Prop) (T : DT) (Ta : DTA) : DT := fun e k => T e fun r e1 => (see e1 r fun d => tyName d = "list") ∧ Ta e1 fun rs e2 => see e2 r fun d => sees e2 rs fun ds => f d ds fun z => put (cut e2 e.t.length) z k
theorem dr_bm {m : V → List V → Hp → VK → Prop} {f : D → List D → (Res → Prop) → Prop} (ho : MtD K "list" m f) (h : DR K F te Te) (ha : DRA K F ta Ta) : DR K F (tBM K "list" m te ta) (dBM f Te Ta) := fun G H σ τ e k Q r t q => by
  have hlen := r.tl
  refine h G H σ τ e _ _ r t fun v G1 H1 τ1 e1 r1 s1 h1 i1 t1 => ?_
  obtain ⟨t1, t2⟩ := t1
  obtain ⟨d, sx, ed⟩ := see_ok h1 i1 t1
  have ty : tyV K "list" v H1 := by
    have := sx
    cases d <;> simp [tyName] at ed
    obtain ⟨p, vs, rfl, hp, _⟩ := sx.list h1.r.b.sub
    exact .inl ⟨rfl, vs, .inl hp⟩
  refine ⟨ty, ha G1 H1 σ _ e1 _ _ h1 t2 fun xs G2 H2 τ2 e2 rs s2 h2 i2 t3 => ?_⟩
  obtain ⟨d2, sx2, t4⟩ := see_ok h2 ((i1.mono s2).ext) t3
  obtain ⟨ds, sxs, t5⟩ := sees_ok h2 i2 t4
  refine ho F G2 H2 v xs d2 ds _ Q h2.r.b sx2 sxs t5 fun w G3 H3 z st ok kz => ?_
  rw [List.append_assoc] at h2
  obtain ⟨τ3, e3, r3, a, b, c⟩ := fin_put (h2.cut' hlen) st ok kz
  exact q w G3 H3 τ3 e3 r3 ((s1.trans s2).trans st.g) a b c
def mCount : D → List D → (Res → Prop) → Prop
  | .list ds, [.int i], k => match toInts ds with
    | some ns => k (.d (.int ((ns.count i : Nat) : Int)))
    | none => False
  | _, _, _ => False
theorem md_count : MtD K "list" (rCntI K) mCount := fun F G H x xs dx dxs k Q b sx sxs t q => by
  unfold mCount at t
  split at t
  · obtain ⟨y, rfl, sy⟩ := sns1 sxs
    cases sy.int
    split at t
    · rename_i ns e
      obtain ⟨p, rfl, h1⟩ := sn_ints b.sub sx e
      exact ⟨p, ns, _, rfl, rfl, h1, q _ G H (.d (.int _)) (Step.refl b) (Dp.int _) t⟩
    · exact t.elim
  · exact t.elim
/-- the first place of an equal item -/
def idxOf? (d : D) (ds : List D) : Option Nat := ds.findIdx? fun z => PyData.eqv z d
def mIndex : D → List D → (Res → Prop) → Prop
  | .list ds, [d], k => SeqAt.shaped (.list ds) = true ∧ SeqAt.shaped d = true ∧ match idxOf? d ds with
    | some j => k (.d (.int ((j : Nat) : Int)))
    | none => False
  | _, _, _ => False
theorem md_index : MtD K "list" (rIndexD K) mIndex := fun F G H x xs dx dxs k Q b sx sxs t q => by
  unfold mIndex at t
  split at t
  · rename_i _ ds d
    obtain ⟨y, rfl, sy⟩ := sns1 sxs
    obtain ⟨t1, t2, t3⟩ := t
    split at t3
    · rename_i j e
      have sd := toDp _ _ (sx.dp b.sub)
      obtain ⟨p, vs, rfl, hp, da⟩ := sx.list b.sub
      unfold idxOf? at e
      rw [List.findIdx?_eq_some_iff_getElem] at e
      obtain ⟨hj, e1, e2⟩ := e
      refine ⟨p, y, d, ds, j, ds[j], rfl, rfl, sd, toDp _ _ (sy.dp b.sub), t1, t2, List.getElem?_eq_getElem hj, e1, fun m z' hm hz => ?_, q _ G H (.d (.int _)) (Step.refl b) (Dp.int _) t3⟩
      have hml : m < ds.length := by omega
      rw [List.getElem?_eq_getElem hml] at hz
      cases hz
      exact Bool.eq_false_iff.mpr (e2 m hm)
    · exact t3.elim
  · exact t.elim
end
end DL

/-! Defs over data: what a def does (T) and that it does it; calls. No guard of repr stands around any of it. -/
namespace DL
open PySem PySem.Spec L2

/-- a def keeps its promise wherever no repr runs around it -/
structure FnG (P : Program) (w : World) (K : PySem.W.Frag) (mg : Str → Option Value) (base : Heap) (k : Nat) (f : Addr) (fd : FuncData) (ps : List Str) (sp : Sp) : Prop where
  len : ∀ vs H Q E, sp vs H Q E → vs.length = ps.length
  run : ∀ (A : Around) (outer : List Env) (s : Shared) (H : Hp) (args : Args) (us : List Value) (vs : List V) (Q : VK) (E : XK), A.guards = some [] → Room k A → Env0 P w K mg base A outer s H →
    BindsTo s fd args (ps.zip us) → Vals vs us → sp vs H Q E → codeAny (model P w) A (.call (.ref f) args) (CR (L2.CX P w) outer P w H s Q E) s
theorem FnG.mono {P : Program} {w : World} {K : PySem.W.Frag} {mg : Str → Option Value} {base : Heap} {j k : Nat} {f : Addr} {fd : FuncData} {ps : List Str} {sp : Sp} (F : FnG P w K mg base j f fd ps sp) (h : j ≤ k) : FnG P w K mg base k f fd ps sp :=
  ⟨F.len, fun A outer s H args us vs Q E hg hr => F.run A outer s H args us vs Q E hg (hr.mono h)⟩
theorem FnG.imp {P : Program} {w : World} {K : PySem.W.Frag} {mg : Str → Option Value} {base : Heap} {k : Nat} {f : Addr} {fd : FuncData} {ps : List Str} {sp sp' : Sp} (F : FnG P w K mg base k f fd ps sp)
    (h : ∀ vs H Q E, sp' vs H Q E → sp vs H Q E) : FnG P w K mg base k f fd ps sp' :=
  ⟨fun vs H Q E q => F.len vs H Q E (h _ _ _ _ q), fun A outer s H args us vs Q E hg hr he hb hv hs => F.run A outer s H args us vs Q E hg hr he hb hv (h _ _ _ _ hs)⟩

section
variable {P : Program} {w : World} {K : PySem.W.Frag} {mg : Str → Option Value} {base : Heap}
/-- a def by its body's derivation -/
theorem fnG_of {x qual : Str} {params : Arguments} {body : List Stmt} {scope : Scope} {dvs : List V} {kws : List (Str × V)} {f : Addr} {fd : FuncData} {N ps : List Str} {k : Nat} {sp : Sp} (F : FunD K x qual params body scope dvs kws f fd) (S : FnScope N ps scope)
    (len : ∀ vs H Q E, sp vs H Q E → vs.length = ps.length)
    (hbody : ∀ (cdv : Value) (A : Around) (outer : List Env) (s : Shared) (H : Hp) (vs : List V) (Q : VK) (E : XK), Room k (A.deeper (PyProof.Rows.envOfC qual scope s.heap.objs.size f cdv)) → (A.deeper (PyProof.Rows.envOfC qual scope s.heap.objs.size f cdv)).guards = some [] → sp vs H Q E →
      ∃ t, PSs (cxOf (L2.CX P w) P w K mg base N qual scope f cdv A outer s H E) body t ∧ t { nx := fun _ H' => Q .non H', rt := Q } (start N vs) H) : FnG P w K mg base (k + 1) f fd ps sp := by
  obtain ⟨oc, od, dV, kV, doc, pm, an, cdv, ct, osl, rfl, lk, hcd, _, _⟩ := F.ex
  refine ⟨len, fun A outer s H args us vs Q E hg hr e0 hb r hsp => ?_⟩
  have hl := len _ _ _ _ hsp
  have kin : K.In s.heap := e0.mod.kin.keeps fun b o e => (e0.bs b o e).1
  have nolim : s.heap.NoLimit := e0.mod.nolimit.keeps fun b o e => (e0.bs b o e).1
  have kinds : ∀ y ∈ ps.zip us, scope.names.lookup y.1 = some .local ∨ (scope.names.lookup y.1 = some .cell ∧ ((cellsFrom (s.heap.objs.size + 1) scope.names []).lookup y.1).isSome = true) := fun ⟨n, v⟩ hy =>
    (S.par n (List.of_mem_zip hy).1).imp id fun q => ⟨q, PySem.W.cellsFrom_some _ _ _ (.inl q)⟩
  refine codeAny_call_function hr.depth (kin _ _ lk) rfl S.co S.gen rfl (PySem.W.codeRec_of kin hcd) (hb _ _ _ _ ?_)
  refine wpAny_newFunctionEnv_cells S.kind kinds fun env he s1 x => ?_
  subst he
  refine ⟨nolim.keeps x.toInCall.keep, codeAny_func ?_⟩
  obtain ⟨t, ht, hq⟩ := hbody cdv A outer s H vs Q E (hr.deeper _) hg hsp
  have I := inv_start (CX := L2.CX P w) (E := E) S hr.hd e0 hl r x
  refine wpAny_mono (ht.run [] s1 (start N vs) H _ I hq) (fun fl s' hs => ?_) fun e s' hs => hs
  cases fl with
  | ret u =>
    obtain ⟨v, σ', H', J, rv, q⟩ := hs
    exact ⟨v, H', J.os, J.bare, J.base, J.hok, rv, q⟩
  | next =>
    obtain ⟨σ', H', J, q⟩ := hs
    exact ⟨V.non, H', J.os, J.bare, J.base, J.hok, rfl, q⟩
  | brk =>
    obtain ⟨_, _, _, q⟩ := hs
    exact q.elim
  | cont =>
    obtain ⟨_, _, _, q⟩ := hs
    exact q.elim
end
section
variable {X : Cx} {k : Nat} {f : Addr} {fd : FuncData} {ps : List Str} {sp : Sp} {E : XK} {x : Str} {p pos : Pos} {e : Expr} {es : List Expr} {t : TA}
theorem pe_callG (F : FnG X.prog X.w X.K X.mg X.base k f fd ps sp) (hgd : X.A.guards = some []) (hr : Room k X.A) (hg : Gl X x) (hm : X.mg x = some (.ref f)) (hk : PySem.W.keepIn X.K (.ref f) = true) (hb : Binds X.K fd ps []) (hx : Passes (L2.CX X.prog X.w) X E)
    (ha : PA X (e :: es) t) (hdb : (x == ("__debug__" : Str)) = false := by decide) (he : starEach (e :: es) X.env = (false, eval e X.env) :: starEach es X.env := by rfl) (hpl : (backTo pos (starEach es X.env)).any (·.1) = false := by rfl) :
    PE X (.Call (.Name x p) (e :: es) [] pos) (tCall sp [] E t) := by
  refine ⟨fun pins s σ H Q I h => wpAny_Call_Name_kw (ld_glob I hg hm ?_ hdb)⟩
  refine PySem.W.callWith_K (h₀ := X.base) I.ok.mod.kin hk (thn (ha.run pos pins s σ H _ I h) fun us s1 ⟨vs, H1, I1, r, q⟩ => ⟨I1.kIn, ?_⟩) he hpl
  have q : sp vs H1 Q E := by
    have q' : sp (vs ++ []) H1 Q E := q
    rwa [List.append_nil] at q'
  have hl : (us ++ []).length = ps.length := by rw [List.append_nil, ← r.length]; exact F.len _ _ _ _ q
  have bb := hb s1 us I1.kIn hl
  rw [List.append_nil] at bb
  refine wpAny_call (codeAny_mono (F.run X.A X.stack s1 H1 ⟨us, []⟩ us vs Q E hgd hr I1.env0 bb r q) fun r s' hq => ?_)
  cases r with
  | error e => exact hx pins σ H1 s1 e s' I1 hq
  | ok fl =>
    cases fl with
    | ret u => exact I1.after hq
    | next => exact False.elim hq
    | brk => exact False.elim hq
    | cont => exact False.elim hq
end

/-! ### promises over data -/
/-- turns so far, data, what to do with the answer and the turns then, the exceptions let through -/
abbrev DFn := Int → List D → (D → Int → Prop) → (String → Prop) → Prop
def argsOk (b : Bool) (B : Int) (H : Hp) (S : Option StA) (vs ws : List V) : Prop :=
  match b with
  | true => ∃ s, S = some s ∧ vs = .ref s.a :: ws ∧ TurnLe H s B
  | false => S = none ∧ vs = ws
/-- a def of n data (b: the state of draws ahead of them) does T -/
def spD (K : PySem.W.Frag) (cls : String → Addr) (b : Bool) (n : Nat) (T : DFn) : Sp := fun vs H Q E => ∃ (B : Int) (S : Option StA) (G : Hp) (ws : List V) (ds : List D) (k : D → Int → Prop) (kx : String → Prop),
  argsOk b B H S vs ws ∧ ds.length = n ∧ RlB ⟨S, G, H⟩ G H ∧ DpAll K G ws ds ∧ T B ds k kx ∧
  (∀ v G' H' d B', RlB ⟨S, G, H⟩ G' H' → (∀ s, S = some s → TurnLe H' s B') → Dp K G' v d → k d B' → Q v H') ∧ (∀ c G' H', RlB ⟨S, G, H⟩ G' H' → kx c → E (.ref (cls c)) none H')
/-- the wish for exceptions is told by kx -/
def XOk (F : Fr) (cls : String → Addr) (kx : String → Prop) (E : XK) : Prop := ∀ c G' H', RlB F G' H' → kx c → E (.ref (cls c)) none H'
theorem XOk.none {F : Fr} {cls : String → Addr} : XOk F cls (fun _ => False) E0 := fun _ _ _ _ h => h
def initS (b : Bool) (B : Int) (ds : List D) (N : Nat) : List Sl := (if b then [Sl.st B] else []) ++ ds.map .val ++ List.replicate (N - (ds.length + if b then 1 else 0)) .no
def endB (b : Bool) (s : List Sl) (k : Int → Prop) : Prop :=
  match b with
  | true => match s[0]? with
    | some (Sl.st B) => ∃ B', B ≤ B' ∧ k B'
    | _ => False
  | false => k 0
/-- a body as a def -/
def den (b : Bool) (N : Nat) (Bd : (String → Prop) → DSt) : DFn := fun B ds k kx => Bd kx ⟨fun s => endB b s (k .none), fun d s => endB b s (k d), fun _ => False, fun _ => False⟩ (initS b B ds N)
theorem spD_len {K : PySem.W.Frag} {cls : String → Addr} {b : Bool} {n : Nat} {T : DFn} {vs : List V} {H : Hp} {Q : VK} {E : XK} (h : spD K cls b n T vs H Q E) : vs.length = n + if b then 1 else 0 := by
  obtain ⟨B, S, G, ws, ds, k, kx, a, l, r, d, _⟩ := h
  have e := dpAll_len d
  cases b with
  | true =>
    obtain ⟨s, _, rfl, _⟩ := a
    simp [e, l]
  | false =>
    obtain ⟨_, rfl⟩ := a
    simp [e, l]
theorem RlB.start {S : Option StA} {G H G' H' : Hp} {F : Fr} (r : RlB F G H) (hS : S = F.S ∨ S = none) : RlB ⟨S, G, H⟩ G H := by
  refine ⟨r.sub, Same.refl G, fun _ _ e _ => e, fun _ _ e => .inl e, fun s e => ?_⟩
  rcases hS with z | z
  · exact r.ste s (by rw [← z]; exact e)
  · rw [show S = none from z] at e
    cases e
theorem rl_start {K : PySem.W.Frag} {S : Option StA} {G H : Hp} {ws vs : List V} {ds : List D} {b : Bool} {B : Int} {N : List Str} (a : argsOk b B H S vs ws) (r : RlB ⟨S, G, H⟩ G H) (d : DpAll K G ws ds) (hN : vs.length ≤ N.length) :
    Rl K ⟨S, G, H⟩ G H (L2.start N vs) [] ⟨initS b B ds N.length, []⟩ := by
  have e := dpAll_len d
  have lv : vs.length = ds.length + if b then 1 else 0 := by
    cases b with
    | true => obtain ⟨s, _, rfl, _⟩ := a; simp [e]
    | false => obtain ⟨_, rfl⟩ := a; simp [e]
  have ll : (initS b B ds N.length).length = (L2.start N vs).length := by
    unfold initS L2.start
    have hN' := hN
    rw [lv] at hN'
    rw [List.length_append, List.length_append, List.length_append, List.length_map, List.length_map, List.length_replicate, List.length_replicate, lv]
    cases b
    · (try simp at *); (try omega)
    · (try simp at *); (try omega)
  have get : ∀ (i : Nat) (y : Sl), (initS b B ds N.length)[i]? = some y → y = .no ∨ (y = .st B ∧ i = 0 ∧ b = true) ∨ ∃ d, y = .val d ∧ ((b = true ∧ 0 < i ∧ ds[i - 1]? = some d) ∨ (b = false ∧ ds[i]? = some d)) := fun i y h => by
    unfold initS at h
    cases b with
    | true =>
      cases i with
      | zero => simp at h; exact .inr (.inl ⟨h.symm, rfl, rfl⟩)
      | succ i =>
        by_cases hi : i < ds.length
        · simp [List.getElem?_append_left, hi] at h
          exact .inr (.inr ⟨ds[i], h.symm, .inl ⟨rfl, by omega, by simp [hi]⟩⟩)
        · simp [List.getElem?_append_right, hi] at h
          rw [List.getElem?_append_right (by simp; omega), List.getElem?_replicate] at h
          split at h
          · cases h; exact .inl rfl
          · cases h
    | false =>
      by_cases hi : i < ds.length
      · simp [List.getElem?_append_left, hi] at h
        exact .inr (.inr ⟨ds[i], h.symm, .inr ⟨rfl, by simp [hi]⟩⟩)
      · simp only [Bool.false_eq_true, if_false, List.nil_append] at h
        rw [List.getElem?_append_right (by simp; omega), List.getElem?_replicate] at h
        split at h
        · cases h; exact .inl rfl
        · cases h
  have stg : ∀ (i : Nat) (v : V), vs[i]? = some v → (L2.start N vs)[i]? = some (some v) := fun i v h => by
    unfold L2.start
    have := (List.getElem?_eq_some_iff.mp h).1
    rw [List.getElem?_append_left (by simpa using this), List.getElem?_map, h]
    rfl
  refine ⟨⟨r, by simpa using ll, fun i x y e1 e2 => ?_, fun i j p o o' e1 e2 e3 e4 => ?_⟩, ll⟩
  all_goals simp only [List.map_nil, List.append_nil] at *
  · rcases get i y e2 with rfl | ⟨rfl, rfl, rfl⟩ | ⟨dd, rfl, h⟩
    · trivial
    · obtain ⟨s, hs, rfl, tl⟩ := a
      have := stg 0 (.ref s.a) rfl
      rw [this] at e1
      cases e1
      exact ⟨s, hs, rfl, tl⟩
    · rcases h with ⟨rfl, h0, h⟩ | ⟨rfl, h⟩
      · obtain ⟨s, hs, rfl, _⟩ := a
        obtain ⟨v, hv, dv⟩ := dpAll_get d _ _ h
        have := stg i v (by rw [show i = (i - 1) + 1 by omega]; simpa using hv)
        rw [this] at e1
        cases e1
        exact ⟨v, rfl, dv⟩
      · obtain ⟨_, rfl⟩ := a
        obtain ⟨v, hv, dv⟩ := dpAll_get d _ _ h
        rw [stg i v hv] at e1
        cases e1
        exact ⟨v, rfl, dv⟩
  · rcases get i _ e3 with z | ⟨z, _⟩ | ⟨_, z, _⟩ <;> cases z

/-- THE RULE: a def does what its body's denotation says -/
theorem fnD {P : Program} {w : World} {K : PySem.W.Frag} {mg : Str → Option Value} {base : Heap} {cls : String → Addr} {x qual : Str} {params : Arguments} {body : List Stmt} {scope : Scope} {dvs : List V} {kws : List (Str × V)} {f : Addr} {fd : FuncData} {N ps : List Str} {k n : Nat} {b : Bool} {T : DFn}
    (F : FunD K x qual params body scope dvs kws f fd) (S : FnScope N ps scope) (hp : ps.length = n + if b then 1 else 0) (Bd : (String → Prop) → DSt) (hT : ∀ B ds k kx, ds.length = n → T B ds k kx → den b N.length Bd B ds k kx)
    (hbody : ∀ (cdv : Value) (A : Around) (outer : List Env) (s : Shared) (H : Hp) (E : XK), Room k (A.deeper (PyProof.Rows.envOfC qual scope s.heap.objs.size f cdv)) → (A.deeper (PyProof.Rows.envOfC qual scope s.heap.objs.size f cdv)).guards = some [] →
      ∃ t, PSs (cxOf (L2.CX P w) P w K mg base N qual scope f cdv A outer s H E) body t ∧ ∀ Fr kx, XOk Fr cls kx E → DRs K Fr t (Bd kx)) : FnG P w K mg base (k + 1) f fd ps (spD K cls b n T) := by
  refine fnG_of F S (fun vs H Q E h => by rw [spD_len h, hp]) fun cdv A outer s H vs Q E hr hg h => ?_
  obtain ⟨t, ht, hd⟩ := hbody cdv A outer s H E hr hg
  have hlen := spD_len h
  obtain ⟨B, S', G, ws, ds, kk, kx, a, l, r, d, t0, hk, hx⟩ := h
  have fin : ∀ (v : V) (d : D) (G1 H1 : Hp) (σ : L2.St) (sl : List Sl), Rl K ⟨S', G, H⟩ G1 H1 σ [] ⟨sl, []⟩ → Dp K G1 v d → endB b sl (kk d) → Q v H1 := fun v d G1 H1 σ sl r1 dv z => by
    cases b with
    | false =>
      obtain ⟨hS, _⟩ := a
      exact hk v G1 H1 d 0 r1.r.b (fun s e => by rw [hS] at e; cases e) dv z
    | true =>
      obtain ⟨s0, hs, _⟩ := a
      unfold endB at z
      simp only at z
      split at z
      · rename_i B1 e0
        obtain ⟨B', hle, z⟩ := z
        have hi := (List.getElem?_eq_some_iff.mp e0).1
        obtain ⟨x, ex, s1, hs1, hx1, tl⟩ := r1.r.at (i := 0) (y := .st B1) (by rw [List.getElem?_append_left hi]; exact e0)
        exact hk v G1 H1 d B' r1.r.b (fun s e => by rw [show S' = some s1 from hs1] at e; cases e; obtain ⟨u1, u2, u3, u4, u5⟩ := tl; exact ⟨u1, u2, u3, u4, Int.le_trans u5 hle⟩) dv z
      · exact z.elim
  refine ⟨t, ht, hd ⟨S', G, H⟩ kx (fun c G' H' rb z => hx c G' H' rb z) G H _ _ _ _ (rl_start a r d ?_) (hT B ds kk kx l t0) ⟨fun G1 H1 σ s _ r1 z => fin .non .none G1 H1 σ s r1 .non z, fun G1 H1 σ v d s _ r1 dv z => fin v d G1 H1 σ s r1 dv z, fun _ _ _ _ _ _ z => z.elim, fun _ _ _ _ _ _ z => z.elim⟩⟩
  have := congrArg List.length S.pre
  rw [List.length_take] at this
  omega

/-! ### calls -/
def stAll (B : Int) (l : List Sl) : List Sl := l.map (mapSt fun _ => B)
def dCall (n : Nat) (T : DFn) (kx : String → Prop) (Ta : DTA) : DT := fun e k => Ta e fun rs e1 => fzs e1 rs fun ds e2 => ds.length = n ∧ T 0 ds (fun d _ => k (.d d) (cut e2 e.t.length)) kx
/-- the first argument is the state, in slot i -/
def dCallS (i n : Nat) (T : DFn) (kx : String → Prop) (Ta : DTA) : DT := fun e k => match e.s[i]? with
  | some (.st _) => Ta e fun rs e1 => fzs e1 rs fun ds e2 => match e2.s[i]? with
    | some (.st B) => ds.length = n ∧ T B ds (fun d B' => k (.d d) ⟨stAll B' e2.s, stAll B' (e2.t.take e.t.length)⟩) kx
    | _ => False
  | _ => False
section
variable {K : PySem.W.Frag} {F : Fr} {cls : String → Addr} {kx : String → Prop} {E : XK} {T : DFn} {n : Nat} {ta : TA} {Ta : DTA}
theorem dr_call (hE : XOk F cls kx E) (h : DRA K F ta Ta) : DR K F (tCall (spD K cls false n T) [] E ta) (dCall n T kx Ta) := fun G H σ τ e k Q r t q => by
  have hl := r.tl
  refine h G H σ τ e _ _ r t fun vs G1 H1 τ1 e1 rs s1 h1 i1 t1 => ?_
  obtain ⟨G2, e2, ds, s2, h2, da, t3, t2⟩ := fzs_ok h1 i1 t1
  rw [List.append_nil]
  refine ⟨0, none, G2, vs, ds, _, kx, ⟨rfl, rfl⟩, t3, (h2.r.b).start (G' := G2) (H' := H1) (.inr rfl), da, t2, fun v G3 H3 d B' c _ dv kd => ?_, fun c G3 H3 cb z => ?_⟩
  · have st := h2.r.b.callN c
    exact q v G3 H3 [] _ (.d d) ((s1.trans s2).trans st.g) (by rw [List.append_nil]; exact (h2.cut' hl).step st) dv kd
  · exact hE c G3 H3 (h2.r.b.call (.inr rfl) cb).b z
theorem dr_callS {i : Nat} (hE : XOk F cls kx E) (h : DRA K F ta Ta) : DR K F (tCall (spD K cls true n T) [] E (tCons (tVar i) ta)) (dCallS i n T kx Ta) := fun G H σ τ e k Q r t q => by
  have hl := r.tl
  unfold dCallS at t
  split at t
  · rename_i B0 es
    have ls := r.ls
    have li := (List.getElem?_eq_some_iff.mp es).1
    obtain ⟨x, ex, s, hs, hx, _⟩ := r.r.at (i := i) (y := .st B0) (by rw [List.getElem?_append_left li]; exact es)
    rw [List.getElem?_append_left (by omega)] at ex
    refine ⟨.ref s.a, by rw [ex, hx], ?_⟩
    refine h G H σ τ e _ _ r t fun vs G1 H1 τ1 e1 rs s1 h1 i1 t1 => ?_
    obtain ⟨G2, e2, ds, s2, h2, da, t2⟩ := fzs_ok h1 i1 t1
    rw [List.append_nil]
    split at t2
    · rename_i B es2
      have li2 := (List.getElem?_eq_some_iff.mp es2).1
      obtain ⟨t3, t2⟩ := t2
      obtain ⟨x2, ex2, s', hs', hx2, tl⟩ := h2.r.at (i := i) (y := .st B) (by rw [List.getElem?_append_left li2]; exact es2)
      rw [hs] at hs'
      cases hs'
      refine ⟨B, F.S, G2, vs, ds, _, kx, ⟨s, hs, rfl, tl⟩, t3, (h2.r.b).start (G' := G2) (H' := H1) (.inl rfl), da, t2, fun v G3 H3 d B' c tl' dv kd => ?_, fun c G3 H3 cb z => ?_⟩
      · have st := h2.r.b.call (.inl rfl) c
        have hc := h2.cut' hl
        refine q v G3 H3 [] _ (.d d) ((s1.trans s2).trans st.g) ?_ dv kd
        rw [List.append_nil]
        refine ⟨?_, by show (List.map _ _).length = _; rw [List.length_map]; exact hc.ls⟩
        have z := hc.r.step0 st (m := fun _ => B') fun s1 _ e1 _ => tl' s1 e1
        rw [List.map_append] at z
        exact z
      · exact hE c G3 H3 (h2.r.b.call (.inl rfl) cb).b z
    · exact t2.elim
  · exact t.elim
/-! raise -/
def dRaise (kx : String → Prop) (c : String) : DSt := fun _ _ => kx c
theorem drs_raise {c : String} (hE : XOk F cls kx E) : DRs K F (fun _ σ H => E (.ref (cls c)) none H) (dRaise kx c) := fun G H σ s A EE r t q => hE c G H r.r.b t
/-! a target of any shape -/
def dAsg (tg : DTg) (T : DT) : DSt := fun A s => T ⟨s, []⟩ fun r e1 => fz e1 r fun d e2 => tg d e2.s A.nx
theorem drs_asg {te : TE} {Te : DT} {g : TG} {tg : DTg} (h : DR K F te Te) (hg : DRg K g tg) : DRs K F (tAsg te g) (dAsg tg Te) := fun G H σ s A E r t q => by
  refine h G H σ [] _ _ _ r t fun v G1 H1 τ1 e1 r1 s1 h1 i1 t1 => ?_
  obtain ⟨G2, e2, d, s2, h2, i2, t2⟩ := fz_ok h1 i1 t1
  exact hg F G2 H1 σ e2.s v d _ _ h2.drop0 i2 t2 fun σ' s' r' f => q.nx G2 H1 σ' s' (s1.trans s2) r' f
end
end DL

/-! The state of draws: its numbers, its list of great ones, its cells. -/
namespace DL
open PySem PySem.Spec L2

theorem st_rest (s : StA) (r t : Int) : valV (stKvs s r t) (.inr "rest") = some (.int r) := by
  simp [valV, stKvs, show ("great" : Str) ≠ "rest" by decide, show ("cells" : Str) ≠ "rest" by decide]
theorem st_turn (s : StA) (r t : Int) : valV (stKvs s r t) (.inr "turn") = some (.int t) := by
  simp [valV, stKvs, show ("great" : Str) ≠ "turn" by decide, show ("cells" : Str) ≠ "turn" by decide, show ("rest" : Str) ≠ "turn" by decide]
theorem st_great (s : StA) (r t : Int) : valV (stKvs s r t) (.inr "great") = some (.ref s.g) := by
  simp [valV, stKvs]
theorem st_cells (s : StA) (r t : Int) : valV (stKvs s r t) (.inr "cells") = some (.ref s.c) := by
  simp [valV, stKvs, show ("great" : Str) ≠ "cells" by decide]
theorem put_rest (s : StA) (r t n : Int) : putK (stKvs s r t) (.inr "rest") (.int n) = stKvs s n t := by
  simp [putK, stKvs, show ("great" : Str) ≠ "rest" by decide, show ("cells" : Str) ≠ "rest" by decide, show ("turn" : Str) ≠ "rest" by decide]
theorem put_turn (s : StA) (r t n : Int) : putK (stKvs s r t) (.inr "turn") (.int n) = stKvs s r n := by
  simp [putK, stKvs, show ("great" : Str) ≠ "turn" by decide, show ("cells" : Str) ≠ "turn" by decide, show ("rest" : Str) ≠ "turn" by decide]

def dStInt (i : Nat) : DT := fun e k => match e.s[i]? with
  | some (.st _) => ∀ n : Int, k (.d (.int n)) e
  | _ => False
def dStTurn (i : Nat) : DT := fun e k => match e.s[i]? with
  | some (.st B) => ∀ n : Int, 0 ≤ n → n ≤ B → k (.d (.int n)) e
  | _ => False
def dStPop (i : Nat) (T : DT) : DT := fun e k => match e.s[i]? with
  | some (.st _) => (∀ n : Int, k (.d (.int n)) e) ∧ T e k
  | _ => False
def dStCells (i : Nat) : DTI := fun e k => match e.s[i]? with
  | some (.st _) => ∀ ns : List Int, k (dInts ns) e
  | _ => False
def dStPut (i : Nat) (T : DT) : DSt := fun A s => T ⟨s, []⟩ fun r e1 => see e1 r fun d => match e1.s[i]? with
  | some (.st _) => match d with
    | .int _ => A.nx e1.s
    | _ => False
  | _ => False
def dStTurnPut (i : Nat) (T : DT) : DSt := fun A s => T ⟨s, []⟩ fun r e1 => see e1 r fun d => match e1.s[i]? with
  | some (.st _) => match d with
    | .int n => 0 ≤ n ∧ A.nx (stAll n e1.s)
    | _ => False
  | _ => False

mutual
theorem lay_all : ∀ ns : List Int, PyData.canLayAll0 (dInts ns) = true
  | [] => rfl
  | n :: ns => by
    show (PyData.canLay0 (.int n) && PyData.canLayAll0 (dInts ns)) = true
    rw [lay_all ns]
    rfl
end
theorem depth_ints : ∀ ns : List Int, PyData.depthAll (dInts ns) ≤ 1
  | [] => by show PyData.depthAll [] ≤ 1; simp [PyData.depthAll]
  | n :: ns => by
    have := depth_ints ns
    show PyData.depthAll (.int n :: dInts ns) ≤ 1
    simp only [PyData.depthAll, PyData.depth]
    omega
theorem shaped_ints (ns : List Int) : SeqAt.shaped (.list (dInts ns)) = true := by
  have h := depth_ints ns
  show (PyData.canLay0 (.list (dInts ns)) && decide (PyData.depth (.list (dInts ns)) ≤ 64)) = true
  rw [Bool.and_eq_true]
  exact ⟨by simp only [PyData.canLay0]; exact lay_all ns, decide_eq_true (by simp only [PyData.depth]; omega)⟩

section
variable {K : PySem.W.Frag} {F : Fr} {G H : Hp} {σ : L2.St} {τ : List V} {e : Sg} {te tv : TE} {Te Tv : DT}
theorem Rl.stAt (r : Rl K F G H σ τ e) {i : Nat} {B : Int} (q : e.s[i]? = some (.st B)) : ∃ s, F.S = some s ∧ σ[i]? = some (some (.ref s.a)) ∧ StOk H s ∧ TurnLe H s B ∧ G s.a = none ∧ G s.g = none ∧ ∃ ce : List Int, G s.c = some (.lst (ce.map V.int)) := by
  have l := r.ls
  have hi := (List.getElem?_eq_some_iff.mp q).1
  obtain ⟨x, ex, s, hs, hx, tl⟩ := r.r.at (i := i) (y := .st B) (by rw [List.getElem?_append_left hi]; exact q)
  rw [List.getElem?_append_left (by omega)] at ex
  obtain ⟨a, b, c, d⟩ := r.r.b.ste s hs
  exact ⟨s, hs, by rw [ex, hx], a, tl, b, c, d⟩
theorem mapSt_id : ∀ l : List Sl, l.map (mapSt fun B => B) = l
  | [] => rfl
  | y :: l => by
    rw [List.map_cons, mapSt_id l]
    cases y <;> rfl
/-- the state's own objects may be written -/
theorem Rl.wrSt (r : Rl K F G H σ τ e) {s : StA} (hs : F.S = some s) {p : Addr} (hp : p = s.a ∨ p = s.g) {o : HO} (ok : StOk (upd H p o) s) {m : Int → Int} (hm : ∀ B, TurnLe H s B → TurnLe (upd H p o) s (m B)) : Rl K F G (upd H p o) σ τ ⟨e.s.map (mapSt m), e.t.map (mapSt m)⟩ := by
  obtain ⟨_, ga, gg, gc⟩ := r.r.b.ste s hs
  have gp : G p = none := by rcases hp with rfl | rfl <;> assumption
  have np : ∀ b, NotSt F.S b → b ≠ p := fun b n => by
    rcases hp with rfl | rfl
    · exact (n s hs).1
    · exact (n s hs).2
  have st : Step0 F G H G (upd H p o) := by
    refine ⟨Same.refl G, ⟨fun b x h => ?_, r.r.b.mono, fun b x h n => ?_, r.r.b.grow, fun s' hs' => ?_⟩, fun q x e mq => ?_⟩
    · rw [upd_ne (ne_of_none h gp)]
      exact r.r.b.sub b x h
    · rw [upd_ne (np b n)]
      exact r.r.b.keep b x h n
    · rw [hs] at hs'
      cases hs'
      exact ⟨ok, ga, gg, gc⟩
    · rw [upd_ne (np q mq.s)]
      exact ⟨e, mq.g⟩
  refine ⟨?_, by show (List.map _ _).length = _; rw [List.length_map]; exact r.ls⟩
  have z := r.r.step0 st (m := m) fun s' B e1 tl => by
    rw [hs] at e1
    cases e1
    exact hm B tl
  rw [List.map_append] at z
  exact z
theorem Rl.wrSt1 (r : Rl K F G H σ τ e) {s : StA} (hs : F.S = some s) {p : Addr} (hp : p = s.a ∨ p = s.g) {o : HO} (ok : StOk (upd H p o) s) (hm : ∀ B, TurnLe H s B → TurnLe (upd H p o) s B) : Rl K F G (upd H p o) σ τ e := by
  have z := r.wrSt hs hp ok (m := fun B => B) hm
  rw [mapSt_id, mapSt_id] at z
  exact z
theorem kvs_inj {s : StA} {r t r' t' : Int} (h : HO.dK (stKvs s r t) = HO.dK (stKvs s r' t')) : t = t' := by
  simp [stKvs] at h
  exact h.2
theorem dr_stRest {i : Nat} : DR K F (tDGet (tVar i) (tC (.str "rest"))) (dStInt i) := fun G H σ τ e k Q r t q => by
  unfold dStInt at t
  split at t
  · rename_i B es
    obtain ⟨s, hs, hσ, ⟨gr, rr, tt, h1, h2⟩, _⟩ := r.stAt es
    refine ⟨_, hσ, s.a, .int rr, rfl, ?_, q _ G H [] e (.d (.int rr)) (Same.refl G) (by rw [List.append_nil]; exact r) (Dp.int rr) (t rr)⟩
    have := DGet.k (k := .inr "rest") h1
    rwa [st_rest] at this
  · exact t.elim
theorem dr_stTurn {i : Nat} : DR K F (tDGet (tVar i) (tC (.str "turn"))) (dStTurn i) := fun G H σ τ e k Q r t q => by
  unfold dStTurn at t
  split at t
  · rename_i B es
    obtain ⟨s, hs, hσ, ⟨gr, rr, tt, h1, h2⟩, ⟨r1, t1, k1, k2, k3⟩, _⟩ := r.stAt es
    have et : t1 = tt := kvs_inj (Option.some.inj (k1.symm.trans h1))
    subst et
    refine ⟨_, hσ, s.a, .int t1, rfl, ?_, q _ G H [] e (.d (.int t1)) (Same.refl G) (by rw [List.append_nil]; exact r) (Dp.int t1) (t t1 k2 k3)⟩
    have := DGet.k (k := .inr "turn") h1
    rwa [st_turn] at this
  · exact t.elim
theorem drs_stRest {i : Nat} (h : DR K F tv Tv) : DRs K F (sDPut (tVar i) (tC (.str "rest")) tv) (dStPut i Tv) := fun G H σ s A E r t q => by
  refine h G H σ [] _ _ _ r t fun v G1 H1 τ1 e1 r1 s1 h1 i1 t1 => ?_
  obtain ⟨d, sx, t2⟩ := see_ok h1 i1 t1
  split at t2
  · rename_i B est
    split at t2
    · rename_i n
      obtain ⟨sa, hs, hσ, ⟨gr, rr, tt, k1, k2⟩, _⟩ := h1.stAt est
      cases sx.int
      refine ⟨_, hσ, sa.a, _, rfl, DPut.k (k := .inr "rest") k1 (by show 4 < sizeLine; decide), ?_⟩
      rw [put_rest]
      have ne : sa.g ≠ sa.a := ne_of k2 k1 (by intro z; cases z)
      refine q.nx G1 _ σ e1.s s1 (h1.drop0.wrSt1 hs (.inl rfl) ⟨gr, n, tt, upd_same, by rw [upd_ne ne]; exact k2⟩ fun B ⟨r1, t1, a1, a2, a3⟩ => ?_) t2
      have et : t1 = tt := kvs_inj (Option.some.inj (a1.symm.trans k1))
      subst et
      exact ⟨n, t1, upd_same, a2, a3⟩
    · exact t2.elim
  · exact t2.elim
theorem drs_stTurn {i : Nat} (h : DR K F tv Tv) : DRs K F (sDPut (tVar i) (tC (.str "turn")) tv) (dStTurnPut i Tv) := fun G H σ s A E r t q => by
  refine h G H σ [] _ _ _ r t fun v G1 H1 τ1 e1 r1 s1 h1 i1 t1 => ?_
  obtain ⟨d, sx, t2⟩ := see_ok h1 i1 t1
  split at t2
  · rename_i B est
    split at t2
    · rename_i n
      obtain ⟨sa, hs, hσ, ⟨gr, rr, tt, k1, k2⟩, _⟩ := h1.stAt est
      cases sx.int
      refine ⟨_, hσ, sa.a, _, rfl, DPut.k (k := .inr "turn") k1 (by show 4 < sizeLine; decide), ?_⟩
      rw [put_turn]
      have ne : sa.g ≠ sa.a := ne_of k2 k1 (by intro z; cases z)
      have z := h1.drop0.wrSt (m := fun _ => n) hs (.inl rfl) (o := .dK (stKvs sa rr n)) ⟨gr, rr, n, upd_same, by rw [upd_ne ne]; exact k2⟩ fun B _ => ⟨rr, n, upd_same, t2.1, Int.le_refl n⟩
      exact q.nx G1 _ σ _ s1 z t2.2
    · exact t2.elim
  · exact t2.elim
theorem dri_stCells {i : Nat} : DRi K F (iSeq K (tDGet (tVar i) (tC (.str "cells")))) (dStCells i) := fun G H σ τ e k Q r t q => by
  unfold dStCells at t
  split at t
  · rename_i B es
    obtain ⟨s, hs, hσ, ⟨gr, rr, tt, h1, h2⟩, _, _, _, ce, h3⟩ := r.stAt es
    have g := DGet.k (k := .inr "cells") h1
    rw [st_cells] at g
    have rd : Rd G s.c (.lst (ce.map V.int)) := .inl h3
    exact ⟨_, hσ, s.a, _, rfl, g, s.c, rfl, .inl ⟨⟨_, .inl (rd_mono r.r.b.sub rd)⟩, q _ G H [] e (dInts ce) (Same.refl G) (by rw [List.append_nil]; exact r) (it_list rd (dpAll_of_ints ce)) (t ce)⟩⟩
  · exact t.elim
/-- len(script) -/
def dLenScr (i : Nat) : DT := fun e k => match e.s[i]? with
  | some (.scr n) => k (.d (.int (n : Int))) e
  | _ => False
theorem dr_lenScr {i : Nat} : DR K F (tCB (rLenD K) (tCons (tVar i) tNil)) (dLenScr i) := fun G H σ τ e k Q r t q => by
  unfold dLenScr at t
  split at t
  · rename_i n eq
    have l := r.ls
    have hi := (List.getElem?_eq_some_iff.mp eq).1
    obtain ⟨x, ex, a, xs, rfl, h, hl⟩ := r.r.at (i := i) (y := .scr n) (by rw [List.getElem?_append_left hi]; exact eq)
    rw [List.getElem?_append_left (by omega)] at ex
    exact ⟨_, ex, _, n, rfl, .inl ⟨_, r.r.b.sub.seq h, by rw [List.length_map]; exact hl.symm⟩, q _ G H [] e (.d (.int n)) (Same.refl G) (by rw [List.append_nil]; exact r) (Dp.int n) t⟩
  · exact t.elim
/-- state['great'].pop(0) if state['great'] != [] else .. -/
theorem dr_stPop {i : Nat} (h : DR K F te Te) : DR K F (tIf (tTest (tOp (rNeD K) (tDGet (tVar i) (tC (.str "great"))) (tLst tNil))) (tBM K "list" rPopAt (tDGet (tVar i) (tC (.str "great"))) (tCons (tC (.int 0)) tNil)) te) (dStPop i Te) := fun G H σ τ e k Q r t q => by
  unfold dStPop at t
  split at t
  case h_2 => exact t.elim
  rename_i B es
  obtain ⟨t2, t3⟩ := t
  obtain ⟨s, hs, hσ, ⟨gr, rr, tt, h1, h2⟩, _, ga, gg, ce, h3⟩ := r.stAt es
  have g := DGet.k (k := .inr "great") h1
  rw [st_great] at g
  have dg : ∀ {H' : Hp}, Same H H' → L2.Dp K H' (.ref s.g) (.list (dInts gr)) := fun {H'} sm => toDp _ _ (.lst (.inl (sm _ _ h2)) (dpAll_of_ints gr))
  refine ⟨_, hσ, s.a, _, rfl, g, Nat.zero_le _, fun p hp => ?_⟩
  have st := r.r.b.newH (o := .lst []) hp
  have smH : Same H (upd H p (.lst [])) := same_upd hp
  have r1 : Rl K F G (upd H p (.lst [])) σ τ e := r.step st
  refine ⟨.list (dInts gr), .list [], dg smH, toDp _ _ (.lst (.inl upd_same) .nil), shaped_ints gr, shaped_ints [], _, rfl, ?_⟩
  cases gr with
  | nil =>
    have : (!(PyData.list (dInts [])).eqv (.list [])) = false := by simp [dInts, PyData.eqv, PyData.eqvAll]
    rw [this]
    exact h G _ σ τ e k Q r1 t3 q
  | cons n ns =>
    have : (!(PyData.list (dInts (n :: ns))).eqv (.list [])) = true := by simp [dInts, PyData.eqv, PyData.eqvAll]
    rw [this]
    have g' : DGet (upd H p (.lst [])) s.a (.str "great") (some (.ref s.g)) := by
      have z := DGet.k (k := .inr "great") (smH _ _ h1)
      rwa [st_great] at z
    refine ⟨_, hσ, s.a, _, rfl, g', .inl ⟨rfl, _, .inl (.inl (smH _ _ h2))⟩, s.g, _, 0, 0, .int n, rfl, rfl, smH _ _ h2, by decide, by decide, ?_, rfl, ?_⟩
    · simp [seqIndex?]
    · have ne : s.a ≠ s.g := ne_of h1 h2 (by intro z; cases z)
      refine q _ G _ [] e (.d (.int n)) (Same.refl G) ?_ (Dp.int n) (t2 n)
      rw [List.append_nil]
      exact r1.wrSt1 hs (.inr rfl) ⟨ns, rr, tt, by rw [upd_ne ne]; exact smH _ _ h1, upd_same⟩ fun B tl => tl.at (upd_ne ne)
end
end DL

/-! Names for the single readings; how the state begins; the law's own end. -/
namespace DL
open PySem PySem.Spec L2

section
variable {X : Cx}
abbrev rSubD : R2 := rI0 fun i j => .int (i - j)
abbrev rDivD : R2 := rI CDiv fun i j => .int (i / j)
abbrev rModD : R2 := rI (fun _ j => 0 < j) fun i j => .int (i % j)
abbrev rPowD : R2 := rI CPow fun i j => .int (i ^ j.toNat)
abbrev rLtD : R2 := rI0 fun i j => .bl (decide (i < j))
abbrev rLeD : R2 := rI0 fun i j => .bl (decide (i ≤ j))
abbrev rGtD : R2 := rI0 fun i j => .bl (decide (j < i))
abbrev rGeD : R2 := rI0 fun i j => .bl (decide (j ≤ i))
theorem call_absD : CallR X (.builtin "abs") rAbs := call_abs
theorem call_intD : CallR X (.type "int") rInt1 := call_int1
theorem call_listD : CallR X (.type "list") (rListOf X.K) := call_list_of
theorem call_tupleD : CallR X (.type "tuple") (rTupOf X.K) := call_tuple_of
end

def dSeqScr (i : Nat) : DTI := fun e k => match e.s[i]? with
  | some (.scr n) => ∀ ns : List Int, ns.length = n → k (dInts ns) e
  | _ => False
theorem it_sq {K : PySem.W.Frag} {G : Hp} {a : Addr} {vs : List V} {xs : List D} (h : SqL K G a vs) (d : DpAll K G vs xs) : ItOk K G (Itl K a) xs := fun F G1 H r s i => by
  have hs : SqL K H a vs := (s.trans r.sub).seq h
  refine ⟨fun y e => ?_, fun hi => ⟨vs, hs, by rw [dpAll_len d]; exact hi⟩⟩
  obtain ⟨v, hv, dv⟩ := dpAll_get d i y e
  refine ⟨⟨vs, v, hs, hv⟩, fun x H2 ⟨e2, q⟩ => ?_⟩
  subst e2
  rw [q vs hs] at hv
  cases hv
  exact ⟨G1, Step.refl r, dp_mono s _ _ dv⟩
theorem dri_scr {K : PySem.W.Frag} {F : Fr} {i : Nat} : DRi K F (iSeq K (tVar i)) (dSeqScr i) := fun G H σ τ e k Q r t q => by
  unfold dSeqScr at t
  split at t
  · rename_i n eq
    have l := r.ls
    have hi := (List.getElem?_eq_some_iff.mp eq).1
    obtain ⟨x, ex, a, ns, rfl, h, hl⟩ := r.r.at (i := i) (y := .scr n) (by rw [List.getElem?_append_left hi]; exact eq)
    rw [List.getElem?_append_left (by omega)] at ex
    exact ⟨_, ex, a, rfl, .inl ⟨⟨_, r.r.b.sub.seq h⟩, q _ G H [] e _ (Same.refl G) (by rw [List.append_nil]; exact r) (it_sq h (dpAll_of_ints ns)) (t ns hl)⟩⟩
  · exact t.elim
/-- [abs(cell) - 10 ** 18 for cell in script if abs(cell) >= 10 ** 18], cell in slot 2 -/
def tBig (K : PySem.W.Frag) : TE := tLc (iSeq K (tVar 0)) (gName 2) (tTest (tOp rGeD (tCB rAbs (tCons (tVar 2) tNil)) (tOp rPowD (tC (.int 10)) (tC (.int 18))))) (tOp rSubD (tCB rAbs (tCons (tVar 2) tNil)) (tOp rPowD (tC (.int 10)) (tC (.int 18)))) [2]
def tCel (K : PySem.W.Frag) : TE := tLc (iSeq K (tVar 0)) (gName 2) tYes (tCB rAbs (tCons (tVar 2) tNil)) [2]
def dBig : DT := dLc (dSeqScr 0) (dName 2) (dTest (dOp (cD gGe) (dCB fAbs (dCons (dVar 2) dNil)) (dOp fPow (dC (.int 10)) (dC (.int 18))))) (dOp fSub (dCB fAbs (dCons (dVar 2) dNil)) (dOp fPow (dC (.int 10)) (dC (.int 18)))) [2]
def dCel : DT := dLc (dSeqScr 0) (dName 2) dYes (dCB fAbs (dCons (dVar 2) dNil)) [2]
def tBegun (K : PySem.W.Frag) : TS := tSeq (tAsg (tBig K) (gName 1)) (tRet (tDisp [(tC (.str "great"), tVar 1), (tC (.str "cells"), tCel K), (tC (.str "rest"), tC (.int 0)), (tC (.str "turn"), tC (.int 0))]))

def spBegun (K : PySem.W.Frag) : Sp := fun vs H Q _ => ∃ (a : Addr) (ns : List Int), vs = [.ref a] ∧ SqL K H a (ns.map V.int) ∧ ns.length < sizeLine ∧
  ∀ (s : StA) (G' H' : Hp), RlB ⟨none, H, H⟩ G' H' → StOk H' s → TurnLe H' s 0 → H s.a = none → H s.g = none → G' s.a = none → G' s.g = none → (∃ ce : List Int, G' s.c = some (.lst (ce.map V.int))) → Q (.ref s.a) H'

section
variable {K : PySem.W.Frag} {F : Fr}
theorem dr_big : DR K F (tBig K) dBig :=
  dr_lc (dri_scr) drg_name (blk_name (by simp)) (fun F => drt_test (dr_op cm_ge.op (dr_cb ca_abs (dra_cons (dr_var 2) dra_nil)) (dr_op od_pow dr_int dr_int)))
    fun F => dr_op od_sub (dr_cb ca_abs (dra_cons (dr_var 2) dra_nil)) (dr_op od_pow dr_int dr_int)
theorem dr_cel : DR K F (tCel K) dCel :=
  dr_lc (dri_scr) drg_name (blk_name (by simp)) (fun F => drt_yes) fun F => dr_cb ca_abs (dra_cons (dr_var 2) dra_nil)

theorem big_go (x : Sl) (y : Sl) (k : List D → List Sl → Prop) (hk : ∀ gs : List Int, k (dInts gs) [x, y, .no]) : ∀ (ns as : List Int),
    lcGo (dName 2) (dTest (dOp (cD gGe) (dCB fAbs (dCons (dVar 2) dNil)) (dOp fPow (dC (.int 10)) (dC (.int 18))))) (dOp fSub (dCB fAbs (dCons (dVar 2) dNil)) (dOp fPow (dC (.int 10)) (dC (.int 18)))) [2] (dInts ns) (dInts as) [x, y, .no] k
  | [], as => hk as
  | n :: ns, as => by
    show lcGo _ _ _ [2] (.int n :: dInts ns) _ _ k
    have p1 : (10 : Int).natAbs < 2 ^ 64 := by decide
    have e1 : ∀ m : Int, dInts as ++ [PyData.int m] = dInts (as ++ [m]) := fun m => by simp [dInts]
    simp only [lcGo, dName, dTest, dOp, dCB, dCons, dNil, dVar, dC, cD, gGe, fAbs, fPow, fSub, put, cut, see, sees, look, fz, wipeS, List.set_cons_succ, List.set_cons_zero, List.getElem?_cons_succ, List.getElem?_cons_zero, List.take_nil, List.length_nil, e1]
    refine ⟨⟨by decide, by decide, p1⟩, ?_⟩
    split
    · exact ⟨⟨by decide, by decide, p1⟩, big_go x y k hk ns _⟩
    · exact big_go x y k hk ns as
theorem cel_go (x : Sl) (y : Sl) (k : List D → List Sl → Prop) (hk : ∀ gs : List Int, k (dInts gs) [x, y, .no]) : ∀ (ns as : List Int),
    lcGo (dName 2) dYes (dCB fAbs (dCons (dVar 2) dNil)) [2] (dInts ns) (dInts as) [x, y, .no] k
  | [], as => hk as
  | n :: ns, as => by
    show lcGo _ _ _ [2] (.int n :: dInts ns) _ _ k
    have e1 : ∀ m : Int, dInts as ++ [PyData.int m] = dInts (as ++ [m]) := fun m => by simp [dInts]
    simp only [lcGo, dName, dYes, dCB, dCons, dNil, dVar, fAbs, put, cut, see, sees, look, fz, wipeS, List.set_cons_succ, List.set_cons_zero, List.getElem?_cons_succ, List.getElem?_cons_zero, List.take_nil, List.length_nil, e1, if_true]
    exact cel_go x y k hk ns _
theorem dInts_len (ns : List Int) : (dInts ns).length = ns.length := by simp [dInts]

theorem begun_ok {N : List Str} (hN : N.length = 3) (vs : List V) (H : Hp) (Q : VK) (E : XK) (h : spBegun K vs H Q E) : tBegun K { nx := fun _ H' => Q .non H', rt := Q } (start N vs) H := by
  obtain ⟨a, ns, rfl, hr, hl, q⟩ := h
  have b0 : RlB ⟨none, H, H⟩ H H := ⟨Same.refl H, Same.refl H, fun _ _ e _ => e, fun _ _ e => .inl e, fun s e => by cases e⟩
  have es : L2.start N [.ref a] = [some (.ref a), none, none] := by
    unfold L2.start
    rw [hN]
    rfl
  have r0 : Rl K ⟨none, H, H⟩ H H (start N [.ref a]) [] ⟨[.scr ns.length, .no, .no], []⟩ := by
    rw [es]
    refine ⟨⟨b0, rfl, fun i x y e1 e2 => ?_, fun i j p o o' e1 e2 e3 e4 => ?_⟩, rfl⟩
    · match i, e1, e2 with
      | 0, e1, e2 => cases e1; cases e2; exact ⟨a, ns, rfl, hr, rfl⟩
      | 1, e1, e2 => cases e1; cases e2; trivial
      | 2, e1, e2 => cases e1; cases e2; trivial
      | i + 3, e1, e2 => cases e1
    · match i, e3 with
      | 0, e3 => cases e3
      | 1, e3 => cases e3
      | 2, e3 => cases e3
      | i + 3, e3 => cases e3
  refine drs_set (i := 1) dr_big H H _ [.scr ns.length, .no, .no] ⟨fun s => ∃ gs : List Int, s = [.scr ns.length, .own (.lst (dInts gs)), .no], fun _ _ => False, fun _ => False, fun _ => False⟩ _ r0 ?_
    ⟨fun G H1 σ s sm r z => ?_, fun _ _ _ _ _ _ _ _ _ z => z.elim, fun _ _ _ _ _ _ z => z.elim, fun _ _ _ _ _ _ z => z.elim⟩
  · simp only [dSet, dBig, dLc, dSeqI, dVar, fz, List.getElem?_cons_zero]
    intro ms hm
    refine ⟨rfl, by rw [dInts_len, hm]; exact hl, big_go _ _ _ (fun gs => ?_) ms []⟩
    simp only [fzV, fill, List.getElem?_cons_zero, List.length_nil, List.take_nil, List.nil_append, List.set_cons_succ, List.set_cons_zero]
    exact ⟨gs, rfl⟩
  · obtain ⟨gs, rfl⟩ := z
    -- the dict, the list of cells
    intro p hp
    have st := r.r.b.newH (o := .dK []) hp
    have mp := r.r.b.isNew hp
    have r1 : Rl K ⟨none, H, H⟩ G (upd H1 p (.dK [])) σ [.ref p] ⟨[.scr ns.length, .own (.lst (dInts gs)), .no], [.own (.dic [])]⟩ := by
      refine ⟨?_, r.ls⟩
      have z := (r.step st).r.push (some (.ref p)) (.own (.dic [])) ⟨p, rfl, mp, [], upd_same, .nil⟩ fun q o e1 e2 j o' a b => by
        cases e1
        exact own_some r a b hp
      simpa using z
    obtain ⟨pg, eg, mg, vg, hg, dg⟩ := r1.ownAt (i := 1) (o := .lst (dInts gs)) rfl
    refine ⟨_, eg, ?_⟩
    simp only [tPairs, tC]
    refine dr_cel G _ σ [.ref p] ⟨[.scr ns.length, .own (.lst (dInts gs)), .no], [.own (.dic [])]⟩ (fun rr e' => ∃ ce : List Int, rr = .t 1 ∧ e' = ⟨[.scr ns.length, .own (.lst (dInts gs)), .no], [.own (.dic []), .own (.lst (dInts ce))]⟩) _ r1 ?_ fun v G2 H2 τ2 e2 rr sm2 r2 i2 z2 => ?_
    · simp only [dCel, dLc, dSeqI, dVar, fz, List.getElem?_cons_zero]
      intro ms hm
      refine ⟨rfl, by rw [dInts_len, hm]; exact hl, cel_go _ _ _ (fun ce => ?_) ms []⟩
      exact ⟨ce, rfl, rfl⟩
    · obtain ⟨ce, rfl, rfl⟩ := z2
      have tl := r2.tl
      match τ2, tl, r2, i2 with
      | [w], _, r2, i2 =>
        have ew : w = v := by
          have : ([V.ref p] ++ [w])[1]? = some v := i2
          simpa using this
        subst ew
        obtain ⟨p1, e1, m1, ws, hp1, kp⟩ := r2.slotT (e := ⟨_, [.own (.dic []), .own (.lst (dInts ce))]⟩) (j := 0) (y := .own (.dic [])) (v := .ref p) rfl rfl
        cases e1
        cases kp
        obtain ⟨c, e1, m2, vc, hc, dc⟩ := r2.slotT (e := ⟨_, [.own (.dic []), .own (.lst (dInts ce))]⟩) (j := 1) (y := .own (.lst (dInts ce))) (v := w) rfl rfl
        cases e1
        obtain ⟨pg', eg', mg', vg', hg', dg'⟩ := r2.ownAt (i := 1) (o := .lst (dInts gs)) rfl
        rw [eg] at eg'
        cases eg'
        have evc := dpAll_ints dc
        have evg := dpAll_ints dg'
        subst evc
        subst evg
        have npg : p ≠ pg := ne_of hp1 hg' (by intro z; cases z)
        have npc : p ≠ c := ne_of hp1 hc (by intro z; cases z)
        have ngc : pg ≠ c := fun z => by
          subst z
          have e2 : (σ ++ ([V.ref p] ++ [V.ref pg]).map some)[σ.length + 1]? = some (some (V.ref pg)) := by
            rw [List.getElem?_append_right (by omega), Nat.add_sub_cancel_left]
            rfl
          have l3 : σ.length = 3 := r.ls.symm
          have e3 : (σ ++ ([V.ref p] ++ [V.ref pg]).map some)[1]? = some (some (V.ref pg)) := by
            rw [List.getElem?_append_left (by omega)]
            exact eg
          have := r2.r.dis 1 (σ.length + 1) pg _ _ e3 e2 rfl (by rw [l3]; rfl)
          omega
        refine ⟨hp1, [(.inr "great", .ref pg), (.inr "cells", .ref c), (.inr "rest", .int 0), (.inr "turn", .int 0)], rfl, (by show 4 ≤ 15; decide), ?_⟩
        have em : mergeK [] [((.inr "great" : Key), V.ref pg), (.inr "cells", .ref c), (.inr "rest", .int 0), (.inr "turn", .int 0)] = stKvs ⟨p, pg, c⟩ 0 0 := by
          simp [mergeK, putK, stKvs, show ("great" : Str) ≠ "cells" by decide, show ("great" : Str) ≠ "rest" by decide, show ("great" : Str) ≠ "turn" by decide, show ("cells" : Str) ≠ "rest" by decide, show ("cells" : Str) ≠ "turn" by decide, show ("rest" : Str) ≠ "turn" by decide]
        rw [em]
        -- the cells are known from now on
        have b3 := (r2.r.b.wr (p := p) (o := .dK (stKvs ⟨p, pg, c⟩ 0 0)) m1).fz m2 (o := .lst (ce.map V.int)) (by rw [upd_ne npc.symm]; exact hc)
        exact q ⟨p, pg, c⟩ _ _ b3 ⟨gs, 0, 0, upd_same, by rw [upd_ne npg.symm]; exact hg'⟩ ⟨0, 0, upd_same, Int.le_refl 0, Int.le_refl 0⟩ m1.h mg'.h (by show upd G2 c _ p = none; rw [upd_ne npc]; exact m1.g) (by show upd G2 c _ pg = none; rw [upd_ne ngc]; exact mg'.g) ⟨ce, upd_same⟩

/-! ### the law -/
def spLaw (K : PySem.W.Frag) : Sp := fun vs H Q _ => ∃ (a : Addr) (ns : List Int), vs = [.ref a] ∧ SqL K H a (ns.map V.int) ∧ ns.length ≤ 63 ∧ ∀ H', Q (.bl true) H'
/-- the law's slots behind its first row: the script, the state in slot 1 -/
def lawS (n : Nat) (N : Nat) : List Sl := .scr n :: .st 0 :: List.replicate (N - 2) .no
theorem law_ok {N : List Str} (hN : 2 ≤ N.length) {E : XK} {u : TS} {U : DSt} (hu : ∀ Fr, DRs K Fr u U)
    (hU : ∀ n : Nat, n ≤ 63 → U ⟨fun _ => False, fun d _ => d = .bool true, fun _ => False, fun _ => False⟩ (lawS n N.length))
    (vs : List V) (H : Hp) (Q : VK) (E' : XK) (h : spLaw K vs H Q E') : tSeq (tAsg (tCall (spBegun K) [] E (tCons (tVar 0) tNil)) (gName 1)) u { nx := fun _ H' => Q .non H', rt := Q } (start N vs) H := by
  obtain ⟨a, ns, rfl, hr, hl, q⟩ := h
  have b0 : RlB ⟨none, H, H⟩ H H := ⟨Same.refl H, Same.refl H, fun _ _ e _ => e, fun _ _ e => .inl e, fun s e => by cases e⟩
  refine ⟨.ref a, ?_, ?_⟩
  · unfold L2.start
    rfl
  · refine ⟨a, ns, rfl, hr, Nat.lt_of_le_of_lt hl (by decide), fun s G1 H1 b1 ok tl0 n1 n2 g1 g2 g3 => ?_⟩
    have bF : RlB ⟨some s, H, H⟩ G1 H1 := ⟨b1.sub, b1.mono, fun b o e _ => b1.keep b o e (fun s z => by cases z), b1.grow, fun s' e => by cases e; exact ⟨ok, g1, g2, g3⟩⟩
    have r1 : Rl K ⟨some s, H, H⟩ G1 H1 ((start N [.ref a]).set 1 (some (.ref s.a))) [] ⟨lawS ns.length N.length, []⟩ := by
      have len0 : (start N [V.ref a]).length = N.length := by
        unfold L2.start
        simp
        omega
      have ll : (lawS ns.length N.length).length = N.length := by
        unfold lawS
        simp
        omega
      refine ⟨⟨bF, by simp [len0, ll], fun i x y e1 e2 => ?_, fun i j p o o' e1 e2 e3 e4 => ?_⟩, by simp [len0, ll]⟩
      all_goals simp only [List.map_nil, List.append_nil] at *
      · match i, e1, e2 with
        | 0, e1, e2 =>
          unfold L2.start at e1
          simp at e1
          simp [lawS] at e2
          subst e1
          subst e2
          exact ⟨a, ns, rfl, b1.mono.seq hr, rfl⟩
        | 1, e1, e2 =>
          rw [List.getElem?_set_self (by rw [len0]; omega)] at e1
          simp [lawS] at e2
          cases e1
          subst e2
          exact ⟨s, rfl, rfl, tl0⟩
        | i + 2, e1, e2 =>
          simp [lawS, List.getElem?_replicate] at e2
          rw [← e2.2]
          trivial
      · match i, e3 with
        | 0, e3 => simp [lawS] at e3
        | 1, e3 => simp [lawS] at e3
        | i + 2, e3 =>
          simp [lawS, List.getElem?_replicate] at e3
    exact hu _ G1 H1 _ _ _ _ r1 (hU ns.length hl) ⟨fun _ _ _ _ _ _ z => z.elim, fun G2 H2 _ v d _ _ _ dv z => by subst z; cases dv; exact q H2, fun _ _ _ _ _ _ z => z.elim, fun _ _ _ _ _ _ z => z.elim⟩
end
end DL

/-! The end of a row: a law whose def keeps spLaw holds. -/
namespace DL
open PySem PySem.Spec L2
open PyProof.Rows (IntsAre AllBare)

/-- the law's call, from the heap behind the top -/
theorem law_callG {P : Program} {w : World} {K : PySem.W.Frag} {mg mb : Str → Option Value} {k : Nat} {fa a : Addr} {fd : FuncData} {x : Str} {s₁ : Shared} {vs : List Value} {ns : List Int}
    (kin : K.In s₁.heap) (hns : s₁.heap.Ns mainGlobals mg) (hb : s₁.heap.Ns builtinsNs mb) (hbb : ∀ x : Str, x ≠ "__name__" → mb x = bootBuiltins x) (nolim : s₁.heap.NoLimit) (hg : s₁.gens = #[])
    (ha : s₁.heap.get? a = some { cls := .type "list", data := .seq vs.toArray }) (hi : IntsAre vs ns) (hl : ns.length ≤ 63) (hr : Room k callerA)
    (F : ∀ base : Heap, K.In base → base.Ns mainGlobals mg → FnG P w K mg base k fa fd [x] (spLaw K)) (hbind : ∀ (s : Shared) (u : Value), BindsTo s fd ⟨[u], []⟩ [(x, u)]) :
    codeAny (model P w) callerA (.call (.ref fa) ⟨[.ref a], []⟩) (fun r s' => r = .ok (.ret (.bool true)) ∧ OldK s₁.heap s'.heap ∧ s'.os = s₁.os ∧ AllBare s'.gens) s₁ := by
  have rv := vals_ints hi
  have lv := hi.length
  have hline : ns.length ≤ sizeLine := Nat.le_trans hl (by decide)
  -- H tracks the script alone, or nothing
  have core : ∀ H : Hp, (∀ b, H b = none ∨ ∃ o xs, H b = some (.frz o (.lst xs))) → SqL K H a (ns.map V.int) → HOk P w H s₁.heap → (∀ b, H b ≠ none → b = a) → (H a ≠ none → K.lookup a = none) →
      codeAny (model P w) callerA (.call (.ref fa) ⟨[.ref a], []⟩) (fun r s' => r = .ok (.ret (.bool true)) ∧ OldK s₁.heap s'.heap ∧ s'.os = s₁.os ∧ AllBare s'.gens) s₁ := by
    intro H only sq hok at_ free
    have dict : ∀ {b : Addr} {o : Obj} {es : Array DictEntry} {ep : Nat}, s₁.heap.get? b = some o → o.data = .dict es ep → H b = none := fun {b o es ep} e d => by
      cases q : H b with
      | none => rfl
      | some u =>
        have e' : b = a := at_ b (by rw [q]; exact fun z => by cases z)
        subst e'
        rw [ha] at e
        cases e
        have d' : Data.seq vs.toArray _ = Data.dict es ep := d
        cases d'
    have ns' : ∀ {b : Addr} {m : Str → Option Value}, s₁.heap.Ns b m → (hidT s₁.heap H).Ns b m := fun {b m} ⟨o, es, ep, e, d, r⟩ => ⟨o, es, ep, hidT_get e (dict e d), d, r⟩
    have kb : K.In (hidT s₁.heap H) := fun b o e => hidT_get (kin b o e) (by
      cases q : H b with
      | none => rfl
      | some u =>
        have e' : b = a := at_ b (by rw [q]; exact fun z => by cases z)
        subst e'
        rw [free (by rw [q]; exact fun z => by cases z)] at e
        cases e)
    have md : Mod K mg (hidT s₁.heap H) := ⟨kb, ns' hns, ⟨mb, ns' hb, hbb⟩, let ⟨mc, h1, h2⟩ := nolim; ⟨mc, ns' h1, h2⟩⟩
    have e0 : Env0 P w K mg (hidT s₁.heap H) callerA [] s₁ H := ⟨rfl, md, fun b o e => of_hidT e, Nat.le_of_eq (hidT_size _ _), trivial, fun b hb => absurd (show b ∈ ([] : List Addr) from hb) (by simp), hok, .of_eq hg⟩
    have sp : spLaw K [.ref a] H (fun v _ => v = .bl true) (fun _ _ _ => False) := ⟨a, ns, rfl, sq, hl, fun _ => rfl⟩
    refine codeAny_mono ((F _ kb (ns' hns)).run callerA [] s₁ H ⟨[.ref a], []⟩ [.ref a] [.ref a] _ _ rfl hr e0 (hbind s₁ (.ref a)) (.cons rfl .nil) sp) fun r s' h => ?_
    cases r with
    | error e =>
      obtain ⟨_, _, _, _, _, _, _, _, _, _, _, _, z⟩ := h
      exact z.elim
    | ok fl =>
      cases fl with
      | next => exact False.elim h
      | brk => exact False.elim h
      | cont => exact False.elim h
      | ret u =>
        obtain ⟨v, H', os, bare, un, hok', r', q⟩ := h
        have q' : v = .bl true := q
        subst q'
        obtain rfl : u = Value.bool true := r'
        refine ⟨rfl, OldK.of_keep fun b o e => ?_, os, bare⟩
        cases q : H b with
        | none => exact un.keep b o e q (by intro z; exact absurd (show b ∈ ([] : List Addr) from z) (by simp)) (by simp)
        | some u =>
          rcases only b with z | ⟨ob, xs, z⟩
          · rw [q] at z
            cases z
          · have z2 := un.frzs b ob _ z
            obtain ⟨e1, _⟩ := hok b _ z
            obtain ⟨e2, _⟩ := hok' b _ z2
            rw [e] at e1
            cases e1
            exact e2
  cases hk : K.lookup a with
  | some o =>
    have e := kin a o hk
    rw [ha] at e
    cases e
    refine core (fun _ => none) (fun _ => .inl rfl) (.inr ⟨_, vs.toArray, _, hk, rfl, rfl, rfl, by rw [List.size_toArray, lv]; exact hline, by simpa using rv⟩) (fun b u z => ?_) (fun b z => absurd rfl z) fun z => absurd rfl z
    have z' : (none : Option HO) = some u := z
    cases z'
  | none =>
    refine core (fun b => if b = a then some (.frz { cls := .type "list", data := .seq vs.toArray } (.lst (ns.map V.int))) else none) (fun b => ?_) (.inl (.inr ⟨{ cls := .type "list", data := .seq vs.toArray }, if_pos rfl⟩)) (fun b u z => ?_) (fun b z => ?_) fun _ => hk
    · by_cases hb : b = a
      · exact .inr ⟨_, _, if_pos hb⟩
      · exact .inl (if_neg hb)
    · by_cases hb : b = a
      · have z' := (if_pos hb).symm.trans z
        cases z'
        subst hb
        exact ⟨ha, by rw [List.length_map]; exact hline, vs, _, rv, ha⟩
      · have z' := (if_neg hb).symm.trans z
        cases z'
    · by_cases hb : b = a
      · exact hb
      · exact absurd (if_neg hb) z

theorem walkG {l : PySem.W.OpenLaw} {k : Nat} {q : Program} {loose : List Str} {XP : (Str → Option Value) → Heap → Prop} {YP : World → Heap → Prop} {d : DefRec} {x : Str}
    (hn : l.most = some 63) (hdf : d.params.defaults = []) (hr : Room k callerA)
    (F : ∀ (w : World) (mg : Str → Option Value) (fa : Addr) (h : Heap), YP w h → h.Ns mainGlobals mg → mg d.name = some (.ref fa) →
      ∃ (K : PySem.W.Frag) (fd : FuncData), K.In h ∧ (∀ (s : Shared) (u : Value), BindsTo s fd ⟨[u], []⟩ [(x, u)]) ∧ ∀ base : Heap, K.In base → base.Ns mainGlobals mg → FnG l.prog w K mg base k fa fd [x] (spLaw K)) :
    PySem.W.WalkO q loose XP YP l.row.toRowW d [] (fun f vs => PySem.call f vs) := by
  refine Att.attach_call hn hdf fun w s₀ s₁ mg mb fa o pm cd doc a vs ns G Y ho hd hcd hmg hobj hints hlen hg => ?_
  obtain ⟨K, fd, kin, hb, hF⟩ := F w mg fa _ Y G.T.g hmg
  exact law_callG kin G.T.g G.T.b G.T.builtins G.T.nolimit hg hobj hints hlen hr hF hb
end DL

/-! What the printed walks use: a def by its name, built-in names, an exception that is raised. -/
namespace DL
open PySem PySem.Spec L2

section
variable {P : Program} {w : World} {K : PySem.W.Frag} {mg : Str → Option Value} {base : Heap}
structure CalG (P : Program) (w : World) (K : PySem.W.Frag) (mg : Str → Option Value) (base : Heap) (k : Nat) (x : Str) (ps : List Str) (sp : Sp) : Prop where
  ex : ∃ f fd, mg x = some (.ref f) ∧ PySem.W.keepIn K (.ref f) = true ∧ Binds K fd ps [] ∧ FnG P w K mg base k f fd ps sp
theorem calG {k : Nat} {x : Str} {ps : List Str} {sp : Sp} {f : Addr} {fd : FuncData} (h : FnG P w K mg base k f fd ps sp) (a : mg x = some (.ref f)) (b : PySem.W.keepIn K (.ref f) = true) (c : Binds K fd ps []) : CalG P w K mg base k x ps sp := ⟨f, fd, a, b, c, h⟩
end
section
variable {X : Cx} {k j : Nat} {ps : List Str} {sp : Sp} {E : XK} {x : Str} {p pos : Pos} {e : Expr} {es : List Expr} {t : TA}
theorem pe_cg (c : CalG X.prog X.w X.K X.mg X.base k x ps sp) (hr : Room j X.A) (hk : k ≤ j) (hgd : X.A.guards = some []) (hg : Gl X x) (hx : Passes (L2.CX X.prog X.w) X E)
    (ha : PA X (e :: es) t) (hdb : (x == ("__debug__" : Str)) = false := by decide) (he : starEach (e :: es) X.env = (false, eval e X.env) :: starEach es X.env := by rfl) (hpl : (backTo pos (starEach es X.env)).any (·.1) = false := by rfl) :
    PE X (.Call (.Name x p) (e :: es) [] pos) (tCall sp [] E t) := by
  obtain ⟨f, fd, a, b, cc, h⟩ := c.ex
  exact pe_callG h hgd (hr.mono hk) hg a b cc hx ha hdb he hpl
structure XcF (K : PySem.W.Frag) (mg : Str → Option Value) (x : Str) (C : Addr) : Prop where
  q : PySem.W.excIn K C [.type "ValueError", .type "Exception", .type "BaseException", .type "object"] "ValueError.__new__" = true
  g : mg x = some (.ref C)
  k : PySem.W.keepIn K (.ref C) = true
  s : PySem.W.subIn K (.ref C) (.type "BaseException") = some true
  t : PySem.W.typeIn K (.ref C) = some (.type "type")
end
theorem u64 {k : Nat} {A : Around} (r : Room k A) : A.units + 64 < cLine := by have := r.un; omega
theorem u65 {k : Nat} {A : Around} (r : Room k A) : A.units + 65 < cLine := by have := r.un; omega
theorem bt_list : bootBuiltins "list" = some (.type "list") := by decide +kernel
theorem bt_tuple : bootBuiltins "tuple" = some (.type "tuple") := by decide +kernel
theorem bt_int : bootBuiltins "int" = some (.type "int") := by decide +kernel
theorem bt_str : bootBuiltins "str" = some (.type "str") := by decide +kernel
theorem bt_bool : bootBuiltins "bool" = some (.type "bool") := by decide +kernel
theorem bt_dict : bootBuiltins "dict" = some (.type "dict") := by decide +kernel
theorem bt_len : bootBuiltins "len" = some (.builtin "len") := by decide +kernel
theorem bt_max : bootBuiltins "max" = some (.builtin "max") := by decide +kernel
theorem bt_min : bootBuiltins "min" = some (.builtin "min") := by decide +kernel
theorem bt_sum : bootBuiltins "sum" = some (.builtin "sum") := by decide +kernel
theorem bt_sorted : bootBuiltins "sorted" = some (.builtin "sorted") := by decide +kernel
theorem bt_abs : bootBuiltins "abs" = some (.builtin "abs") := by decide +kernel
theorem bt_repr : bootBuiltins "repr" = some (.builtin "repr") := by decide +kernel
theorem bt_isi : bootBuiltins "isinstance" = some (.builtin "isinstance") := by decide +kernel

/-! ### the readings with K told -/
section
variable {X : Cx} {K : PySem.W.Frag}
theorem k_add (h : X.K = K) : OpR X (binaryOp .Add) (rAddD K) := h ▸ op_addD
theorem k_eq {k : Nat} (h : X.K = K) (r : Room k X.A) : OpR X (compareOp .Eq) (rEqD K) := h ▸ op_eqD (u64 r)
theorem k_ne {k : Nat} (h : X.K = K) (r : Room k X.A) : OpR X (compareOp .NotEq) (rNeD K) := h ▸ op_neD (u64 r)
theorem k_in {k : Nat} (h : X.K = K) (r : Room k X.A) : OpR X (compareOp .In) (rInD K) := h ▸ op_inD (u65 r)
theorem k_notIn {k : Nat} (h : X.K = K) (r : Room k X.A) : OpR X (compareOp .NotIn) (rNotInD K) := h ▸ op_notInD (u65 r)
theorem k_len (h : X.K = K) : CallR X (.builtin "len") (rLenD K) := h ▸ call_lenD'
theorem k_max (h : X.K = K) (c : X.calm = true) : CallR X (.builtin "max") (rMaxD K) := h ▸ call_maxD c
theorem k_min (h : X.K = K) (c : X.calm = true) : CallR X (.builtin "min") (rMinD K) := h ▸ call_minD c
theorem k_sum (h : X.K = K) (c : X.calm = true) : CallR X (.builtin "sum") (rSum K) := h ▸ cr_sum c
theorem k_sorted (h : X.K = K) : CallR X (.builtin "sorted") (rSortedI K) := h ▸ cr_sortedI
theorem k_list (h : X.K = K) : CallR X (.type "list") (rListOf K) := h ▸ call_listD
theorem k_tuple (h : X.K = K) : CallR X (.type "tuple") (rTupOf K) := h ▸ call_tupleD
theorem k_repr {k : Nat} (h : X.K = K) (g : X.A.guards = some []) (r : Room k X.A) : CallR X (.builtin "repr") (rRepr K) := h ▸ call_repr g (u64 r)
theorem k_isi (h : X.K = K) : CallR X (.builtin "isinstance") (rIsi K) := h ▸ call_isi
theorem k_isiT (h : X.K = K) : CallR X (.builtin "isinstance") (rIsiT K) := h ▸ call_isiT
theorem k_sl (h : X.K = K) : SlR X (rSlD K) := h ▸ sl_D
theorem k_ix (h : X.K = K) : IxR X (rIx K) := h ▸ ix_seq
theorem k_count (h : X.K = K) : MtR X "list.count" (rCntI K) := h ▸ mt_lcount
theorem k_index {k : Nat} (h : X.K = K) (r : Room k X.A) : MtR X "list.index" (rIndexD K) := h ▸ mt_indexD (u65 r)
variable {T name id : String} {r : V → List V → Hp → VK → Prop} {o e e2 : Expr} {es elts : List Expr} {to te : TE} {t ta : TA} {apos cpos pos p p1 p2 p3 tpos : Pos} {k kk n : Nat}
theorem pe_bmK {name : Str} (hK : X.K = K) (pa : PlainAttrs T) (slot : Slot T name id) (hty : typeOf (.builtin id) = pure (.type "method_descriptor")) (hm : MtR X id r) (ho : PE X o to) (ha : PA X (e :: es) t)
    (hbase : attributeBase o name X.env (eval o X.env) = eval o X.env := by rfl)
    (hfew : ((backTo cpos (starEach (e :: es) X.env)).all (fun x => !x.1) && (backToKw cpos (keywordEach [] X.env)).all (fun x => x.1.isSome)
      && decide ((e :: es).length + ([] : List Keyword).length + (if ([] : List Keyword).isEmpty then 0 else 1) < 30)) = true := by rfl)
    (hline : (apos.endLine == cpos.line) = true := by rfl) (hs : starEach (e :: es) X.env = (false, eval e X.env) :: starEach es X.env := by rfl) (hplain : (backTo cpos (starEach es X.env)).any (·.1) = false := by rfl) :
    PE X (.Call (.Attribute o name apos) (e :: es) [] cpos) (tBM K T r to t) := hK ▸ pe_bm pa slot hty hm ho ha hbase hfew hline hs hplain
theorem pe_revK (hK : X.K = K) (he : PE X e te) : PE X (.Subscript e (.Slice none none (some (.UnaryOp .USub (.Constant (.int 1) k p1) p2)) p3) pos) (tRevL K te) := hK ▸ pe_revL he
theorem pi_seqK {tg : Expr} (hK : X.K = K) (he : PE X e te) : PI X tg e (iSeq K te) := hK ▸ pi_seq he
theorem pi_enumK (hK : X.K = K) (hg : Gl X "enumerate") (hm : X.mg "enumerate" = none) (ha : PA X [e] ta) (hs : starEach [e] X.env = [(false, eval e X.env)] := by rfl) :
    PI X (.Tuple elts kk tpos) (.Call (.Name "enumerate" p) [e] [] pos) (iEnum K ta) := hK ▸ pi_enum hg hm ha hs
theorem pi_zipK (hK : X.K = K) (hg : Gl X "zip") (hm : X.mg "zip" = none) (ha : PA X [e, e2] ta)
    (hs : starEach [e, e2] X.env = (false, eval e X.env) :: starEach [e2] X.env := by rfl) (hpl : (backTo pos (starEach [e2] X.env)).any (·.1) = false := by rfl) :
    PI X (.Tuple elts kk tpos) (.Call (.Name "zip" p) [e, e2] [] pos) (iZip K ta) := hK ▸ pi_zip hg hm ha hs hpl
theorem pg_tupK {u : TGs} (hK : X.K = K) (hc : X.calm = true) (h : PGs X es u) (hn : (assignEach es X.env).length = n := by rfl) (hst : (assignEach es X.env).findIdx? (·.1) = none := by rfl) : PG X (.Tuple es k pos) (gTup K n u) := hK ▸ pg_tup hc h hn hst
theorem pe_gk {x : Str} {v : V} (hg : Gl X x) (h : ∃ u, X.mg x = some u ∧ RelV v u) (hd : (x == ("__debug__" : Str)) = false := by decide) : PE X (.Name x pos) (tC v) := by
  obtain ⟨u, hm, r⟩ := h
  exact pe_glob hg hm r hd
end
end DL

/-! Data that a repr shows, that equals itself; loops and comprehensions over data by invariants. -/
namespace DL
open PySem PySem.Spec L2

mutual
def wgt : D → Nat
  | .none => 4
  | .bool _ => 5
  | .int i => i.natAbs.log2 + 2
  | .str x => (reprText x).length
  | .list xs => 2 + wgtAll xs
  | .tuple xs => 3 + wgtAll xs
  | .dict _ => 0
def wgtAll : List D → Nat
  | [] => 0
  | x :: xs => wgt x + 2 + wgtAll xs
end
mutual
def plainD : D → Bool
  | .none | .bool _ => true
  | .int i => decide (i.natAbs.log2 < 1920)
  | .str x => PyData.canLay0 (.str x) && PyData.strOk (reprText x)
  | .list xs | .tuple xs => plainDs xs
  | .dict _ => false
def plainDs : List D → Bool
  | [] => true
  | x :: xs => plainD x && plainDs xs
end
theorem textFrom_le : ∀ (ts : List Str) (k : Nat) (acc : Str), (textFrom k acc ts).length ≤ acc.length + (ts.map fun t => t.length + 2).sum
  | [], k, acc => Nat.le_add_right _ _
  | t :: r, k, acc => by
    have h := textFrom_le r (k + 1) (acc ++ (if k > 0 then ", " else "" : String) ++ t)
    have e : (acc ++ (if k > 0 then ", " else "" : String) ++ t).length ≤ acc.length + 2 + t.length := by
      rw [strLen_append, strLen_append]
      have : (Str.ofString (if k > 0 then ", " else "")).length ≤ 2 := by
        split
        · decide
        · decide
      omega
    show (textFrom (k + 1) (acc ++ (if k > 0 then ", " else "" : String) ++ t) r).length ≤ _
    rw [List.map_cons, List.sum_cons]
    omega
theorem piled_sum : ∀ ts : List Str, piled ts = (ts.map fun t => t.length + 2).sum
  | [] => rfl
  | t :: r => by simp [piled, piled_sum r] 
mutual
theorem shown_le : ∀ d : D, plainD d = true → d.shown.length ≤ wgt d
  | .none, _ => by
    show (Str.ofString "None").length ≤ 4
    decide
  | .bool b, _ => by
    simp only [PyData.shown, wgt]
    cases b
    · show (Str.ofString "False").length ≤ 5
      decide
    · show (Str.ofString "True").length ≤ 5
      decide
  | .int i, _ => by
    simp only [PyData.shown, wgt]
    have h := int_text_length_le (a := i) (k := i.natAbs.log2 + 1) (by omega) (by omega)
    have e : (Str.ofString (toString i)).length = (toString i).length := ofString_length _
    rw [e]
    exact h
  | .str x, _ => by
    simp only [PyData.shown, wgt]
    exact Nat.le_refl _
  | .list xs, h => by
    simp only [PyData.shown, wgt]
    have h1 := shownAll_le xs (by simpa [plainD] using h)
    have h2 := textFrom_le (PyData.shownAll xs) 0 "["
    have e1 : (Str.ofString "[").length = 1 := by decide
    have e2 : (Str.ofString "]").length = 1 := by decide
    unfold listText
    rw [strLen_append]
    omega
  | .tuple xs, h => by
    simp only [PyData.shown, wgt]
    have h1 := shownAll_le xs (by simpa [plainD] using h)
    have h2 := textFrom_le (PyData.shownAll xs) 0 "("
    have e1 : (Str.ofString "(").length = 1 := by decide
    have e2 : (Str.ofString ")").length = 1 := by decide
    have e3 : (Str.ofString ",)").length = 2 := by decide
    unfold tupleText
    rw [strLen_append, strLen_append]
    have e4 : (Str.join ", " (PyData.shownAll xs)).length ≤ ((PyData.shownAll xs).map fun t => t.length + 2).sum := by
      by_cases hz : PyData.shownAll xs = []
      · rw [hz]
        show (Str.join ", " []).length ≤ 0
        exact Nat.le_refl _
      · have := join_length_add _ hz
        have e5 := piled_sum (PyData.shownAll xs)
        omega
    have e5 : (Str.ofString (if (PyData.shownAll xs).length == 1 then ",)" else ")")).length ≤ 2 := by
      split <;> omega
    have e6 : (Str.ofString "(").length = 1 := by decide
    omega
  | .dict _, h => by simp [plainD] at h
theorem shownAll_le : ∀ xs : List D, plainDs xs = true → ((PyData.shownAll xs).map fun t => t.length + 2).sum ≤ wgtAll xs
  | [], _ => by simp [PyData.shownAll, wgtAll]
  | x :: xs, h => by
    simp only [plainDs, Bool.and_eq_true] at h
    have h1 := shown_le x h.1
    have h2 := shownAll_le xs h.2
    simp only [PyData.shownAll, wgtAll, List.map_cons, List.sum_cons]
    omega
end
mutual
theorem plain_facts : ∀ d : D, plainD d = true → d.showable = true ∧ d.canLay0 = true
  | .none, _ => ⟨rfl, rfl⟩
  | .bool b, _ => ⟨rfl, rfl⟩
  | .int i, h => ⟨by simpa [plainD, PyData.showable] using h, rfl⟩
  | .str x, h => by
    simp only [plainD, Bool.and_eq_true] at h
    exact ⟨rfl, h.1⟩
  | .list xs, h => by
    obtain ⟨a, b⟩ := plains_facts xs (by simpa [plainD] using h)
    exact ⟨by simpa [PyData.showable] using a, by simpa [PyData.canLay0] using b⟩
  | .tuple xs, h => by
    obtain ⟨a, b⟩ := plains_facts xs (by simpa [plainD] using h)
    exact ⟨by simpa [PyData.showable] using a, by simpa [PyData.canLay0] using b⟩
  | .dict _, h => by simp [plainD] at h
theorem plains_facts : ∀ xs : List D, plainDs xs = true → PyData.showableAll xs = true ∧ PyData.canLayAll0 xs = true
  | [], _ => ⟨rfl, rfl⟩
  | x :: xs, h => by
    simp only [plainDs, Bool.and_eq_true] at h
    obtain ⟨a, b⟩ := plain_facts x h.1
    obtain ⟨a', b'⟩ := plains_facts xs h.2
    exact ⟨by simp [PyData.showableAll, a, a'], by simp [PyData.canLayAll0, b, b']⟩
end
mutual
theorem eqv_self : ∀ d : D, plainD d = true → PyData.eqv d d = true
  | .none, _ => rfl
  | .bool b, _ => by simp [PyData.eqv]
  | .int i, _ => by simp [PyData.eqv]
  | .str x, _ => by simp [PyData.eqv]
  | .list xs, h => by
    simp only [PyData.eqv]
    exact eqvs_self xs (by simpa [plainD] using h)
  | .tuple xs, h => by
    simp only [PyData.eqv]
    exact eqvs_self xs (by simpa [plainD] using h)
  | .dict _, h => by simp [plainD] at h
theorem eqvs_self : ∀ xs : List D, plainDs xs = true → PyData.eqvAll xs xs = true
  | [], _ => by simp [PyData.eqvAll]
  | x :: xs, h => by
    simp only [plainDs, Bool.and_eq_true] at h
    simp only [PyData.eqvAll, eqv_self x h.1, eqvs_self xs h.2, Bool.and_self]
end
theorem ok_of (s : String) : PyData.strOk (Str.ofString s) = true := by
  unfold PyData.strOk
  rw [← Array.all_toList, PyProof.Rows.signs_ofString, List.all_map, List.all_eq_true]
  intro c _
  simp only [Function.comp, decide_eq_true_eq]
  have h := c.valid
  show c.val.toNat < _
  rcases h with h | ⟨_, h⟩
  · have : c.val.toNat < 0xD800 := h
    omega
  · have : c.val.toNat < 0x110000 := h
    omega
theorem ok_app {x y : Str} (h : PyData.strOk x = true) (h' : PyData.strOk y = true) : PyData.strOk (x ++ y) = true := by
  show (x.cps ++ y.cps).all _ = true
  rw [Array.all_append, Bool.and_eq_true]
  exact ⟨h, h'⟩
theorem ok_textFrom : ∀ (ts : List Str) (k : Nat) (acc : Str), PyData.strOk acc = true → (∀ t ∈ ts, PyData.strOk t = true) → PyData.strOk (textFrom k acc ts) = true
  | [], _, _, h, _ => h
  | t :: r, k, acc, h, ht => ok_textFrom r (k + 1) _ (ok_app (ok_app h (ok_of _)) (ht t (List.mem_cons_self ..))) fun u hu => ht u (List.mem_cons_of_mem _ hu)
theorem ok_join : ∀ (ts : List Str), (∀ t ∈ ts, PyData.strOk t = true) → PyData.strOk (Str.join ", " ts) = true
  | [], _ => by
    show Array.all (#[] : Array Nat) _ = true
    simp
  | [t], ht => ht t (List.mem_cons_self ..)
  | t :: u :: r, ht => ok_app (ok_app (ht t (List.mem_cons_self ..)) (ok_of _)) (ok_join (u :: r) fun v hv => ht v (List.mem_cons_of_mem _ hv))
mutual
theorem shown_ok : ∀ d : D, plainD d = true → PyData.strOk d.shown = true
  | .none, _ => by simp only [PyData.shown]; exact ok_of _
  | .bool b, _ => by
    simp only [PyData.shown]
    split <;> exact ok_of _
  | .int i, _ => by simp only [PyData.shown]; exact ok_of _
  | .str x, h => by
    simp only [plainD, Bool.and_eq_true] at h
    simp only [PyData.shown]
    exact h.2
  | .list xs, h => by
    simp only [PyData.shown]
    exact ok_app (ok_textFrom _ _ _ (ok_of _) (shownAll_ok xs (by simpa [plainD] using h))) (ok_of _)
  | .tuple xs, h => by
    simp only [PyData.shown]
    exact ok_app (ok_app (ok_of _) (ok_join _ (shownAll_ok xs (by simpa [plainD] using h)))) (ok_of _)
  | .dict _, h => by simp [plainD] at h
theorem shownAll_ok : ∀ xs : List D, plainDs xs = true → ∀ t ∈ PyData.shownAll xs, PyData.strOk t = true
  | [], _, t, ht => by simp [PyData.shownAll] at ht
  | x :: xs, h, t, ht => by
    simp only [plainDs, Bool.and_eq_true] at h
    simp only [PyData.shownAll, List.mem_cons] at ht
    rcases ht with rfl | ht
    · exact shown_ok x h.1
    · exact shownAll_ok xs h.2 t ht
end
/-- what _law_is may compare with itself -/
structure Nice (d : D) : Prop where
  p : plainD d = true
  d6 : d.depth ≤ 6
  w : wgt d ≤ sizeLine
theorem Nice.shaped {d : D} (h : Nice d) : SeqAt.shaped d = true := by
  show (PyData.canLay0 d && decide (d.depth ≤ 64)) = true
  rw [Bool.and_eq_true]
  exact ⟨(plain_facts d h.p).2, decide_eq_true (by have := h.d6; omega)⟩
theorem Nice.eqv {d : D} (h : Nice d) : PyData.eqv d d = true := eqv_self d h.p
theorem Nice.rep {d : D} (h : Nice d) : d.showable = true ∧ d.hasDict = false ∧ d.depth ≤ 60 ∧ d.shown.length ≤ sizeLine :=
  ⟨(plain_facts d h.p).1, PyData.hasDict_of_canLay d (plain_facts d h.p).2, by have := h.d6; omega, Nat.le_trans (shown_le d h.p) h.w⟩

theorem shaped_str {x : Str} (h : PyData.strOk x = true) : SeqAt.shaped (.str x) = true := by
  show (PyData.canLay0 (.str x) && decide ((PyData.str x).depth ≤ 64)) = true
  rw [Bool.and_eq_true]
  exact ⟨by simpa [PyData.canLay0] using h, by simp [PyData.depth]⟩
theorem shaped_int (i : Int) : SeqAt.shaped (.int i) = true := by
  show (PyData.canLay0 (.int i) && decide ((PyData.int i).depth ≤ 64)) = true
  simp [PyData.canLay0, PyData.depth]
theorem Nice.shapedS {d : D} (h : Nice d) : SeqAt.shaped (.str d.shown) = true := shaped_str (shown_ok d h.p)
theorem eqv_str (x : Str) : PyData.eqv (.str x) (.str x) = true := by simp [PyData.eqv]

/-! ### loops -/
/-- one turn of a comprehension -/
def stepLc (tg : DTg) (Tc : DTT) (Te : DT) (vs : List Nat) (x : D) (s : List Sl) (k : Option D → List Sl → Prop) : Prop := tg x s fun s1 => Tc ⟨s1, []⟩ fun b e2 =>
  if b = true then Te ⟨e2.s, []⟩ fun r e3 => fz e3 r fun d e4 => k (some d) (wipeS e4.s vs) else k none (wipeS e2.s vs)
theorem lc_inv {tg : DTg} {Tc : DTT} {Te : DT} {vs : List Nat} {K : List D → List Sl → Prop} (I : List D → List D → List Sl → Prop)
    (step : ∀ x xs acc s, I (x :: xs) acc s → ∀ k : Option D → List Sl → Prop, (∀ o s', I xs (acc ++ o.toList) s' → k o s') → stepLc tg Tc Te vs x s k) (fin : ∀ acc s, I [] acc s → K acc s) :
    ∀ xs acc s, I xs acc s → lcGo tg Tc Te vs xs acc s K
  | [], acc, s, h => fin acc s h
  | x :: xs, acc, s, h => step x xs acc s h (fun o s' => match o with
      | some d => lcGo tg Tc Te vs xs (acc ++ [d]) s' K
      | none => lcGo tg Tc Te vs xs acc s' K) fun o s' q => by
    cases o with
    | some d => exact lc_inv I step fin xs _ _ q
    | none => exact lc_inv I step fin xs _ _ (by simpa using q)
/-- each turn leaves the slots as they were -/
theorem lc_pure {tg : DTg} {Tc : DTT} {Te : DT} {vs : List Nat} {K : List D → List Sl → Prop} {s : List Sl} (f : D → Option D) : ∀ (xs : List D) (acc : List D),
    (∀ x ∈ xs, ∀ k : Option D → List Sl → Prop, k (f x) s → stepLc tg Tc Te vs x s k) → K (acc ++ xs.filterMap f) s → lcGo tg Tc Te vs xs acc s K
  | [], acc, _, h => by
    rw [List.filterMap_nil, List.append_nil] at h
    exact h
  | x :: xs, acc, hs, h => hs x (List.mem_cons_self ..) (fun o s' => match o with
      | some d => lcGo tg Tc Te vs xs (acc ++ [d]) s' K
      | none => lcGo tg Tc Te vs xs acc s' K) (by
    cases e : f x with
    | none =>
      rw [List.filterMap_cons_none e] at h
      exact lc_pure f xs acc (fun y hy => hs y (List.mem_cons_of_mem _ hy)) h
    | some d =>
      rw [List.filterMap_cons_some e] at h
      exact lc_pure f xs (acc ++ [d]) (fun y hy => hs y (List.mem_cons_of_mem _ hy)) (by simpa using h))
/-- .. and makes one item -/
theorem lc_map {tg : DTg} {Tc : DTT} {Te : DT} {vs : List Nat} {K : List D → List Sl → Prop} {s : List Sl} {α : Type} (c : α → D) (f : α → D) (xs : List α)
    (hs : ∀ x ∈ xs, ∀ k : Option D → List Sl → Prop, k (some (f x)) s → stepLc tg Tc Te vs (c x) s k) (h : K (xs.map f) s) : lcGo tg Tc Te vs (xs.map c) [] s K := by
  have key : ∀ (xs : List α) (acc : List D), (∀ x ∈ xs, ∀ k : Option D → List Sl → Prop, k (some (f x)) s → stepLc tg Tc Te vs (c x) s k) → K (acc ++ xs.map f) s → lcGo tg Tc Te vs (xs.map c) acc s K := fun xs => by
    induction xs with
    | nil => intro acc _ h; show K acc s; simpa using h
    | cons x xs ih =>
      intro acc hs h
      exact hs x (List.mem_cons_self ..) (fun o s' => match o with
        | some d => lcGo tg Tc Te vs (xs.map c) (acc ++ [d]) s' K
        | none => lcGo tg Tc Te vs (xs.map c) acc s' K) (ih (acc ++ [f x]) (fun y hy => hs y (List.mem_cons_of_mem _ hy)) (by simpa using h))
  exact key xs [] hs (by simpa using h)
/-- .. or keeps those of a kind -/
theorem lc_filter {tg : DTg} {Tc : DTT} {Te : DT} {vs : List Nat} {K : List D → List Sl → Prop} {s : List Sl} {α : Type} (c : α → D) (p : α → Bool) (f : α → D) (xs : List α)
    (hs : ∀ x ∈ xs, ∀ k : Option D → List Sl → Prop, k (if p x = true then some (f x) else none) s → stepLc tg Tc Te vs (c x) s k) (h : K ((xs.filter p).map f) s) : lcGo tg Tc Te vs (xs.map c) [] s K := by
  have key : ∀ (xs : List α) (acc : List D), (∀ x ∈ xs, ∀ k : Option D → List Sl → Prop, k (if p x = true then some (f x) else none) s → stepLc tg Tc Te vs (c x) s k) → K (acc ++ (xs.filter p).map f) s → lcGo tg Tc Te vs (xs.map c) acc s K := fun xs => by
    induction xs with
    | nil => intro acc _ h; show K acc s; simpa using h
    | cons x xs ih =>
      intro acc hs h
      refine hs x (List.mem_cons_self ..) (fun o s' => match o with
        | some d => lcGo tg Tc Te vs (xs.map c) (acc ++ [d]) s' K
        | none => lcGo tg Tc Te vs (xs.map c) acc s' K) ?_
      by_cases hp : p x = true
      · rw [if_pos hp]
        exact ih (acc ++ [f x]) (fun y hy => hs y (List.mem_cons_of_mem _ hy)) (by simpa [hp] using h)
      · rw [if_neg hp]
        exact ih acc (fun y hy => hs y (List.mem_cons_of_mem _ hy)) (by simpa [hp] using h)
  exact key xs [] hs (by simpa using h)
theorem for_inv {tg : DTg} {T : DSt} {A : DEnds} {α : Type} (c : α → D) (I : List α → List Sl → Prop)
    (step : ∀ x xs s, I (x :: xs) s → ∀ k : List Sl → Prop, (∀ s', I xs s' → k s') → tg (c x) s fun s1 => T { A with nx := k, ct := k, bk := A.nx } s1) (fin : ∀ s, I [] s → A.nx s) :
    ∀ xs s, I xs s → forGo tg T A (xs.map c) s
  | [], s, h => fin s h
  | x :: xs, s, h => step x xs s h _ fun s' q => for_inv c I step fin xs s' q
theorem dInts_map (ns : List Int) : dInts ns = ns.map .int := rfl
end DL

/-! Lists of data that are pictures of lists. -/
namespace DL
open PySem PySem.Spec L2

theorem enumL_map {α : Type} (c : α → D) (xs : List α) : enumL (xs.map c) = xs.zipIdx.map fun q => PyData.tuple [.int ((q.2 : Nat) : Int), c q.1] := by
  unfold enumL
  rw [List.mapIdx_eq_zipIdx_map, List.zipIdx_map, List.map_map]
  rfl
theorem zipL_map {α β : Type} (c : α → D) (e : β → D) (xs : List α) (ys : List β) : zipL (xs.map c) (ys.map e) = (xs.zip ys).map fun q => PyData.tuple [c q.1, e q.2] := by
  unfold zipL
  rw [List.zipWith_map, List.zip, List.map_zipWith]
theorem rangeL0 (n : Nat) : rangeL 0 n = (List.range n).map fun i : Nat => PyData.int (i : Int) := by
  unfold rangeL
  simp
theorem eqvAll_ints : ∀ a b : List Int, PyData.eqvAll (dInts a) (dInts b) = decide (a = b)
  | [], [] => by simp [dInts, PyData.eqvAll]
  | [], _ :: _ => by simp [dInts, PyData.eqvAll]
  | _ :: _, [] => by simp [dInts, PyData.eqvAll]
  | x :: xs, y :: ys => by
    show (PyData.eqv (.int x) (.int y) && PyData.eqvAll (dInts xs) (dInts ys)) = _
    rw [eqvAll_ints xs ys]
    by_cases h : x = y <;> by_cases h' : xs = ys <;> simp [PyData.eqv, h, h']
theorem eqv_ints (a b : List Int) : PyData.eqv (.list (dInts a)) (.list (dInts b)) = decide (a = b) := by
  simp only [PyData.eqv]
  exact eqvAll_ints a b
theorem eqv_nil (xs : List D) : PyData.eqv (.list xs) (.list []) = xs.isEmpty := by
  cases xs <;> simp [PyData.eqv, PyData.eqvAll]
theorem eqv_int (i j : Int) : PyData.eqv (.int i) (.int j) = decide (i = j) := by
  simp [PyData.eqv]
  rfl
theorem eqv_bool (i j : Bool) : PyData.eqv (.bool i) (.bool j) = (i == j) := by simp [PyData.eqv]
theorem atI_mapN {α : Type} (c : α → D) (xs : List α) {i : Nat} (h : i < xs.length) : atI (xs.map c) ((i : Nat) : Int) = some (c xs[i]) :=
  atI_nat (by rw [List.getElem?_map, List.getElem?_eq_getElem h]; rfl)
theorem cutL_from {α : Type} (xs : List α) (n : Nat) : cutL xs (some ((n : Nat) : Int)) none = xs.drop n := by
  have e1 : HT.sIx xs.length 0 (some ((n : Nat) : Int)) = min n xs.length := by
    show (if (n : Int) < 0 then ((n : Int) + (xs.length : Int)).toNat else min (n : Int).toNat xs.length) = _
    rw [if_neg (by omega), Int.toNat_natCast]
  have e2 : HT.sIx xs.length xs.length none = xs.length := rfl
  unfold cutL
  rw [e1, e2]
  by_cases h : n ≤ xs.length
  · rw [Nat.min_eq_left h, List.take_of_length_le (by rw [List.length_drop]; omega)]
  · rw [Nat.min_eq_right (by omega), List.drop_eq_nil_of_le (Nat.le_refl _), List.drop_eq_nil_of_le (by omega), List.take_nil]
theorem cutL_to {α : Type} (xs : List α) (n : Nat) : cutL xs none (some ((n : Nat) : Int)) = xs.take n := by
  have e1 : HT.sIx xs.length xs.length (some ((n : Nat) : Int)) = min n xs.length := by
    show (if (n : Int) < 0 then ((n : Int) + (xs.length : Int)).toNat else min (n : Int).toNat xs.length) = _
    rw [if_neg (by omega), Int.toNat_natCast]
  have e2 : HT.sIx xs.length 0 none = 0 := rfl
  unfold cutL
  rw [e1, e2, List.drop_zero, Nat.sub_zero]
  by_cases h : n ≤ xs.length
  · rw [Nat.min_eq_left h]
  · rw [Nat.min_eq_right (by omega), List.take_of_length_le (Nat.le_refl _), List.take_of_length_le (by omega)]
theorem lmin_spec : ∀ {xs : List Int}, xs ≠ [] → lmin xs ∈ xs ∧ ∀ y ∈ xs, lmin xs ≤ y
  | [], h => absurd rfl h
  | x :: xs, _ => by
    have key : ∀ (l : List Int) (a : Int), (l.foldl min a = a ∨ l.foldl min a ∈ l) ∧ l.foldl min a ≤ a ∧ ∀ y ∈ l, l.foldl min a ≤ y := fun l => by
      induction l with
      | nil => intro a; simp
      | cons b l ih =>
        intro a
        obtain ⟨h1, h2, h3⟩ := ih (min a b)
        refine ⟨?_, ?_, fun y hy => ?_⟩
        · simp only [List.foldl_cons, List.mem_cons]
          rcases h1 with h1 | h1
          · rw [h1]
            rcases Int.le_total a b with h | h
            · exact .inl (Int.min_eq_left h)
            · exact .inr (.inl (Int.min_eq_right h))
          · exact .inr (.inr h1)
        · simp only [List.foldl_cons]
          exact Int.le_trans h2 (Int.min_le_left a b)
        · simp only [List.foldl_cons]
          rcases List.mem_cons.mp hy with rfl | hy
          · exact Int.le_trans h2 (Int.min_le_right a y)
          · exact h3 y hy
    obtain ⟨h1, h2, h3⟩ := key xs x
    refine ⟨?_, fun y hy => ?_⟩
    · rcases h1 with h1 | h1
      · exact List.mem_cons.mpr (.inl h1)
      · exact List.mem_cons.mpr (.inr h1)
    · rcases List.mem_cons.mp hy with rfl | hy
      · exact h2
      · exact h3 y hy
theorem lmin_is {xs : List Int} {m : Int} (h : m ∈ xs) (h' : ∀ y ∈ xs, m ≤ y) : lmin xs = m := by
  obtain ⟨a, b⟩ := lmin_spec (xs := xs) (by intro z; rw [z] at h; cases h)
  exact Int.le_antisymm (b m h) (h' _ a)
theorem lmax_spec : ∀ {xs : List Int}, xs ≠ [] → lmax xs ∈ xs ∧ ∀ y ∈ xs, y ≤ lmax xs
  | [], h => absurd rfl h
  | x :: xs, _ => by
    obtain ⟨h1, h2, h3⟩ := foldl_max_ge xs x
    refine ⟨?_, fun y hy => ?_⟩
    · rcases h3 with h3 | h3
      · exact List.mem_cons.mpr (.inl h3)
      · exact List.mem_cons.mpr (.inr h3)
    · rcases List.mem_cons.mp hy with rfl | hy
      · exact h1
      · exact h2 y hy
theorem lmax_is {xs : List Int} {m : Int} (h : m ∈ xs) (h' : ∀ y ∈ xs, y ≤ m) : lmax xs = m := by
  obtain ⟨a, b⟩ := lmax_spec (xs := xs) (by intro z; rw [z] at h; cases h)
  exact Int.le_antisymm (h' _ a) (b m h)
theorem toInts_map {α : Type} (f : α → Int) (xs : List α) : toInts (xs.map fun x => PyData.int (f x)) = some (xs.map f) := by
  have := toInts_ints (xs.map f)
  rw [dInts, List.map_map] at this
  exact this
theorem map_int {α : Type} (f : α → Int) (xs : List α) : (xs.map fun x => PyData.int (f x)) = dInts (xs.map f) := by
  rw [dInts, List.map_map]
  rfl
/-- rows of numbers as data -/
def dRows (rows : List (List Int)) : List D := rows.map fun r => .list (dInts r)
theorem lay_rows : ∀ rows : List (List Int), PyData.canLayAll0 (dRows rows) = true
  | [] => rfl
  | r :: rows => by
    show (PyData.canLay0 (.list (dInts r)) && PyData.canLayAll0 (dRows rows)) = true
    rw [lay_rows rows, Bool.and_true]
    simp only [PyData.canLay0]
    exact lay_all r
theorem depth_rows : ∀ rows : List (List Int), PyData.depthAll (dRows rows) ≤ 2
  | [] => by show PyData.depthAll [] ≤ 2; simp [PyData.depthAll]
  | r :: rows => by
    have := depth_rows rows
    have := depth_ints r
    show PyData.depthAll (.list (dInts r) :: dRows rows) ≤ 2
    simp only [PyData.depthAll, PyData.depth]
    omega
theorem shaped_rows (rows : List (List Int)) : SeqAt.shaped (.list (dRows rows)) = true := by
  have h := depth_rows rows
  show (PyData.canLay0 (.list (dRows rows)) && decide (PyData.depth (.list (dRows rows)) ≤ 64)) = true
  rw [Bool.and_eq_true]
  exact ⟨by simp only [PyData.canLay0]; exact lay_rows rows, decide_eq_true (by simp only [PyData.depth]; omega)⟩
/-- numbers within 2 ^ 60 are nice -/
def Near (n : Int) : Prop := -(2 ^ 60) < n ∧ n < 2 ^ 60
theorem near_log {n : Int} (h : Near n) : n.natAbs.log2 < 60 := by
  obtain ⟨h1, h2⟩ := h
  by_cases h0 : n.natAbs = 0
  · rw [h0]
    decide
  · exact (Nat.log2_lt h0).mpr (by omega)
theorem plain_ints : ∀ {ns : List Int}, (∀ n ∈ ns, Near n) → plainDs (dInts ns) = true ∧ wgtAll (dInts ns) ≤ 64 * ns.length
  | [], _ => ⟨rfl, by simp [dInts, wgtAll]⟩
  | n :: ns, h => by
    obtain ⟨a, b⟩ := plain_ints (ns := ns) fun m hm => h m (List.mem_cons_of_mem _ hm)
    have hn := near_log (h n (List.mem_cons_self ..))
    refine ⟨?_, ?_⟩
    · show (plainD (.int n) && plainDs (dInts ns)) = true
      rw [a, Bool.and_true]
      simp only [plainD, decide_eq_true_eq]
      omega
    · show wgtAll (.int n :: dInts ns) ≤ _
      simp only [wgtAll, wgt, List.length_cons]
      omega
theorem nice_int {n : Int} (h : Near n) : Nice (.int n) := by
  have hn := near_log h
  refine ⟨by simp only [plainD, decide_eq_true_eq]; omega, by simp [PyData.depth], ?_⟩
  simp only [wgt]
  have : sizeLine = 2 ^ 24 := rfl
  omega
theorem nice_ints {ns : List Int} (h : ∀ n ∈ ns, Near n) (hl : ns.length ≤ 200000) : Nice (.list (dInts ns)) := by
  obtain ⟨a, b⟩ := plain_ints h
  have hd := depth_ints ns
  refine ⟨by simp only [plainD]; exact a, by simp only [PyData.depth]; omega, ?_⟩
  simp only [wgt]
  have : sizeLine = 2 ^ 24 := rfl
  omega
theorem plain_rows {c : Nat} : ∀ {rows : List (List Int)}, (∀ r ∈ rows, r.length ≤ c ∧ ∀ n ∈ r, Near n) → plainDs (dRows rows) = true ∧ wgtAll (dRows rows) ≤ rows.length * (64 * c + 4)
  | [], _ => ⟨rfl, by simp [dRows, wgtAll]⟩
  | r :: rows, h => by
    obtain ⟨a, b⟩ := plain_rows (rows := rows) fun m hm => h m (List.mem_cons_of_mem _ hm)
    obtain ⟨hl, hr⟩ := h r (List.mem_cons_self ..)
    obtain ⟨a', b'⟩ := plain_ints hr
    refine ⟨?_, ?_⟩
    · show (plainD (.list (dInts r)) && plainDs (dRows rows)) = true
      rw [a, Bool.and_true]
      simp only [plainD]
      exact a'
    · show wgtAll (.list (dInts r) :: dRows rows) ≤ _
      simp only [wgtAll, wgt, List.length_cons, Nat.add_mul]
      omega
theorem nice_rows {c : Nat} {rows : List (List Int)} (h : ∀ r ∈ rows, r.length ≤ c ∧ ∀ n ∈ r, Near n) (hl : rows.length * (64 * c + 4) ≤ 16000000) : Nice (.list (dRows rows)) := by
  obtain ⟨a, b⟩ := plain_rows h
  have hd := depth_rows rows
  refine ⟨by simp only [plainD]; exact a, by simp only [PyData.depth]; omega, ?_⟩
  simp only [wgt]
  have : sizeLine = 2 ^ 24 := rfl
  omega
end DL
namespace DL
theorem seq_to {T U : DSt} {A : DEnds} {s : List Sl} (s' : List Sl) (h : ∀ k : List Sl → Prop, k s' → T { A with nx := k } s) (h' : U A s') : dSeq T U A s := h (U A) h'
/-- a loop whose turns do not leave it -/
theorem for_to {tg : DTg} {T : DSt} {A : DEnds} {α : Type} (c : α → D) (I : List α → List Sl → Prop) (xs : List α) {s : List Sl} (h0 : I xs s)
    (step : ∀ x xs s, I (x :: xs) s → ∀ k b : List Sl → Prop, (∀ s', I xs s' → k s') → tg (c x) s fun s1 => T { A with nx := k, ct := k, bk := b } s1) (fin : ∀ s, I [] s → A.nx s) : forGo tg T A (xs.map c) s :=
  for_inv c I (fun x xs s h k hk => step x xs s h k _ hk) fin xs s h0
/-- .. and that changes no slot but the loop's own -/
theorem for_each {tg : DTg} {T : DSt} {A : DEnds} {α : Type} (c : α → D) (P : List Sl → Prop) (xs : List α) {s : List Sl} (h0 : P s)
    (step : ∀ x, x ∈ xs → ∀ s, P s → ∀ k b : List Sl → Prop, (∀ s', P s' → k s') → tg (c x) s fun s1 => T { A with nx := k, ct := k, bk := b } s1) (fin : ∀ s, P s → A.nx s) : forGo tg T A (xs.map c) s :=
  for_to c (fun ys s => (∀ y ∈ ys, y ∈ xs) ∧ P s) xs ⟨fun y h => h, h0⟩ (fun x ys s h k b hk => step x (h.1 x (List.mem_cons_self ..)) s h.2 k b fun s' hs => hk s' ⟨fun y hy => h.1 y (List.mem_cons_of_mem _ hy), hs⟩) fun s h => fin s h.2
/-- .. and that puts one more item on what stands in the slots -/
theorem for_push {tg : DTg} {T : DSt} {A : DEnds} {α β : Type} (c : α → D) (f : α → β) (S : List β → List Sl → Prop) (xs : List α) {s : List Sl} (h0 : S [] s)
    (step : ∀ x, x ∈ xs → ∀ ys s, ys.length < xs.length → S ys s → ∀ k b : List Sl → Prop, (∀ s', S (ys ++ [f x]) s' → k s') → tg (c x) s fun s1 => T { A with nx := k, ct := k, bk := b } s1) (fin : ∀ s, S (xs.map f) s → A.nx s) : forGo tg T A (xs.map c) s :=
  for_to c (fun zs s => ∃ ys, xs = ys ++ zs ∧ S (ys.map f) s) xs ⟨[], rfl, h0⟩ (fun x zs s ⟨ys, e, h⟩ k b hk => step x (by rw [e]; simp) _ s (by rw [e]; simp) h k b fun s' hs => hk s' ⟨ys ++ [x], by rw [e]; simp, by simpa using hs⟩)
    fun s ⟨ys, e, h⟩ => by
      rw [List.append_nil] at e
      subst e
      exact fin s h
end DL
namespace DL
theorem dSeq_for {T U : DSt} {A : DEnds} {s : List Sl} (h : T { A with nx := U A } s) : dSeq T U A s := h
end DL
namespace DL
open PySem PySem.Spec L2
theorem seq_toP {T U : DSt} {A : DEnds} {s : List Sl} (P : List Sl → Prop) (h : ∀ k : List Sl → Prop, (∀ s', P s' → k s') → T { A with nx := k } s) (h' : ∀ s', P s' → U A s') : dSeq T U A s := h (U A) h'
theorem dInts_drop (ns : List Int) (n : Nat) : (dInts ns).drop n = dInts (ns.drop n) := by simp [dInts]
theorem dInts_take (ns : List Int) (n : Nat) : (dInts ns).take n = dInts (ns.take n) := by simp [dInts]
theorem dInts_snoc (ns : List Int) (n : Int) : dInts ns ++ [.int n] = dInts (ns ++ [n]) := by simp [dInts]
theorem dInts_rev (ns : List Int) : (dInts ns).reverse = dInts ns.reverse := by simp [dInts]
theorem dInts_app (ns ms : List Int) : dInts ns ++ dInts ms = dInts (ns ++ ms) := by simp [dInts]
theorem dRows_snoc (rs : List (List Int)) (r : List Int) : dRows rs ++ [.list (dInts r)] = dRows (rs ++ [r]) := by simp [dRows]
theorem dRows_rev (rs : List (List Int)) : (dRows rs).reverse = dRows rs.reverse := by simp [dRows]
theorem dRows_len (rs : List (List Int)) : (dRows rs).length = rs.length := by simp [dRows]
theorem dRows_map (rs : List (List Int)) : dRows rs = rs.map fun r => PyData.list (dInts r) := rfl
theorem atI_ints {ns : List Int} {i : Nat} (h : i < ns.length) : atI (dInts ns) ((i : Nat) : Int) = some (.int ns[i]) := atI_mapN PyData.int ns h
end DL
namespace DL
open PySem PySem.Spec L2
theorem idxOf_ints (v : Int) : ∀ r : List Int, idxOf? (.int v) (dInts r) = r.findIdx? fun z => decide (z = v)
  | [] => rfl
  | x :: r => by
    have ih := idxOf_ints v r
    unfold idxOf? at ih ⊢
    show List.findIdx? _ (PyData.int x :: dInts r) = _
    rw [List.findIdx?_cons, List.findIdx?_cons, ih, eqv_int]
theorem rangeL_ (lo : Int) (n : Nat) : rangeL lo n = (List.range n).map fun i : Nat => PyData.int (lo + (i : Int)) := rfl
/-- whole places as data -/
def dNats (es : List Nat) : List D := es.map fun e : Nat => PyData.int (e : Int)
theorem dNats_ints (es : List Nat) : dNats es = dInts (es.map fun e : Nat => (e : Int)) := by simp [dNats, dInts]
theorem dNats_len (es : List Nat) : (dNats es).length = es.length := by simp [dNats]
end DL
namespace DL
open PySem PySem.Spec L2
/-- a comprehension whose turns keep S of the slots -/
theorem lc_mapS {tg : DTg} {Tc : DTT} {Te : DT} {vs : List Nat} {K : List D → List Sl → Prop} {α : Type} (S : List Sl → Prop) (c : α → D) (f : α → D) (xs : List α) {s : List Sl} (h0 : S s)
    (hs : ∀ x ∈ xs, ∀ s, S s → ∀ k : Option D → List Sl → Prop, (∀ s', S s' → k (some (f x)) s') → stepLc tg Tc Te vs (c x) s k) (h : ∀ s, S s → K (xs.map f) s) : lcGo tg Tc Te vs (xs.map c) [] s K := by
  have key : ∀ (ys : List α), (∀ y ∈ ys, y ∈ xs) → ∀ (acc : List D) (s : List Sl), S s → (∀ s, S s → K (acc ++ ys.map f) s) → lcGo tg Tc Te vs (ys.map c) acc s K := fun ys => by
    induction ys with
    | nil => intro _ acc s h0 h; show K acc s; simpa using h s h0
    | cons y ys ih =>
      intro hy acc s h0 h
      exact hs y (hy y (List.mem_cons_self ..)) s h0 (fun o s' => match o with
        | some d => lcGo tg Tc Te vs (ys.map c) (acc ++ [d]) s' K
        | none => lcGo tg Tc Te vs (ys.map c) acc s' K) fun s' h' => ih (fun z hz => hy z (List.mem_cons_of_mem _ hz)) (acc ++ [f y]) s' h' (by simpa using h)
  exact key xs (fun _ h => h) [] s h0 (by simpa using h)
end DL
namespace DL
open PySem PySem.Spec L2
theorem shaped_bool (b : Bool) : SeqAt.shaped (.bool b) = true := by cases b <;> decide
theorem Near.wide {n : Int} (h : Near n) : -(2 ^ 64) < n ∧ n < 2 ^ 64 := by
  obtain ⟨a, b⟩ := h
  exact ⟨by omega, by omega⟩
end DL
namespace DL
open PySem PySem.Spec L2
/-- a comprehension that draws one number a turn -/
theorem lc_draw {tg : DTg} {Tc : DTT} {Te : DT} {vs : List Nat} {K : List D → List Sl → Prop} (S : Int → List Sl) (P : Int → Prop) (xs : List D) (B : Int)
    (hs : ∀ x ∈ xs, ∀ B' : Int, B ≤ B' → B' < B + xs.length → ∀ k : Option D → List Sl → Prop, (∀ n : Int, P n → k (some (.int n)) (S (B' + 1))) → stepLc tg Tc Te vs x (S B') k)
    (h : ∀ ns : List Int, ns.length = xs.length → (∀ n ∈ ns, P n) → K (dInts ns) (S (B + xs.length))) : lcGo tg Tc Te vs xs [] (S B) K := by
  refine lc_inv (fun ys acc t => (∀ y ∈ ys, y ∈ xs) ∧ ∃ ns : List Int, acc = dInts ns ∧ (∀ n ∈ ns, P n) ∧ ns.length + ys.length = xs.length ∧ t = S (B + ns.length)) (fun y ys acc t ht k hk => ?_) (fun acc t ht => ?_) xs [] _ ⟨fun _ h => h, [], rfl, fun _ h => (by cases h), by simp, by simp⟩
  · obtain ⟨hm, ns, rfl, hn, hl, rfl⟩ := ht
    rw [List.length_cons] at hl
    refine hs y (hm y (List.mem_cons_self ..)) _ (by omega) (by omega) k fun n pn => hk _ _ ⟨fun z hz => hm z (List.mem_cons_of_mem _ hz), ns ++ [n], by simp [dInts], fun z hz => ?_, by simp; omega, by simp; congr 1; omega⟩
    rcases List.mem_append.mp hz with hz | hz
    · exact hn z hz
    · rw [List.mem_singleton] at hz
      rw [hz]
      exact pn
  · obtain ⟨_, ns, rfl, hn, hl, rfl⟩ := ht
    rw [List.length_nil, Nat.add_zero] at hl
    rw [hl]
    exact h ns hl hn
theorem rangeL_len (lo : Int) (n : Nat) : (rangeL lo n).length = n := by simp [rangeL]
end DL
namespace DL
/-- a slot that holds no state of draws -/
def ns : Sl → Sl
  | .st _ => .no
  | x => x
theorem mapSt_st (m : Int → Int) (B : Int) : mapSt m (.st B) = .st (m B) := rfl
theorem mapSt_no (m : Int → Int) : mapSt m .no = .no := rfl
theorem mapSt_val (m : Int → Int) (d : D) : mapSt m (.val d) = .val d := rfl
theorem mapSt_ow (m : Int → Int) (o : Ow) : mapSt m (.own o) = .own o := rfl
theorem mapSt_scr (m : Int → Int) (n : Nat) : mapSt m (.scr n) = .scr n := rfl
theorem mapSt_ns (m : Int → Int) (y : Sl) : mapSt m (ns y) = ns y := by cases y <;> rfl
end DL


namespace k72
open PySem PySem.Spec L2 DL
/-! The plain law of panes closed by marks: rows of costs, chains of places. -/
abbrev Row := List Int
theorem revInd {α : Type} {motive : List α → Prop} (nil : motive []) (snoc : ∀ l a, motive l → motive (l ++ [a])) (l : List α) : motive l := by
  have : ∀ r : List α, motive r.reverse := fun r => by
    induction r with
    | nil => exact nil
    | cons a r ih => rw [List.reverse_cons]; exact snoc _ _ ih
  have h := this l.reverse
  rwa [List.reverse_reverse] at h
def okAfter (es : List Nat) (p : Nat) : Bool := match es.getLast? with
  | some x => decide (x ≤ p)
  | none => true
theorem okAfter_iff {es : List Nat} {p : Nat} : okAfter es p = true ↔ ∀ x, es.getLast? = some x → x ≤ p := by
  unfold okAfter
  cases es.getLast? with
  | none => simp
  | some x => simp
/-- places that never fall, from lo on, below W -/
def ChF (W : Nat) : Nat → List Nat → Prop
  | _, [] => True
  | lo, e :: es => lo ≤ e ∧ e < W ∧ ChF W e es
def pcost : List Row → List Nat → Int
  | r :: rs, e :: es => r.getD e 0 + pcost rs es
  | _, _ => 0
def Wide (W : Nat) (rows : List Row) : Prop := ∀ r ∈ rows, r.length = W
/-- m is the least cost of a chain -/
structure IsMin (W : Nat) (rows : List Row) (lo : Nat) (m : Int) : Prop where
  ex : ∃ es, es.length = rows.length ∧ ChF W lo es ∧ pcost rows es = m
  le : ∀ es, es.length = rows.length → ChF W lo es → m ≤ pcost rows es
theorem IsMin.uniq {W lo : Nat} {rows : List Row} {m m' : Int} (h : IsMin W rows lo m) (h' : IsMin W rows lo m') : m = m' := by
  obtain ⟨es, a, b, c⟩ := h.ex
  obtain ⟨es', a', b', c'⟩ := h'.ex
  have := h.le es' a' b'
  have := h'.le es a b
  omega
/-! ### backwards -/
def bestB (W : Nat) : List Row → List Int
  | [] => List.replicate W 0
  | r :: rs => (List.range W).map fun p => lmin ((List.range (W - p)).map fun i => r.getD (p + i) 0 + (bestB W rs).getD (p + i) 0)
theorem bestB_len (W : Nat) : ∀ rows, (bestB W rows).length = W
  | [] => by simp [bestB]
  | r :: rs => by simp [bestB]
theorem getD_of {α : Type} {xs : List α} {i : Nat} {d : α} (h : i < xs.length) : xs.getD i d = xs[i] := by
  simp [List.getD_eq_getElem?_getD, h]
theorem mem_getD {xs : List Int} {i : Nat} (h : i < xs.length) : xs.getD i 0 ∈ xs := by
  rw [getD_of h]
  exact List.getElem_mem h
theorem bestB_min (W : Nat) : ∀ rows p, p < W → IsMin W rows p ((bestB W rows).getD p 0)
  | [], p, hp => by
    have e : (bestB W []).getD p 0 = 0 := by
      rw [getD_of (by simp [bestB]; exact hp)]
      simp [bestB]
    rw [e]
    exact ⟨⟨[], rfl, trivial, rfl⟩, fun es h _ => by cases es <;> simp [pcost] at *⟩
  | r :: rs, p, hp => by
    have e : (bestB W (r :: rs)).getD p 0 = lmin ((List.range (W - p)).map fun i => r.getD (p + i) 0 + (bestB W rs).getD (p + i) 0) := by
      rw [getD_of (by rw [bestB_len]; exact hp)]
      simp [bestB]
    rw [e]
    have ne : ((List.range (W - p)).map fun i => r.getD (p + i) 0 + (bestB W rs).getD (p + i) 0) ≠ [] := by
      simp
      omega
    obtain ⟨h1, h2⟩ := lmin_spec ne
    refine ⟨?_, fun es hl hc => ?_⟩
    · obtain ⟨i, hi, he⟩ := List.mem_map.mp h1
      rw [List.mem_range] at hi
      obtain ⟨es, a, b, c⟩ := (bestB_min W rs (p + i) (by omega)).ex
      exact ⟨(p + i) :: es, by simp [a], ⟨by omega, by omega, b⟩, by rw [← he]; simp only [pcost]; omega⟩
    · cases es with
      | nil => simp at hl
      | cons x es =>
        obtain ⟨a, b, c⟩ := hc
        have h3 := (bestB_min W rs x b).le es (by simpa using hl) c
        have h4 := h2 _ (List.mem_map.mpr ⟨x - p, List.mem_range.mpr (by omega), rfl⟩)
        rw [show p + (x - p) = x by omega] at h4
        simp only [pcost]
        omega
/-! ### forwards -/
def lastMin (acc : List Row) (e : Nat) : Int := match acc.getLast? with
  | some r => lmin (r.take (e + 1))
  | none => 0
def nextRow (acc : List Row) (cs : Row) : Row := cs.zipIdx.map fun q => q.1 + lastMin acc q.2
def paperL (rows : List Row) : List Row := rows.foldl (fun acc cs => acc ++ [nextRow acc cs]) []
theorem paper_snoc (rows : List Row) (cs : Row) : paperL (rows ++ [cs]) = paperL rows ++ [nextRow (paperL rows) cs] := by simp [paperL]
theorem paper_len (rows : List Row) : (paperL rows).length = rows.length := by
  induction rows using revInd with
  | nil => rfl
  | snoc rows cs ih => simp [paper_snoc, ih]
theorem next_len (acc : List Row) (cs : Row) : (nextRow acc cs).length = cs.length := by simp [nextRow]
theorem next_get (acc : List Row) (cs : Row) {e : Nat} (h : e < cs.length) : (nextRow acc cs).getD e 0 = cs.getD e 0 + lastMin acc e := by
  rw [getD_of (by rw [next_len]; exact h), getD_of h]
  simp [nextRow]
theorem paper_wide {W : Nat} {rows : List Row} (h : Wide W rows) : Wide W (paperL rows) := by
  induction rows using revInd with
  | nil => intro r hr; cases hr
  | snoc rows cs ih =>
    intro r hr
    rw [paper_snoc] at hr
    rcases List.mem_append.mp hr with hr | hr
    · exact ih (fun r hr => h r (List.mem_append.mpr (.inl hr))) r hr
    · rw [List.mem_singleton] at hr
      subst hr
      rw [next_len]
      exact h cs (by simp)
theorem chF_snoc {W : Nat} : ∀ {lo : Nat} {es : List Nat} {e : Nat}, ChF W lo (es ++ [e]) ↔ ChF W lo es ∧ (∀ x, es.getLast? = some x → x ≤ e) ∧ lo ≤ e ∧ e < W
  | lo, [], e => by simp [ChF]
  | lo, x :: es, e => by
    have := chF_snoc (W := W) (lo := x) (es := es) (e := e)
    simp only [List.cons_append, ChF, this]
    cases es with
    | nil =>
      simp [ChF]
      constructor
      · rintro ⟨a, b, c, d⟩
        exact ⟨⟨a, b⟩, c, by omega, d⟩
      · rintro ⟨⟨a, b⟩, c, d, e⟩
        exact ⟨a, b, c, e⟩
    | cons y ys =>
      simp only [List.getLast?_cons_cons]
      constructor
      · rintro ⟨a, b, c, d, e1, e2⟩
        exact ⟨⟨a, b, c⟩, d, by omega, e2⟩
      · rintro ⟨⟨a, b, c⟩, d, e1, e2⟩
        refine ⟨a, b, c, d, ?_, e2⟩
        have h1 := c.1
        have : ∀ (l : List Nat) (z : Nat), ChF W z l → ∀ w, (z :: l).getLast? = some w → z ≤ w := fun l => by
          induction l with
          | nil => intro z _ w hw; simp at hw; omega
          | cons u l ih =>
            intro z hz w hw
            rw [List.getLast?_cons_cons] at hw
            have := ih u hz.2.2 w hw
            have := hz.1
            omega
        cases hw : (y :: ys).getLast? with
        | none => simp at hw
        | some w =>
          have := this ys y c.2.2 w hw
          have := d w hw
          omega
theorem pcost_snoc : ∀ {rows : List Row} {es : List Nat} {cs : Row} {e : Nat}, rows.length = es.length → pcost (rows ++ [cs]) (es ++ [e]) = pcost rows es + cs.getD e 0
  | [], [], cs, e, _ => by simp [pcost]
  | r :: rs, x :: es, cs, e, h => by
    have := pcost_snoc (rows := rs) (es := es) (cs := cs) (e := e) (by simpa using h)
    simp only [List.cons_append, pcost, this]
    omega
  | [], _ :: _, _, _, h => by simp at h
  | _ :: _, [], _, _, h => by simp at h
/-- the paper's last row bounds each chain that ends there -/
theorem paper_le {W : Nat} (rows : List Row) (hw : Wide W rows) : ∀ (es : List Nat) (e : Nat), es.length = rows.length → ChF W 0 es → (∀ x, es.getLast? = some x → x ≤ e) → lastMin (paperL rows) e ≤ pcost rows es := by
  induction rows using revInd with
  | nil =>
    intro es e h _ _
    cases es with
    | nil => exact Int.le_refl _
    | cons => simp at h
  | snoc rows cs ih =>
    intro es e hl hc hx
    have hcs : cs.length = W := hw cs (by simp)
    have hw' : Wide W rows := fun r hr => hw r (List.mem_append.mpr (.inl hr))
    induction es using revInd with
    | nil => simp at hl
    | snoc es x _ =>
      have hl' : es.length = rows.length := by simpa using hl
      obtain ⟨c1, c2, _, c3⟩ := chF_snoc.mp hc
      have hxe : x ≤ e := hx x (by simp)
      rw [pcost_snoc hl'.symm, paper_snoc]
      have h1 := ih hw' es x hl' c1 c2
      have h2 : lastMin (paperL rows ++ [nextRow (paperL rows) cs]) e = lmin ((nextRow (paperL rows) cs).take (e + 1)) := by simp [lastMin]
      rw [h2]
      have hm : (nextRow (paperL rows) cs).getD x 0 ∈ (nextRow (paperL rows) cs).take (e + 1) := by
        have hlt : x < (nextRow (paperL rows) cs).length := by rw [next_len, hcs]; exact c3
        rw [getD_of hlt, List.mem_take_iff_getElem]
        exact ⟨x, by omega, rfl⟩
      have h3 := (lmin_spec (xs := (nextRow (paperL rows) cs).take (e + 1)) (by intro z; rw [z] at hm; cases hm)).2 _ hm
      rw [next_get _ _ (by rw [hcs]; exact c3)] at h3
      omega
/-- where the least of the first places stands -/
def firstAt (r : Row) (e : Nat) : Nat := (r.findIdx? fun z => decide (z = lmin (r.take (e + 1)))).getD 0
theorem firstAt_spec {r : Row} {e : Nat} (hr : r ≠ []) : ∃ j, r.findIdx? (fun z => decide (z = lmin (r.take (e + 1)))) = some j ∧ firstAt r e = j ∧ j ≤ e ∧ j < r.length ∧ r.getD j 0 = lmin (r.take (e + 1)) := by
  have ne : r.take (e + 1) ≠ [] := by
    cases r with
    | nil => exact absurd rfl hr
    | cons => simp
  have hm := (lmin_spec ne).1
  obtain ⟨i, hi, he⟩ := List.mem_take_iff_getElem.mp hm
  cases q : r.findIdx? (fun z => decide (z = lmin (r.take (e + 1)))) with
  | none =>
    rw [List.findIdx?_eq_none_iff] at q
    have := q _ (List.getElem_mem (h := by omega) : r[i] ∈ r)
    simp [he] at this
  | some j =>
    obtain ⟨h1, h2, h3⟩ := List.findIdx?_eq_some_iff_getElem.mp q
    refine ⟨j, rfl, by simp [firstAt, q], ?_, h1, by rw [getD_of h1]; simpa using h2⟩
    by_cases hji : j ≤ i
    · omega
    · have := h3 i (by omega)
      simp [he] at this
/-- from the paper's end back -/
def trace : List Row → Nat → List Nat
  | [], _ => []
  | r :: rs, e => firstAt r e :: trace rs (firstAt r e)
theorem trace_ok {W : Nat} (hW : 0 < W) (rows : List Row) (hw : Wide W rows) : ∀ e, e < W → ∃ es, (trace (paperL rows).reverse e).reverse = es ∧ es.length = rows.length ∧ ChF W 0 es ∧ (∀ x, es.getLast? = some x → x ≤ e) ∧ pcost rows es = lastMin (paperL rows) e := by
  induction rows using revInd with
  | nil => exact fun e _ => ⟨[], rfl, rfl, trivial, (fun x h => by cases h), rfl⟩
  | snoc rows cs ih =>
    intro e he
    have hcs : cs.length = W := hw cs (by simp)
    have hw' : Wide W rows := fun r hr => hw r (List.mem_append.mpr (.inl hr))
    have nl : (nextRow (paperL rows) cs).length = W := by rw [next_len, hcs]
    obtain ⟨j, _, hj, h1, h2, h3⟩ := firstAt_spec (r := nextRow (paperL rows) cs) (e := e) (by intro z; rw [z] at nl; simp at nl; omega)
    obtain ⟨es, a, b, c, d, f⟩ := ih hw' j (by omega)
    refine ⟨es ++ [j], ?_, by simp [b], chF_snoc.mpr ⟨c, d, by omega, by omega⟩, fun x hx => by simp at hx; omega, ?_⟩
    · rw [paper_snoc, List.reverse_append]
      simp only [List.reverse_cons, List.reverse_nil, List.nil_append, List.singleton_append, trace, hj]
      rw [a]
    · rw [pcost_snoc b.symm, f, paper_snoc]
      have e2 : lastMin (paperL rows ++ [nextRow (paperL rows) cs]) e = lmin ((nextRow (paperL rows) cs).take (e + 1)) := by simp [lastMin]
      rw [e2, ← h3, next_get _ _ (by omega)]
      omega
/-- the least of the paper's last row -/
def oneL (rows : List Row) : Int := lmin ((paperL rows).getLast?.getD [])
theorem one_last {W : Nat} (hW : 0 < W) (rows : List Row) (hw : Wide W rows) (h0 : rows ≠ []) : oneL rows = lastMin (paperL rows) (W - 1) := by
  unfold oneL lastMin
  cases q : (paperL rows).getLast? with
  | none =>
    rw [List.getLast?_eq_none_iff] at q
    have := paper_len rows
    rw [q] at this
    cases rows with
    | nil => exact absurd rfl h0
    | cons => simp at this
  | some r =>
    have hr : r.length = W := paper_wide hw r (List.mem_of_getLast? q)
    simp only [Option.getD_some]
    rw [List.take_of_length_le (by omega)]
theorem one_min {W : Nat} (hW : 0 < W) (rows : List Row) (hw : Wide W rows) (h0 : rows ≠ []) : IsMin W rows 0 (oneL rows) := by
  rw [one_last hW rows hw h0]
  refine ⟨?_, fun es hl hc => paper_le rows hw es _ hl hc fun x hx => ?_⟩
  · obtain ⟨es, _, b, c, _, d⟩ := trace_ok hW rows hw (W - 1) (by omega)
    exact ⟨es, b, c, d⟩
  · induction es using revInd with
    | nil => cases hx
    | snoc es y _ =>
      have := (chF_snoc.mp hc).2.2.2
      simp at hx
      omega
theorem one_best {W : Nat} (hW : 0 < W) (rows : List Row) (hw : Wide W rows) (h0 : rows ≠ []) : (bestB W rows).getD 0 0 = oneL rows := (bestB_min W rows 0 hW).uniq (one_min hW rows hw h0)
/-! ### all chains -/
def allL (W : Nat) (rows : List Row) : List (List Nat) := rows.foldl (fun ls _ => ls.flatMap fun es => ((List.range W).filter (okAfter es)).map fun p => es ++ [p]) [[]]
theorem all_snoc (W : Nat) (rows : List Row) (cs : Row) : allL W (rows ++ [cs]) = (allL W rows).flatMap fun es => ((List.range W).filter (okAfter es)).map fun p => es ++ [p] := by simp [allL]
theorem all_mem {W : Nat} (rows : List Row) : ∀ es, es ∈ allL W rows ↔ es.length = rows.length ∧ ChF W 0 es := by
  induction rows using revInd with
  | nil =>
    intro es
    simp [allL]
    rintro rfl
    trivial
  | snoc rows cs ih =>
    intro es
    rw [all_snoc, List.mem_flatMap]
    constructor
    · rintro ⟨fs, hf, h⟩
      obtain ⟨p, hp, rfl⟩ := List.mem_map.mp h
      rw [List.mem_filter, List.mem_range, okAfter_iff] at hp
      obtain ⟨a, b⟩ := (ih fs).mp hf
      exact ⟨by simp [a], chF_snoc.mpr ⟨b, hp.2, by omega, hp.1⟩⟩
    · rintro ⟨hl, hc⟩
      induction es using revInd with
      | nil => simp at hl
      | snoc fs p _ =>
        obtain ⟨a, b, _, c⟩ := chF_snoc.mp hc
        exact ⟨fs, (ih fs).mpr ⟨by simpa using hl, a⟩, List.mem_map.mpr ⟨p, by rw [List.mem_filter, List.mem_range, okAfter_iff]; exact ⟨c, b⟩, rfl⟩⟩
theorem all_min {W : Nat} {rows : List Row} {m : Int} (h : IsMin W rows 0 m) : lmin ((allL W rows).map (pcost rows)) = m := by
  obtain ⟨es, a, b, c⟩ := h.ex
  refine lmin_is (List.mem_map.mpr ⟨es, (all_mem rows es).mpr ⟨a, b⟩, c⟩) fun y hy => ?_
  obtain ⟨fs, hf, rfl⟩ := List.mem_map.mp hy
  obtain ⟨a, b⟩ := (all_mem rows fs).mp hf
  exact h.le fs a b
/-! ### own -/
def ownL (rows : List Row) : Int := (rows.map lmin).sum
theorem own_le {W : Nat} : ∀ {rows : List Row} {es : List Nat} {lo : Nat}, Wide W rows → es.length = rows.length → ChF W lo es → ownL rows ≤ pcost rows es
  | [], [], _, _, _, _ => Int.le_refl _
  | r :: rs, e :: es, lo, hw, hl, hc => by
    have hr : r.length = W := hw r (List.mem_cons_self ..)
    have h1 := own_le (rows := rs) (es := es) (fun r hr => hw r (List.mem_cons_of_mem _ hr)) (by simpa using hl) hc.2.2
    have hm := mem_getD (xs := r) (i := e) (by rw [hr]; exact hc.2.1)
    have h2 := (lmin_spec (xs := r) (by intro z; rw [z] at hm; cases hm)).2 _ hm
    simp only [ownL, List.map_cons, List.sum_cons, pcost] at *
    omega
  | [], _ :: _, _, _, h, _ => by simp at h
  | _ :: _, [], _, _, h, _ => by simp at h
/-- each place is its row's least -/
def AllLeast : List Row → List Nat → Prop
  | r :: rs, e :: es => r.getD e 0 = lmin r ∧ AllLeast rs es
  | _, _ => True
theorem least_eq {W : Nat} : ∀ {rows : List Row} {es : List Nat} {lo : Nat}, Wide W rows → es.length = rows.length → ChF W lo es → (pcost rows es = ownL rows ↔ AllLeast rows es)
  | [], [], _, _, _, _ => ⟨fun _ => trivial, fun _ => rfl⟩
  | r :: rs, e :: es, lo, hw, hl, hc => by
    have hr : r.length = W := hw r (List.mem_cons_self ..)
    have hw' : Wide W rs := fun r hr => hw r (List.mem_cons_of_mem _ hr)
    have h0 := own_le (rows := rs) (es := es) hw' (by simpa using hl) hc.2.2
    have h1 := least_eq (rows := rs) (es := es) hw' (by simpa using hl) hc.2.2
    have hm := mem_getD (xs := r) (i := e) (by rw [hr]; exact hc.2.1)
    have h2 := (lmin_spec (xs := r) (by intro z; rw [z] at hm; cases hm)).2 _ hm
    have e1 : ownL (r :: rs) = lmin r + ownL rs := by simp [ownL]
    simp only [pcost, AllLeast, ← h1, e1]
    omega
  | [], _ :: _, _, _, h, _ => by simp at h
  | _ :: _, [], _, _, h, _ => by simp at h
def cheapL (r : Row) (lo : Nat) : List Nat := (List.range r.length).filter fun p => decide (r.getD p 0 = lmin r ∧ lo ≤ p)
def greedy : Nat → List Row → Bool
  | _, [] => true
  | lo, r :: rs => match cheapL r lo with
    | [] => false
    | c :: _ => greedy c rs
theorem cheap_head {r : Row} {lo c : Nat} {l : List Nat} (h : cheapL r lo = c :: l) : (c < r.length ∧ r.getD c 0 = lmin r ∧ lo ≤ c) ∧ ∀ p, p < r.length → r.getD p 0 = lmin r → lo ≤ p → c ≤ p := by
  have hc : c ∈ cheapL r lo := by rw [h]; exact List.mem_cons_self ..
  simp only [cheapL, List.mem_filter, List.mem_range, decide_eq_true_eq] at hc
  refine ⟨⟨hc.1, hc.2.1, hc.2.2⟩, fun p h1 h2 h3 => ?_⟩
  have hp : p ∈ cheapL r lo := by
    simp only [cheapL, List.mem_filter, List.mem_range, decide_eq_true_eq]
    exact ⟨h1, h2, h3⟩
  have hs : (cheapL r lo).Pairwise (· < ·) := List.Pairwise.filter _ List.pairwise_lt_range
  rw [h] at hp hs
  rcases List.mem_cons.mp hp with rfl | hp
  · exact Nat.le_refl _
  · exact Nat.le_of_lt ((List.pairwise_cons.mp hs).1 p hp)
theorem greedy_iff {W : Nat} : ∀ {rows : List Row} {lo : Nat}, Wide W rows → (greedy lo rows = true ↔ ∃ es, es.length = rows.length ∧ ChF W lo es ∧ AllLeast rows es)
  | [], lo, _ => ⟨fun _ => ⟨[], rfl, trivial, trivial⟩, fun _ => rfl⟩
  | r :: rs, lo, hw => by
    have hr : r.length = W := hw r (List.mem_cons_self ..)
    have hw' : Wide W rs := fun r hr => hw r (List.mem_cons_of_mem _ hr)
    unfold greedy
    cases q : cheapL r lo with
    | nil =>
      simp only [Bool.false_eq_true, false_iff]
      rintro ⟨es, hl, hc, ha⟩
      cases es with
      | nil => simp at hl
      | cons e es =>
        have : e ∈ cheapL r lo := by
          simp only [cheapL, List.mem_filter, List.mem_range, decide_eq_true_eq]
          exact ⟨by rw [hr]; exact hc.2.1, ha.1, hc.1⟩
        rw [q] at this
        cases this
    | cons c l =>
      obtain ⟨⟨h1, h2, h3⟩, h4⟩ := cheap_head q
      simp only
      rw [greedy_iff hw']
      constructor
      · rintro ⟨es, a, b, d⟩
        exact ⟨c :: es, by simp [a], ⟨h3, by omega, b⟩, h2, d⟩
      · rintro ⟨es, hl, hc, ha⟩
        cases es with
        | nil => simp at hl
        | cons e es =>
          have hce := h4 e (by rw [hr]; exact hc.2.1) ha.1 hc.1
          refine ⟨es, by simpa using hl, ?_, ha.2⟩
          cases es with
          | nil => trivial
          | cons f fs => exact ⟨Nat.le_trans hce hc.2.2.1, hc.2.2.2⟩
theorem own_one_iff {W : Nat} {rows : List Row} {m : Int} (hw : Wide W rows) (h : IsMin W rows 0 m) : (ownL rows = m ↔ greedy 0 rows = true) := by
  rw [greedy_iff hw]
  constructor
  · rintro rfl
    obtain ⟨es, a, b, c⟩ := h.ex
    exact ⟨es, a, b, (least_eq hw a b).mp c⟩
  · rintro ⟨es, a, b, c⟩
    have h1 := (least_eq hw a b).mpr c
    obtain ⟨fs, a', b', c'⟩ := h.ex
    have := own_le hw a' b'
    have := h.le es a b
    omega
/-! ### one is not far above own -/
/-- a later row's cost behind its place is borne by an earlier row's -/
def Bear (W : Nat) (r s : Row) : Prop := ∀ p q, p ≤ q → q < W → s.getD q 0 ≤ r.getD q 0 + s.getD p 0
theorem least_place {r : Row} (h : r ≠ []) : ∃ q, q < r.length ∧ r.getD q 0 = lmin r := by
  obtain ⟨i, hi, e⟩ := List.mem_iff_getElem.mp (lmin_spec h).1
  exact ⟨i, hi, by rw [getD_of hi, e]⟩
theorem bear_chain {W : Nat} (hW : 0 < W) (M : Int) : ∀ (rows : List Row) (r : Row) (lo : Nat), Wide W rows → lo < W → r.getD lo 0 ≤ M → (∀ s ∈ rows, Bear W r s) → rows.Pairwise (Bear W) → (∀ s ∈ rows, 0 ≤ lmin s ∧ lmin s ≤ M) → 0 ≤ M →
    ∃ es, es.length = rows.length ∧ ChF W lo es ∧ pcost rows es ≤ ownL rows + rows.length * M
  | [], _, _, _, _, _, _, _, _, _ => ⟨[], rfl, trivial, by simp [pcost, ownL]⟩
  | s :: rows, r, lo, hw, hlo, hr, hb, hp, hm, h0 => by
    have hs : s.length = W := hw s (List.mem_cons_self ..)
    have hw' : Wide W rows := fun r hr => hw r (List.mem_cons_of_mem _ hr)
    obtain ⟨q, hq, eq⟩ := least_place (r := s) (by intro z; rw [z] at hs; simp at hs; omega)
    rw [hs] at hq
    have hm' : ∀ s ∈ rows, 0 ≤ lmin s ∧ lmin s ≤ M := fun t ht => hm t (List.mem_cons_of_mem _ ht)
    obtain ⟨hp1, hp2⟩ := List.pairwise_cons.mp hp
    have e1 : ownL (s :: rows) = lmin s + ownL rows := by simp [ownL]
    have e2 : (((s :: rows).length : Nat) : Int) * M = M + (rows.length : Int) * M := by
      rw [List.length_cons]
      push_cast
      rw [Int.add_mul]
      omega
    by_cases h : lo ≤ q
    · obtain ⟨es, a, b, c⟩ := bear_chain hW M rows s q hw' hq (by rw [eq]; exact (hm s (List.mem_cons_self ..)).2) hp1 hp2 hm' h0
      refine ⟨q :: es, by simp [a], ⟨h, hq, b⟩, ?_⟩
      simp only [pcost]
      rw [e1, e2, eq]
      omega
    · obtain ⟨es, a, b, c⟩ := bear_chain hW M rows r lo hw' hlo hr (fun t ht => hb t (List.mem_cons_of_mem _ ht)) hp2 hm' h0
      refine ⟨lo :: es, by simp [a], ⟨Nat.le_refl _, hlo, b⟩, ?_⟩
      have h2 := hb s (List.mem_cons_self ..) q lo (by omega) hlo
      simp only [pcost]
      rw [e1, e2]
      omega
theorem sum_nonneg : ∀ {l : List Int}, (∀ x ∈ l, 0 ≤ x) → 0 ≤ l.sum ∧ ∀ x ∈ l, x ≤ l.sum
  | [], _ => ⟨Int.le_refl _, fun _ h => by cases h⟩
  | x :: l, h => by
    obtain ⟨a, b⟩ := sum_nonneg (l := l) fun y hy => h y (List.mem_cons_of_mem _ hy)
    have hx := h x (List.mem_cons_self ..)
    simp only [List.sum_cons]
    refine ⟨by omega, fun y hy => ?_⟩
    rcases List.mem_cons.mp hy with rfl | hy
    · omega
    · have := b y hy
      omega
theorem one_bound {W : Nat} (hW : 0 < W) {rows : List Row} {m : Int} (hw : Wide W rows) (h : IsMin W rows 0 m) (hp : rows.Pairwise (Bear W)) (hm : ∀ s ∈ rows, 0 ≤ lmin s) (h0 : rows ≠ []) : ownL rows ≤ m ∧ m ≤ ownL rows * rows.length := by
  constructor
  · obtain ⟨es, a, b, c⟩ := h.ex
    rw [← c]
    exact own_le hw a b
  · obtain ⟨n0, n1⟩ := sum_nonneg (l := rows.map lmin) fun x hx => by
      obtain ⟨s, hs, rfl⟩ := List.mem_map.mp hx
      exact hm s hs
    cases rows with
    | nil => exact absurd rfl h0
    | cons r rows =>
      have hr : r.length = W := hw r (List.mem_cons_self ..)
      obtain ⟨q, hq, eq⟩ := least_place (r := r) (by intro z; rw [z] at hr; simp at hr; omega)
      obtain ⟨hp1, hp2⟩ := List.pairwise_cons.mp hp
      have hM : ∀ s ∈ r :: rows, 0 ≤ lmin s ∧ lmin s ≤ ownL (r :: rows) := fun s hs => ⟨hm s hs, n1 _ (List.mem_map.mpr ⟨s, hs, rfl⟩)⟩
      obtain ⟨es, a, b, c⟩ := bear_chain hW (ownL (r :: rows)) rows r q (fun r hr => hw r (List.mem_cons_of_mem _ hr)) (by omega) (by rw [eq]; exact (hM r (List.mem_cons_self ..)).2) hp1 hp2 (fun s hs => hM s (List.mem_cons_of_mem _ hs)) n0
      have h1 := h.le (q :: es) (by simp [a]) ⟨Nat.zero_le _, by omega, b⟩
      simp only [pcost] at h1
      have e1 : ownL (r :: rows) = lmin r + ownL rows := by simp [ownL]
      rw [List.length_cons]
      push_cast
      rw [Int.mul_add, Int.mul_one, Int.mul_comm]
      omega

/-! ### the rows of costs -/
def later (ps : List Int) (p : Int) : List Nat := (List.range ps.length).filter fun i => decide (p < ps.getD i 0)
def duePlace (ps : List Int) (p : Int) : Nat := match later ps p with
  | i :: _ => i + 1
  | [] => ps.length
def dueR : List Int → Int → Nat
  | [], _ => 0
  | x :: xs, p => if p < x then 1 else dueR xs p + 1
theorem later_cons (x : Int) (ps : List Int) (p : Int) : later (x :: ps) p = (if p < x then [0] else []) ++ (later ps p).map (· + 1) := by
  unfold later
  rw [List.length_cons, List.range_succ_eq_map, List.filter_cons, List.filter_map]
  simp only [List.getD_cons_zero, decide_eq_true_eq]
  split <;> simp [Function.comp_def]
theorem due_eq : ∀ (ps : List Int) (p : Int), duePlace ps p = dueR ps p
  | [], p => rfl
  | x :: ps, p => by
    have ih := due_eq ps p
    unfold duePlace at ih ⊢
    rw [later_cons]
    unfold dueR
    by_cases h : p < x
    · simp [h]
    · simp only [if_neg h, List.nil_append]
      cases q : later ps p with
      | nil =>
        rw [q] at ih
        simp at ih ⊢
        exact ih
      | cons i r =>
        rw [q] at ih
        simp at ih ⊢
        exact ih
theorem due_mono : ∀ (ps : List Int) {p q : Int}, p ≤ q → dueR ps p ≤ dueR ps q
  | [], _, _, _ => Nat.le_refl _
  | x :: ps, p, q, h => by
    have := due_mono ps h
    unfold dueR
    split <;> split <;> omega
def costAt (ps : List Int) (w l p : Int) (e : Nat) : Int := w * max 0 ((e : Int) - (duePlace ps p : Nat)) + l * (((ps.drop e).count p : Nat) : Int)
def costRow (ps : List Int) (w l p : Int) : Row := (List.range (ps.length + 1)).map (costAt ps w l p)
def panesOf (s : Int) (ms : List Int) : List Int := ms.map (· / s)
def costs (s : Int) (ms : List Int) (w l : Int) : List Row := (List.range ((lmax (panesOf s ms)).toNat + 1)).map fun p : Nat => costRow (panesOf s ms) w l (p : Int)
theorem row_len (ps : List Int) (w l p : Int) : (costRow ps w l p).length = ps.length + 1 := by simp [costRow]
theorem row_get (ps : List Int) (w l p : Int) {e : Nat} (h : e < ps.length + 1) : (costRow ps w l p).getD e 0 = costAt ps w l p e := by
  rw [getD_of (by rw [row_len]; exact h)]
  simp [costRow]
structure Ok (s : Int) (ms : List Int) (w l : Int) : Prop where
  s1 : 1 ≤ s
  s2 : s ≤ 20
  n1 : 1 ≤ ms.length
  n2 : ms.length ≤ 40
  m : ∀ m ∈ ms, 0 ≤ m ∧ m ≤ 200
  w1 : 0 ≤ w
  w2 : w ≤ 1000
  l1 : 0 ≤ l
  l2 : l ≤ 1000
section
variable {s : Int} {ms : List Int} {w l : Int}
theorem panes_len : (panesOf s ms).length = ms.length := by simp [panesOf]
theorem Ok.pane (h : Ok s ms w l) : ∀ p ∈ panesOf s ms, 0 ≤ p ∧ p ≤ 200 := fun p hp => by
  obtain ⟨m, hm, rfl⟩ := List.mem_map.mp hp
  obtain ⟨a, b⟩ := h.m m hm
  have := h.s1
  exact ⟨Int.ediv_nonneg a (by omega), Int.le_trans (Int.ediv_le_self _ a) b⟩
theorem Ok.ne (h : Ok s ms w l) : panesOf s ms ≠ [] := fun z => by
  have := h.n1
  have e : (panesOf s ms).length = ms.length := panes_len
  rw [z] at e
  simp at e
  omega
theorem Ok.top (h : Ok s ms w l) : 0 ≤ lmax (panesOf s ms) ∧ lmax (panesOf s ms) ≤ 200 := h.pane _ (lmax_spec h.ne).1
theorem costs_len (h : Ok s ms w l) : 1 ≤ (costs s ms w l).length ∧ (costs s ms w l).length ≤ 201 := by
  have := h.top
  simp only [costs, List.length_map, List.length_range]
  omega
theorem costs_ne (h : Ok s ms w l) : costs s ms w l ≠ [] := fun z => by
  have := (costs_len h).1
  rw [z] at this
  simp at this
theorem costs_wide : Wide (ms.length + 1) (costs s ms w l) := fun r hr => by
  obtain ⟨p, _, rfl⟩ := List.mem_map.mp hr
  rw [row_len, panes_len]
theorem cost_nonneg (h : Ok s ms w l) (p : Int) (e : Nat) : 0 ≤ costAt (panesOf s ms) w l p e ∧ (e ≤ 41 → costAt (panesOf s ms) w l p e ≤ 100000) := by
  have h1 : (0 : Int) ≤ max 0 ((e : Int) - (duePlace (panesOf s ms) p : Nat)) := Int.le_max_left _ _
  have h2 := Int.mul_nonneg h.w1 h1
  have h3 := Int.mul_nonneg h.l1 (Int.natCast_nonneg (((panesOf s ms).drop e).count p))
  unfold costAt
  refine ⟨by omega, fun he => ?_⟩
  have c1 : ((panesOf s ms).drop e).count p ≤ 40 := by
    have a := List.count_le_length (a := p) (l := (panesOf s ms).drop e)
    have b : ((panesOf s ms).drop e).length ≤ (panesOf s ms).length := by rw [List.length_drop]; omega
    have c : (panesOf s ms).length = ms.length := panes_len
    have := h.n2
    omega
  have h4 : max 0 ((e : Int) - (duePlace (panesOf s ms) p : Nat)) ≤ 41 := by omega
  have h5 : w * max 0 ((e : Int) - (duePlace (panesOf s ms) p : Nat)) ≤ 1000 * 41 := Int.mul_le_mul h.w2 h4 h1 (by omega)
  have h6 : l * ((((panesOf s ms).drop e).count p : Nat) : Int) ≤ 1000 * 40 := Int.mul_le_mul h.l2 (by omega) (by omega) (by omega)
  omega
theorem costs_mem (h : Ok s ms w l) : ∀ r ∈ costs s ms w l, ∀ x ∈ r, 0 ≤ x ∧ x ≤ 100000 := fun r hr x hx => by
  obtain ⟨p, _, rfl⟩ := List.mem_map.mp hr
  obtain ⟨e, he, rfl⟩ := List.mem_map.mp hx
  rw [List.mem_range, panes_len] at he
  have := h.n2
  obtain ⟨a, b⟩ := cost_nonneg h (p : Int) e
  exact ⟨a, b (by omega)⟩
theorem costs_least (h : Ok s ms w l) : ∀ r ∈ costs s ms w l, 0 ≤ lmin r := fun r hr => by
  have hl := costs_wide r hr
  exact (costs_mem h r hr _ (lmin_spec (by intro z; rw [z] at hl; simp at hl)).1).1
theorem costs_bear (h : Ok s ms w l) : (costs s ms w l).Pairwise (Bear (ms.length + 1)) := by
  unfold costs
  rw [List.pairwise_map]
  refine List.pairwise_lt_range.imp fun {p q} hpq a b hab hb => ?_
  have hb' : b < (panesOf s ms).length + 1 := by rw [panes_len]; exact hb
  rw [row_get _ _ _ _ hb', row_get _ _ _ _ hb', row_get _ _ _ _ (by omega)]
  unfold costAt
  have d : duePlace (panesOf s ms) (p : Int) ≤ duePlace (panesOf s ms) (q : Int) := by
    rw [due_eq, due_eq]
    exact due_mono _ (by omega)
  have h1 : w * max 0 ((b : Int) - (duePlace (panesOf s ms) (q : Int) : Nat)) ≤ w * max 0 ((b : Int) - (duePlace (panesOf s ms) (p : Int) : Nat)) := Int.mul_le_mul_of_nonneg_left (by omega) h.w1
  have c : ((panesOf s ms).drop b).count (q : Int) ≤ ((panesOf s ms).drop a).count (q : Int) := by
    have e : (panesOf s ms).drop b = ((panesOf s ms).drop a).drop (b - a) := by rw [List.drop_drop]; congr 1; omega
    rw [e]
    exact List.Sublist.count_le _ (List.drop_sublist _ _)
  have h2 : l * ((((panesOf s ms).drop b).count (q : Int) : Nat) : Int) ≤ l * ((((panesOf s ms).drop a).count (q : Int) : Nat) : Int) := Int.mul_le_mul_of_nonneg_left (by omega) h.l1
  have h3 : 0 ≤ l * ((((panesOf s ms).drop b).count (p : Int) : Nat) : Int) := Int.mul_nonneg h.l1 (by omega)
  have h4 : 0 ≤ w * max 0 ((a : Int) - (duePlace (panesOf s ms) (q : Int) : Nat)) := Int.mul_nonneg h.w1 (by omega)
  omega
theorem costs_one (h : Ok s ms w l) : IsMin (ms.length + 1) (costs s ms w l) 0 (oneL (costs s ms w l)) := one_min (Nat.succ_pos _) _ costs_wide (costs_ne h)
/-- the law's own rows are the same -/
theorem later_law (h : Ok s ms w l) (p : Nat) : ((List.range ms.length).filter fun i => decide (((p : Int) + 1) * s ≤ ms.getD i 0)) = later (panesOf s ms) p := by
  unfold later
  rw [panes_len]
  refine List.filter_congr fun i hi => ?_
  rw [List.mem_range] at hi
  have e : (panesOf s ms).getD i 0 = ms.getD i 0 / s := by
    rw [getD_of (by rw [panes_len]; exact hi), getD_of hi]
    simp [panesOf]
  rw [e]
  have hs : 0 < s := by have := h.s1; omega
  congr 1
  rw [eq_iff_iff, ← Int.add_one_le_iff, Int.le_ediv_iff_mul_le hs]
theorem drop_range {α : Type} (xs : List α) (d : α) (e : Nat) : xs.drop e = (List.range (xs.length - e)).map fun i => xs.getD (e + i) d := by
  refine List.ext_getElem (by simp) fun i h1 h2 => ?_
  simp at h1
  rw [List.getElem_drop, List.getElem_map, List.getElem_range, getD_of (by omega)]
theorem lost_law (h : Ok s ms w l) (p e : Nat) : ((List.range (ms.length - e)).filter fun i => decide ((p : Int) * s ≤ ms.getD (e + i) 0 ∧ ms.getD (e + i) 0 < ((p : Int) + 1) * s)).length = ((panesOf s ms).drop e).count (p : Int) := by
  have hs : 0 < s := by have := h.s1; omega
  unfold panesOf
  rw [← List.map_drop, drop_range ms 0 e, List.map_map, List.count, List.countP_map, List.countP_eq_length_filter]
  congr 1
  refine List.filter_congr fun i _ => ?_
  simp only [Function.comp]
  rw [Bool.eq_iff_iff, decide_eq_true_eq, beq_iff_eq]
  constructor
  · rintro ⟨a, b⟩
    have := (Int.le_ediv_iff_mul_le hs).mpr a
    have := (Int.ediv_lt_iff_lt_mul hs).mpr b
    omega
  · intro q
    refine ⟨(Int.le_ediv_iff_mul_le hs).mp (by omega), (Int.ediv_lt_iff_lt_mul hs).mp (by omega)⟩
theorem top_law (h : Ok s ms w l) : lmax ms / s = lmax (panesOf s ms) := by
  have hs : 0 < s := by have := h.s1; omega
  have ne : ms ≠ [] := fun z => by have := h.n1; rw [z] at this; simp at this
  obtain ⟨a, b⟩ := lmax_spec ne
  refine (lmax_is (xs := ms.map (· / s)) (m := lmax ms / s) (List.mem_map.mpr ⟨_, a, rfl⟩) fun y hy => ?_).symm
  obtain ⟨m, hm, rfl⟩ := List.mem_map.mp hy
  exact Int.ediv_le_ediv hs (b m hm)
end

theorem zip_range (ps : List Int) : ps.zipIdx = (List.range ps.length).map fun i => (ps.getD i 0, i) := by
  refine List.ext_getElem (by simp) fun i h1 h2 => ?_
  simp at h1
  simp [List.getElem?_eq_getElem h1]
theorem later_zip (ps : List Int) (p : Int) : (ps.zipIdx.filter fun q => decide (p < q.1)).map (·.2) = later ps p := by
  rw [zip_range, List.filter_map, List.map_map]
  unfold later
  simp [Function.comp_def]

theorem chF_lo {W : Nat} : ∀ {lo : Nat} {es : List Nat}, ChF W lo es → ∀ x ∈ es, lo ≤ x ∧ x < W
  | _, [], _, _, h => by cases h
  | lo, e :: es, hc, x, hx => by
    rcases List.mem_cons.mp hx with rfl | hx
    · exact ⟨hc.1, hc.2.1⟩
    · have := chF_lo hc.2.2 x hx
      have := hc.1
      omega
theorem chF_prev {W : Nat} : ∀ {lo : Nat} {es : List Nat}, ChF W lo es → ∀ i (h : i + 1 < es.length), es[i] ≤ es[i + 1]
  | _, [], _, _, h => by simp at h
  | _, [e], _, _, h => by simp at h
  | lo, e :: f :: es, hc, 0, _ => hc.2.2.1
  | lo, e :: f :: es, hc, i + 1, h => chF_prev hc.2.2 i (by simpa using h)
/-- each place stands between the one before it and the end -/
theorem chF_at {W : Nat} {es : List Nat} (hc : ChF W 0 es) {x i : Nat} (h : (x, i) ∈ es.zipIdx) : i < es.length ∧ x < W ∧ (0 < i → ∃ (h : i - 1 < es.length), es[i - 1] ≤ x) := by
  obtain ⟨_, h2, h3⟩ := List.mem_zipIdx h
  simp at h2 h3
  refine ⟨h2, by rw [h3]; exact (chF_lo hc _ (List.getElem_mem h2)).2, fun hi => ⟨by omega, ?_⟩⟩
  have := chF_prev hc (i - 1) (by omega)
  simp only [show i - 1 + 1 = i by omega] at this
  exact Nat.le_trans this (Nat.le_of_eq h3.symm)

theorem pcost_zip : ∀ (rows : List Row) (es : List Nat), ((rows.zip es).map fun q => q.1.getD q.2 0).sum = pcost rows es
  | [], _ => by simp [pcost]
  | _ :: _, [] => by simp [pcost]
  | r :: rs, e :: es => by
    rw [List.zip_cons_cons, List.map_cons, List.sum_cons, pcost_zip rs es]
    rfl
theorem zip_ok {W : Nat} {rows : List Row} {es : List Nat} (hw : Wide W rows) (hc : ChF W 0 es) : ∀ q ∈ rows.zip es, q.2 < q.1.length := fun q hq => by
  have h1 := List.of_mem_zip (show (q.1, q.2) ∈ rows.zip es from hq)
  rw [hw _ h1.1]
  exact (chF_lo hc _ h1.2).2
theorem all_len {W : Nat} (rows : List Row) : (allL W rows).length ≤ W ^ rows.length := by
  induction rows using revInd with
  | nil => simp [allL]
  | snoc rows cs ih =>
    rw [all_snoc, List.length_flatMap]
    refine Nat.le_trans (ext_len (allL W rows)) ?_
    rw [List.length_append, List.length_singleton, Nat.pow_succ]
    exact Nat.mul_le_mul_right W ih
where
  ext_len (ls : List (List Nat)) : (ls.map fun es => (((List.range W).filter (okAfter es)).map fun p => es ++ [p]).length).sum ≤ ls.length * W := by
    induction ls with
    | nil => simp
    | cons es ls ih =>
      rw [List.map_cons, List.sum_cons, List.length_cons, Nat.add_mul, Nat.one_mul]
      have h1 : (((List.range W).filter (okAfter es)).map fun p => es ++ [p]).length ≤ W := by
        rw [List.length_map]
        exact Nat.le_trans (List.length_filter_le _ _) (by simp)
      omega

theorem chF_rep {W : Nat} (h : 0 < W) : ∀ n, ChF W 0 (List.replicate n 0)
  | 0 => trivial
  | n + 1 => ⟨Nat.le_refl _, h, chF_rep h n⟩

theorem pcost_le {W : Nat} {M : Int} : ∀ {rows : List Row} {es : List Nat} {lo : Nat}, Wide W rows → (∀ r ∈ rows, ∀ x ∈ r, 0 ≤ x ∧ x ≤ M) → es.length = rows.length → ChF W lo es → 0 ≤ pcost rows es ∧ pcost rows es ≤ rows.length * M
  | [], [], _, _, _, _, _ => ⟨Int.le_refl _, by simp [pcost]⟩
  | r :: rs, e :: es, lo, hw, hm, hl, hc => by
    have hr : r.length = W := hw r (List.mem_cons_self ..)
    have h1 := pcost_le (rows := rs) (es := es) (fun r hr => hw r (List.mem_cons_of_mem _ hr)) (fun r hr => hm r (List.mem_cons_of_mem _ hr)) (by simpa using hl) hc.2.2
    have h2 := hm r (List.mem_cons_self ..) _ (mem_getD (xs := r) (i := e) (by rw [hr]; exact hc.2.1))
    simp only [pcost, List.length_cons]
    push_cast
    rw [Int.add_mul]
    omega
  | [], _ :: _, _, _, _, h, _ => by simp at h
  | _ :: _, [], _, _, _, h, _ => by simp at h
theorem pcost_bound {s : Int} {ms : List Int} {w l : Int} (h : Ok s ms w l) {es : List Nat} (hl : es.length = (costs s ms w l).length) (hc : ChF (ms.length + 1) 0 es) : 0 ≤ pcost (costs s ms w l) es ∧ pcost (costs s ms w l) es ≤ 20100000 := by
  obtain ⟨a, b⟩ := pcost_le (M := 100000) costs_wide (costs_mem h) hl hc
  have := (costs_len h).2
  omega
theorem own_nonneg {s : Int} {ms : List Int} {w l : Int} (h : Ok s ms w l) : 0 ≤ ownL (costs s ms w l) :=
  (sum_nonneg fun x hx => by
    obtain ⟨r, hr, rfl⟩ := List.mem_map.mp hx
    exact costs_least h r hr).1
theorem near_places {n : Nat} {es : List Nat} (hc : ChF (n + 1) 0 es) (hn : n ≤ 40) : ∀ x ∈ es.map (fun e : Nat => (e : Int)), Near x := fun x hx => by
  obtain ⟨e, he, rfl⟩ := List.mem_map.mp hx
  have := (chF_lo hc e he).2
  exact ⟨by omega, by omega⟩
theorem chF_pair {W : Nat} : ∀ {lo : Nat} {es : List Nat}, ChF W lo es → (es.map fun e : Nat => (e : Int)).Pairwise (· ≤ ·)
  | _, [], _ => List.Pairwise.nil
  | lo, e :: es, hc => by
    rw [List.map_cons, List.pairwise_cons]
    refine ⟨fun y hy => ?_, chF_pair hc.2.2⟩
    obtain ⟨x, hx, rfl⟩ := List.mem_map.mp hy
    have := (chF_lo hc.2.2 x hx).1
    omega
theorem sort_places {W lo : Nat} {es : List Nat} (hc : ChF W lo es) : sortI (es.map fun e : Nat => (e : Int)) = es.map fun e : Nat => (e : Int) := (sortI_eq (List.Perm.refl _) (chF_pair hc)).symm
theorem chF_of {n : Nat} : ∀ {xs : List Int} {lo : Nat}, xs.Pairwise (· ≤ ·) → (∀ x ∈ xs, (lo : Int) ≤ x ∧ x ≤ n) → ChF (n + 1) lo (xs.map Int.toNat)
  | [], _, _, _ => trivial
  | x :: xs, lo, hp, hm => by
    obtain ⟨a, b⟩ := List.pairwise_cons.mp hp
    have hx := hm x (List.mem_cons_self ..)
    refine ⟨by omega, by omega, chF_of b fun y hy => ?_⟩
    have := a y hy
    have := hm y (List.mem_cons_of_mem _ hy)
    omega
/-- drawn places in order are a chain -/
theorem drawn_ok {n : Nat} {ns : List Int} (h : ∀ x ∈ ns, 0 ≤ x ∧ x ≤ n) : ∃ es : List Nat, dInts (sortI ns) = dNats es ∧ es.length = ns.length ∧ ChF (n + 1) 0 es := by
  have hp := sortI_perm ns
  have hm : ∀ x ∈ sortI ns, ((0 : Nat) : Int) ≤ x ∧ x ≤ n := fun x hx => by
    have := h x (hp.mem_iff.mp hx)
    omega
  refine ⟨(sortI ns).map Int.toNat, ?_, by rw [List.length_map]; exact hp.length_eq, chF_of (sortI_sorted ns) hm⟩
  rw [dNats_ints, List.map_map]
  congr 1
  conv => lhs; rw [← List.map_id (sortI ns)]
  refine List.map_congr_left fun x hx => ?_
  have := (hm x hx).1
  simp only [Function.comp, id]
  omega
end k72


namespace k72
open PySem PySem.Spec L2 DL
def TP : Nat → DFn
  | 0 => fun _ _ _ _ => False
  | n + 1 => fun _ ds k _ => ∃ d, ds = [d] ∧ plainD d = true ∧ d.depth ≤ n ∧ wgt d ≤ sizeLine ∧ k (.bool true) 0

abbrev nn_is_whole : Nat := 1
-- 0:thing
def B_is_whole : (String → Prop) → DSt := fun kx => (dRet (dAndV (dIsi "int" (dVar 0)) (dNotV (dIsi "bool" (dVar 0)))))
def R_is_whole : DFn := den false 1 B_is_whole
def T_is_whole : DFn := fun _ ds k _ => ∃ n : Int, ds = [.int n] ∧ k (.bool true) 0
theorem imp_is_whole : ∀ B ds k kx, ds.length = 1 → T_is_whole B ds k kx → R_is_whole B ds k kx := fun B ds k kx _ h => by
  obtain ⟨n, rfl, hk⟩ := h
  simp [R_is_whole, B_is_whole, den, initS, endB, dSeq, dSet, dPar, dRet, dRetN, dIfS, dDrop, dFor, dNext, dBreak, dCont, dNever, dRaise, dAug, fAddI, dAppend, dSetIx, dVar, dC, dOp, dUn, dCB, dNil, dCons, dLst, dTup, dTest, dAnd, dOr, dNot, dAndV, dOrV, dNotV, dIf, dChain, dIsi, dIsi2, dYes, fAdd, fSub, fMul, fDiv, fMod, fPow, fNeg, fIx, fLen, fMax, fMin, fSum, fSorted, fAbs, fInt, fList, fTuple, fRepr, gEq, gNe, gLt, gLe, gGt, gGe, gIn, gNotIn, gIs, gIsNot, cD, put, cut, see, sees, look, fz, fzs, fzV, fill, dLc, dSeqI, dRng1, dRng2, dEnum, dZip, dName, dgTup, dgCons, dgNil, dAsg, dCall, dCallS, stAll, mapSt_st, mapSt_no, mapSt_val, mapSt_ow, mapSt_scr, mapSt_ns, noSts, wipeS, dSl, dPart, dNoPart, fSl, dRev, dBM, mCount, mIndex, dStInt, dStTurn, dStPop, dStCells, dStPut, dStTurnPut, dLenScr, tyName, isTyN, isNone, isBool, toInts_ints, dInts_len, List.map_cons, List.map_nil, List.map_append, List.getElem?_cons_zero, List.getElem?_cons_succ, List.set_cons_zero, List.set_cons_succ, List.length_cons, List.length_nil, List.take_nil, List.take_zero, List.take_succ_cons, List.cons_append, List.nil_append, List.replicate_zero, List.replicate_succ, if_true, if_false, ite_true, ite_false, Bool.false_eq_true, Bool.not_true, Bool.not_false, reduceIte, Nat.zero_add, Nat.add_zero, Nat.reduceAdd, Nat.reduceSub, Nat.sub_self, decide_true, decide_false, true_and, and_true, List.length_map]
  exact hk

abbrev nn_need_number : Nat := 3
-- 0:thing 1:low 2:high
def B_need_number : (String → Prop) → DSt := fun kx => (dIfS (dOr (dNot (dTest (dCall 1 T_is_whole (fun _ => False) (dCons (dVar 0) dNil)))) (dNot (dTest (dChain gLe gLe (dVar 1) (dVar 0) (dVar 2))))) (dRaise kx "NoAsk") dNext)
def R_need_number : DFn := den false 3 B_need_number
def T_need_number : DFn := fun _ ds k _ => ∃ n lo hi : Int, ds = [.int n, .int lo, .int hi] ∧ lo ≤ n ∧ n ≤ hi ∧ k .none 0
theorem imp_need_number : ∀ B ds k kx, ds.length = 3 → T_need_number B ds k kx → R_need_number B ds k kx := fun B ds k kx _ h => by
  obtain ⟨n, lo, hi, rfl, h1, h2, hk⟩ := h
  simp only [R_need_number, B_need_number, T_is_whole, den, initS, endB, dSeq, dSet, dPar, dRet, dRetN, dIfS, dDrop, dFor, dNext, dBreak, dCont, dNever, dRaise, dAug, fAddI, dAppend, dSetIx, dVar, dC, dOp, dUn, dCB, dNil, dCons, dLst, dTup, dTest, dAnd, dOr, dNot, dAndV, dOrV, dNotV, dIf, dChain, dIsi, dIsi2, dYes, fAdd, fSub, fMul, fDiv, fMod, fPow, fNeg, fIx, fLen, fMax, fMin, fSum, fSorted, fAbs, fInt, fList, fTuple, fRepr, gEq, gNe, gLt, gLe, gGt, gGe, gIn, gNotIn, gIs, gIsNot, cD, put, cut, see, sees, look, fz, fzs, fzV, fill, dLc, dSeqI, dRng1, dRng2, dEnum, dZip, dName, dgTup, dgCons, dgNil, dAsg, dCall, dCallS, stAll, mapSt_st, mapSt_no, mapSt_val, mapSt_ow, mapSt_scr, mapSt_ns, noSts, wipeS, dSl, dPart, dNoPart, fSl, dRev, dBM, mCount, mIndex, dStInt, dStTurn, dStPop, dStCells, dStPut, dStTurnPut, dLenScr, tyName, isTyN, isNone, isBool, toInts_ints, dInts_len, List.map_cons, List.map_nil, List.map_append, List.getElem?_cons_zero, List.getElem?_cons_succ, List.set_cons_zero, List.set_cons_succ, List.length_cons, List.length_nil, List.take_nil, List.take_zero, List.take_succ_cons, List.cons_append, List.nil_append, List.replicate_zero, List.replicate_succ, if_true, if_false, ite_true, ite_false, Bool.false_eq_true, Bool.not_true, Bool.not_false, reduceIte, Nat.zero_add, Nat.add_zero, Nat.reduceAdd, Nat.reduceSub, Nat.sub_self, decide_true, decide_false, true_and, and_true, List.length_map]
  refine ⟨n, rfl, ?_⟩
  simp [h1, h2]
  exact hk

abbrev nn_need_moments : Nat := 5
-- 0:size 1:moments 2:wait 3:lose 4:moment
def B_need_moments : (String → Prop) → DSt := fun kx => (dSeq (dDrop (dCall 3 T_need_number (fun _ => False) (dCons (dVar 0) (dCons (dC (.int 1)) (dCons (dC (.int 20)) dNil))))) (dSeq (dIfS (dOr (dNot (dTest (dIsi "list" (dVar 1)))) (dNot (dTest (dChain gLe gLe (dC (.int 1)) (dCB fLen (dCons (dVar 1) dNil)) (dC (.int 40)))))) (dRaise kx "NoAsk") dNext) (dSeq (dFor (dSeqI (dVar 1)) (dName 4) (dDrop (dCall 3 T_need_number (fun _ => False) (dCons (dVar 4) (dCons (dC (.int 0)) (dCons (dC (.int 200)) dNil)))))) (dSeq (dDrop (dCall 3 T_need_number (fun _ => False) (dCons (dVar 2) (dCons (dC (.int 0)) (dCons (dC (.int 1000)) dNil))))) (dDrop (dCall 3 T_need_number (fun _ => False) (dCons (dVar 3) (dCons (dC (.int 0)) (dCons (dC (.int 1000)) dNil)))))))))
def R_need_moments : DFn := den false 5 B_need_moments
def T_need_moments : DFn := fun _ ds k _ => ∃ (s : Int) (ms : List Int) (w l : Int), ds = [.int s, .list (dInts ms), .int w, .int l] ∧ Ok s ms w l ∧ k .none 0
theorem imp_need_moments : ∀ B ds k kx, ds.length = 4 → T_need_moments B ds k kx → R_need_moments B ds k kx := fun B ds k kx _ h => by
  obtain ⟨s, ms, w, l, rfl, h, hk⟩ := h
  obtain ⟨h1, h2, h3, h4, h5, h6, h7, h8, h9⟩ := h
  simp only [R_need_moments, B_need_moments, den, initS]
  refine seq_to [.val (.int s), .val (.list (dInts ms)), .val (.int w), .val (.int l), .no] (fun k' hk' => ?_) ?_
  · simp only [T_need_number, den, initS, endB, dSeq, dSet, dPar, dRet, dRetN, dIfS, dDrop, dFor, dNext, dBreak, dCont, dNever, dRaise, dAug, fAddI, dAppend, dSetIx, dVar, dC, dOp, dUn, dCB, dNil, dCons, dLst, dTup, dTest, dAnd, dOr, dNot, dAndV, dOrV, dNotV, dIf, dChain, dIsi, dIsi2, dYes, fAdd, fSub, fMul, fDiv, fMod, fPow, fNeg, fIx, fLen, fMax, fMin, fSum, fSorted, fAbs, fInt, fList, fTuple, fRepr, gEq, gNe, gLt, gLe, gGt, gGe, gIn, gNotIn, gIs, gIsNot, cD, put, cut, see, sees, look, fz, fzs, fzV, fill, dLc, dSeqI, dRng1, dRng2, dEnum, dZip, dName, dgTup, dgCons, dgNil, dAsg, dCall, dCallS, stAll, mapSt_st, mapSt_no, mapSt_val, mapSt_ow, mapSt_scr, mapSt_ns, noSts, wipeS, dSl, dPart, dNoPart, fSl, dRev, dBM, mCount, mIndex, dStInt, dStTurn, dStPop, dStCells, dStPut, dStTurnPut, dLenScr, tyName, isTyN, isNone, isBool, toInts_ints, dInts_len, List.map_cons, List.map_nil, List.map_append, List.getElem?_cons_zero, List.getElem?_cons_succ, List.set_cons_zero, List.set_cons_succ, List.length_cons, List.length_nil, List.take_nil, List.take_zero, List.take_succ_cons, List.cons_append, List.nil_append, List.replicate_zero, List.replicate_succ, if_true, if_false, ite_true, ite_false, Bool.false_eq_true, Bool.not_true, Bool.not_false, reduceIte, Nat.zero_add, Nat.add_zero, Nat.reduceAdd, Nat.reduceSub, Nat.sub_self, decide_true, decide_false, true_and, and_true, List.length_map]
    exact ⟨s, _, _, rfl, h1, h2, hk'⟩
  refine seq_to [.val (.int s), .val (.list (dInts ms)), .val (.int w), .val (.int l), .no] (fun k' hk' => ?_) ?_
  · have a1 : (1 : Int) ≤ ms.length := by omega
    have a2 : (ms.length : Int) ≤ 40 := by omega
    simp [den, initS, endB, dSeq, dSet, dPar, dRet, dRetN, dIfS, dDrop, dFor, dNext, dBreak, dCont, dNever, dRaise, dAug, fAddI, dAppend, dSetIx, dVar, dC, dOp, dUn, dCB, dNil, dCons, dLst, dTup, dTest, dAnd, dOr, dNot, dAndV, dOrV, dNotV, dIf, dChain, dIsi, dIsi2, dYes, fAdd, fSub, fMul, fDiv, fMod, fPow, fNeg, fIx, fLen, fMax, fMin, fSum, fSorted, fAbs, fInt, fList, fTuple, fRepr, gEq, gNe, gLt, gLe, gGt, gGe, gIn, gNotIn, gIs, gIsNot, cD, put, cut, see, sees, look, fz, fzs, fzV, fill, dLc, dSeqI, dRng1, dRng2, dEnum, dZip, dName, dgTup, dgCons, dgNil, dAsg, dCall, dCallS, stAll, mapSt_st, mapSt_no, mapSt_val, mapSt_ow, mapSt_scr, mapSt_ns, noSts, wipeS, dSl, dPart, dNoPart, fSl, dRev, dBM, mCount, mIndex, dStInt, dStTurn, dStPop, dStCells, dStPut, dStTurnPut, dLenScr, tyName, isTyN, isNone, isBool, toInts_ints, dInts_len, List.map_cons, List.map_nil, List.map_append, List.getElem?_cons_zero, List.getElem?_cons_succ, List.set_cons_zero, List.set_cons_succ, List.length_cons, List.length_nil, List.take_nil, List.take_zero, List.take_succ_cons, List.cons_append, List.nil_append, List.replicate_zero, List.replicate_succ, if_true, if_false, ite_true, ite_false, Bool.false_eq_true, Bool.not_true, Bool.not_false, reduceIte, Nat.zero_add, Nat.add_zero, Nat.reduceAdd, Nat.reduceSub, Nat.sub_self, decide_true, decide_false, true_and, and_true, List.length_map, a1, a2]
    exact hk'
  refine dSeq_for ?_
  simp only [den, initS, endB, dSeq, dSet, dPar, dRet, dRetN, dIfS, dDrop, dFor, dNext, dBreak, dCont, dNever, dRaise, dAug, fAddI, dAppend, dSetIx, dVar, dC, dOp, dUn, dCB, dNil, dCons, dLst, dTup, dTest, dAnd, dOr, dNot, dAndV, dOrV, dNotV, dIf, dChain, dIsi, dIsi2, dYes, fAdd, fSub, fMul, fDiv, fMod, fPow, fNeg, fIx, fLen, fMax, fMin, fSum, fSorted, fAbs, fInt, fList, fTuple, fRepr, gEq, gNe, gLt, gLe, gGt, gGe, gIn, gNotIn, gIs, gIsNot, cD, put, cut, see, sees, look, fz, fzs, fzV, fill, dLc, dSeqI, dRng1, dRng2, dEnum, dZip, dName, dgTup, dgCons, dgNil, dAsg, dCall, dCallS, stAll, mapSt_st, mapSt_no, mapSt_val, mapSt_ow, mapSt_scr, mapSt_ns, noSts, wipeS, dSl, dPart, dNoPart, fSl, dRev, dBM, mCount, mIndex, dStInt, dStTurn, dStPop, dStCells, dStPut, dStTurnPut, dLenScr, tyName, isTyN, isNone, isBool, toInts_ints, dInts_len, List.map_cons, List.map_nil, List.map_append, List.getElem?_cons_zero, List.getElem?_cons_succ, List.set_cons_zero, List.set_cons_succ, List.length_cons, List.length_nil, List.take_nil, List.take_zero, List.take_succ_cons, List.cons_append, List.nil_append, List.replicate_zero, List.replicate_succ, if_true, if_false, ite_true, ite_false, Bool.false_eq_true, Bool.not_true, Bool.not_false, reduceIte, Nat.zero_add, Nat.add_zero, Nat.reduceAdd, Nat.reduceSub, Nat.sub_self, decide_true, decide_false, true_and, and_true, List.length_map]
  refine for_each PyData.int (fun t => ∃ y, t = [.val (.int s), .val (.list (dInts ms)), .val (.int w), .val (.int l), y]) ms ⟨_, rfl⟩ (fun m hm t ht k' b hk' => ?_) fun t ht => ?_
  · obtain ⟨y, rfl⟩ := ht
    simp only [T_need_number, den, initS, endB, dSeq, dSet, dPar, dRet, dRetN, dIfS, dDrop, dFor, dNext, dBreak, dCont, dNever, dRaise, dAug, fAddI, dAppend, dSetIx, dVar, dC, dOp, dUn, dCB, dNil, dCons, dLst, dTup, dTest, dAnd, dOr, dNot, dAndV, dOrV, dNotV, dIf, dChain, dIsi, dIsi2, dYes, fAdd, fSub, fMul, fDiv, fMod, fPow, fNeg, fIx, fLen, fMax, fMin, fSum, fSorted, fAbs, fInt, fList, fTuple, fRepr, gEq, gNe, gLt, gLe, gGt, gGe, gIn, gNotIn, gIs, gIsNot, cD, put, cut, see, sees, look, fz, fzs, fzV, fill, dLc, dSeqI, dRng1, dRng2, dEnum, dZip, dName, dgTup, dgCons, dgNil, dAsg, dCall, dCallS, stAll, mapSt_st, mapSt_no, mapSt_val, mapSt_ow, mapSt_scr, mapSt_ns, noSts, wipeS, dSl, dPart, dNoPart, fSl, dRev, dBM, mCount, mIndex, dStInt, dStTurn, dStPop, dStCells, dStPut, dStTurnPut, dLenScr, tyName, isTyN, isNone, isBool, toInts_ints, dInts_len, List.map_cons, List.map_nil, List.map_append, List.getElem?_cons_zero, List.getElem?_cons_succ, List.set_cons_zero, List.set_cons_succ, List.length_cons, List.length_nil, List.take_nil, List.take_zero, List.take_succ_cons, List.cons_append, List.nil_append, List.replicate_zero, List.replicate_succ, if_true, if_false, ite_true, ite_false, Bool.false_eq_true, Bool.not_true, Bool.not_false, reduceIte, Nat.zero_add, Nat.add_zero, Nat.reduceAdd, Nat.reduceSub, Nat.sub_self, decide_true, decide_false, true_and, and_true, List.length_map]
    exact ⟨m, _, _, rfl, (h5 m hm).1, (h5 m hm).2, hk' _ ⟨_, rfl⟩⟩
  · obtain ⟨y, rfl⟩ := ht
    simp only [T_need_number, den, initS, endB, dSeq, dSet, dPar, dRet, dRetN, dIfS, dDrop, dFor, dNext, dBreak, dCont, dNever, dRaise, dAug, fAddI, dAppend, dSetIx, dVar, dC, dOp, dUn, dCB, dNil, dCons, dLst, dTup, dTest, dAnd, dOr, dNot, dAndV, dOrV, dNotV, dIf, dChain, dIsi, dIsi2, dYes, fAdd, fSub, fMul, fDiv, fMod, fPow, fNeg, fIx, fLen, fMax, fMin, fSum, fSorted, fAbs, fInt, fList, fTuple, fRepr, gEq, gNe, gLt, gLe, gGt, gGe, gIn, gNotIn, gIs, gIsNot, cD, put, cut, see, sees, look, fz, fzs, fzV, fill, dLc, dSeqI, dRng1, dRng2, dEnum, dZip, dName, dgTup, dgCons, dgNil, dAsg, dCall, dCallS, stAll, mapSt_st, mapSt_no, mapSt_val, mapSt_ow, mapSt_scr, mapSt_ns, noSts, wipeS, dSl, dPart, dNoPart, fSl, dRev, dBM, mCount, mIndex, dStInt, dStTurn, dStPop, dStCells, dStPut, dStTurnPut, dLenScr, tyName, isTyN, isNone, isBool, toInts_ints, dInts_len, List.map_cons, List.map_nil, List.map_append, List.getElem?_cons_zero, List.getElem?_cons_succ, List.set_cons_zero, List.set_cons_succ, List.length_cons, List.length_nil, List.take_nil, List.take_zero, List.take_succ_cons, List.cons_append, List.nil_append, List.replicate_zero, List.replicate_succ, if_true, if_false, ite_true, ite_false, Bool.false_eq_true, Bool.not_true, Bool.not_false, reduceIte, Nat.zero_add, Nat.add_zero, Nat.reduceAdd, Nat.reduceSub, Nat.sub_self, decide_true, decide_false, true_and, and_true, List.length_map]
    exact ⟨w, _, _, rfl, h6, h7, l, _, _, rfl, h8, h9, hk⟩

abbrev nn_due_place : Nat := 5
-- 0:panes 1:pane 2:later 3:at 4:one
def B_due_place : (String → Prop) → DSt := fun kx => (dSeq (dSet 2 (dLc (dEnum (dCons (dVar 0) dNil)) (dgTup 2 (dgCons (dName 3) (dgCons (dName 4) dgNil))) (dTest (dOp (cD gGt) (dVar 4) (dVar 1))) (dVar 3) [3, 4])) (dRet (dIf (dTest (dOp (cD gNe) (dVar 2) (dLst dNil))) (dOp fAdd (dOp fIx (dVar 2) (dC (.int 0))) (dC (.int 1))) (dCB fLen (dCons (dVar 0) dNil)))))
def R_due_place : DFn := den false 5 B_due_place
def T_due_place : DFn := fun _ ds k _ => ∃ (ps : List Int) (p : Int), ds = [.list (dInts ps), .int p] ∧ ps.length < sizeLine ∧ k (.int (duePlace ps p : Nat)) 0
theorem imp_due_place : ∀ B ds k kx, ds.length = 2 → T_due_place B ds k kx → R_due_place B ds k kx := fun B ds k kx _ h => by
  obtain ⟨ps, p, rfl, hl, hk⟩ := h
  simp only [R_due_place, B_due_place, den, initS]
  refine seq_to [.val (.list (dInts ps)), .val (.int p), .own (.lst ((later ps p).map fun i : Nat => .int (i : Int))), .no, .no] (fun k' hk' => ?_) ?_
  · simp only [dSet, dLc, den, initS, endB, dSeq, dSet, dPar, dRet, dRetN, dIfS, dDrop, dFor, dNext, dBreak, dCont, dNever, dRaise, dAug, fAddI, dAppend, dSetIx, dVar, dC, dOp, dUn, dCB, dNil, dCons, dLst, dTup, dTest, dAnd, dOr, dNot, dAndV, dOrV, dNotV, dIf, dChain, dIsi, dIsi2, dYes, fAdd, fSub, fMul, fDiv, fMod, fPow, fNeg, fIx, fLen, fMax, fMin, fSum, fSorted, fAbs, fInt, fList, fTuple, fRepr, gEq, gNe, gLt, gLe, gGt, gGe, gIn, gNotIn, gIs, gIsNot, cD, put, cut, see, sees, look, fz, fzs, fzV, fill, dLc, dSeqI, dRng1, dRng2, dEnum, dZip, dName, dgTup, dgCons, dgNil, dAsg, dCall, dCallS, stAll, mapSt_st, mapSt_no, mapSt_val, mapSt_ow, mapSt_scr, mapSt_ns, noSts, wipeS, dSl, dPart, dNoPart, fSl, dRev, dBM, mCount, mIndex, dStInt, dStTurn, dStPop, dStCells, dStPut, dStTurnPut, dLenScr, tyName, isTyN, isNone, isBool, toInts_ints, dInts_len, List.map_cons, List.map_nil, List.map_append, List.getElem?_cons_zero, List.getElem?_cons_succ, List.set_cons_zero, List.set_cons_succ, List.length_cons, List.length_nil, List.take_nil, List.take_zero, List.take_succ_cons, List.cons_append, List.nil_append, List.replicate_zero, List.replicate_succ, if_true, if_false, ite_true, ite_false, Bool.false_eq_true, Bool.not_true, Bool.not_false, reduceIte, Nat.zero_add, Nat.add_zero, Nat.reduceAdd, Nat.reduceSub, Nat.sub_self, decide_true, decide_false, true_and, and_true, List.length_map]
    rw [dInts_map, enumL_map]
    refine ⟨by rw [List.length_map, List.length_zipIdx]; exact hl, ?_⟩
    refine lc_filter _ (fun q : Int × Nat => decide (p < q.1)) (fun q => .int ((q.2 : Nat) : Int)) ps.zipIdx (fun q hq k2 h2 => ?_) ?_
    · simp only [stepLc, den, initS, endB, dSeq, dSet, dPar, dRet, dRetN, dIfS, dDrop, dFor, dNext, dBreak, dCont, dNever, dRaise, dAug, fAddI, dAppend, dSetIx, dVar, dC, dOp, dUn, dCB, dNil, dCons, dLst, dTup, dTest, dAnd, dOr, dNot, dAndV, dOrV, dNotV, dIf, dChain, dIsi, dIsi2, dYes, fAdd, fSub, fMul, fDiv, fMod, fPow, fNeg, fIx, fLen, fMax, fMin, fSum, fSorted, fAbs, fInt, fList, fTuple, fRepr, gEq, gNe, gLt, gLe, gGt, gGe, gIn, gNotIn, gIs, gIsNot, cD, put, cut, see, sees, look, fz, fzs, fzV, fill, dLc, dSeqI, dRng1, dRng2, dEnum, dZip, dName, dgTup, dgCons, dgNil, dAsg, dCall, dCallS, stAll, mapSt_st, mapSt_no, mapSt_val, mapSt_ow, mapSt_scr, mapSt_ns, noSts, wipeS, dSl, dPart, dNoPart, fSl, dRev, dBM, mCount, mIndex, dStInt, dStTurn, dStPop, dStCells, dStPut, dStTurnPut, dLenScr, tyName, isTyN, isNone, isBool, toInts_ints, dInts_len, List.map_cons, List.map_nil, List.map_append, List.getElem?_cons_zero, List.getElem?_cons_succ, List.set_cons_zero, List.set_cons_succ, List.length_cons, List.length_nil, List.take_nil, List.take_zero, List.take_succ_cons, List.cons_append, List.nil_append, List.replicate_zero, List.replicate_succ, if_true, if_false, ite_true, ite_false, Bool.false_eq_true, Bool.not_true, Bool.not_false, reduceIte, Nat.zero_add, Nat.add_zero, Nat.reduceAdd, Nat.reduceSub, Nat.sub_self, decide_true, decide_false, true_and, and_true, List.length_map]
      by_cases hc : p < q.1 <;> simpa [hc] using h2
    · simp only [den, initS, endB, dSeq, dSet, dPar, dRet, dRetN, dIfS, dDrop, dFor, dNext, dBreak, dCont, dNever, dRaise, dAug, fAddI, dAppend, dSetIx, dVar, dC, dOp, dUn, dCB, dNil, dCons, dLst, dTup, dTest, dAnd, dOr, dNot, dAndV, dOrV, dNotV, dIf, dChain, dIsi, dIsi2, dYes, fAdd, fSub, fMul, fDiv, fMod, fPow, fNeg, fIx, fLen, fMax, fMin, fSum, fSorted, fAbs, fInt, fList, fTuple, fRepr, gEq, gNe, gLt, gLe, gGt, gGe, gIn, gNotIn, gIs, gIsNot, cD, put, cut, see, sees, look, fz, fzs, fzV, fill, dLc, dSeqI, dRng1, dRng2, dEnum, dZip, dName, dgTup, dgCons, dgNil, dAsg, dCall, dCallS, stAll, mapSt_st, mapSt_no, mapSt_val, mapSt_ow, mapSt_scr, mapSt_ns, noSts, wipeS, dSl, dPart, dNoPart, fSl, dRev, dBM, mCount, mIndex, dStInt, dStTurn, dStPop, dStCells, dStPut, dStTurnPut, dLenScr, tyName, isTyN, isNone, isBool, toInts_ints, dInts_len, List.map_cons, List.map_nil, List.map_append, List.getElem?_cons_zero, List.getElem?_cons_succ, List.set_cons_zero, List.set_cons_succ, List.length_cons, List.length_nil, List.take_nil, List.take_zero, List.take_succ_cons, List.cons_append, List.nil_append, List.replicate_zero, List.replicate_succ, if_true, if_false, ite_true, ite_false, Bool.false_eq_true, Bool.not_true, Bool.not_false, reduceIte, Nat.zero_add, Nat.add_zero, Nat.reduceAdd, Nat.reduceSub, Nat.sub_self, decide_true, decide_false, true_and, and_true, List.length_map]
      rw [dInts_map, ← later_zip, List.map_map] at hk'
      exact hk'
  · simp only [den, initS, endB, dSeq, dSet, dPar, dRet, dRetN, dIfS, dDrop, dFor, dNext, dBreak, dCont, dNever, dRaise, dAug, fAddI, dAppend, dSetIx, dVar, dC, dOp, dUn, dCB, dNil, dCons, dLst, dTup, dTest, dAnd, dOr, dNot, dAndV, dOrV, dNotV, dIf, dChain, dIsi, dIsi2, dYes, fAdd, fSub, fMul, fDiv, fMod, fPow, fNeg, fIx, fLen, fMax, fMin, fSum, fSorted, fAbs, fInt, fList, fTuple, fRepr, gEq, gNe, gLt, gLe, gGt, gGe, gIn, gNotIn, gIs, gIsNot, cD, put, cut, see, sees, look, fz, fzs, fzV, fill, dLc, dSeqI, dRng1, dRng2, dEnum, dZip, dName, dgTup, dgCons, dgNil, dAsg, dCall, dCallS, stAll, mapSt_st, mapSt_no, mapSt_val, mapSt_ow, mapSt_scr, mapSt_ns, noSts, wipeS, dSl, dPart, dNoPart, fSl, dRev, dBM, mCount, mIndex, dStInt, dStTurn, dStPop, dStCells, dStPut, dStTurnPut, dLenScr, tyName, isTyN, isNone, isBool, toInts_ints, dInts_len, List.map_cons, List.map_nil, List.map_append, List.getElem?_cons_zero, List.getElem?_cons_succ, List.set_cons_zero, List.set_cons_succ, List.length_cons, List.length_nil, List.take_nil, List.take_zero, List.take_succ_cons, List.cons_append, List.nil_append, List.replicate_zero, List.replicate_succ, if_true, if_false, ite_true, ite_false, Bool.false_eq_true, Bool.not_true, Bool.not_false, reduceIte, Nat.zero_add, Nat.add_zero, Nat.reduceAdd, Nat.reduceSub, Nat.sub_self, decide_true, decide_false, true_and, and_true, List.length_map, eqv_nil]
    refine ⟨Nat.zero_le _, ?_, shaped_ints [], ?_⟩
    · rw [map_int]
      exact shaped_ints _
    · unfold duePlace at hk
      cases e : later ps p with
      | nil =>
        rw [e] at hk
        simpa using hk
      | cons i r =>
        rw [e] at hk
        simp [atI, ixN]
        simpa using hk

abbrev nn_pane_costs : Nat := 11
-- 0:size 1:moments 2:wait 3:lose 4:panes 5:rows 6:pane 7:due 8:row 9:place 10:moment
def B_pane_costs : (String → Prop) → DSt := fun kx => (dSeq (dDrop (dCall 4 T_need_moments (fun _ => False) (dCons (dVar 0) (dCons (dVar 1) (dCons (dVar 2) (dCons (dVar 3) dNil)))))) (dSeq (dPar [4, 5] (dCons (dLc (dSeqI (dVar 1)) (dName 10) dYes (dOp fDiv (dVar 10) (dVar 0)) [10]) (dCons (dLst dNil) dNil))) (dSeq (dFor (dRng1 (dCons (dOp fAdd (dCB fMax (dCons (dVar 4) dNil)) (dC (.int 1))) dNil)) (dName 6) (dSeq (dSet 7 (dCall 2 T_due_place (fun _ => False) (dCons (dVar 4) (dCons (dVar 6) dNil)))) (dSeq (dSet 8 (dLst dNil)) (dSeq (dFor (dRng1 (dCons (dOp fAdd (dCB fLen (dCons (dVar 4) dNil)) (dC (.int 1))) dNil)) (dName 9) (dAppend 8 (dOp fAdd (dOp fMul (dVar 2) (dCB fMax (dCons (dC (.int 0)) (dCons (dOp fSub (dVar 9) (dVar 7)) dNil)))) (dOp fMul (dVar 3) (dBM mCount (dSl (dVar 4) (dPart (dVar 9)) dNoPart) (dCons (dVar 6) dNil)))))) (dAppend 5 (dVar 8)))))) (dRet (dVar 5)))))
def R_pane_costs : DFn := den false 11 B_pane_costs
def T_pane_costs : DFn := fun _ ds k _ => ∃ (s : Int) (ms : List Int) (w l : Int), ds = [.int s, .list (dInts ms), .int w, .int l] ∧ Ok s ms w l ∧ k (.list (dRows (costs s ms w l))) 0
theorem imp_pane_costs : ∀ B ds k kx, ds.length = 4 → T_pane_costs B ds k kx → R_pane_costs B ds k kx := fun B ds k kx _ h => by
  obtain ⟨s, ms, w, l, rfl, h, hk⟩ := h
  have sz : sizeLine = 2 ^ 24 := rfl
  simp only [R_pane_costs, B_pane_costs, den, initS]
  refine seq_to [.val (.int s), .val (.list (dInts ms)), .val (.int w), .val (.int l), .no, .no, .no, .no, .no, .no, .no] (fun k' hk' => ?_) ?_
  · simp only [T_need_moments, den, initS, endB, dSeq, dSet, dPar, dRet, dRetN, dIfS, dDrop, dFor, dNext, dBreak, dCont, dNever, dRaise, dAug, fAddI, dAppend, dSetIx, dVar, dC, dOp, dUn, dCB, dNil, dCons, dLst, dTup, dTest, dAnd, dOr, dNot, dAndV, dOrV, dNotV, dIf, dChain, dIsi, dIsi2, dYes, fAdd, fSub, fMul, fDiv, fMod, fPow, fNeg, fIx, fLen, fMax, fMin, fSum, fSorted, fAbs, fInt, fList, fTuple, fRepr, gEq, gNe, gLt, gLe, gGt, gGe, gIn, gNotIn, gIs, gIsNot, cD, put, cut, see, sees, look, fz, fzs, fzV, fill, dLc, dSeqI, dRng1, dRng2, dEnum, dZip, dName, dgTup, dgCons, dgNil, dAsg, dCall, dCallS, stAll, mapSt_st, mapSt_no, mapSt_val, mapSt_ow, mapSt_scr, mapSt_ns, noSts, wipeS, dSl, dPart, dNoPart, fSl, dRev, dBM, mCount, mIndex, dStInt, dStTurn, dStPop, dStCells, dStPut, dStTurnPut, dLenScr, tyName, isTyN, isNone, isBool, toInts_ints, dInts_len, List.map_cons, List.map_nil, List.map_append, List.getElem?_cons_zero, List.getElem?_cons_succ, List.set_cons_zero, List.set_cons_succ, List.length_cons, List.length_nil, List.take_nil, List.take_zero, List.take_succ_cons, List.cons_append, List.nil_append, List.replicate_zero, List.replicate_succ, if_true, if_false, ite_true, ite_false, Bool.false_eq_true, Bool.not_true, Bool.not_false, reduceIte, Nat.zero_add, Nat.add_zero, Nat.reduceAdd, Nat.reduceSub, Nat.sub_self, decide_true, decide_false, true_and, and_true, List.length_map]
    exact ⟨s, ms, w, l, rfl, h, hk'⟩
  refine seq_to [.val (.int s), .val (.list (dInts ms)), .val (.int w), .val (.int l), .own (.lst (dInts (panesOf s ms))), .own (.lst []), .no, .no, .no, .no, .no] (fun k' hk' => ?_) ?_
  · have := h.n2
    simp only [den, initS, endB, dSeq, dSet, dPar, dRet, dRetN, dIfS, dDrop, dFor, dNext, dBreak, dCont, dNever, dRaise, dAug, fAddI, dAppend, dSetIx, dVar, dC, dOp, dUn, dCB, dNil, dCons, dLst, dTup, dTest, dAnd, dOr, dNot, dAndV, dOrV, dNotV, dIf, dChain, dIsi, dIsi2, dYes, fAdd, fSub, fMul, fDiv, fMod, fPow, fNeg, fIx, fLen, fMax, fMin, fSum, fSorted, fAbs, fInt, fList, fTuple, fRepr, gEq, gNe, gLt, gLe, gGt, gGe, gIn, gNotIn, gIs, gIsNot, cD, put, cut, see, sees, look, fz, fzs, fzV, fill, dLc, dSeqI, dRng1, dRng2, dEnum, dZip, dName, dgTup, dgCons, dgNil, dAsg, dCall, dCallS, stAll, mapSt_st, mapSt_no, mapSt_val, mapSt_ow, mapSt_scr, mapSt_ns, noSts, wipeS, dSl, dPart, dNoPart, fSl, dRev, dBM, mCount, mIndex, dStInt, dStTurn, dStPop, dStCells, dStPut, dStTurnPut, dLenScr, tyName, isTyN, isNone, isBool, toInts_ints, dInts_len, List.map_cons, List.map_nil, List.map_append, List.getElem?_cons_zero, List.getElem?_cons_succ, List.set_cons_zero, List.set_cons_succ, List.length_cons, List.length_nil, List.take_nil, List.take_zero, List.take_succ_cons, List.cons_append, List.nil_append, List.replicate_zero, List.replicate_succ, if_true, if_false, ite_true, ite_false, Bool.false_eq_true, Bool.not_true, Bool.not_false, reduceIte, Nat.zero_add, Nat.add_zero, Nat.reduceAdd, Nat.reduceSub, Nat.sub_self, decide_true, decide_false, true_and, and_true, List.length_map]
    refine ⟨by omega, lc_map PyData.int (fun m => .int (m / s)) ms (fun m hm k2 h2 => ?_) ?_⟩
    · simp only [stepLc, den, initS, endB, dSeq, dSet, dPar, dRet, dRetN, dIfS, dDrop, dFor, dNext, dBreak, dCont, dNever, dRaise, dAug, fAddI, dAppend, dSetIx, dVar, dC, dOp, dUn, dCB, dNil, dCons, dLst, dTup, dTest, dAnd, dOr, dNot, dAndV, dOrV, dNotV, dIf, dChain, dIsi, dIsi2, dYes, fAdd, fSub, fMul, fDiv, fMod, fPow, fNeg, fIx, fLen, fMax, fMin, fSum, fSorted, fAbs, fInt, fList, fTuple, fRepr, gEq, gNe, gLt, gLe, gGt, gGe, gIn, gNotIn, gIs, gIsNot, cD, put, cut, see, sees, look, fz, fzs, fzV, fill, dLc, dSeqI, dRng1, dRng2, dEnum, dZip, dName, dgTup, dgCons, dgNil, dAsg, dCall, dCallS, stAll, mapSt_st, mapSt_no, mapSt_val, mapSt_ow, mapSt_scr, mapSt_ns, noSts, wipeS, dSl, dPart, dNoPart, fSl, dRev, dBM, mCount, mIndex, dStInt, dStTurn, dStPop, dStCells, dStPut, dStTurnPut, dLenScr, tyName, isTyN, isNone, isBool, toInts_ints, dInts_len, List.map_cons, List.map_nil, List.map_append, List.getElem?_cons_zero, List.getElem?_cons_succ, List.set_cons_zero, List.set_cons_succ, List.length_cons, List.length_nil, List.take_nil, List.take_zero, List.take_succ_cons, List.cons_append, List.nil_append, List.replicate_zero, List.replicate_succ, if_true, if_false, ite_true, ite_false, Bool.false_eq_true, Bool.not_true, Bool.not_false, reduceIte, Nat.zero_add, Nat.add_zero, Nat.reduceAdd, Nat.reduceSub, Nat.sub_self, decide_true, decide_false, true_and, and_true, List.length_map]
      exact ⟨⟨by have := h.s1; omega, by have := h.s2; omega⟩, h2⟩
    · simp only [den, initS, endB, dSeq, dSet, dPar, dRet, dRetN, dIfS, dDrop, dFor, dNext, dBreak, dCont, dNever, dRaise, dAug, fAddI, dAppend, dSetIx, dVar, dC, dOp, dUn, dCB, dNil, dCons, dLst, dTup, dTest, dAnd, dOr, dNot, dAndV, dOrV, dNotV, dIf, dChain, dIsi, dIsi2, dYes, fAdd, fSub, fMul, fDiv, fMod, fPow, fNeg, fIx, fLen, fMax, fMin, fSum, fSorted, fAbs, fInt, fList, fTuple, fRepr, gEq, gNe, gLt, gLe, gGt, gGe, gIn, gNotIn, gIs, gIsNot, cD, put, cut, see, sees, look, fz, fzs, fzV, fill, dLc, dSeqI, dRng1, dRng2, dEnum, dZip, dName, dgTup, dgCons, dgNil, dAsg, dCall, dCallS, stAll, mapSt_st, mapSt_no, mapSt_val, mapSt_ow, mapSt_scr, mapSt_ns, noSts, wipeS, dSl, dPart, dNoPart, fSl, dRev, dBM, mCount, mIndex, dStInt, dStTurn, dStPop, dStCells, dStPut, dStTurnPut, dLenScr, tyName, isTyN, isNone, isBool, toInts_ints, dInts_len, List.map_cons, List.map_nil, List.map_append, List.getElem?_cons_zero, List.getElem?_cons_succ, List.set_cons_zero, List.set_cons_succ, List.length_cons, List.length_nil, List.take_nil, List.take_zero, List.take_succ_cons, List.cons_append, List.nil_append, List.replicate_zero, List.replicate_succ, if_true, if_false, ite_true, ite_false, Bool.false_eq_true, Bool.not_true, Bool.not_false, reduceIte, Nat.zero_add, Nat.add_zero, Nat.reduceAdd, Nat.reduceSub, Nat.sub_self, decide_true, decide_false, true_and, and_true, List.length_map]
      refine ⟨Nat.zero_le _, ?_⟩
      rw [map_int] at *
      exact hk'
  have tp := h.top
  have pl : (panesOf s ms).length = ms.length := panes_len
  have n2 := h.n2
  refine dSeq_for ?_
  simp only [den, initS, endB, dSeq, dSet, dPar, dRet, dRetN, dIfS, dDrop, dFor, dNext, dBreak, dCont, dNever, dRaise, dAug, fAddI, dAppend, dSetIx, dVar, dC, dOp, dUn, dCB, dNil, dCons, dLst, dTup, dTest, dAnd, dOr, dNot, dAndV, dOrV, dNotV, dIf, dChain, dIsi, dIsi2, dYes, fAdd, fSub, fMul, fDiv, fMod, fPow, fNeg, fIx, fLen, fMax, fMin, fSum, fSorted, fAbs, fInt, fList, fTuple, fRepr, gEq, gNe, gLt, gLe, gGt, gGe, gIn, gNotIn, gIs, gIsNot, cD, put, cut, see, sees, look, fz, fzs, fzV, fill, dLc, dSeqI, dRng1, dRng2, dEnum, dZip, dName, dgTup, dgCons, dgNil, dAsg, dCall, dCallS, stAll, mapSt_st, mapSt_no, mapSt_val, mapSt_ow, mapSt_scr, mapSt_ns, noSts, wipeS, dSl, dPart, dNoPart, fSl, dRev, dBM, mCount, mIndex, dStInt, dStTurn, dStPop, dStCells, dStPut, dStTurnPut, dLenScr, tyName, isTyN, isNone, isBool, toInts_ints, dInts_len, List.map_cons, List.map_nil, List.map_append, List.getElem?_cons_zero, List.getElem?_cons_succ, List.set_cons_zero, List.set_cons_succ, List.length_cons, List.length_nil, List.take_nil, List.take_zero, List.take_succ_cons, List.cons_append, List.nil_append, List.replicate_zero, List.replicate_succ, if_true, if_false, ite_true, ite_false, Bool.false_eq_true, Bool.not_true, Bool.not_false, reduceIte, Nat.zero_add, Nat.add_zero, Nat.reduceAdd, Nat.reduceSub, Nat.sub_self, decide_true, decide_false, true_and, and_true, List.length_map]
  refine ⟨h.ne, by omega, ?_⟩
  rw [rangeL0, show (lmax (panesOf s ms) + 1).toNat = (lmax (panesOf s ms)).toNat + 1 by omega]
  refine for_push _ (fun p : Nat => costRow (panesOf s ms) w l (p : Int)) (fun ys t => ∃ y0 y1 y2 y3 y4, (y0 = .own (.lst (dInts (panesOf s ms))) ∨ y0 = .val (.list (dInts (panesOf s ms)))) ∧ t = [.val (.int s), .val (.list (dInts ms)), .val (.int w), .val (.int l), y0, .own (.lst (dRows ys)), y1, y2, y3, y4, .no]) _ ⟨_, _, _, _, _, .inl rfl, rfl⟩ (fun p hp ys t hn ht k' b hk' => ?_) fun t ht => ?_
  · obtain ⟨y0, y1, y2, y3, y4, hy, rfl⟩ := ht
    simp only [dName, List.set_cons_succ, List.set_cons_zero]
    refine seq_to [.val (.int s), .val (.list (dInts ms)), .val (.int w), .val (.int l), .val (.list (dInts (panesOf s ms))), .own (.lst (dRows ys)), .val (.int p), .val (.int (duePlace (panesOf s ms) p : Nat)), y3, y4, .no] (fun k2 h2 => ?_) ?_
    · rcases hy with rfl | rfl <;> simp only [T_due_place, den, initS, endB, dSeq, dSet, dPar, dRet, dRetN, dIfS, dDrop, dFor, dNext, dBreak, dCont, dNever, dRaise, dAug, fAddI, dAppend, dSetIx, dVar, dC, dOp, dUn, dCB, dNil, dCons, dLst, dTup, dTest, dAnd, dOr, dNot, dAndV, dOrV, dNotV, dIf, dChain, dIsi, dIsi2, dYes, fAdd, fSub, fMul, fDiv, fMod, fPow, fNeg, fIx, fLen, fMax, fMin, fSum, fSorted, fAbs, fInt, fList, fTuple, fRepr, gEq, gNe, gLt, gLe, gGt, gGe, gIn, gNotIn, gIs, gIsNot, cD, put, cut, see, sees, look, fz, fzs, fzV, fill, dLc, dSeqI, dRng1, dRng2, dEnum, dZip, dName, dgTup, dgCons, dgNil, dAsg, dCall, dCallS, stAll, mapSt_st, mapSt_no, mapSt_val, mapSt_ow, mapSt_scr, mapSt_ns, noSts, wipeS, dSl, dPart, dNoPart, fSl, dRev, dBM, mCount, mIndex, dStInt, dStTurn, dStPop, dStCells, dStPut, dStTurnPut, dLenScr, tyName, isTyN, isNone, isBool, toInts_ints, dInts_len, List.map_cons, List.map_nil, List.map_append, List.getElem?_cons_zero, List.getElem?_cons_succ, List.set_cons_zero, List.set_cons_succ, List.length_cons, List.length_nil, List.take_nil, List.take_zero, List.take_succ_cons, List.cons_append, List.nil_append, List.replicate_zero, List.replicate_succ, if_true, if_false, ite_true, ite_false, Bool.false_eq_true, Bool.not_true, Bool.not_false, reduceIte, Nat.zero_add, Nat.add_zero, Nat.reduceAdd, Nat.reduceSub, Nat.sub_self, decide_true, decide_false, true_and, and_true, List.length_map] <;> exact ⟨_, _, rfl, by omega, h2⟩
    refine seq_to [.val (.int s), .val (.list (dInts ms)), .val (.int w), .val (.int l), .val (.list (dInts (panesOf s ms))), .own (.lst (dRows ys)), .val (.int p), .val (.int (duePlace (panesOf s ms) p : Nat)), .own (.lst []), y4, .no] (fun k2 h2 => ?_) ?_
    · simp only [den, initS, endB, dSeq, dSet, dPar, dRet, dRetN, dIfS, dDrop, dFor, dNext, dBreak, dCont, dNever, dRaise, dAug, fAddI, dAppend, dSetIx, dVar, dC, dOp, dUn, dCB, dNil, dCons, dLst, dTup, dTest, dAnd, dOr, dNot, dAndV, dOrV, dNotV, dIf, dChain, dIsi, dIsi2, dYes, fAdd, fSub, fMul, fDiv, fMod, fPow, fNeg, fIx, fLen, fMax, fMin, fSum, fSorted, fAbs, fInt, fList, fTuple, fRepr, gEq, gNe, gLt, gLe, gGt, gGe, gIn, gNotIn, gIs, gIsNot, cD, put, cut, see, sees, look, fz, fzs, fzV, fill, dLc, dSeqI, dRng1, dRng2, dEnum, dZip, dName, dgTup, dgCons, dgNil, dAsg, dCall, dCallS, stAll, mapSt_st, mapSt_no, mapSt_val, mapSt_ow, mapSt_scr, mapSt_ns, noSts, wipeS, dSl, dPart, dNoPart, fSl, dRev, dBM, mCount, mIndex, dStInt, dStTurn, dStPop, dStCells, dStPut, dStTurnPut, dLenScr, tyName, isTyN, isNone, isBool, toInts_ints, dInts_len, List.map_cons, List.map_nil, List.map_append, List.getElem?_cons_zero, List.getElem?_cons_succ, List.set_cons_zero, List.set_cons_succ, List.length_cons, List.length_nil, List.take_nil, List.take_zero, List.take_succ_cons, List.cons_append, List.nil_append, List.replicate_zero, List.replicate_succ, if_true, if_false, ite_true, ite_false, Bool.false_eq_true, Bool.not_true, Bool.not_false, reduceIte, Nat.zero_add, Nat.add_zero, Nat.reduceAdd, Nat.reduceSub, Nat.sub_self, decide_true, decide_false, true_and, and_true, List.length_map]
      exact ⟨Nat.zero_le _, h2⟩
    refine seq_toP (fun t => ∃ y, t = [.val (.int s), .val (.list (dInts ms)), .val (.int w), .val (.int l), .val (.list (dInts (panesOf s ms))), .own (.lst (dRows ys)), .val (.int p), .val (.int (duePlace (panesOf s ms) p : Nat)), .own (.lst (dInts (costRow (panesOf s ms) w l p))), y, .no]) (fun k2 h2 => ?_) fun t ht => ?_
    · simp only [den, initS, endB, dSeq, dSet, dPar, dRet, dRetN, dIfS, dDrop, dFor, dNext, dBreak, dCont, dNever, dRaise, dAug, fAddI, dAppend, dSetIx, dVar, dC, dOp, dUn, dCB, dNil, dCons, dLst, dTup, dTest, dAnd, dOr, dNot, dAndV, dOrV, dNotV, dIf, dChain, dIsi, dIsi2, dYes, fAdd, fSub, fMul, fDiv, fMod, fPow, fNeg, fIx, fLen, fMax, fMin, fSum, fSorted, fAbs, fInt, fList, fTuple, fRepr, gEq, gNe, gLt, gLe, gGt, gGe, gIn, gNotIn, gIs, gIsNot, cD, put, cut, see, sees, look, fz, fzs, fzV, fill, dLc, dSeqI, dRng1, dRng2, dEnum, dZip, dName, dgTup, dgCons, dgNil, dAsg, dCall, dCallS, stAll, mapSt_st, mapSt_no, mapSt_val, mapSt_ow, mapSt_scr, mapSt_ns, noSts, wipeS, dSl, dPart, dNoPart, fSl, dRev, dBM, mCount, mIndex, dStInt, dStTurn, dStPop, dStCells, dStPut, dStTurnPut, dLenScr, tyName, isTyN, isNone, isBool, toInts_ints, dInts_len, List.map_cons, List.map_nil, List.map_append, List.getElem?_cons_zero, List.getElem?_cons_succ, List.set_cons_zero, List.set_cons_succ, List.length_cons, List.length_nil, List.take_nil, List.take_zero, List.take_succ_cons, List.cons_append, List.nil_append, List.replicate_zero, List.replicate_succ, if_true, if_false, ite_true, ite_false, Bool.false_eq_true, Bool.not_true, Bool.not_false, reduceIte, Nat.zero_add, Nat.add_zero, Nat.reduceAdd, Nat.reduceSub, Nat.sub_self, decide_true, decide_false, true_and, and_true, List.length_map]
      refine ⟨by omega, ?_⟩
      rw [rangeL0, show (((panesOf s ms).length : Int) + 1).toNat = (panesOf s ms).length + 1 by omega]
      refine for_push _ (costAt (panesOf s ms) w l p) (fun zs t => ∃ y, t = [.val (.int s), .val (.list (dInts ms)), .val (.int w), .val (.int l), .val (.list (dInts (panesOf s ms))), .own (.lst (dRows ys)), .val (.int p), .val (.int (duePlace (panesOf s ms) p : Nat)), .own (.lst (dInts zs)), y, .no]) _ ⟨_, rfl⟩ (fun e he zs t hz ht k3 b3 h3 => ?_) fun t ht => h2 t ?_
      · obtain ⟨y, rfl⟩ := ht
        rw [List.length_range] at hz
        rw [List.mem_range] at he
        simp only [den, initS, endB, dSeq, dSet, dPar, dRet, dRetN, dIfS, dDrop, dFor, dNext, dBreak, dCont, dNever, dRaise, dAug, fAddI, dAppend, dSetIx, dVar, dC, dOp, dUn, dCB, dNil, dCons, dLst, dTup, dTest, dAnd, dOr, dNot, dAndV, dOrV, dNotV, dIf, dChain, dIsi, dIsi2, dYes, fAdd, fSub, fMul, fDiv, fMod, fPow, fNeg, fIx, fLen, fMax, fMin, fSum, fSorted, fAbs, fInt, fList, fTuple, fRepr, gEq, gNe, gLt, gLe, gGt, gGe, gIn, gNotIn, gIs, gIsNot, cD, put, cut, see, sees, look, fz, fzs, fzV, fill, dLc, dSeqI, dRng1, dRng2, dEnum, dZip, dName, dgTup, dgCons, dgNil, dAsg, dCall, dCallS, stAll, mapSt_st, mapSt_no, mapSt_val, mapSt_ow, mapSt_scr, mapSt_ns, noSts, wipeS, dSl, dPart, dNoPart, fSl, dRev, dBM, mCount, mIndex, dStInt, dStTurn, dStPop, dStCells, dStPut, dStTurnPut, dLenScr, tyName, isTyN, isNone, isBool, toInts_ints, dInts_len, List.map_cons, List.map_nil, List.map_append, List.getElem?_cons_zero, List.getElem?_cons_succ, List.set_cons_zero, List.set_cons_succ, List.length_cons, List.length_nil, List.take_nil, List.take_zero, List.take_succ_cons, List.cons_append, List.nil_append, List.replicate_zero, List.replicate_succ, if_true, if_false, ite_true, ite_false, Bool.false_eq_true, Bool.not_true, Bool.not_false, reduceIte, Nat.zero_add, Nat.add_zero, Nat.reduceAdd, Nat.reduceSub, Nat.sub_self, decide_true, decide_false, true_and, and_true, List.length_map, cutL_from, dInts_drop, dInts_snoc]
        have c1 := List.count_le_length (a := (p : Int)) (l := (panesOf s ms).drop e)
        rw [List.length_drop] at c1
        have w1 := h.w1
        have w2 := h.w2
        have l1 := h.l1
        have l2 := h.l2
        exact ⟨.inl ⟨by omega, by omega⟩, .inl ⟨by omega, by omega⟩, by omega, h3 _ ⟨_, rfl⟩⟩
      · exact ht
    · obtain ⟨y, rfl⟩ := ht
      rw [List.length_range] at hn
      simp only [den, initS, endB, dSeq, dSet, dPar, dRet, dRetN, dIfS, dDrop, dFor, dNext, dBreak, dCont, dNever, dRaise, dAug, fAddI, dAppend, dSetIx, dVar, dC, dOp, dUn, dCB, dNil, dCons, dLst, dTup, dTest, dAnd, dOr, dNot, dAndV, dOrV, dNotV, dIf, dChain, dIsi, dIsi2, dYes, fAdd, fSub, fMul, fDiv, fMod, fPow, fNeg, fIx, fLen, fMax, fMin, fSum, fSorted, fAbs, fInt, fList, fTuple, fRepr, gEq, gNe, gLt, gLe, gGt, gGe, gIn, gNotIn, gIs, gIsNot, cD, put, cut, see, sees, look, fz, fzs, fzV, fill, dLc, dSeqI, dRng1, dRng2, dEnum, dZip, dName, dgTup, dgCons, dgNil, dAsg, dCall, dCallS, stAll, mapSt_st, mapSt_no, mapSt_val, mapSt_ow, mapSt_scr, mapSt_ns, noSts, wipeS, dSl, dPart, dNoPart, fSl, dRev, dBM, mCount, mIndex, dStInt, dStTurn, dStPop, dStCells, dStPut, dStTurnPut, dLenScr, tyName, isTyN, isNone, isBool, toInts_ints, dInts_len, List.map_cons, List.map_nil, List.map_append, List.getElem?_cons_zero, List.getElem?_cons_succ, List.set_cons_zero, List.set_cons_succ, List.length_cons, List.length_nil, List.take_nil, List.take_zero, List.take_succ_cons, List.cons_append, List.nil_append, List.replicate_zero, List.replicate_succ, if_true, if_false, ite_true, ite_false, Bool.false_eq_true, Bool.not_true, Bool.not_false, reduceIte, Nat.zero_add, Nat.add_zero, Nat.reduceAdd, Nat.reduceSub, Nat.sub_self, decide_true, decide_false, true_and, and_true, List.length_map, dRows_snoc, dRows_len]
      exact ⟨by omega, hk' _ ⟨_, _, _, _, _, .inr rfl, rfl⟩⟩
  · obtain ⟨y0, y1, y2, y3, y4, _, rfl⟩ := ht
    simp only [den, initS, endB, dSeq, dSet, dPar, dRet, dRetN, dIfS, dDrop, dFor, dNext, dBreak, dCont, dNever, dRaise, dAug, fAddI, dAppend, dSetIx, dVar, dC, dOp, dUn, dCB, dNil, dCons, dLst, dTup, dTest, dAnd, dOr, dNot, dAndV, dOrV, dNotV, dIf, dChain, dIsi, dIsi2, dYes, fAdd, fSub, fMul, fDiv, fMod, fPow, fNeg, fIx, fLen, fMax, fMin, fSum, fSorted, fAbs, fInt, fList, fTuple, fRepr, gEq, gNe, gLt, gLe, gGt, gGe, gIn, gNotIn, gIs, gIsNot, cD, put, cut, see, sees, look, fz, fzs, fzV, fill, dLc, dSeqI, dRng1, dRng2, dEnum, dZip, dName, dgTup, dgCons, dgNil, dAsg, dCall, dCallS, stAll, mapSt_st, mapSt_no, mapSt_val, mapSt_ow, mapSt_scr, mapSt_ns, noSts, wipeS, dSl, dPart, dNoPart, fSl, dRev, dBM, mCount, mIndex, dStInt, dStTurn, dStPop, dStCells, dStPut, dStTurnPut, dLenScr, tyName, isTyN, isNone, isBool, toInts_ints, dInts_len, List.map_cons, List.map_nil, List.map_append, List.getElem?_cons_zero, List.getElem?_cons_succ, List.set_cons_zero, List.set_cons_succ, List.length_cons, List.length_nil, List.take_nil, List.take_zero, List.take_succ_cons, List.cons_append, List.nil_append, List.replicate_zero, List.replicate_succ, if_true, if_false, ite_true, ite_false, Bool.false_eq_true, Bool.not_true, Bool.not_false, reduceIte, Nat.zero_add, Nat.add_zero, Nat.reduceAdd, Nat.reduceSub, Nat.sub_self, decide_true, decide_false, true_and, and_true, List.length_map]
    exact hk

abbrev nn_least_own : Nat := 5
-- 0:size 1:moments 2:wait 3:lose 4:row
def B_least_own : (String → Prop) → DSt := fun kx => (dRet (dCB fSum (dCons (dLc (dSeqI (dCall 4 T_pane_costs (fun _ => False) (dCons (dVar 0) (dCons (dVar 1) (dCons (dVar 2) (dCons (dVar 3) dNil)))))) (dName 4) dYes (dCB fMin (dCons (dVar 4) dNil)) [4]) dNil)))
def R_least_own : DFn := den false 5 B_least_own
def T_least_own : DFn := fun _ ds k _ => ∃ (s : Int) (ms : List Int) (w l : Int), ds = [.int s, .list (dInts ms), .int w, .int l] ∧ Ok s ms w l ∧ k (.int (ownL (costs s ms w l))) 0
theorem imp_least_own : ∀ B ds k kx, ds.length = 4 → T_least_own B ds k kx → R_least_own B ds k kx := fun B ds k kx _ h => by
  obtain ⟨s, ms, w, l, rfl, h, hk⟩ := h
  have sz : sizeLine = 2 ^ 24 := rfl
  have cl := costs_len h
  simp only [R_least_own, B_least_own, T_pane_costs, den, initS, endB, dSeq, dSet, dPar, dRet, dRetN, dIfS, dDrop, dFor, dNext, dBreak, dCont, dNever, dRaise, dAug, fAddI, dAppend, dSetIx, dVar, dC, dOp, dUn, dCB, dNil, dCons, dLst, dTup, dTest, dAnd, dOr, dNot, dAndV, dOrV, dNotV, dIf, dChain, dIsi, dIsi2, dYes, fAdd, fSub, fMul, fDiv, fMod, fPow, fNeg, fIx, fLen, fMax, fMin, fSum, fSorted, fAbs, fInt, fList, fTuple, fRepr, gEq, gNe, gLt, gLe, gGt, gGe, gIn, gNotIn, gIs, gIsNot, cD, put, cut, see, sees, look, fz, fzs, fzV, fill, dLc, dSeqI, dRng1, dRng2, dEnum, dZip, dName, dgTup, dgCons, dgNil, dAsg, dCall, dCallS, stAll, mapSt_st, mapSt_no, mapSt_val, mapSt_ow, mapSt_scr, mapSt_ns, noSts, wipeS, dSl, dPart, dNoPart, fSl, dRev, dBM, mCount, mIndex, dStInt, dStTurn, dStPop, dStCells, dStPut, dStTurnPut, dLenScr, tyName, isTyN, isNone, isBool, toInts_ints, dInts_len, List.map_cons, List.map_nil, List.map_append, List.getElem?_cons_zero, List.getElem?_cons_succ, List.set_cons_zero, List.set_cons_succ, List.length_cons, List.length_nil, List.take_nil, List.take_zero, List.take_succ_cons, List.cons_append, List.nil_append, List.replicate_zero, List.replicate_succ, if_true, if_false, ite_true, ite_false, Bool.false_eq_true, Bool.not_true, Bool.not_false, reduceIte, Nat.zero_add, Nat.add_zero, Nat.reduceAdd, Nat.reduceSub, Nat.sub_self, decide_true, decide_false, true_and, and_true, List.length_map]
  refine ⟨s, ms, w, l, rfl, h, by rw [dRows_len]; omega, ?_⟩
  rw [dRows_map]
  refine lc_map _ (fun r => .int (lmin r)) _ (fun r hr k2 h2 => ?_) ?_
  · simp only [stepLc, den, initS, endB, dSeq, dSet, dPar, dRet, dRetN, dIfS, dDrop, dFor, dNext, dBreak, dCont, dNever, dRaise, dAug, fAddI, dAppend, dSetIx, dVar, dC, dOp, dUn, dCB, dNil, dCons, dLst, dTup, dTest, dAnd, dOr, dNot, dAndV, dOrV, dNotV, dIf, dChain, dIsi, dIsi2, dYes, fAdd, fSub, fMul, fDiv, fMod, fPow, fNeg, fIx, fLen, fMax, fMin, fSum, fSorted, fAbs, fInt, fList, fTuple, fRepr, gEq, gNe, gLt, gLe, gGt, gGe, gIn, gNotIn, gIs, gIsNot, cD, put, cut, see, sees, look, fz, fzs, fzV, fill, dLc, dSeqI, dRng1, dRng2, dEnum, dZip, dName, dgTup, dgCons, dgNil, dAsg, dCall, dCallS, stAll, mapSt_st, mapSt_no, mapSt_val, mapSt_ow, mapSt_scr, mapSt_ns, noSts, wipeS, dSl, dPart, dNoPart, fSl, dRev, dBM, mCount, mIndex, dStInt, dStTurn, dStPop, dStCells, dStPut, dStTurnPut, dLenScr, tyName, isTyN, isNone, isBool, toInts_ints, dInts_len, List.map_cons, List.map_nil, List.map_append, List.getElem?_cons_zero, List.getElem?_cons_succ, List.set_cons_zero, List.set_cons_succ, List.length_cons, List.length_nil, List.take_nil, List.take_zero, List.take_succ_cons, List.cons_append, List.nil_append, List.replicate_zero, List.replicate_succ, if_true, if_false, ite_true, ite_false, Bool.false_eq_true, Bool.not_true, Bool.not_false, reduceIte, Nat.zero_add, Nat.add_zero, Nat.reduceAdd, Nat.reduceSub, Nat.sub_self, decide_true, decide_false, true_and, and_true, List.length_map]
    have := costs_wide r hr
    exact ⟨by intro z; rw [z] at this; simp at this, h2⟩
  · rw [map_int]
    simp only [den, initS, endB, dSeq, dSet, dPar, dRet, dRetN, dIfS, dDrop, dFor, dNext, dBreak, dCont, dNever, dRaise, dAug, fAddI, dAppend, dSetIx, dVar, dC, dOp, dUn, dCB, dNil, dCons, dLst, dTup, dTest, dAnd, dOr, dNot, dAndV, dOrV, dNotV, dIf, dChain, dIsi, dIsi2, dYes, fAdd, fSub, fMul, fDiv, fMod, fPow, fNeg, fIx, fLen, fMax, fMin, fSum, fSorted, fAbs, fInt, fList, fTuple, fRepr, gEq, gNe, gLt, gLe, gGt, gGe, gIn, gNotIn, gIs, gIsNot, cD, put, cut, see, sees, look, fz, fzs, fzV, fill, dLc, dSeqI, dRng1, dRng2, dEnum, dZip, dName, dgTup, dgCons, dgNil, dAsg, dCall, dCallS, stAll, mapSt_st, mapSt_no, mapSt_val, mapSt_ow, mapSt_scr, mapSt_ns, noSts, wipeS, dSl, dPart, dNoPart, fSl, dRev, dBM, mCount, mIndex, dStInt, dStTurn, dStPop, dStCells, dStPut, dStTurnPut, dLenScr, tyName, isTyN, isNone, isBool, toInts_ints, dInts_len, List.map_cons, List.map_nil, List.map_append, List.getElem?_cons_zero, List.getElem?_cons_succ, List.set_cons_zero, List.set_cons_succ, List.length_cons, List.length_nil, List.take_nil, List.take_zero, List.take_succ_cons, List.cons_append, List.nil_append, List.replicate_zero, List.replicate_succ, if_true, if_false, ite_true, ite_false, Bool.false_eq_true, Bool.not_true, Bool.not_false, reduceIte, Nat.zero_add, Nat.add_zero, Nat.reduceAdd, Nat.reduceSub, Nat.sub_self, decide_true, decide_false, true_and, and_true, List.length_map]
    exact hk

abbrev nn_loss_paper : Nat := 9
-- 0:size 1:moments 2:wait 3:lose 4:rows 5:costs 6:row 7:place 8:cost
def B_loss_paper : (String → Prop) → DSt := fun kx => (dSeq (dSet 4 (dLst dNil)) (dSeq (dFor (dSeqI (dCall 4 T_pane_costs (fun _ => False) (dCons (dVar 0) (dCons (dVar 1) (dCons (dVar 2) (dCons (dVar 3) dNil)))))) (dName 5) (dSeq (dSet 6 (dLst dNil)) (dSeq (dFor (dEnum (dCons (dVar 5) dNil)) (dgTup 2 (dgCons (dName 7) (dgCons (dName 8) dgNil))) (dAppend 6 (dOp fAdd (dVar 8) (dIf (dTest (dOp (cD gNe) (dVar 4) (dLst dNil))) (dCB fMin (dCons (dSl (dOp fIx (dVar 4) (dUn fNeg (dC (.int 1)))) dNoPart (dPart (dOp fAdd (dVar 7) (dC (.int 1))))) dNil)) (dC (.int 0)))))) (dAppend 4 (dVar 6))))) (dRet (dVar 4))))
def R_loss_paper : DFn := den false 9 B_loss_paper
def T_loss_paper : DFn := fun _ ds k _ => ∃ (s : Int) (ms : List Int) (w l : Int), ds = [.int s, .list (dInts ms), .int w, .int l] ∧ Ok s ms w l ∧ k (.list (dRows (paperL (costs s ms w l)))) 0
theorem imp_loss_paper : ∀ B ds k kx, ds.length = 4 → T_loss_paper B ds k kx → R_loss_paper B ds k kx := fun B ds k kx _ h => by
  obtain ⟨s, ms, w, l, rfl, h, hk⟩ := h
  have sz : sizeLine = 2 ^ 24 := rfl
  have cl := costs_len h
  have n2 := h.n2
  simp only [R_loss_paper, B_loss_paper, den, initS]
  refine seq_to [.val (.int s), .val (.list (dInts ms)), .val (.int w), .val (.int l), .own (.lst []), .no, .no, .no, .no] (fun k' hk' => ?_) ?_
  · simp only [den, initS, endB, dSeq, dSet, dPar, dRet, dRetN, dIfS, dDrop, dFor, dNext, dBreak, dCont, dNever, dRaise, dAug, fAddI, dAppend, dSetIx, dVar, dC, dOp, dUn, dCB, dNil, dCons, dLst, dTup, dTest, dAnd, dOr, dNot, dAndV, dOrV, dNotV, dIf, dChain, dIsi, dIsi2, dYes, fAdd, fSub, fMul, fDiv, fMod, fPow, fNeg, fIx, fLen, fMax, fMin, fSum, fSorted, fAbs, fInt, fList, fTuple, fRepr, gEq, gNe, gLt, gLe, gGt, gGe, gIn, gNotIn, gIs, gIsNot, cD, put, cut, see, sees, look, fz, fzs, fzV, fill, dLc, dSeqI, dRng1, dRng2, dEnum, dZip, dName, dgTup, dgCons, dgNil, dAsg, dCall, dCallS, stAll, mapSt_st, mapSt_no, mapSt_val, mapSt_ow, mapSt_scr, mapSt_ns, noSts, wipeS, dSl, dPart, dNoPart, fSl, dRev, dBM, mCount, mIndex, dStInt, dStTurn, dStPop, dStCells, dStPut, dStTurnPut, dLenScr, tyName, isTyN, isNone, isBool, toInts_ints, dInts_len, List.map_cons, List.map_nil, List.map_append, List.getElem?_cons_zero, List.getElem?_cons_succ, List.set_cons_zero, List.set_cons_succ, List.length_cons, List.length_nil, List.take_nil, List.take_zero, List.take_succ_cons, List.cons_append, List.nil_append, List.replicate_zero, List.replicate_succ, if_true, if_false, ite_true, ite_false, Bool.false_eq_true, Bool.not_true, Bool.not_false, reduceIte, Nat.zero_add, Nat.add_zero, Nat.reduceAdd, Nat.reduceSub, Nat.sub_self, decide_true, decide_false, true_and, and_true, List.length_map]
    exact ⟨Nat.zero_le _, hk'⟩
  refine dSeq_for ?_
  simp only [T_pane_costs, den, initS, endB, dSeq, dSet, dPar, dRet, dRetN, dIfS, dDrop, dFor, dNext, dBreak, dCont, dNever, dRaise, dAug, fAddI, dAppend, dSetIx, dVar, dC, dOp, dUn, dCB, dNil, dCons, dLst, dTup, dTest, dAnd, dOr, dNot, dAndV, dOrV, dNotV, dIf, dChain, dIsi, dIsi2, dYes, fAdd, fSub, fMul, fDiv, fMod, fPow, fNeg, fIx, fLen, fMax, fMin, fSum, fSorted, fAbs, fInt, fList, fTuple, fRepr, gEq, gNe, gLt, gLe, gGt, gGe, gIn, gNotIn, gIs, gIsNot, cD, put, cut, see, sees, look, fz, fzs, fzV, fill, dLc, dSeqI, dRng1, dRng2, dEnum, dZip, dName, dgTup, dgCons, dgNil, dAsg, dCall, dCallS, stAll, mapSt_st, mapSt_no, mapSt_val, mapSt_ow, mapSt_scr, mapSt_ns, noSts, wipeS, dSl, dPart, dNoPart, fSl, dRev, dBM, mCount, mIndex, dStInt, dStTurn, dStPop, dStCells, dStPut, dStTurnPut, dLenScr, tyName, isTyN, isNone, isBool, toInts_ints, dInts_len, List.map_cons, List.map_nil, List.map_append, List.getElem?_cons_zero, List.getElem?_cons_succ, List.set_cons_zero, List.set_cons_succ, List.length_cons, List.length_nil, List.take_nil, List.take_zero, List.take_succ_cons, List.cons_append, List.nil_append, List.replicate_zero, List.replicate_succ, if_true, if_false, ite_true, ite_false, Bool.false_eq_true, Bool.not_true, Bool.not_false, reduceIte, Nat.zero_add, Nat.add_zero, Nat.reduceAdd, Nat.reduceSub, Nat.sub_self, decide_true, decide_false, true_and, and_true, List.length_map]
  refine ⟨s, ms, w, l, rfl, h, ?_⟩
  rw [dRows_map]
  refine for_to _ (fun zs t => ∃ done, costs s ms w l = done ++ zs ∧ ∃ y1 y2 y3 y4, t = [.val (.int s), .val (.list (dInts ms)), .val (.int w), .val (.int l), .own (.lst (dRows (paperL done))), y1, y2, y3, y4]) _ ⟨[], rfl, _, _, _, _, rfl⟩ (fun cs zs t ht k' b hk' => ?_) fun t ht => ?_
  · obtain ⟨done, e, y1, y2, y3, y4, rfl⟩ := ht
    have hcs : cs.length = ms.length + 1 := costs_wide cs (by rw [e]; simp)
    have hdl : done.length < 201 := by
      have := cl.2
      rw [e] at this
      simp at this
      omega
    simp only [dName, List.set_cons_succ, List.set_cons_zero]
    refine seq_to [.val (.int s), .val (.list (dInts ms)), .val (.int w), .val (.int l), .own (.lst (dRows (paperL done))), .val (.list (dInts cs)), .own (.lst []), y3, y4] (fun k2 h2 => ?_) ?_
    · simp only [den, initS, endB, dSeq, dSet, dPar, dRet, dRetN, dIfS, dDrop, dFor, dNext, dBreak, dCont, dNever, dRaise, dAug, fAddI, dAppend, dSetIx, dVar, dC, dOp, dUn, dCB, dNil, dCons, dLst, dTup, dTest, dAnd, dOr, dNot, dAndV, dOrV, dNotV, dIf, dChain, dIsi, dIsi2, dYes, fAdd, fSub, fMul, fDiv, fMod, fPow, fNeg, fIx, fLen, fMax, fMin, fSum, fSorted, fAbs, fInt, fList, fTuple, fRepr, gEq, gNe, gLt, gLe, gGt, gGe, gIn, gNotIn, gIs, gIsNot, cD, put, cut, see, sees, look, fz, fzs, fzV, fill, dLc, dSeqI, dRng1, dRng2, dEnum, dZip, dName, dgTup, dgCons, dgNil, dAsg, dCall, dCallS, stAll, mapSt_st, mapSt_no, mapSt_val, mapSt_ow, mapSt_scr, mapSt_ns, noSts, wipeS, dSl, dPart, dNoPart, fSl, dRev, dBM, mCount, mIndex, dStInt, dStTurn, dStPop, dStCells, dStPut, dStTurnPut, dLenScr, tyName, isTyN, isNone, isBool, toInts_ints, dInts_len, List.map_cons, List.map_nil, List.map_append, List.getElem?_cons_zero, List.getElem?_cons_succ, List.set_cons_zero, List.set_cons_succ, List.length_cons, List.length_nil, List.take_nil, List.take_zero, List.take_succ_cons, List.cons_append, List.nil_append, List.replicate_zero, List.replicate_succ, if_true, if_false, ite_true, ite_false, Bool.false_eq_true, Bool.not_true, Bool.not_false, reduceIte, Nat.zero_add, Nat.add_zero, Nat.reduceAdd, Nat.reduceSub, Nat.sub_self, decide_true, decide_false, true_and, and_true, List.length_map]
      exact ⟨Nat.zero_le _, h2⟩
    refine seq_toP (fun t => ∃ y3 y4, t = [.val (.int s), .val (.list (dInts ms)), .val (.int w), .val (.int l), .own (.lst (dRows (paperL done))), .val (.list (dInts cs)), .own (.lst (dInts (nextRow (paperL done) cs))), y3, y4]) (fun k2 h2 => ?_) fun t ht => ?_
    · simp only [den, initS, endB, dSeq, dSet, dPar, dRet, dRetN, dIfS, dDrop, dFor, dNext, dBreak, dCont, dNever, dRaise, dAug, fAddI, dAppend, dSetIx, dVar, dC, dOp, dUn, dCB, dNil, dCons, dLst, dTup, dTest, dAnd, dOr, dNot, dAndV, dOrV, dNotV, dIf, dChain, dIsi, dIsi2, dYes, fAdd, fSub, fMul, fDiv, fMod, fPow, fNeg, fIx, fLen, fMax, fMin, fSum, fSorted, fAbs, fInt, fList, fTuple, fRepr, gEq, gNe, gLt, gLe, gGt, gGe, gIn, gNotIn, gIs, gIsNot, cD, put, cut, see, sees, look, fz, fzs, fzV, fill, dLc, dSeqI, dRng1, dRng2, dEnum, dZip, dName, dgTup, dgCons, dgNil, dAsg, dCall, dCallS, stAll, mapSt_st, mapSt_no, mapSt_val, mapSt_ow, mapSt_scr, mapSt_ns, noSts, wipeS, dSl, dPart, dNoPart, fSl, dRev, dBM, mCount, mIndex, dStInt, dStTurn, dStPop, dStCells, dStPut, dStTurnPut, dLenScr, tyName, isTyN, isNone, isBool, toInts_ints, dInts_len, List.map_cons, List.map_nil, List.map_append, List.getElem?_cons_zero, List.getElem?_cons_succ, List.set_cons_zero, List.set_cons_succ, List.length_cons, List.length_nil, List.take_nil, List.take_zero, List.take_succ_cons, List.cons_append, List.nil_append, List.replicate_zero, List.replicate_succ, if_true, if_false, ite_true, ite_false, Bool.false_eq_true, Bool.not_true, Bool.not_false, reduceIte, Nat.zero_add, Nat.add_zero, Nat.reduceAdd, Nat.reduceSub, Nat.sub_self, decide_true, decide_false, true_and, and_true, List.length_map]
      rw [dInts_map cs, enumL_map]
      refine for_push _ (fun q : Int × Nat => q.1 + lastMin (paperL done) q.2) (fun zs t => ∃ y3 y4, t = [.val (.int s), .val (.list (dInts ms)), .val (.int w), .val (.int l), .own (.lst (dRows (paperL done))), .val (.list (dInts cs)), .own (.lst (dInts zs)), y3, y4]) _ ⟨_, _, rfl⟩ (fun q hq zs t hz ht k3 b3 h3 => ?_) fun t ht => h2 t ht
      obtain ⟨y3, y4, rfl⟩ := ht
      rw [List.length_zipIdx] at hz
      simp only [den, initS, endB, dSeq, dSet, dPar, dRet, dRetN, dIfS, dDrop, dFor, dNext, dBreak, dCont, dNever, dRaise, dAug, fAddI, dAppend, dSetIx, dVar, dC, dOp, dUn, dCB, dNil, dCons, dLst, dTup, dTest, dAnd, dOr, dNot, dAndV, dOrV, dNotV, dIf, dChain, dIsi, dIsi2, dYes, fAdd, fSub, fMul, fDiv, fMod, fPow, fNeg, fIx, fLen, fMax, fMin, fSum, fSorted, fAbs, fInt, fList, fTuple, fRepr, gEq, gNe, gLt, gLe, gGt, gGe, gIn, gNotIn, gIs, gIsNot, cD, put, cut, see, sees, look, fz, fzs, fzV, fill, dLc, dSeqI, dRng1, dRng2, dEnum, dZip, dName, dgTup, dgCons, dgNil, dAsg, dCall, dCallS, stAll, mapSt_st, mapSt_no, mapSt_val, mapSt_ow, mapSt_scr, mapSt_ns, noSts, wipeS, dSl, dPart, dNoPart, fSl, dRev, dBM, mCount, mIndex, dStInt, dStTurn, dStPop, dStCells, dStPut, dStTurnPut, dLenScr, tyName, isTyN, isNone, isBool, toInts_ints, dInts_len, List.map_cons, List.map_nil, List.map_append, List.getElem?_cons_zero, List.getElem?_cons_succ, List.set_cons_zero, List.set_cons_succ, List.length_cons, List.length_nil, List.take_nil, List.take_zero, List.take_succ_cons, List.cons_append, List.nil_append, List.replicate_zero, List.replicate_succ, if_true, if_false, ite_true, ite_false, Bool.false_eq_true, Bool.not_true, Bool.not_false, reduceIte, Nat.zero_add, Nat.add_zero, Nat.reduceAdd, Nat.reduceSub, Nat.sub_self, decide_true, decide_false, true_and, and_true, List.length_map, eqv_nil]
      refine ⟨Nat.zero_le _, shaped_rows _, shaped_ints [], ?_⟩
      have e2 : ((q.2 : Nat) : Int) + 1 = ((q.2 + 1 : Nat) : Int) := rfl
      cases e1 : (paperL done).getLast? with
      | none =>
        have e0 := List.getLast?_eq_none_iff.mp e1
        have e3 : lastMin (paperL done) q.2 = 0 := by simp [lastMin, e0]
        rw [e3] at h3
        rw [e0] at h3 ⊢
        simp only [dRows, List.map_nil, List.isEmpty_nil, den, initS, endB, dSeq, dSet, dPar, dRet, dRetN, dIfS, dDrop, dFor, dNext, dBreak, dCont, dNever, dRaise, dAug, fAddI, dAppend, dSetIx, dVar, dC, dOp, dUn, dCB, dNil, dCons, dLst, dTup, dTest, dAnd, dOr, dNot, dAndV, dOrV, dNotV, dIf, dChain, dIsi, dIsi2, dYes, fAdd, fSub, fMul, fDiv, fMod, fPow, fNeg, fIx, fLen, fMax, fMin, fSum, fSorted, fAbs, fInt, fList, fTuple, fRepr, gEq, gNe, gLt, gLe, gGt, gGe, gIn, gNotIn, gIs, gIsNot, cD, put, cut, see, sees, look, fz, fzs, fzV, fill, dLc, dSeqI, dRng1, dRng2, dEnum, dZip, dName, dgTup, dgCons, dgNil, dAsg, dCall, dCallS, stAll, mapSt_st, mapSt_no, mapSt_val, mapSt_ow, mapSt_scr, mapSt_ns, noSts, wipeS, dSl, dPart, dNoPart, fSl, dRev, dBM, mCount, mIndex, dStInt, dStTurn, dStPop, dStCells, dStPut, dStTurnPut, dLenScr, tyName, isTyN, isNone, isBool, toInts_ints, dInts_len, List.map_cons, List.map_nil, List.map_append, List.getElem?_cons_zero, List.getElem?_cons_succ, List.set_cons_zero, List.set_cons_succ, List.length_cons, List.length_nil, List.take_nil, List.take_zero, List.take_succ_cons, List.cons_append, List.nil_append, List.replicate_zero, List.replicate_succ, if_true, if_false, ite_true, ite_false, Bool.false_eq_true, Bool.not_true, Bool.not_false, reduceIte, Nat.zero_add, Nat.add_zero, Nat.reduceAdd, Nat.reduceSub, Nat.sub_self, decide_true, decide_false, true_and, and_true, List.length_map, dInts_snoc]
        exact ⟨by omega, h3 _ ⟨_, _, rfl⟩⟩
      | some r =>
        obtain ⟨init, e0⟩ := List.getLast?_eq_some_iff.mp e1
        have e3 : lastMin (paperL done) q.2 = lmin (r.take (q.2 + 1)) := by simp [lastMin, e1]
        have hr : r.length = ms.length + 1 := paper_wide (W := ms.length + 1) (rows := done) (fun r hr => costs_wide r (by rw [e]; exact List.mem_append.mpr (.inl hr))) r (by rw [e0]; simp)
        rw [e3] at h3
        rw [e0] at h3 ⊢
        have e4 : (dRows (init ++ [r])).isEmpty = false := by simp [dRows]
        have e5 : dRows (init ++ [r]) = dRows init ++ [.list (dInts r)] := by simp [dRows]
        have e6 : atI (dRows (init ++ [r])) (-1) = some (.list (dInts r)) := by rw [e5]; exact atI_last _ _
        simp only [e4, e6, den, initS, endB, dSeq, dSet, dPar, dRet, dRetN, dIfS, dDrop, dFor, dNext, dBreak, dCont, dNever, dRaise, dAug, fAddI, dAppend, dSetIx, dVar, dC, dOp, dUn, dCB, dNil, dCons, dLst, dTup, dTest, dAnd, dOr, dNot, dAndV, dOrV, dNotV, dIf, dChain, dIsi, dIsi2, dYes, fAdd, fSub, fMul, fDiv, fMod, fPow, fNeg, fIx, fLen, fMax, fMin, fSum, fSorted, fAbs, fInt, fList, fTuple, fRepr, gEq, gNe, gLt, gLe, gGt, gGe, gIn, gNotIn, gIs, gIsNot, cD, put, cut, see, sees, look, fz, fzs, fzV, fill, dLc, dSeqI, dRng1, dRng2, dEnum, dZip, dName, dgTup, dgCons, dgNil, dAsg, dCall, dCallS, stAll, mapSt_st, mapSt_no, mapSt_val, mapSt_ow, mapSt_scr, mapSt_ns, noSts, wipeS, dSl, dPart, dNoPart, fSl, dRev, dBM, mCount, mIndex, dStInt, dStTurn, dStPop, dStCells, dStPut, dStTurnPut, dLenScr, tyName, isTyN, isNone, isBool, toInts_ints, dInts_len, List.map_cons, List.map_nil, List.map_append, List.getElem?_cons_zero, List.getElem?_cons_succ, List.set_cons_zero, List.set_cons_succ, List.length_cons, List.length_nil, List.take_nil, List.take_zero, List.take_succ_cons, List.cons_append, List.nil_append, List.replicate_zero, List.replicate_succ, if_true, if_false, ite_true, ite_false, Bool.false_eq_true, Bool.not_true, Bool.not_false, reduceIte, Nat.zero_add, Nat.add_zero, Nat.reduceAdd, Nat.reduceSub, Nat.sub_self, decide_true, decide_false, true_and, and_true, List.length_map, e2, cutL_to, dInts_take, dInts_snoc]
        refine ⟨?_, by omega, h3 _ ⟨_, _, rfl⟩⟩
        intro z
        have := congrArg List.length z
        simp at this
        rw [this] at hr
        simp at hr
    · obtain ⟨y3, y4, rfl⟩ := ht
      simp only [den, initS, endB, dSeq, dSet, dPar, dRet, dRetN, dIfS, dDrop, dFor, dNext, dBreak, dCont, dNever, dRaise, dAug, fAddI, dAppend, dSetIx, dVar, dC, dOp, dUn, dCB, dNil, dCons, dLst, dTup, dTest, dAnd, dOr, dNot, dAndV, dOrV, dNotV, dIf, dChain, dIsi, dIsi2, dYes, fAdd, fSub, fMul, fDiv, fMod, fPow, fNeg, fIx, fLen, fMax, fMin, fSum, fSorted, fAbs, fInt, fList, fTuple, fRepr, gEq, gNe, gLt, gLe, gGt, gGe, gIn, gNotIn, gIs, gIsNot, cD, put, cut, see, sees, look, fz, fzs, fzV, fill, dLc, dSeqI, dRng1, dRng2, dEnum, dZip, dName, dgTup, dgCons, dgNil, dAsg, dCall, dCallS, stAll, mapSt_st, mapSt_no, mapSt_val, mapSt_ow, mapSt_scr, mapSt_ns, noSts, wipeS, dSl, dPart, dNoPart, fSl, dRev, dBM, mCount, mIndex, dStInt, dStTurn, dStPop, dStCells, dStPut, dStTurnPut, dLenScr, tyName, isTyN, isNone, isBool, toInts_ints, dInts_len, List.map_cons, List.map_nil, List.map_append, List.getElem?_cons_zero, List.getElem?_cons_succ, List.set_cons_zero, List.set_cons_succ, List.length_cons, List.length_nil, List.take_nil, List.take_zero, List.take_succ_cons, List.cons_append, List.nil_append, List.replicate_zero, List.replicate_succ, if_true, if_false, ite_true, ite_false, Bool.false_eq_true, Bool.not_true, Bool.not_false, reduceIte, Nat.zero_add, Nat.add_zero, Nat.reduceAdd, Nat.reduceSub, Nat.sub_self, decide_true, decide_false, true_and, and_true, List.length_map, dRows_snoc, dRows_len, paper_len]
      rw [← paper_snoc]
      exact ⟨by omega, hk' _ ⟨done ++ [cs], by rw [e]; simp, _, _, _, _, rfl⟩⟩
  · obtain ⟨done, e, y1, y2, y3, y4, rfl⟩ := ht
    rw [List.append_nil] at e
    subst e
    simp only [den, initS, endB, dSeq, dSet, dPar, dRet, dRetN, dIfS, dDrop, dFor, dNext, dBreak, dCont, dNever, dRaise, dAug, fAddI, dAppend, dSetIx, dVar, dC, dOp, dUn, dCB, dNil, dCons, dLst, dTup, dTest, dAnd, dOr, dNot, dAndV, dOrV, dNotV, dIf, dChain, dIsi, dIsi2, dYes, fAdd, fSub, fMul, fDiv, fMod, fPow, fNeg, fIx, fLen, fMax, fMin, fSum, fSorted, fAbs, fInt, fList, fTuple, fRepr, gEq, gNe, gLt, gLe, gGt, gGe, gIn, gNotIn, gIs, gIsNot, cD, put, cut, see, sees, look, fz, fzs, fzV, fill, dLc, dSeqI, dRng1, dRng2, dEnum, dZip, dName, dgTup, dgCons, dgNil, dAsg, dCall, dCallS, stAll, mapSt_st, mapSt_no, mapSt_val, mapSt_ow, mapSt_scr, mapSt_ns, noSts, wipeS, dSl, dPart, dNoPart, fSl, dRev, dBM, mCount, mIndex, dStInt, dStTurn, dStPop, dStCells, dStPut, dStTurnPut, dLenScr, tyName, isTyN, isNone, isBool, toInts_ints, dInts_len, List.map_cons, List.map_nil, List.map_append, List.getElem?_cons_zero, List.getElem?_cons_succ, List.set_cons_zero, List.set_cons_succ, List.length_cons, List.length_nil, List.take_nil, List.take_zero, List.take_succ_cons, List.cons_append, List.nil_append, List.replicate_zero, List.replicate_succ, if_true, if_false, ite_true, ite_false, Bool.false_eq_true, Bool.not_true, Bool.not_false, reduceIte, Nat.zero_add, Nat.add_zero, Nat.reduceAdd, Nat.reduceSub, Nat.sub_self, decide_true, decide_false, true_and, and_true, List.length_map]
    exact hk

abbrev nn_least_one : Nat := 4
-- 0:size 1:moments 2:wait 3:lose
def B_least_one : (String → Prop) → DSt := fun kx => (dRet (dCB fMin (dCons (dOp fIx (dCall 4 T_loss_paper (fun _ => False) (dCons (dVar 0) (dCons (dVar 1) (dCons (dVar 2) (dCons (dVar 3) dNil))))) (dUn fNeg (dC (.int 1)))) dNil)))
def R_least_one : DFn := den false 4 B_least_one
def T_least_one : DFn := fun _ ds k _ => ∃ (s : Int) (ms : List Int) (w l : Int), ds = [.int s, .list (dInts ms), .int w, .int l] ∧ Ok s ms w l ∧ k (.int (oneL (costs s ms w l))) 0
theorem imp_least_one : ∀ B ds k kx, ds.length = 4 → T_least_one B ds k kx → R_least_one B ds k kx := fun B ds k kx _ h => by
  obtain ⟨s, ms, w, l, rfl, h, hk⟩ := h
  simp only [R_least_one, B_least_one, T_loss_paper, den, initS, endB, dSeq, dSet, dPar, dRet, dRetN, dIfS, dDrop, dFor, dNext, dBreak, dCont, dNever, dRaise, dAug, fAddI, dAppend, dSetIx, dVar, dC, dOp, dUn, dCB, dNil, dCons, dLst, dTup, dTest, dAnd, dOr, dNot, dAndV, dOrV, dNotV, dIf, dChain, dIsi, dIsi2, dYes, fAdd, fSub, fMul, fDiv, fMod, fPow, fNeg, fIx, fLen, fMax, fMin, fSum, fSorted, fAbs, fInt, fList, fTuple, fRepr, gEq, gNe, gLt, gLe, gGt, gGe, gIn, gNotIn, gIs, gIsNot, cD, put, cut, see, sees, look, fz, fzs, fzV, fill, dLc, dSeqI, dRng1, dRng2, dEnum, dZip, dName, dgTup, dgCons, dgNil, dAsg, dCall, dCallS, stAll, mapSt_st, mapSt_no, mapSt_val, mapSt_ow, mapSt_scr, mapSt_ns, noSts, wipeS, dSl, dPart, dNoPart, fSl, dRev, dBM, mCount, mIndex, dStInt, dStTurn, dStPop, dStCells, dStPut, dStTurnPut, dLenScr, tyName, isTyN, isNone, isBool, toInts_ints, dInts_len, List.map_cons, List.map_nil, List.map_append, List.getElem?_cons_zero, List.getElem?_cons_succ, List.set_cons_zero, List.set_cons_succ, List.length_cons, List.length_nil, List.take_nil, List.take_zero, List.take_succ_cons, List.cons_append, List.nil_append, List.replicate_zero, List.replicate_succ, if_true, if_false, ite_true, ite_false, Bool.false_eq_true, Bool.not_true, Bool.not_false, reduceIte, Nat.zero_add, Nat.add_zero, Nat.reduceAdd, Nat.reduceSub, Nat.sub_self, decide_true, decide_false, true_and, and_true, List.length_map]
  refine ⟨s, ms, w, l, rfl, h, ?_⟩
  have h0 := paper_len (costs s ms w l)
  have h1 := paper_wide (costs_wide (s := s) (ms := ms) (w := w) (l := l))
  have h2 := (costs_len h).1
  unfold oneL at hk
  cases e1 : (paperL (costs s ms w l)).getLast? with
  | none =>
    rw [List.getLast?_eq_none_iff.mp e1] at h0
    simp at h0
    omega
  | some r =>
    obtain ⟨init, e0⟩ := List.getLast?_eq_some_iff.mp e1
    have hr := h1 r (by rw [e0]; simp)
    rw [e1] at hk
    have e6 : atI (dRows (paperL (costs s ms w l))) (-1) = some (.list (dInts r)) := by
      rw [e0, show dRows (init ++ [r]) = dRows init ++ [.list (dInts r)] by simp [dRows]]
      exact atI_last _ _
    simp only [e6, den, initS, endB, dSeq, dSet, dPar, dRet, dRetN, dIfS, dDrop, dFor, dNext, dBreak, dCont, dNever, dRaise, dAug, fAddI, dAppend, dSetIx, dVar, dC, dOp, dUn, dCB, dNil, dCons, dLst, dTup, dTest, dAnd, dOr, dNot, dAndV, dOrV, dNotV, dIf, dChain, dIsi, dIsi2, dYes, fAdd, fSub, fMul, fDiv, fMod, fPow, fNeg, fIx, fLen, fMax, fMin, fSum, fSorted, fAbs, fInt, fList, fTuple, fRepr, gEq, gNe, gLt, gLe, gGt, gGe, gIn, gNotIn, gIs, gIsNot, cD, put, cut, see, sees, look, fz, fzs, fzV, fill, dLc, dSeqI, dRng1, dRng2, dEnum, dZip, dName, dgTup, dgCons, dgNil, dAsg, dCall, dCallS, stAll, mapSt_st, mapSt_no, mapSt_val, mapSt_ow, mapSt_scr, mapSt_ns, noSts, wipeS, dSl, dPart, dNoPart, fSl, dRev, dBM, mCount, mIndex, dStInt, dStTurn, dStPop, dStCells, dStPut, dStTurnPut, dLenScr, tyName, isTyN, isNone, isBool, toInts_ints, dInts_len, List.map_cons, List.map_nil, List.map_append, List.getElem?_cons_zero, List.getElem?_cons_succ, List.set_cons_zero, List.set_cons_succ, List.length_cons, List.length_nil, List.take_nil, List.take_zero, List.take_succ_cons, List.cons_append, List.nil_append, List.replicate_zero, List.replicate_succ, if_true, if_false, ite_true, ite_false, Bool.false_eq_true, Bool.not_true, Bool.not_false, reduceIte, Nat.zero_add, Nat.add_zero, Nat.reduceAdd, Nat.reduceSub, Nat.sub_self, decide_true, decide_false, true_and, and_true, List.length_map]
    exact ⟨by intro z; rw [z] at hr; simp at hr, hk⟩

abbrev nn_closings : Nat := 7
-- 0:size 1:moments 2:wait 3:lose 4:found 5:end 6:row
def B_closings : (String → Prop) → DSt := fun kx => (dSeq (dPar [4, 5] (dCons (dLst dNil) (dCons (dCB fLen (dCons (dVar 1) dNil)) dNil))) (dSeq (dFor (dSeqI (dRev (dCall 4 T_loss_paper (fun _ => False) (dCons (dVar 0) (dCons (dVar 1) (dCons (dVar 2) (dCons (dVar 3) dNil))))))) (dName 6) (dSeq (dSet 5 (dBM mIndex (dVar 6) (dCons (dCB fMin (dCons (dSl (dVar 6) dNoPart (dPart (dOp fAdd (dVar 5) (dC (.int 1))))) dNil)) dNil))) (dAppend 4 (dVar 5)))) (dRet (dRev (dVar 4)))))
def R_closings : DFn := den false 7 B_closings
def placesL (rows : List Row) (e : Nat) : List Nat := (trace (paperL rows).reverse e).reverse
def T_closings : DFn := fun _ ds k _ => ∃ (s : Int) (ms : List Int) (w l : Int), ds = [.int s, .list (dInts ms), .int w, .int l] ∧ Ok s ms w l ∧ k (.list (dNats (placesL (costs s ms w l) ms.length))) 0
theorem imp_closings : ∀ B ds k kx, ds.length = 4 → T_closings B ds k kx → R_closings B ds k kx := fun B ds k kx _ h => by
  obtain ⟨s, ms, w, l, rfl, h, hk⟩ := h
  have sz : sizeLine = 2 ^ 24 := rfl
  have cl := costs_len h
  have pl := paper_len (costs s ms w l)
  have pw := paper_wide (costs_wide (s := s) (ms := ms) (w := w) (l := l))
  simp only [R_closings, B_closings, den, initS]
  refine seq_to [.val (.int s), .val (.list (dInts ms)), .val (.int w), .val (.int l), .own (.lst []), .val (.int (ms.length : Nat)), .no] (fun k' hk' => ?_) ?_
  · simp only [den, initS, endB, dSeq, dSet, dPar, dRet, dRetN, dIfS, dDrop, dFor, dNext, dBreak, dCont, dNever, dRaise, dAug, fAddI, dAppend, dSetIx, dVar, dC, dOp, dUn, dCB, dNil, dCons, dLst, dTup, dTest, dAnd, dOr, dNot, dAndV, dOrV, dNotV, dIf, dChain, dIsi, dIsi2, dYes, fAdd, fSub, fMul, fDiv, fMod, fPow, fNeg, fIx, fLen, fMax, fMin, fSum, fSorted, fAbs, fInt, fList, fTuple, fRepr, gEq, gNe, gLt, gLe, gGt, gGe, gIn, gNotIn, gIs, gIsNot, cD, put, cut, see, sees, look, fz, fzs, fzV, fill, dLc, dSeqI, dRng1, dRng2, dEnum, dZip, dName, dgTup, dgCons, dgNil, dAsg, dCall, dCallS, stAll, mapSt_st, mapSt_no, mapSt_val, mapSt_ow, mapSt_scr, mapSt_ns, noSts, wipeS, dSl, dPart, dNoPart, fSl, dRev, dBM, mCount, mIndex, dStInt, dStTurn, dStPop, dStCells, dStPut, dStTurnPut, dLenScr, tyName, isTyN, isNone, isBool, toInts_ints, dInts_len, List.map_cons, List.map_nil, List.map_append, List.getElem?_cons_zero, List.getElem?_cons_succ, List.set_cons_zero, List.set_cons_succ, List.length_cons, List.length_nil, List.take_nil, List.take_zero, List.take_succ_cons, List.cons_append, List.nil_append, List.replicate_zero, List.replicate_succ, if_true, if_false, ite_true, ite_false, Bool.false_eq_true, Bool.not_true, Bool.not_false, reduceIte, Nat.zero_add, Nat.add_zero, Nat.reduceAdd, Nat.reduceSub, Nat.sub_self, decide_true, decide_false, true_and, and_true, List.length_map]
    exact ⟨Nat.zero_le _, hk'⟩
  refine dSeq_for ?_
  simp only [T_loss_paper, den, initS, endB, dSeq, dSet, dPar, dRet, dRetN, dIfS, dDrop, dFor, dNext, dBreak, dCont, dNever, dRaise, dAug, fAddI, dAppend, dSetIx, dVar, dC, dOp, dUn, dCB, dNil, dCons, dLst, dTup, dTest, dAnd, dOr, dNot, dAndV, dOrV, dNotV, dIf, dChain, dIsi, dIsi2, dYes, fAdd, fSub, fMul, fDiv, fMod, fPow, fNeg, fIx, fLen, fMax, fMin, fSum, fSorted, fAbs, fInt, fList, fTuple, fRepr, gEq, gNe, gLt, gLe, gGt, gGe, gIn, gNotIn, gIs, gIsNot, cD, put, cut, see, sees, look, fz, fzs, fzV, fill, dLc, dSeqI, dRng1, dRng2, dEnum, dZip, dName, dgTup, dgCons, dgNil, dAsg, dCall, dCallS, stAll, mapSt_st, mapSt_no, mapSt_val, mapSt_ow, mapSt_scr, mapSt_ns, noSts, wipeS, dSl, dPart, dNoPart, fSl, dRev, dBM, mCount, mIndex, dStInt, dStTurn, dStPop, dStCells, dStPut, dStTurnPut, dLenScr, tyName, isTyN, isNone, isBool, toInts_ints, dInts_len, List.map_cons, List.map_nil, List.map_append, List.getElem?_cons_zero, List.getElem?_cons_succ, List.set_cons_zero, List.set_cons_succ, List.length_cons, List.length_nil, List.take_nil, List.take_zero, List.take_succ_cons, List.cons_append, List.nil_append, List.replicate_zero, List.replicate_succ, if_true, if_false, ite_true, ite_false, Bool.false_eq_true, Bool.not_true, Bool.not_false, reduceIte, Nat.zero_add, Nat.add_zero, Nat.reduceAdd, Nat.reduceSub, Nat.sub_self, decide_true, decide_false, true_and, and_true, List.length_map]
  refine ⟨s, ms, w, l, rfl, h, ?_⟩
  rw [dRows_rev, dRows_map]
  refine for_to _ (fun zs t => ∃ (e : Nat) (fnd : List Nat) (y : Sl), t = [.val (.int s), .val (.list (dInts ms)), .val (.int w), .val (.int l), .own (.lst (dNats fnd)), .val (.int (e : Nat)), y] ∧ e ≤ ms.length ∧ fnd ++ trace zs e = trace (paperL (costs s ms w l)).reverse ms.length ∧ fnd.length + zs.length = (costs s ms w l).length ∧ ∀ r ∈ zs, r.length = ms.length + 1) _
    ⟨ms.length, [], _, rfl, Nat.le_refl _, rfl, by simp [pl], fun r hr => pw r (by simpa using hr)⟩ (fun r zs t ht k' b hk' => ?_) fun t ht => ?_
  · obtain ⟨e, fnd, y, rfl, he, ht, hl, hw⟩ := ht
    have hr := hw r (List.mem_cons_self ..)
    obtain ⟨j, j1, j2, j3, j4, j5⟩ := firstAt_spec (r := r) (e := e) (by intro z; rw [z] at hr; simp at hr)
    simp only [dName, List.set_cons_succ, List.set_cons_zero]
    refine seq_to [.val (.int s), .val (.list (dInts ms)), .val (.int w), .val (.int l), .own (.lst (dNats fnd)), .val (.int (j : Nat)), .val (.list (dInts r))] (fun k2 h2 => ?_) ?_
    · have e2 : ((e : Nat) : Int) + 1 = ((e + 1 : Nat) : Int) := rfl
      simp only [den, initS, endB, dSeq, dSet, dPar, dRet, dRetN, dIfS, dDrop, dFor, dNext, dBreak, dCont, dNever, dRaise, dAug, fAddI, dAppend, dSetIx, dVar, dC, dOp, dUn, dCB, dNil, dCons, dLst, dTup, dTest, dAnd, dOr, dNot, dAndV, dOrV, dNotV, dIf, dChain, dIsi, dIsi2, dYes, fAdd, fSub, fMul, fDiv, fMod, fPow, fNeg, fIx, fLen, fMax, fMin, fSum, fSorted, fAbs, fInt, fList, fTuple, fRepr, gEq, gNe, gLt, gLe, gGt, gGe, gIn, gNotIn, gIs, gIsNot, cD, put, cut, see, sees, look, fz, fzs, fzV, fill, dLc, dSeqI, dRng1, dRng2, dEnum, dZip, dName, dgTup, dgCons, dgNil, dAsg, dCall, dCallS, stAll, mapSt_st, mapSt_no, mapSt_val, mapSt_ow, mapSt_scr, mapSt_ns, noSts, wipeS, dSl, dPart, dNoPart, fSl, dRev, dBM, mCount, mIndex, dStInt, dStTurn, dStPop, dStCells, dStPut, dStTurnPut, dLenScr, tyName, isTyN, isNone, isBool, toInts_ints, dInts_len, List.map_cons, List.map_nil, List.map_append, List.getElem?_cons_zero, List.getElem?_cons_succ, List.set_cons_zero, List.set_cons_succ, List.length_cons, List.length_nil, List.take_nil, List.take_zero, List.take_succ_cons, List.cons_append, List.nil_append, List.replicate_zero, List.replicate_succ, if_true, if_false, ite_true, ite_false, Bool.false_eq_true, Bool.not_true, Bool.not_false, reduceIte, Nat.zero_add, Nat.add_zero, Nat.reduceAdd, Nat.reduceSub, Nat.sub_self, decide_true, decide_false, true_and, and_true, List.length_map, e2, cutL_to, dInts_take, idxOf_ints, j1]
      refine ⟨?_, shaped_ints _, shaped_int _, h2⟩
      intro z
      have := congrArg List.length z
      simp at this
      rw [this] at hr
      simp at hr
    · simp only [den, initS, endB, dSeq, dSet, dPar, dRet, dRetN, dIfS, dDrop, dFor, dNext, dBreak, dCont, dNever, dRaise, dAug, fAddI, dAppend, dSetIx, dVar, dC, dOp, dUn, dCB, dNil, dCons, dLst, dTup, dTest, dAnd, dOr, dNot, dAndV, dOrV, dNotV, dIf, dChain, dIsi, dIsi2, dYes, fAdd, fSub, fMul, fDiv, fMod, fPow, fNeg, fIx, fLen, fMax, fMin, fSum, fSorted, fAbs, fInt, fList, fTuple, fRepr, gEq, gNe, gLt, gLe, gGt, gGe, gIn, gNotIn, gIs, gIsNot, cD, put, cut, see, sees, look, fz, fzs, fzV, fill, dLc, dSeqI, dRng1, dRng2, dEnum, dZip, dName, dgTup, dgCons, dgNil, dAsg, dCall, dCallS, stAll, mapSt_st, mapSt_no, mapSt_val, mapSt_ow, mapSt_scr, mapSt_ns, noSts, wipeS, dSl, dPart, dNoPart, fSl, dRev, dBM, mCount, mIndex, dStInt, dStTurn, dStPop, dStCells, dStPut, dStTurnPut, dLenScr, tyName, isTyN, isNone, isBool, toInts_ints, dInts_len, List.map_cons, List.map_nil, List.map_append, List.getElem?_cons_zero, List.getElem?_cons_succ, List.set_cons_zero, List.set_cons_succ, List.length_cons, List.length_nil, List.take_nil, List.take_zero, List.take_succ_cons, List.cons_append, List.nil_append, List.replicate_zero, List.replicate_succ, if_true, if_false, ite_true, ite_false, Bool.false_eq_true, Bool.not_true, Bool.not_false, reduceIte, Nat.zero_add, Nat.add_zero, Nat.reduceAdd, Nat.reduceSub, Nat.sub_self, decide_true, decide_false, true_and, and_true, List.length_map]
      rw [dNats_len]
      simp at hl
      refine ⟨by omega, hk' _ ⟨j, fnd ++ [j], .val (.list (dInts r)), by simp [dNats], by omega, ?_, by simp; omega, fun r hr => hw r (List.mem_cons_of_mem _ hr)⟩⟩
      rw [← ht]
      simp [trace, j2]
  · obtain ⟨e, fnd, y, rfl, he, ht, hl, hw⟩ := ht
    simp only [trace, List.append_nil] at ht
    simp only [den, initS, endB, dSeq, dSet, dPar, dRet, dRetN, dIfS, dDrop, dFor, dNext, dBreak, dCont, dNever, dRaise, dAug, fAddI, dAppend, dSetIx, dVar, dC, dOp, dUn, dCB, dNil, dCons, dLst, dTup, dTest, dAnd, dOr, dNot, dAndV, dOrV, dNotV, dIf, dChain, dIsi, dIsi2, dYes, fAdd, fSub, fMul, fDiv, fMod, fPow, fNeg, fIx, fLen, fMax, fMin, fSum, fSorted, fAbs, fInt, fList, fTuple, fRepr, gEq, gNe, gLt, gLe, gGt, gGe, gIn, gNotIn, gIs, gIsNot, cD, put, cut, see, sees, look, fz, fzs, fzV, fill, dLc, dSeqI, dRng1, dRng2, dEnum, dZip, dName, dgTup, dgCons, dgNil, dAsg, dCall, dCallS, stAll, mapSt_st, mapSt_no, mapSt_val, mapSt_ow, mapSt_scr, mapSt_ns, noSts, wipeS, dSl, dPart, dNoPart, fSl, dRev, dBM, mCount, mIndex, dStInt, dStTurn, dStPop, dStCells, dStPut, dStTurnPut, dLenScr, tyName, isTyN, isNone, isBool, toInts_ints, dInts_len, List.map_cons, List.map_nil, List.map_append, List.getElem?_cons_zero, List.getElem?_cons_succ, List.set_cons_zero, List.set_cons_succ, List.length_cons, List.length_nil, List.take_nil, List.take_zero, List.take_succ_cons, List.cons_append, List.nil_append, List.replicate_zero, List.replicate_succ, if_true, if_false, ite_true, ite_false, Bool.false_eq_true, Bool.not_true, Bool.not_false, reduceIte, Nat.zero_add, Nat.add_zero, Nat.reduceAdd, Nat.reduceSub, Nat.sub_self, decide_true, decide_false, true_and, and_true, List.length_map]
    rw [ht]
    unfold placesL at hk
    simpa [dNats] using hk

abbrev nn_are_closings : Nat := 5
-- 0:size 1:moments 2:thing 3:at 4:place
def B_are_closings : (String → Prop) → DSt := fun kx => (dSeq (dIfS (dOr (dNot (dTest (dIsi "list" (dVar 2)))) (dTest (dOp (cD gNe) (dCB fLen (dCons (dVar 2) dNil)) (dOp fAdd (dOp fDiv (dCB fMax (dCons (dVar 1) dNil)) (dVar 0)) (dC (.int 1)))))) (dRet (dC (.bool false))) dNext) (dSeq (dFor (dEnum (dCons (dVar 2) dNil)) (dgTup 2 (dgCons (dName 3) (dgCons (dName 4) dgNil))) (dIfS (dOr (dNot (dTest (dCall 1 T_is_whole (fun _ => False) (dCons (dVar 4) dNil)))) (dNot (dTest (dChain gLe gLe (dIf (dTest (dOp (cD gGt) (dVar 3) (dC (.int 0)))) (dOp fIx (dVar 2) (dOp fSub (dVar 3) (dC (.int 1)))) (dC (.int 0))) (dVar 4) (dCB fLen (dCons (dVar 1) dNil)))))) (dRet (dC (.bool false))) dNext)) (dRet (dC (.bool true)))))
def R_are_closings : DFn := den false 5 B_are_closings
def T_are_closings : DFn := fun _ ds k _ => ∃ (s : Int) (ms : List Int) (w l : Int) (es : List Nat), ds = [.int s, .list (dInts ms), .list (dNats es)] ∧ Ok s ms w l ∧ es.length = (costs s ms w l).length ∧ ChF (ms.length + 1) 0 es ∧ k (.bool true) 0
theorem imp_are_closings : ∀ B ds k kx, ds.length = 3 → T_are_closings B ds k kx → R_are_closings B ds k kx := fun B ds k kx _ h => by
  obtain ⟨s, ms, w, l, es, rfl, h, hl, hc, hk⟩ := h
  have sz : sizeLine = 2 ^ 24 := rfl
  have tp := h.top
  have s1 := h.s1
  have s2 := h.s2
  have ne : ms ≠ [] := fun z => by have := h.n1; rw [z] at this; simp at this
  have hl2 : (es.length : Int) = lmax ms / s + 1 := by
    rw [top_law h, hl]
    simp [costs]
    omega
  simp only [R_are_closings, B_are_closings, den, initS]
  refine seq_to [.val (.int s), .val (.list (dInts ms)), .val (.list (dNats es)), .no, .no] (fun k' hk' => ?_) ?_
  · simp [den, initS, endB, dSeq, dSet, dPar, dRet, dRetN, dIfS, dDrop, dFor, dNext, dBreak, dCont, dNever, dRaise, dAug, fAddI, dAppend, dSetIx, dVar, dC, dOp, dUn, dCB, dNil, dCons, dLst, dTup, dTest, dAnd, dOr, dNot, dAndV, dOrV, dNotV, dIf, dChain, dIsi, dIsi2, dYes, fAdd, fSub, fMul, fDiv, fMod, fPow, fNeg, fIx, fLen, fMax, fMin, fSum, fSorted, fAbs, fInt, fList, fTuple, fRepr, gEq, gNe, gLt, gLe, gGt, gGe, gIn, gNotIn, gIs, gIsNot, cD, put, cut, see, sees, look, fz, fzs, fzV, fill, dLc, dSeqI, dRng1, dRng2, dEnum, dZip, dName, dgTup, dgCons, dgNil, dAsg, dCall, dCallS, stAll, mapSt_st, mapSt_no, mapSt_val, mapSt_ow, mapSt_scr, mapSt_ns, noSts, wipeS, dSl, dPart, dNoPart, fSl, dRev, dBM, mCount, mIndex, dStInt, dStTurn, dStPop, dStCells, dStPut, dStTurnPut, dLenScr, tyName, isTyN, isNone, isBool, toInts_ints, dInts_len, List.map_cons, List.map_nil, List.map_append, List.getElem?_cons_zero, List.getElem?_cons_succ, List.set_cons_zero, List.set_cons_succ, List.length_cons, List.length_nil, List.take_nil, List.take_zero, List.take_succ_cons, List.cons_append, List.nil_append, List.replicate_zero, List.replicate_succ, if_true, if_false, ite_true, ite_false, Bool.false_eq_true, Bool.not_true, Bool.not_false, reduceIte, Nat.zero_add, Nat.add_zero, Nat.reduceAdd, Nat.reduceSub, Nat.sub_self, decide_true, decide_false, true_and, and_true, List.length_map, dNats_len]
    refine ⟨ne, ⟨by omega, by omega⟩, shaped_int _, shaped_int _, ?_⟩
    simp [eqv_int, hl2]
    exact hk'
  refine dSeq_for ?_
  simp only [den, initS, endB, dSeq, dSet, dPar, dRet, dRetN, dIfS, dDrop, dFor, dNext, dBreak, dCont, dNever, dRaise, dAug, fAddI, dAppend, dSetIx, dVar, dC, dOp, dUn, dCB, dNil, dCons, dLst, dTup, dTest, dAnd, dOr, dNot, dAndV, dOrV, dNotV, dIf, dChain, dIsi, dIsi2, dYes, fAdd, fSub, fMul, fDiv, fMod, fPow, fNeg, fIx, fLen, fMax, fMin, fSum, fSorted, fAbs, fInt, fList, fTuple, fRepr, gEq, gNe, gLt, gLe, gGt, gGe, gIn, gNotIn, gIs, gIsNot, cD, put, cut, see, sees, look, fz, fzs, fzV, fill, dLc, dSeqI, dRng1, dRng2, dEnum, dZip, dName, dgTup, dgCons, dgNil, dAsg, dCall, dCallS, stAll, mapSt_st, mapSt_no, mapSt_val, mapSt_ow, mapSt_scr, mapSt_ns, noSts, wipeS, dSl, dPart, dNoPart, fSl, dRev, dBM, mCount, mIndex, dStInt, dStTurn, dStPop, dStCells, dStPut, dStTurnPut, dLenScr, tyName, isTyN, isNone, isBool, toInts_ints, dInts_len, List.map_cons, List.map_nil, List.map_append, List.getElem?_cons_zero, List.getElem?_cons_succ, List.set_cons_zero, List.set_cons_succ, List.length_cons, List.length_nil, List.take_nil, List.take_zero, List.take_succ_cons, List.cons_append, List.nil_append, List.replicate_zero, List.replicate_succ, if_true, if_false, ite_true, ite_false, Bool.false_eq_true, Bool.not_true, Bool.not_false, reduceIte, Nat.zero_add, Nat.add_zero, Nat.reduceAdd, Nat.reduceSub, Nat.sub_self, decide_true, decide_false, true_and, and_true, List.length_map]
  rw [dNats, enumL_map]
  refine for_each _ (fun t => ∃ y z, t = [.val (.int s), .val (.list (dInts ms)), .val (.list (dNats es)), y, z]) _ ⟨_, _, rfl⟩ (fun q hq t ht k' b hk' => ?_) fun t ht => ?_
  · obtain ⟨y, z, rfl⟩ := ht
    obtain ⟨x, i⟩ := q
    obtain ⟨hi, hx⟩ := chF_at hc hq
    simp only [T_is_whole, den, initS, endB, dSeq, dSet, dPar, dRet, dRetN, dIfS, dDrop, dFor, dNext, dBreak, dCont, dNever, dRaise, dAug, fAddI, dAppend, dSetIx, dVar, dC, dOp, dUn, dCB, dNil, dCons, dLst, dTup, dTest, dAnd, dOr, dNot, dAndV, dOrV, dNotV, dIf, dChain, dIsi, dIsi2, dYes, fAdd, fSub, fMul, fDiv, fMod, fPow, fNeg, fIx, fLen, fMax, fMin, fSum, fSorted, fAbs, fInt, fList, fTuple, fRepr, gEq, gNe, gLt, gLe, gGt, gGe, gIn, gNotIn, gIs, gIsNot, cD, put, cut, see, sees, look, fz, fzs, fzV, fill, dLc, dSeqI, dRng1, dRng2, dEnum, dZip, dName, dgTup, dgCons, dgNil, dAsg, dCall, dCallS, stAll, mapSt_st, mapSt_no, mapSt_val, mapSt_ow, mapSt_scr, mapSt_ns, noSts, wipeS, dSl, dPart, dNoPart, fSl, dRev, dBM, mCount, mIndex, dStInt, dStTurn, dStPop, dStCells, dStPut, dStTurnPut, dLenScr, tyName, isTyN, isNone, isBool, toInts_ints, dInts_len, List.map_cons, List.map_nil, List.map_append, List.getElem?_cons_zero, List.getElem?_cons_succ, List.set_cons_zero, List.set_cons_succ, List.length_cons, List.length_nil, List.take_nil, List.take_zero, List.take_succ_cons, List.cons_append, List.nil_append, List.replicate_zero, List.replicate_succ, if_true, if_false, ite_true, ite_false, Bool.false_eq_true, Bool.not_true, Bool.not_false, reduceIte, Nat.zero_add, Nat.add_zero, Nat.reduceAdd, Nat.reduceSub, Nat.sub_self, decide_true, decide_false, true_and, and_true, List.length_map]
    refine ⟨_, rfl, ?_⟩
    have hxl : decide ((x : Int) ≤ (ms.length : Int)) = true := decide_eq_true (by omega)
    have hx0 : decide ((0 : Int) ≤ (x : Int)) = true := decide_eq_true (by omega)
    by_cases h0 : 0 < i
    · obtain ⟨hp, hpx⟩ := hx.2 h0
      have e1 : (i : Int) - 1 = ((i - 1 : Nat) : Int) := by omega
      have e2 : atI (dNats es) ((i - 1 : Nat) : Int) = some (.int ((es[i - 1] : Nat) : Int)) := atI_mapN _ es hp
      rw [if_pos (decide_eq_true (by omega)), e1, e2]
      have e3 : decide (((es[i - 1] : Nat) : Int) ≤ (x : Int)) = true := decide_eq_true (by omega)
      simp only [den, initS, endB, dSeq, dSet, dPar, dRet, dRetN, dIfS, dDrop, dFor, dNext, dBreak, dCont, dNever, dRaise, dAug, fAddI, dAppend, dSetIx, dVar, dC, dOp, dUn, dCB, dNil, dCons, dLst, dTup, dTest, dAnd, dOr, dNot, dAndV, dOrV, dNotV, dIf, dChain, dIsi, dIsi2, dYes, fAdd, fSub, fMul, fDiv, fMod, fPow, fNeg, fIx, fLen, fMax, fMin, fSum, fSorted, fAbs, fInt, fList, fTuple, fRepr, gEq, gNe, gLt, gLe, gGt, gGe, gIn, gNotIn, gIs, gIsNot, cD, put, cut, see, sees, look, fz, fzs, fzV, fill, dLc, dSeqI, dRng1, dRng2, dEnum, dZip, dName, dgTup, dgCons, dgNil, dAsg, dCall, dCallS, stAll, mapSt_st, mapSt_no, mapSt_val, mapSt_ow, mapSt_scr, mapSt_ns, noSts, wipeS, dSl, dPart, dNoPart, fSl, dRev, dBM, mCount, mIndex, dStInt, dStTurn, dStPop, dStCells, dStPut, dStTurnPut, dLenScr, tyName, isTyN, isNone, isBool, toInts_ints, dInts_len, List.map_cons, List.map_nil, List.map_append, List.getElem?_cons_zero, List.getElem?_cons_succ, List.set_cons_zero, List.set_cons_succ, List.length_cons, List.length_nil, List.take_nil, List.take_zero, List.take_succ_cons, List.cons_append, List.nil_append, List.replicate_zero, List.replicate_succ, if_true, if_false, ite_true, ite_false, Bool.false_eq_true, Bool.not_true, Bool.not_false, reduceIte, Nat.zero_add, Nat.add_zero, Nat.reduceAdd, Nat.reduceSub, Nat.sub_self, decide_true, decide_false, true_and, and_true, List.length_map, hxl, e3]
      exact hk' _ ⟨_, _, rfl⟩
    · rw [if_neg (by simp; omega)]
      simp only [hx0, hxl, den, initS, endB, dSeq, dSet, dPar, dRet, dRetN, dIfS, dDrop, dFor, dNext, dBreak, dCont, dNever, dRaise, dAug, fAddI, dAppend, dSetIx, dVar, dC, dOp, dUn, dCB, dNil, dCons, dLst, dTup, dTest, dAnd, dOr, dNot, dAndV, dOrV, dNotV, dIf, dChain, dIsi, dIsi2, dYes, fAdd, fSub, fMul, fDiv, fMod, fPow, fNeg, fIx, fLen, fMax, fMin, fSum, fSorted, fAbs, fInt, fList, fTuple, fRepr, gEq, gNe, gLt, gLe, gGt, gGe, gIn, gNotIn, gIs, gIsNot, cD, put, cut, see, sees, look, fz, fzs, fzV, fill, dLc, dSeqI, dRng1, dRng2, dEnum, dZip, dName, dgTup, dgCons, dgNil, dAsg, dCall, dCallS, stAll, mapSt_st, mapSt_no, mapSt_val, mapSt_ow, mapSt_scr, mapSt_ns, noSts, wipeS, dSl, dPart, dNoPart, fSl, dRev, dBM, mCount, mIndex, dStInt, dStTurn, dStPop, dStCells, dStPut, dStTurnPut, dLenScr, tyName, isTyN, isNone, isBool, toInts_ints, dInts_len, List.map_cons, List.map_nil, List.map_append, List.getElem?_cons_zero, List.getElem?_cons_succ, List.set_cons_zero, List.set_cons_succ, List.length_cons, List.length_nil, List.take_nil, List.take_zero, List.take_succ_cons, List.cons_append, List.nil_append, List.replicate_zero, List.replicate_succ, if_true, if_false, ite_true, ite_false, Bool.false_eq_true, Bool.not_true, Bool.not_false, reduceIte, Nat.zero_add, Nat.add_zero, Nat.reduceAdd, Nat.reduceSub, Nat.sub_self, decide_true, decide_false, true_and, and_true, List.length_map]
      exact hk' _ ⟨_, _, rfl⟩
  · obtain ⟨y, z, rfl⟩ := ht
    simp only [den, initS, endB, dSeq, dSet, dPar, dRet, dRetN, dIfS, dDrop, dFor, dNext, dBreak, dCont, dNever, dRaise, dAug, fAddI, dAppend, dSetIx, dVar, dC, dOp, dUn, dCB, dNil, dCons, dLst, dTup, dTest, dAnd, dOr, dNot, dAndV, dOrV, dNotV, dIf, dChain, dIsi, dIsi2, dYes, fAdd, fSub, fMul, fDiv, fMod, fPow, fNeg, fIx, fLen, fMax, fMin, fSum, fSorted, fAbs, fInt, fList, fTuple, fRepr, gEq, gNe, gLt, gLe, gGt, gGe, gIn, gNotIn, gIs, gIsNot, cD, put, cut, see, sees, look, fz, fzs, fzV, fill, dLc, dSeqI, dRng1, dRng2, dEnum, dZip, dName, dgTup, dgCons, dgNil, dAsg, dCall, dCallS, stAll, mapSt_st, mapSt_no, mapSt_val, mapSt_ow, mapSt_scr, mapSt_ns, noSts, wipeS, dSl, dPart, dNoPart, fSl, dRev, dBM, mCount, mIndex, dStInt, dStTurn, dStPop, dStCells, dStPut, dStTurnPut, dLenScr, tyName, isTyN, isNone, isBool, toInts_ints, dInts_len, List.map_cons, List.map_nil, List.map_append, List.getElem?_cons_zero, List.getElem?_cons_succ, List.set_cons_zero, List.set_cons_succ, List.length_cons, List.length_nil, List.take_nil, List.take_zero, List.take_succ_cons, List.cons_append, List.nil_append, List.replicate_zero, List.replicate_succ, if_true, if_false, ite_true, ite_false, Bool.false_eq_true, Bool.not_true, Bool.not_false, reduceIte, Nat.zero_add, Nat.add_zero, Nat.reduceAdd, Nat.reduceSub, Nat.sub_self, decide_true, decide_false, true_and, and_true, List.length_map]
    exact hk

abbrev nn_closing_cost : Nat := 8
-- 0:size 1:moments 2:wait 3:lose 4:places 5:rows 6:row 7:place
def B_closing_cost : (String → Prop) → DSt := fun kx => (dSeq (dSet 5 (dCall 4 T_pane_costs (fun _ => False) (dCons (dVar 0) (dCons (dVar 1) (dCons (dVar 2) (dCons (dVar 3) dNil)))))) (dSeq (dIfS (dNot (dTest (dCall 3 T_are_closings (fun _ => False) (dCons (dVar 0) (dCons (dVar 1) (dCons (dVar 4) dNil)))))) (dRaise kx "NoAsk") dNext) (dRet (dCB fSum (dCons (dLc (dZip (dCons (dVar 5) (dCons (dVar 4) dNil))) (dgTup 2 (dgCons (dName 6) (dgCons (dName 7) dgNil))) dYes (dOp fIx (dVar 6) (dVar 7)) [6, 7]) dNil)))))
def R_closing_cost : DFn := den false 8 B_closing_cost
def T_closing_cost : DFn := fun _ ds k _ => ∃ (s : Int) (ms : List Int) (w l : Int) (es : List Nat), ds = [.int s, .list (dInts ms), .int w, .int l, .list (dNats es)] ∧ Ok s ms w l ∧ es.length = (costs s ms w l).length ∧ ChF (ms.length + 1) 0 es ∧ k (.int (pcost (costs s ms w l) es)) 0
theorem imp_closing_cost : ∀ B ds k kx, ds.length = 5 → T_closing_cost B ds k kx → R_closing_cost B ds k kx := fun B ds k kx _ h => by
  obtain ⟨s, ms, w, l, es, rfl, h, hl, hc, hk⟩ := h
  have sz : sizeLine = 2 ^ 24 := rfl
  have cl := costs_len h
  simp only [R_closing_cost, B_closing_cost, den, initS]
  refine seq_to [.val (.int s), .val (.list (dInts ms)), .val (.int w), .val (.int l), .val (.list (dNats es)), .val (.list (dRows (costs s ms w l))), .no, .no] (fun k' hk' => ?_) ?_
  · simp only [T_pane_costs, den, initS, endB, dSeq, dSet, dPar, dRet, dRetN, dIfS, dDrop, dFor, dNext, dBreak, dCont, dNever, dRaise, dAug, fAddI, dAppend, dSetIx, dVar, dC, dOp, dUn, dCB, dNil, dCons, dLst, dTup, dTest, dAnd, dOr, dNot, dAndV, dOrV, dNotV, dIf, dChain, dIsi, dIsi2, dYes, fAdd, fSub, fMul, fDiv, fMod, fPow, fNeg, fIx, fLen, fMax, fMin, fSum, fSorted, fAbs, fInt, fList, fTuple, fRepr, gEq, gNe, gLt, gLe, gGt, gGe, gIn, gNotIn, gIs, gIsNot, cD, put, cut, see, sees, look, fz, fzs, fzV, fill, dLc, dSeqI, dRng1, dRng2, dEnum, dZip, dName, dgTup, dgCons, dgNil, dAsg, dCall, dCallS, stAll, mapSt_st, mapSt_no, mapSt_val, mapSt_ow, mapSt_scr, mapSt_ns, noSts, wipeS, dSl, dPart, dNoPart, fSl, dRev, dBM, mCount, mIndex, dStInt, dStTurn, dStPop, dStCells, dStPut, dStTurnPut, dLenScr, tyName, isTyN, isNone, isBool, toInts_ints, dInts_len, List.map_cons, List.map_nil, List.map_append, List.getElem?_cons_zero, List.getElem?_cons_succ, List.set_cons_zero, List.set_cons_succ, List.length_cons, List.length_nil, List.take_nil, List.take_zero, List.take_succ_cons, List.cons_append, List.nil_append, List.replicate_zero, List.replicate_succ, if_true, if_false, ite_true, ite_false, Bool.false_eq_true, Bool.not_true, Bool.not_false, reduceIte, Nat.zero_add, Nat.add_zero, Nat.reduceAdd, Nat.reduceSub, Nat.sub_self, decide_true, decide_false, true_and, and_true, List.length_map]
    exact ⟨s, ms, w, l, rfl, h, hk'⟩
  refine seq_to [.val (.int s), .val (.list (dInts ms)), .val (.int w), .val (.int l), .val (.list (dNats es)), .val (.list (dRows (costs s ms w l))), .no, .no] (fun k' hk' => ?_) ?_
  · simp only [T_are_closings, den, initS, endB, dSeq, dSet, dPar, dRet, dRetN, dIfS, dDrop, dFor, dNext, dBreak, dCont, dNever, dRaise, dAug, fAddI, dAppend, dSetIx, dVar, dC, dOp, dUn, dCB, dNil, dCons, dLst, dTup, dTest, dAnd, dOr, dNot, dAndV, dOrV, dNotV, dIf, dChain, dIsi, dIsi2, dYes, fAdd, fSub, fMul, fDiv, fMod, fPow, fNeg, fIx, fLen, fMax, fMin, fSum, fSorted, fAbs, fInt, fList, fTuple, fRepr, gEq, gNe, gLt, gLe, gGt, gGe, gIn, gNotIn, gIs, gIsNot, cD, put, cut, see, sees, look, fz, fzs, fzV, fill, dLc, dSeqI, dRng1, dRng2, dEnum, dZip, dName, dgTup, dgCons, dgNil, dAsg, dCall, dCallS, stAll, mapSt_st, mapSt_no, mapSt_val, mapSt_ow, mapSt_scr, mapSt_ns, noSts, wipeS, dSl, dPart, dNoPart, fSl, dRev, dBM, mCount, mIndex, dStInt, dStTurn, dStPop, dStCells, dStPut, dStTurnPut, dLenScr, tyName, isTyN, isNone, isBool, toInts_ints, dInts_len, List.map_cons, List.map_nil, List.map_append, List.getElem?_cons_zero, List.getElem?_cons_succ, List.set_cons_zero, List.set_cons_succ, List.length_cons, List.length_nil, List.take_nil, List.take_zero, List.take_succ_cons, List.cons_append, List.nil_append, List.replicate_zero, List.replicate_succ, if_true, if_false, ite_true, ite_false, Bool.false_eq_true, Bool.not_true, Bool.not_false, reduceIte, Nat.zero_add, Nat.add_zero, Nat.reduceAdd, Nat.reduceSub, Nat.sub_self, decide_true, decide_false, true_and, and_true, List.length_map]
    exact ⟨s, ms, w, l, es, rfl, h, hl, hc, hk'⟩
  simp only [den, initS, endB, dSeq, dSet, dPar, dRet, dRetN, dIfS, dDrop, dFor, dNext, dBreak, dCont, dNever, dRaise, dAug, fAddI, dAppend, dSetIx, dVar, dC, dOp, dUn, dCB, dNil, dCons, dLst, dTup, dTest, dAnd, dOr, dNot, dAndV, dOrV, dNotV, dIf, dChain, dIsi, dIsi2, dYes, fAdd, fSub, fMul, fDiv, fMod, fPow, fNeg, fIx, fLen, fMax, fMin, fSum, fSorted, fAbs, fInt, fList, fTuple, fRepr, gEq, gNe, gLt, gLe, gGt, gGe, gIn, gNotIn, gIs, gIsNot, cD, put, cut, see, sees, look, fz, fzs, fzV, fill, dLc, dSeqI, dRng1, dRng2, dEnum, dZip, dName, dgTup, dgCons, dgNil, dAsg, dCall, dCallS, stAll, mapSt_st, mapSt_no, mapSt_val, mapSt_ow, mapSt_scr, mapSt_ns, noSts, wipeS, dSl, dPart, dNoPart, fSl, dRev, dBM, mCount, mIndex, dStInt, dStTurn, dStPop, dStCells, dStPut, dStTurnPut, dLenScr, tyName, isTyN, isNone, isBool, toInts_ints, dInts_len, List.map_cons, List.map_nil, List.map_append, List.getElem?_cons_zero, List.getElem?_cons_succ, List.set_cons_zero, List.set_cons_succ, List.length_cons, List.length_nil, List.take_nil, List.take_zero, List.take_succ_cons, List.cons_append, List.nil_append, List.replicate_zero, List.replicate_succ, if_true, if_false, ite_true, ite_false, Bool.false_eq_true, Bool.not_true, Bool.not_false, reduceIte, Nat.zero_add, Nat.add_zero, Nat.reduceAdd, Nat.reduceSub, Nat.sub_self, decide_true, decide_false, true_and, and_true, List.length_map]
  rw [dRows_map, dNats, zipL_map]
  refine ⟨by rw [List.length_map, List.length_zip]; omega, lc_map _ (fun q : Row × Nat => .int (q.1.getD q.2 0)) _ (fun q hq k2 h2 => ?_) ?_⟩
  · have hq2 := zip_ok costs_wide hc q hq
    simp only [stepLc, den, initS, endB, dSeq, dSet, dPar, dRet, dRetN, dIfS, dDrop, dFor, dNext, dBreak, dCont, dNever, dRaise, dAug, fAddI, dAppend, dSetIx, dVar, dC, dOp, dUn, dCB, dNil, dCons, dLst, dTup, dTest, dAnd, dOr, dNot, dAndV, dOrV, dNotV, dIf, dChain, dIsi, dIsi2, dYes, fAdd, fSub, fMul, fDiv, fMod, fPow, fNeg, fIx, fLen, fMax, fMin, fSum, fSorted, fAbs, fInt, fList, fTuple, fRepr, gEq, gNe, gLt, gLe, gGt, gGe, gIn, gNotIn, gIs, gIsNot, cD, put, cut, see, sees, look, fz, fzs, fzV, fill, dLc, dSeqI, dRng1, dRng2, dEnum, dZip, dName, dgTup, dgCons, dgNil, dAsg, dCall, dCallS, stAll, mapSt_st, mapSt_no, mapSt_val, mapSt_ow, mapSt_scr, mapSt_ns, noSts, wipeS, dSl, dPart, dNoPart, fSl, dRev, dBM, mCount, mIndex, dStInt, dStTurn, dStPop, dStCells, dStPut, dStTurnPut, dLenScr, tyName, isTyN, isNone, isBool, toInts_ints, dInts_len, List.map_cons, List.map_nil, List.map_append, List.getElem?_cons_zero, List.getElem?_cons_succ, List.set_cons_zero, List.set_cons_succ, List.length_cons, List.length_nil, List.take_nil, List.take_zero, List.take_succ_cons, List.cons_append, List.nil_append, List.replicate_zero, List.replicate_succ, if_true, if_false, ite_true, ite_false, Bool.false_eq_true, Bool.not_true, Bool.not_false, reduceIte, Nat.zero_add, Nat.add_zero, Nat.reduceAdd, Nat.reduceSub, Nat.sub_self, decide_true, decide_false, true_and, and_true, List.length_map, atI_ints hq2]
    rw [getD_of hq2] at h2
    exact h2
  · rw [map_int]
    simp only [den, initS, endB, dSeq, dSet, dPar, dRet, dRetN, dIfS, dDrop, dFor, dNext, dBreak, dCont, dNever, dRaise, dAug, fAddI, dAppend, dSetIx, dVar, dC, dOp, dUn, dCB, dNil, dCons, dLst, dTup, dTest, dAnd, dOr, dNot, dAndV, dOrV, dNotV, dIf, dChain, dIsi, dIsi2, dYes, fAdd, fSub, fMul, fDiv, fMod, fPow, fNeg, fIx, fLen, fMax, fMin, fSum, fSorted, fAbs, fInt, fList, fTuple, fRepr, gEq, gNe, gLt, gLe, gGt, gGe, gIn, gNotIn, gIs, gIsNot, cD, put, cut, see, sees, look, fz, fzs, fzV, fill, dLc, dSeqI, dRng1, dRng2, dEnum, dZip, dName, dgTup, dgCons, dgNil, dAsg, dCall, dCallS, stAll, mapSt_st, mapSt_no, mapSt_val, mapSt_ow, mapSt_scr, mapSt_ns, noSts, wipeS, dSl, dPart, dNoPart, fSl, dRev, dBM, mCount, mIndex, dStInt, dStTurn, dStPop, dStCells, dStPut, dStTurnPut, dLenScr, tyName, isTyN, isNone, isBool, toInts_ints, dInts_len, List.map_cons, List.map_nil, List.map_append, List.getElem?_cons_zero, List.getElem?_cons_succ, List.set_cons_zero, List.set_cons_succ, List.length_cons, List.length_nil, List.take_nil, List.take_zero, List.take_succ_cons, List.cons_append, List.nil_append, List.replicate_zero, List.replicate_succ, if_true, if_false, ite_true, ite_false, Bool.false_eq_true, Bool.not_true, Bool.not_false, reduceIte, Nat.zero_add, Nat.add_zero, Nat.reduceAdd, Nat.reduceSub, Nat.sub_self, decide_true, decide_false, true_and, and_true, List.length_map, pcost_zip]
    exact hk



abbrev nn__law_mixed : Nat := 6
-- 0:state 1:turn 2:found 3:prime 4:blend 5:cell
def B__law_mixed : (String → Prop) → DSt := fun kx => (dSeq (dPar [1, 2] (dCons (dOp fAdd (dStTurn 0) (dC (.int 1))) (dCons (dC (.int 0)) dNil))) (dSeq (dStTurnPut 0 (dVar 1)) (dSeq (dFor (dSeqI (dLst (dCons (dC (.int 2147483629)) (dCons (dC (.int 2147483587)) (dCons (dC (.int 2147483579)) (dCons (dC (.int 2147483563)) dNil)))))) (dName 3) (dSeq (dSet 4 (dOp fAdd (dOp fMul (dC (.int 69621)) (dVar 1)) (dOp fDiv (dVar 3) (dC (.int 41))))) (dSeq (dFor (dStCells 0) (dName 5) (dSet 4 (dOp fMod (dCB fInt (dCons (dOp fAdd (dOp fAdd (dOp fMul (dVar 4) (dC (.int 48271))) (dVar 5)) (dVar 1)) dNil)) (dVar 3)))) (dSet 2 (dOp fAdd (dOp fMul (dVar 2) (dC (.int 2147483659))) (dOp fMod (dCB fInt (dCons (dOp fPow (dVar 4) (dC (.int 5))) dNil)) (dVar 3))))))) (dRet (dVar 2)))))
def R__law_mixed : DFn := den true 6 B__law_mixed
/-- a mixed number: any number, one turn more -/
def T__law_mixed : DFn := fun B ds k _ => ds = [] ∧ 0 ≤ B ∧ B < 2 ^ 40 ∧ ∀ n : Int, k (.int n) (B + 1)
theorem imp__law_mixed : ∀ B ds k kx, ds.length = 0 → T__law_mixed B ds k kx → R__law_mixed B ds k kx := fun B ds k kx _ h => by
  obtain ⟨rfl, h0, h1, hk⟩ := h
  simp only [R__law_mixed, B__law_mixed, den, initS, endB, dSeq, dSet, dPar, dRet, dRetN, dIfS, dDrop, dFor, dNext, dBreak, dCont, dNever, dRaise, dAug, fAddI, dAppend, dSetIx, dVar, dC, dOp, dUn, dCB, dNil, dCons, dLst, dTup, dTest, dAnd, dOr, dNot, dAndV, dOrV, dNotV, dIf, dChain, dIsi, dIsi2, dYes, fAdd, fSub, fMul, fDiv, fMod, fPow, fNeg, fIx, fLen, fMax, fMin, fSum, fSorted, fAbs, fInt, fList, fTuple, fRepr, gEq, gNe, gLt, gLe, gGt, gGe, gIn, gNotIn, gIs, gIsNot, cD, put, cut, see, sees, look, fz, fzs, fzV, fill, dLc, dSeqI, dRng1, dRng2, dEnum, dZip, dName, dgTup, dgCons, dgNil, dAsg, dCall, dCallS, stAll, mapSt_st, mapSt_no, mapSt_val, mapSt_ow, mapSt_scr, mapSt_ns, noSts, wipeS, dSl, dPart, dNoPart, fSl, dRev, dBM, mCount, mIndex, dStInt, dStTurn, dStPop, dStCells, dStPut, dStTurnPut, dLenScr, tyName, isTyN, isNone, isBool, toInts_ints, dInts_len, List.map_cons, List.map_nil, List.map_append, List.getElem?_cons_zero, List.getElem?_cons_succ, List.set_cons_zero, List.set_cons_succ, List.length_cons, List.length_nil, List.take_nil, List.take_zero, List.take_succ_cons, List.cons_append, List.nil_append, List.replicate_zero, List.replicate_succ, if_true, if_false, ite_true, ite_false, Bool.false_eq_true, Bool.not_true, Bool.not_false, reduceIte, Nat.zero_add, Nat.add_zero, Nat.reduceAdd, Nat.reduceSub, Nat.sub_self, decide_true, decide_false, true_and, and_true, List.length_map]
  intro n n0 n1
  refine ⟨by omega, by decide, ?_⟩
  refine for_inv (c := PyData.int) (fun ps s => (∀ p ∈ ps, (0 : Int) < p ∧ p < 2 ^ 31) ∧ ∃ f x3 x4 x5, s = [.st (n + 1), .val (.int (n + 1)), .val (.int f), x3, x4, x5]) (fun p ps s hI k' hk' => ?_) (fun s hI => ?_) [_, _, _, _] _ ⟨by decide, _, _, _, _, rfl⟩
  · obtain ⟨hp, f, x3, x4, x5, rfl⟩ := hI
    obtain ⟨p0, p1⟩ := hp p (List.mem_cons_self ..)
    simp only [den, initS, endB, dSeq, dSet, dPar, dRet, dRetN, dIfS, dDrop, dFor, dNext, dBreak, dCont, dNever, dRaise, dAug, fAddI, dAppend, dSetIx, dVar, dC, dOp, dUn, dCB, dNil, dCons, dLst, dTup, dTest, dAnd, dOr, dNot, dAndV, dOrV, dNotV, dIf, dChain, dIsi, dIsi2, dYes, fAdd, fSub, fMul, fDiv, fMod, fPow, fNeg, fIx, fLen, fMax, fMin, fSum, fSorted, fAbs, fInt, fList, fTuple, fRepr, gEq, gNe, gLt, gLe, gGt, gGe, gIn, gNotIn, gIs, gIsNot, cD, put, cut, see, sees, look, fz, fzs, fzV, fill, dLc, dSeqI, dRng1, dRng2, dEnum, dZip, dName, dgTup, dgCons, dgNil, dAsg, dCall, dCallS, stAll, mapSt_st, mapSt_no, mapSt_val, mapSt_ow, mapSt_scr, mapSt_ns, noSts, wipeS, dSl, dPart, dNoPart, fSl, dRev, dBM, mCount, mIndex, dStInt, dStTurn, dStPop, dStCells, dStPut, dStTurnPut, dLenScr, tyName, isTyN, isNone, isBool, toInts_ints, dInts_len, List.map_cons, List.map_nil, List.map_append, List.getElem?_cons_zero, List.getElem?_cons_succ, List.set_cons_zero, List.set_cons_succ, List.length_cons, List.length_nil, List.take_nil, List.take_zero, List.take_succ_cons, List.cons_append, List.nil_append, List.replicate_zero, List.replicate_succ, if_true, if_false, ite_true, ite_false, Bool.false_eq_true, Bool.not_true, Bool.not_false, reduceIte, Nat.zero_add, Nat.add_zero, Nat.reduceAdd, Nat.reduceSub, Nat.sub_self, decide_true, decide_false, true_and, and_true, List.length_map]
    refine ⟨.inl ⟨by decide, by decide⟩, ⟨by decide, by decide⟩, fun ns => ?_⟩
    have b0 : -(2 ^ 63) < 69621 * (n + 1) + p / 41 ∧ 69621 * (n + 1) + p / 41 < 2 ^ 63 := by omega
    have pos : 0 < p := p0
    refine for_inv (c := PyData.int) (fun _ s => ∃ b x5, s = [.st (n + 1), .val (.int (n + 1)), .val (.int f), .val (.int p), .val (.int b), x5] ∧ -(2 ^ 63) < b ∧ b < 2 ^ 63) (fun c cs s hJ k2 hk2 => ?_) (fun s hJ => ?_) ns _ ⟨_, _, rfl, b0⟩
    · obtain ⟨b, x5, rfl, b1, b2⟩ := hJ
      simp only [den, initS, endB, dSeq, dSet, dPar, dRet, dRetN, dIfS, dDrop, dFor, dNext, dBreak, dCont, dNever, dRaise, dAug, fAddI, dAppend, dSetIx, dVar, dC, dOp, dUn, dCB, dNil, dCons, dLst, dTup, dTest, dAnd, dOr, dNot, dAndV, dOrV, dNotV, dIf, dChain, dIsi, dIsi2, dYes, fAdd, fSub, fMul, fDiv, fMod, fPow, fNeg, fIx, fLen, fMax, fMin, fSum, fSorted, fAbs, fInt, fList, fTuple, fRepr, gEq, gNe, gLt, gLe, gGt, gGe, gIn, gNotIn, gIs, gIsNot, cD, put, cut, see, sees, look, fz, fzs, fzV, fill, dLc, dSeqI, dRng1, dRng2, dEnum, dZip, dName, dgTup, dgCons, dgNil, dAsg, dCall, dCallS, stAll, mapSt_st, mapSt_no, mapSt_val, mapSt_ow, mapSt_scr, mapSt_ns, noSts, wipeS, dSl, dPart, dNoPart, fSl, dRev, dBM, mCount, mIndex, dStInt, dStTurn, dStPop, dStCells, dStPut, dStTurnPut, dLenScr, tyName, isTyN, isNone, isBool, toInts_ints, dInts_len, List.map_cons, List.map_nil, List.map_append, List.getElem?_cons_zero, List.getElem?_cons_succ, List.set_cons_zero, List.set_cons_succ, List.length_cons, List.length_nil, List.take_nil, List.take_zero, List.take_succ_cons, List.cons_append, List.nil_append, List.replicate_zero, List.replicate_succ, if_true, if_false, ite_true, ite_false, Bool.false_eq_true, Bool.not_true, Bool.not_false, reduceIte, Nat.zero_add, Nat.add_zero, Nat.reduceAdd, Nat.reduceSub, Nat.sub_self, decide_true, decide_false, true_and, and_true, List.length_map]
      refine ⟨.inr ⟨by decide, by decide⟩, pos, hk2 _ ⟨_, _, rfl, ?_, ?_⟩⟩
      · have := Int.emod_nonneg (b * 48271 + c + (n + 1)) (Int.ne_of_gt pos)
        omega
      · have := Int.emod_lt_of_pos (b * 48271 + c + (n + 1)) pos
        omega
    · obtain ⟨b, x5, rfl, b1, b2⟩ := hJ
      simp only [den, initS, endB, dSeq, dSet, dPar, dRet, dRetN, dIfS, dDrop, dFor, dNext, dBreak, dCont, dNever, dRaise, dAug, fAddI, dAppend, dSetIx, dVar, dC, dOp, dUn, dCB, dNil, dCons, dLst, dTup, dTest, dAnd, dOr, dNot, dAndV, dOrV, dNotV, dIf, dChain, dIsi, dIsi2, dYes, fAdd, fSub, fMul, fDiv, fMod, fPow, fNeg, fIx, fLen, fMax, fMin, fSum, fSorted, fAbs, fInt, fList, fTuple, fRepr, gEq, gNe, gLt, gLe, gGt, gGe, gIn, gNotIn, gIs, gIsNot, cD, put, cut, see, sees, look, fz, fzs, fzV, fill, dLc, dSeqI, dRng1, dRng2, dEnum, dZip, dName, dgTup, dgCons, dgNil, dAsg, dCall, dCallS, stAll, mapSt_st, mapSt_no, mapSt_val, mapSt_ow, mapSt_scr, mapSt_ns, noSts, wipeS, dSl, dPart, dNoPart, fSl, dRev, dBM, mCount, mIndex, dStInt, dStTurn, dStPop, dStCells, dStPut, dStTurnPut, dLenScr, tyName, isTyN, isNone, isBool, toInts_ints, dInts_len, List.map_cons, List.map_nil, List.map_append, List.getElem?_cons_zero, List.getElem?_cons_succ, List.set_cons_zero, List.set_cons_succ, List.length_cons, List.length_nil, List.take_nil, List.take_zero, List.take_succ_cons, List.cons_append, List.nil_append, List.replicate_zero, List.replicate_succ, if_true, if_false, ite_true, ite_false, Bool.false_eq_true, Bool.not_true, Bool.not_false, reduceIte, Nat.zero_add, Nat.add_zero, Nat.reduceAdd, Nat.reduceSub, Nat.sub_self, decide_true, decide_false, true_and, and_true, List.length_map]
      refine ⟨.inr ⟨by decide, by decide⟩, ⟨by decide, by decide, by omega⟩, pos, hk' _ ⟨fun q hq => hp q (List.mem_cons_of_mem _ hq), _, _, _, _, rfl⟩⟩
  · obtain ⟨_, f, x3, x4, x5, rfl⟩ := hI
    simp only [den, initS, endB, dSeq, dSet, dPar, dRet, dRetN, dIfS, dDrop, dFor, dNext, dBreak, dCont, dNever, dRaise, dAug, fAddI, dAppend, dSetIx, dVar, dC, dOp, dUn, dCB, dNil, dCons, dLst, dTup, dTest, dAnd, dOr, dNot, dAndV, dOrV, dNotV, dIf, dChain, dIsi, dIsi2, dYes, fAdd, fSub, fMul, fDiv, fMod, fPow, fNeg, fIx, fLen, fMax, fMin, fSum, fSorted, fAbs, fInt, fList, fTuple, fRepr, gEq, gNe, gLt, gLe, gGt, gGe, gIn, gNotIn, gIs, gIsNot, cD, put, cut, see, sees, look, fz, fzs, fzV, fill, dLc, dSeqI, dRng1, dRng2, dEnum, dZip, dName, dgTup, dgCons, dgNil, dAsg, dCall, dCallS, stAll, mapSt_st, mapSt_no, mapSt_val, mapSt_ow, mapSt_scr, mapSt_ns, noSts, wipeS, dSl, dPart, dNoPart, fSl, dRev, dBM, mCount, mIndex, dStInt, dStTurn, dStPop, dStCells, dStPut, dStTurnPut, dLenScr, tyName, isTyN, isNone, isBool, toInts_ints, dInts_len, List.map_cons, List.map_nil, List.map_append, List.getElem?_cons_zero, List.getElem?_cons_succ, List.set_cons_zero, List.set_cons_succ, List.length_cons, List.length_nil, List.take_nil, List.take_zero, List.take_succ_cons, List.cons_append, List.nil_append, List.replicate_zero, List.replicate_succ, if_true, if_false, ite_true, ite_false, Bool.false_eq_true, Bool.not_true, Bool.not_false, reduceIte, Nat.zero_add, Nat.add_zero, Nat.reduceAdd, Nat.reduceSub, Nat.sub_self, decide_true, decide_false, true_and, and_true, List.length_map]
    exact ⟨B + 1, by omega, hk f⟩

abbrev nn__law_draw : Nat := 3
-- 0:state 1:room 2:found
def B__law_draw : (String → Prop) → DSt := fun kx => (dSeq (dIfS (dTest (dOp (cD gEq) (dStInt 0) (dC (.int 0)))) (dStPut 0 (dStPop 0 (dCallS 0 0 T__law_mixed (fun _ => False) dNil))) dNext) (dSeq (dSet 2 (dOp fMod (dCB fInt (dCons (dStInt 0) dNil)) (dVar 1))) (dSeq (dStPut 0 (dOp fDiv (dStInt 0) (dVar 1))) (dRet (dVar 2)))))
def R__law_draw : DFn := den true 3 B__law_draw
/-- a number below room, one turn more at most -/
def T__law_draw : DFn := fun B ds k _ => ∃ room : Int, ds = [.int room] ∧ 0 ≤ B ∧ B < 2 ^ 40 ∧ 0 < room ∧ room < 2 ^ 30 ∧ ∀ n : Int, 0 ≤ n → n < room → k (.int n) (B + 1)
theorem imp__law_draw : ∀ B ds k kx, ds.length = 1 → T__law_draw B ds k kx → R__law_draw B ds k kx := fun B ds k kx _ h => by
  obtain ⟨room, rfl, h0, h1, h2, h3, hk⟩ := h
  simp only [R__law_draw, B__law_draw, den, initS, endB, dSeq, dSet, dPar, dRet, dRetN, dIfS, dDrop, dFor, dNext, dBreak, dCont, dNever, dRaise, dAug, fAddI, dAppend, dSetIx, dVar, dC, dOp, dUn, dCB, dNil, dCons, dLst, dTup, dTest, dAnd, dOr, dNot, dAndV, dOrV, dNotV, dIf, dChain, dIsi, dIsi2, dYes, fAdd, fSub, fMul, fDiv, fMod, fPow, fNeg, fIx, fLen, fMax, fMin, fSum, fSorted, fAbs, fInt, fList, fTuple, fRepr, gEq, gNe, gLt, gLe, gGt, gGe, gIn, gNotIn, gIs, gIsNot, cD, put, cut, see, sees, look, fz, fzs, fzV, fill, dLc, dSeqI, dRng1, dRng2, dEnum, dZip, dName, dgTup, dgCons, dgNil, dAsg, dCall, dCallS, stAll, mapSt_st, mapSt_no, mapSt_val, mapSt_ow, mapSt_scr, mapSt_ns, noSts, wipeS, dSl, dPart, dNoPart, fSl, dRev, dBM, mCount, mIndex, dStInt, dStTurn, dStPop, dStCells, dStPut, dStTurnPut, dLenScr, tyName, isTyN, isNone, isBool, toInts_ints, dInts_len, List.map_cons, List.map_nil, List.map_append, List.getElem?_cons_zero, List.getElem?_cons_succ, List.set_cons_zero, List.set_cons_succ, List.length_cons, List.length_nil, List.take_nil, List.take_zero, List.take_succ_cons, List.cons_append, List.nil_append, List.replicate_zero, List.replicate_succ, if_true, if_false, ite_true, ite_false, Bool.false_eq_true, Bool.not_true, Bool.not_false, reduceIte, Nat.zero_add, Nat.add_zero, Nat.reduceAdd, Nat.reduceSub, Nat.sub_self, decide_true, decide_false, true_and, and_true, List.length_map]
  intro n
  have fin : ∀ n : Int, k (.int (n % room)) (B + 1) := fun n => hk _ (Int.emod_nonneg n (Int.ne_of_gt h2)) (Int.emod_lt_of_pos n h2)
  refine ⟨shaped_int _, shaped_int _, ?_⟩
  split
  · exact ⟨fun _ m => ⟨h2, fun _ => ⟨⟨h2, h3⟩, B + 1, by omega, fin m⟩⟩, rfl, h0, h1, fun _ m => ⟨h2, fun _ => ⟨⟨h2, h3⟩, B + 1, by omega, fin m⟩⟩⟩
  · exact fun m => ⟨h2, fun _ => ⟨⟨h2, h3⟩, B + 1, by omega, fin m⟩⟩

abbrev nn__law_pick : Nat := 2
-- 0:state 1:some
def B__law_pick : (String → Prop) → DSt := fun kx => (dRet (dOp fIx (dVar 1) (dCallS 0 1 T__law_draw (fun _ => False) (dCons (dCB fLen (dCons (dVar 1) dNil)) dNil))))
def R__law_pick : DFn := den true 2 B__law_pick
/-- one of some -/
def T__law_pick : DFn := fun B ds k _ => ∃ xs : List D, ds = [.list xs] ∧ 0 ≤ B ∧ B < 2 ^ 40 ∧ 0 < xs.length ∧ xs.length < 2 ^ 30 ∧ ∀ x ∈ xs, k x (B + 1)
theorem imp__law_pick : ∀ B ds k kx, ds.length = 1 → T__law_pick B ds k kx → R__law_pick B ds k kx := fun B ds k kx _ h => by
  obtain ⟨xs, rfl, h0, h1, h2, h3, hk⟩ := h
  simp only [R__law_pick, B__law_pick, den, initS, endB, dSeq, dSet, dPar, dRet, dRetN, dIfS, dDrop, dFor, dNext, dBreak, dCont, dNever, dRaise, dAug, fAddI, dAppend, dSetIx, dVar, dC, dOp, dUn, dCB, dNil, dCons, dLst, dTup, dTest, dAnd, dOr, dNot, dAndV, dOrV, dNotV, dIf, dChain, dIsi, dIsi2, dYes, fAdd, fSub, fMul, fDiv, fMod, fPow, fNeg, fIx, fLen, fMax, fMin, fSum, fSorted, fAbs, fInt, fList, fTuple, fRepr, gEq, gNe, gLt, gLe, gGt, gGe, gIn, gNotIn, gIs, gIsNot, cD, put, cut, see, sees, look, fz, fzs, fzV, fill, dLc, dSeqI, dRng1, dRng2, dEnum, dZip, dName, dgTup, dgCons, dgNil, dAsg, dCall, dCallS, stAll, mapSt_st, mapSt_no, mapSt_val, mapSt_ow, mapSt_scr, mapSt_ns, noSts, wipeS, dSl, dPart, dNoPart, fSl, dRev, dBM, mCount, mIndex, dStInt, dStTurn, dStPop, dStCells, dStPut, dStTurnPut, dLenScr, tyName, isTyN, isNone, isBool, toInts_ints, dInts_len, List.map_cons, List.map_nil, List.map_append, List.getElem?_cons_zero, List.getElem?_cons_succ, List.set_cons_zero, List.set_cons_succ, List.length_cons, List.length_nil, List.take_nil, List.take_zero, List.take_succ_cons, List.cons_append, List.nil_append, List.replicate_zero, List.replicate_succ, if_true, if_false, ite_true, ite_false, Bool.false_eq_true, Bool.not_true, Bool.not_false, reduceIte, Nat.zero_add, Nat.add_zero, Nat.reduceAdd, Nat.reduceSub, Nat.sub_self, decide_true, decide_false, true_and, and_true, List.length_map]
  refine ⟨_, rfl, h0, h1, by omega, by omega, fun n n0 n1 => ?_⟩
  obtain ⟨m, rfl⟩ := Int.eq_ofNat_of_zero_le n0
  have hm : m < xs.length := by omega
  have e : atI xs ((m : Nat) : Int) = some xs[m] := atI_nat (List.getElem?_eq_getElem hm)
  simp only [e]
  exact ⟨_, Int.le_refl _, hk _ (List.getElem_mem hm)⟩

def B__law_plain (Tp : DFn) : (String → Prop) → DSt := fun kx => (dSeq (dIfS (dTest (dIsi2 "list" "tuple" (dVar 0))) (dRet (dOp (cD gEq) (dLc (dSeqI (dVar 0)) (dName 1) (dNot (dTest (dCall 1 Tp (fun _ => False) (dCons (dVar 1) dNil)))) (dC (.int 1)) [1]) (dLst dNil))) dNext) (dSeq (dIfS (dTest (dIsi "dict" (dVar 0))) dNever dNext) (dRet (dOrV (dOp (cD gIs) (dVar 0) (dC .none)) (dIsi2 "int" "str" (dVar 0))))))
abbrev T__law_plain : DFn := TP 8
theorem plainDs_mem : ∀ {xs : List D}, plainDs xs = true → ∀ x ∈ xs, plainD x = true
  | [], _, _, h => by cases h
  | y :: ys, h, x, hx => by
    simp only [plainDs, Bool.and_eq_true] at h
    rcases List.mem_cons.mp hx with rfl | hx
    · exact h.1
    · exact plainDs_mem h.2 x hx
theorem depthAll_mem : ∀ {xs : List D} {n : Nat}, PyData.depthAll xs ≤ n → ∀ x ∈ xs, x.depth ≤ n
  | [], _, _, _, h => by cases h
  | y :: ys, n, h, x, hx => by
    simp only [PyData.depthAll] at h
    rcases List.mem_cons.mp hx with rfl | hx
    · omega
    · exact depthAll_mem (by omega) x hx
theorem wgtAll_mem : ∀ {xs : List D} {n : Nat}, wgtAll xs ≤ n → ∀ x ∈ xs, wgt x ≤ n
  | [], _, _, _, h => by cases h
  | y :: ys, n, h, x, hx => by
    simp only [wgtAll] at h
    rcases List.mem_cons.mp hx with rfl | hx
    · omega
    · exact wgtAll_mem (by omega) x hx
theorem wgtAll_len : ∀ xs : List D, xs.length ≤ wgtAll xs
  | [] => by simp [wgtAll]
  | y :: ys => by
    have := wgtAll_len ys
    simp only [wgtAll, List.length_cons]
    omega
theorem imp__law_plain (n : Nat) : ∀ B ds k kx, ds.length = 1 → TP (n + 1) B ds k kx → den false 2 (B__law_plain (TP n)) B ds k kx := fun B ds k kx _ h => by
  obtain ⟨d, rfl, hp, hd, hw, hk⟩ := h
  have seqs : ∀ (ds : List D) (K : List D → List Sl → Prop), plainDs ds = true → PyData.depthAll ds + 1 ≤ n → wgtAll ds ≤ sizeLine → K [] [.val d, .no] → lcGo (dName 1) (dNot (dTest (dCall 1 (TP n) (fun _ => False) (dCons (dVar 1) dNil)))) (dC (.int 1)) [1] ds [] [.val d, .no] K := fun ds K h1 h2 h4 h3 => by
    refine lc_pure (fun _ => none) ds [] (fun x hx k h => ?_) ?_
    · simp only [stepLc, den, initS, endB, dSeq, dSet, dPar, dRet, dRetN, dIfS, dDrop, dFor, dNext, dBreak, dCont, dNever, dRaise, dAug, fAddI, dAppend, dSetIx, dVar, dC, dOp, dUn, dCB, dNil, dCons, dLst, dTup, dTest, dAnd, dOr, dNot, dAndV, dOrV, dNotV, dIf, dChain, dIsi, dIsi2, dYes, fAdd, fSub, fMul, fDiv, fMod, fPow, fNeg, fIx, fLen, fMax, fMin, fSum, fSorted, fAbs, fInt, fList, fTuple, fRepr, gEq, gNe, gLt, gLe, gGt, gGe, gIn, gNotIn, gIs, gIsNot, cD, put, cut, see, sees, look, fz, fzs, fzV, fill, dLc, dSeqI, dRng1, dRng2, dEnum, dZip, dName, dgTup, dgCons, dgNil, dAsg, dCall, dCallS, stAll, mapSt_st, mapSt_no, mapSt_val, mapSt_ow, mapSt_scr, mapSt_ns, noSts, wipeS, dSl, dPart, dNoPart, fSl, dRev, dBM, mCount, mIndex, dStInt, dStTurn, dStPop, dStCells, dStPut, dStTurnPut, dLenScr, tyName, isTyN, isNone, isBool, toInts_ints, dInts_len, List.map_cons, List.map_nil, List.map_append, List.getElem?_cons_zero, List.getElem?_cons_succ, List.set_cons_zero, List.set_cons_succ, List.length_cons, List.length_nil, List.take_nil, List.take_zero, List.take_succ_cons, List.cons_append, List.nil_append, List.replicate_zero, List.replicate_succ, if_true, if_false, ite_true, ite_false, Bool.false_eq_true, Bool.not_true, Bool.not_false, reduceIte, Nat.zero_add, Nat.add_zero, Nat.reduceAdd, Nat.reduceSub, Nat.sub_self, decide_true, decide_false, true_and, and_true, List.length_map]
      match n, h2 with
      | m + 1, h2 => exact ⟨x, rfl, plainDs_mem h1 x hx, depthAll_mem (by omega) x hx, wgtAll_mem h4 x hx, by simpa using h⟩
    · have e : ds.filterMap (fun _ => (none : Option D)) = [] := by
        induction ds with
        | nil => rfl
        | cons a l ih => simp
      rw [e]
      exact h3
  have e0 : SeqAt.shaped (.list []) = true := by decide
  have e1 : PyData.eqv (.list []) (.list []) = true := by simp [PyData.eqv, PyData.eqvAll]
  cases d with
  | none => simpa [B__law_plain, den, initS, endB, dSeq, dSet, dPar, dRet, dRetN, dIfS, dDrop, dFor, dNext, dBreak, dCont, dNever, dRaise, dAug, fAddI, dAppend, dSetIx, dVar, dC, dOp, dUn, dCB, dNil, dCons, dLst, dTup, dTest, dAnd, dOr, dNot, dAndV, dOrV, dNotV, dIf, dChain, dIsi, dIsi2, dYes, fAdd, fSub, fMul, fDiv, fMod, fPow, fNeg, fIx, fLen, fMax, fMin, fSum, fSorted, fAbs, fInt, fList, fTuple, fRepr, gEq, gNe, gLt, gLe, gGt, gGe, gIn, gNotIn, gIs, gIsNot, cD, put, cut, see, sees, look, fz, fzs, fzV, fill, dLc, dSeqI, dRng1, dRng2, dEnum, dZip, dName, dgTup, dgCons, dgNil, dAsg, dCall, dCallS, stAll, mapSt_st, mapSt_no, mapSt_val, mapSt_ow, mapSt_scr, mapSt_ns, noSts, wipeS, dSl, dPart, dNoPart, fSl, dRev, dBM, mCount, mIndex, dStInt, dStTurn, dStPop, dStCells, dStPut, dStTurnPut, dLenScr, tyName, isTyN, isNone, isBool, toInts_ints, dInts_len, List.map_cons, List.map_nil, List.map_append, List.getElem?_cons_zero, List.getElem?_cons_succ, List.set_cons_zero, List.set_cons_succ, List.length_cons, List.length_nil, List.take_nil, List.take_zero, List.take_succ_cons, List.cons_append, List.nil_append, List.replicate_zero, List.replicate_succ, if_true, if_false, ite_true, ite_false, Bool.false_eq_true, Bool.not_true, Bool.not_false, reduceIte, Nat.zero_add, Nat.add_zero, Nat.reduceAdd, Nat.reduceSub, Nat.sub_self, decide_true, decide_false, true_and, and_true, List.length_map] using hk
  | bool b => simpa [B__law_plain, den, initS, endB, dSeq, dSet, dPar, dRet, dRetN, dIfS, dDrop, dFor, dNext, dBreak, dCont, dNever, dRaise, dAug, fAddI, dAppend, dSetIx, dVar, dC, dOp, dUn, dCB, dNil, dCons, dLst, dTup, dTest, dAnd, dOr, dNot, dAndV, dOrV, dNotV, dIf, dChain, dIsi, dIsi2, dYes, fAdd, fSub, fMul, fDiv, fMod, fPow, fNeg, fIx, fLen, fMax, fMin, fSum, fSorted, fAbs, fInt, fList, fTuple, fRepr, gEq, gNe, gLt, gLe, gGt, gGe, gIn, gNotIn, gIs, gIsNot, cD, put, cut, see, sees, look, fz, fzs, fzV, fill, dLc, dSeqI, dRng1, dRng2, dEnum, dZip, dName, dgTup, dgCons, dgNil, dAsg, dCall, dCallS, stAll, mapSt_st, mapSt_no, mapSt_val, mapSt_ow, mapSt_scr, mapSt_ns, noSts, wipeS, dSl, dPart, dNoPart, fSl, dRev, dBM, mCount, mIndex, dStInt, dStTurn, dStPop, dStCells, dStPut, dStTurnPut, dLenScr, tyName, isTyN, isNone, isBool, toInts_ints, dInts_len, List.map_cons, List.map_nil, List.map_append, List.getElem?_cons_zero, List.getElem?_cons_succ, List.set_cons_zero, List.set_cons_succ, List.length_cons, List.length_nil, List.take_nil, List.take_zero, List.take_succ_cons, List.cons_append, List.nil_append, List.replicate_zero, List.replicate_succ, if_true, if_false, ite_true, ite_false, Bool.false_eq_true, Bool.not_true, Bool.not_false, reduceIte, Nat.zero_add, Nat.add_zero, Nat.reduceAdd, Nat.reduceSub, Nat.sub_self, decide_true, decide_false, true_and, and_true, List.length_map] using hk
  | int i => simpa [B__law_plain, den, initS, endB, dSeq, dSet, dPar, dRet, dRetN, dIfS, dDrop, dFor, dNext, dBreak, dCont, dNever, dRaise, dAug, fAddI, dAppend, dSetIx, dVar, dC, dOp, dUn, dCB, dNil, dCons, dLst, dTup, dTest, dAnd, dOr, dNot, dAndV, dOrV, dNotV, dIf, dChain, dIsi, dIsi2, dYes, fAdd, fSub, fMul, fDiv, fMod, fPow, fNeg, fIx, fLen, fMax, fMin, fSum, fSorted, fAbs, fInt, fList, fTuple, fRepr, gEq, gNe, gLt, gLe, gGt, gGe, gIn, gNotIn, gIs, gIsNot, cD, put, cut, see, sees, look, fz, fzs, fzV, fill, dLc, dSeqI, dRng1, dRng2, dEnum, dZip, dName, dgTup, dgCons, dgNil, dAsg, dCall, dCallS, stAll, mapSt_st, mapSt_no, mapSt_val, mapSt_ow, mapSt_scr, mapSt_ns, noSts, wipeS, dSl, dPart, dNoPart, fSl, dRev, dBM, mCount, mIndex, dStInt, dStTurn, dStPop, dStCells, dStPut, dStTurnPut, dLenScr, tyName, isTyN, isNone, isBool, toInts_ints, dInts_len, List.map_cons, List.map_nil, List.map_append, List.getElem?_cons_zero, List.getElem?_cons_succ, List.set_cons_zero, List.set_cons_succ, List.length_cons, List.length_nil, List.take_nil, List.take_zero, List.take_succ_cons, List.cons_append, List.nil_append, List.replicate_zero, List.replicate_succ, if_true, if_false, ite_true, ite_false, Bool.false_eq_true, Bool.not_true, Bool.not_false, reduceIte, Nat.zero_add, Nat.add_zero, Nat.reduceAdd, Nat.reduceSub, Nat.sub_self, decide_true, decide_false, true_and, and_true, List.length_map] using hk
  | str x => simpa [B__law_plain, den, initS, endB, dSeq, dSet, dPar, dRet, dRetN, dIfS, dDrop, dFor, dNext, dBreak, dCont, dNever, dRaise, dAug, fAddI, dAppend, dSetIx, dVar, dC, dOp, dUn, dCB, dNil, dCons, dLst, dTup, dTest, dAnd, dOr, dNot, dAndV, dOrV, dNotV, dIf, dChain, dIsi, dIsi2, dYes, fAdd, fSub, fMul, fDiv, fMod, fPow, fNeg, fIx, fLen, fMax, fMin, fSum, fSorted, fAbs, fInt, fList, fTuple, fRepr, gEq, gNe, gLt, gLe, gGt, gGe, gIn, gNotIn, gIs, gIsNot, cD, put, cut, see, sees, look, fz, fzs, fzV, fill, dLc, dSeqI, dRng1, dRng2, dEnum, dZip, dName, dgTup, dgCons, dgNil, dAsg, dCall, dCallS, stAll, mapSt_st, mapSt_no, mapSt_val, mapSt_ow, mapSt_scr, mapSt_ns, noSts, wipeS, dSl, dPart, dNoPart, fSl, dRev, dBM, mCount, mIndex, dStInt, dStTurn, dStPop, dStCells, dStPut, dStTurnPut, dLenScr, tyName, isTyN, isNone, isBool, toInts_ints, dInts_len, List.map_cons, List.map_nil, List.map_append, List.getElem?_cons_zero, List.getElem?_cons_succ, List.set_cons_zero, List.set_cons_succ, List.length_cons, List.length_nil, List.take_nil, List.take_zero, List.take_succ_cons, List.cons_append, List.nil_append, List.replicate_zero, List.replicate_succ, if_true, if_false, ite_true, ite_false, Bool.false_eq_true, Bool.not_true, Bool.not_false, reduceIte, Nat.zero_add, Nat.add_zero, Nat.reduceAdd, Nat.reduceSub, Nat.sub_self, decide_true, decide_false, true_and, and_true, List.length_map] using hk
  | dict x => simp [plainD] at hp
  | list xs =>
    simp only [plainD] at hp
    simp only [PyData.depth] at hd
    simp only [wgt] at hw
    have := wgtAll_len xs
    simp [B__law_plain, den, initS, endB, dSeq, dSet, dPar, dRet, dRetN, dIfS, dDrop, dFor, dNext, dBreak, dCont, dNever, dRaise, dAug, fAddI, dAppend, dSetIx, dVar, dC, dOp, dUn, dCB, dNil, dCons, dLst, dTup, dTest, dAnd, dOr, dNot, dAndV, dOrV, dNotV, dIf, dChain, dIsi, dIsi2, dYes, fAdd, fSub, fMul, fDiv, fMod, fPow, fNeg, fIx, fLen, fMax, fMin, fSum, fSorted, fAbs, fInt, fList, fTuple, fRepr, gEq, gNe, gLt, gLe, gGt, gGe, gIn, gNotIn, gIs, gIsNot, cD, put, cut, see, sees, look, fz, fzs, fzV, fill, dLc, dSeqI, dRng1, dRng2, dEnum, dZip, dName, dgTup, dgCons, dgNil, dAsg, dCall, dCallS, stAll, mapSt_st, mapSt_no, mapSt_val, mapSt_ow, mapSt_scr, mapSt_ns, noSts, wipeS, dSl, dPart, dNoPart, fSl, dRev, dBM, mCount, mIndex, dStInt, dStTurn, dStPop, dStCells, dStPut, dStTurnPut, dLenScr, tyName, isTyN, isNone, isBool, toInts_ints, dInts_len, List.map_cons, List.map_nil, List.map_append, List.getElem?_cons_zero, List.getElem?_cons_succ, List.set_cons_zero, List.set_cons_succ, List.length_cons, List.length_nil, List.take_nil, List.take_zero, List.take_succ_cons, List.cons_append, List.nil_append, List.replicate_zero, List.replicate_succ, if_true, if_false, ite_true, ite_false, Bool.false_eq_true, Bool.not_true, Bool.not_false, reduceIte, Nat.zero_add, Nat.add_zero, Nat.reduceAdd, Nat.reduceSub, Nat.sub_self, decide_true, decide_false, true_and, and_true, List.length_map]
    exact ⟨by omega, seqs xs _ hp hd (by omega) ⟨e0, e0, by rw [e1]; exact hk⟩⟩
  | tuple xs =>
    simp only [plainD] at hp
    simp only [PyData.depth] at hd
    simp only [wgt] at hw
    have := wgtAll_len xs
    simp [B__law_plain, den, initS, endB, dSeq, dSet, dPar, dRet, dRetN, dIfS, dDrop, dFor, dNext, dBreak, dCont, dNever, dRaise, dAug, fAddI, dAppend, dSetIx, dVar, dC, dOp, dUn, dCB, dNil, dCons, dLst, dTup, dTest, dAnd, dOr, dNot, dAndV, dOrV, dNotV, dIf, dChain, dIsi, dIsi2, dYes, fAdd, fSub, fMul, fDiv, fMod, fPow, fNeg, fIx, fLen, fMax, fMin, fSum, fSorted, fAbs, fInt, fList, fTuple, fRepr, gEq, gNe, gLt, gLe, gGt, gGe, gIn, gNotIn, gIs, gIsNot, cD, put, cut, see, sees, look, fz, fzs, fzV, fill, dLc, dSeqI, dRng1, dRng2, dEnum, dZip, dName, dgTup, dgCons, dgNil, dAsg, dCall, dCallS, stAll, mapSt_st, mapSt_no, mapSt_val, mapSt_ow, mapSt_scr, mapSt_ns, noSts, wipeS, dSl, dPart, dNoPart, fSl, dRev, dBM, mCount, mIndex, dStInt, dStTurn, dStPop, dStCells, dStPut, dStTurnPut, dLenScr, tyName, isTyN, isNone, isBool, toInts_ints, dInts_len, List.map_cons, List.map_nil, List.map_append, List.getElem?_cons_zero, List.getElem?_cons_succ, List.set_cons_zero, List.set_cons_succ, List.length_cons, List.length_nil, List.take_nil, List.take_zero, List.take_succ_cons, List.cons_append, List.nil_append, List.replicate_zero, List.replicate_succ, if_true, if_false, ite_true, ite_false, Bool.false_eq_true, Bool.not_true, Bool.not_false, reduceIte, Nat.zero_add, Nat.add_zero, Nat.reduceAdd, Nat.reduceSub, Nat.sub_self, decide_true, decide_false, true_and, and_true, List.length_map]
    exact ⟨by omega, seqs xs _ hp hd (by omega) ⟨e0, e0, by rw [e1]; exact hk⟩⟩

abbrev nn__law_is : Nat := 2
-- 0:found 1:due
def B__law_is : (String → Prop) → DSt := fun kx => (dRet (dAndV (dCall 1 T__law_plain (fun _ => False) (dCons (dVar 0) dNil)) (dAndV (dOp (cD gEq) (dVar 0) (dVar 1)) (dAndV (dOp (cD gEq) (dVar 1) (dVar 0)) (dOp (cD gEq) (dCB fRepr (dCons (dVar 0) dNil)) (dCB fRepr (dCons (dVar 1) dNil)))))))
def R__law_is : DFn := den false 2 B__law_is
/-- the same data -/
def T__law_is : DFn := fun _ ds k _ => ∃ d, ds = [d, d] ∧ Nice d ∧ k (.bool true) 0
theorem imp__law_is : ∀ B ds k kx, ds.length = 2 → T__law_is B ds k kx → R__law_is B ds k kx := fun B ds k kx _ h => by
  obtain ⟨d, rfl, n, hk⟩ := h
  simp only [R__law_is, B__law_is, den, initS, endB, dSeq, dSet, dPar, dRet, dRetN, dIfS, dDrop, dFor, dNext, dBreak, dCont, dNever, dRaise, dAug, fAddI, dAppend, dSetIx, dVar, dC, dOp, dUn, dCB, dNil, dCons, dLst, dTup, dTest, dAnd, dOr, dNot, dAndV, dOrV, dNotV, dIf, dChain, dIsi, dIsi2, dYes, fAdd, fSub, fMul, fDiv, fMod, fPow, fNeg, fIx, fLen, fMax, fMin, fSum, fSorted, fAbs, fInt, fList, fTuple, fRepr, gEq, gNe, gLt, gLe, gGt, gGe, gIn, gNotIn, gIs, gIsNot, cD, put, cut, see, sees, look, fz, fzs, fzV, fill, dLc, dSeqI, dRng1, dRng2, dEnum, dZip, dName, dgTup, dgCons, dgNil, dAsg, dCall, dCallS, stAll, mapSt_st, mapSt_no, mapSt_val, mapSt_ow, mapSt_scr, mapSt_ns, noSts, wipeS, dSl, dPart, dNoPart, fSl, dRev, dBM, mCount, mIndex, dStInt, dStTurn, dStPop, dStCells, dStPut, dStTurnPut, dLenScr, tyName, isTyN, isNone, isBool, toInts_ints, dInts_len, List.map_cons, List.map_nil, List.map_append, List.getElem?_cons_zero, List.getElem?_cons_succ, List.set_cons_zero, List.set_cons_succ, List.length_cons, List.length_nil, List.take_nil, List.take_zero, List.take_succ_cons, List.cons_append, List.nil_append, List.replicate_zero, List.replicate_succ, if_true, if_false, ite_true, ite_false, Bool.false_eq_true, Bool.not_true, Bool.not_false, reduceIte, Nat.zero_add, Nat.add_zero, Nat.reduceAdd, Nat.reduceSub, Nat.sub_self, decide_true, decide_false, true_and, and_true, List.length_map]
  refine ⟨d, rfl, n.p, Nat.le_trans n.d6 (by decide), n.w, ?_⟩
  simp only [n.eqv, eqv_str]
  exact ⟨n.shaped, n.shaped, n.shaped, n.shaped, n.rep, n.rep, n.shapedS, n.shapedS, hk⟩

abbrev nn__law_costs : Nat := 12
-- 0:size 1:moments 2:wait 3:lose 4:rows 5:pane 6:later 7:due 8:row 9:place 10:lost 11:at
def B__law_costs : (String → Prop) → DSt := fun kx => (dSeq (dSet 4 (dLst dNil)) (dSeq (dFor (dRng1 (dCons (dOp fAdd (dOp fDiv (dCB fMax (dCons (dVar 1) dNil)) (dVar 0)) (dC (.int 1))) dNil)) (dName 5) (dSeq (dSet 6 (dLc (dRng1 (dCons (dCB fLen (dCons (dVar 1) dNil)) dNil)) (dName 11) (dTest (dOp (cD gGe) (dOp fIx (dVar 1) (dVar 11)) (dOp fMul (dOp fAdd (dVar 5) (dC (.int 1))) (dVar 0)))) (dVar 11) [11])) (dSeq (dSet 7 (dIf (dTest (dOp (cD gNe) (dVar 6) (dLst dNil))) (dOp fAdd (dOp fIx (dVar 6) (dC (.int 0))) (dC (.int 1))) (dCB fLen (dCons (dVar 1) dNil)))) (dSeq (dSet 8 (dLst dNil)) (dSeq (dFor (dRng1 (dCons (dOp fAdd (dCB fLen (dCons (dVar 1) dNil)) (dC (.int 1))) dNil)) (dName 9) (dSeq (dSet 10 (dLc (dRng2 (dCons (dVar 9) (dCons (dCB fLen (dCons (dVar 1) dNil)) dNil))) (dName 11) (dTest (dChain gLe gLt (dOp fMul (dVar 5) (dVar 0)) (dOp fIx (dVar 1) (dVar 11)) (dOp fMul (dOp fAdd (dVar 5) (dC (.int 1))) (dVar 0)))) (dC (.int 1)) [11])) (dAppend 8 (dOp fAdd (dOp fMul (dVar 3) (dCB fLen (dCons (dVar 10) dNil))) (dIf (dTest (dOp (cD gGt) (dVar 9) (dVar 7))) (dOp fMul (dVar 2) (dOp fSub (dVar 9) (dVar 7))) (dC (.int 0))))))) (dAppend 4 (dVar 8))))))) (dRet (dVar 4))))
def R__law_costs : DFn := den false 12 B__law_costs
def T__law_costs : DFn := fun _ ds k _ => ∃ (s : Int) (ms : List Int) (w l : Int), ds = [.int s, .list (dInts ms), .int w, .int l] ∧ Ok s ms w l ∧ k (.list (dRows (costs s ms w l))) 0
theorem imp__law_costs : ∀ B ds k kx, ds.length = 4 → T__law_costs B ds k kx → R__law_costs B ds k kx := fun B ds k kx _ h => by
  obtain ⟨s, ms, w, l, rfl, h, hk⟩ := h
  have sz : sizeLine = 2 ^ 24 := rfl
  have ne : ms ≠ [] := fun z => by have := h.n1; rw [z] at this; simp at this
  have tp := h.top
  have s1 := h.s1
  have s2 := h.s2
  have n2 := h.n2
  have w1 := h.w1
  have w2 := h.w2
  have l1 := h.l1
  have l2 := h.l2
  have tl := top_law h
  simp only [R__law_costs, B__law_costs, den, initS]
  refine seq_to [.val (.int s), .val (.list (dInts ms)), .val (.int w), .val (.int l), .own (.lst []), .no, .no, .no, .no, .no, .no, .no] (fun k' hk' => ?_) ?_
  · simp only [den, initS, endB, dSeq, dSet, dPar, dRet, dRetN, dIfS, dDrop, dFor, dNext, dBreak, dCont, dNever, dRaise, dAug, fAddI, dAppend, dSetIx, dVar, dC, dOp, dUn, dCB, dNil, dCons, dLst, dTup, dTest, dAnd, dOr, dNot, dAndV, dOrV, dNotV, dIf, dChain, dIsi, dIsi2, dYes, fAdd, fSub, fMul, fDiv, fMod, fPow, fNeg, fIx, fLen, fMax, fMin, fSum, fSorted, fAbs, fInt, fList, fTuple, fRepr, gEq, gNe, gLt, gLe, gGt, gGe, gIn, gNotIn, gIs, gIsNot, cD, put, cut, see, sees, look, fz, fzs, fzV, fill, dLc, dSeqI, dRng1, dRng2, dEnum, dZip, dName, dgTup, dgCons, dgNil, dAsg, dCall, dCallS, stAll, mapSt_st, mapSt_no, mapSt_val, mapSt_ow, mapSt_scr, mapSt_ns, noSts, wipeS, dSl, dPart, dNoPart, fSl, dRev, dBM, mCount, mIndex, dStInt, dStTurn, dStPop, dStCells, dStPut, dStTurnPut, dLenScr, tyName, isTyN, isNone, isBool, toInts_ints, dInts_len, List.map_cons, List.map_nil, List.map_append, List.getElem?_cons_zero, List.getElem?_cons_succ, List.set_cons_zero, List.set_cons_succ, List.length_cons, List.length_nil, List.take_nil, List.take_zero, List.take_succ_cons, List.cons_append, List.nil_append, List.replicate_zero, List.replicate_succ, if_true, if_false, ite_true, ite_false, Bool.false_eq_true, Bool.not_true, Bool.not_false, reduceIte, Nat.zero_add, Nat.add_zero, Nat.reduceAdd, Nat.reduceSub, Nat.sub_self, decide_true, decide_false, true_and, and_true, List.length_map]
    exact ⟨Nat.zero_le _, hk'⟩
  refine dSeq_for ?_
  simp only [den, initS, endB, dSeq, dSet, dPar, dRet, dRetN, dIfS, dDrop, dFor, dNext, dBreak, dCont, dNever, dRaise, dAug, fAddI, dAppend, dSetIx, dVar, dC, dOp, dUn, dCB, dNil, dCons, dLst, dTup, dTest, dAnd, dOr, dNot, dAndV, dOrV, dNotV, dIf, dChain, dIsi, dIsi2, dYes, fAdd, fSub, fMul, fDiv, fMod, fPow, fNeg, fIx, fLen, fMax, fMin, fSum, fSorted, fAbs, fInt, fList, fTuple, fRepr, gEq, gNe, gLt, gLe, gGt, gGe, gIn, gNotIn, gIs, gIsNot, cD, put, cut, see, sees, look, fz, fzs, fzV, fill, dLc, dSeqI, dRng1, dRng2, dEnum, dZip, dName, dgTup, dgCons, dgNil, dAsg, dCall, dCallS, stAll, mapSt_st, mapSt_no, mapSt_val, mapSt_ow, mapSt_scr, mapSt_ns, noSts, wipeS, dSl, dPart, dNoPart, fSl, dRev, dBM, mCount, mIndex, dStInt, dStTurn, dStPop, dStCells, dStPut, dStTurnPut, dLenScr, tyName, isTyN, isNone, isBool, toInts_ints, dInts_len, List.map_cons, List.map_nil, List.map_append, List.getElem?_cons_zero, List.getElem?_cons_succ, List.set_cons_zero, List.set_cons_succ, List.length_cons, List.length_nil, List.take_nil, List.take_zero, List.take_succ_cons, List.cons_append, List.nil_append, List.replicate_zero, List.replicate_succ, if_true, if_false, ite_true, ite_false, Bool.false_eq_true, Bool.not_true, Bool.not_false, reduceIte, Nat.zero_add, Nat.add_zero, Nat.reduceAdd, Nat.reduceSub, Nat.sub_self, decide_true, decide_false, true_and, and_true, List.length_map]
  refine ⟨ne, ⟨by omega, by omega⟩, by omega, ?_⟩
  rw [rangeL0, show (lmax ms / s + 1).toNat = (lmax (panesOf s ms)).toNat + 1 by omega]
  refine for_push _ (fun p : Nat => costRow (panesOf s ms) w l (p : Int)) (fun ys t => ∃ y5 y6 y7 y8 y9 y10, t = [.val (.int s), .val (.list (dInts ms)), .val (.int w), .val (.int l), .own (.lst (dRows ys)), y5, y6, y7, y8, y9, y10, .no]) _ ⟨_, _, _, _, _, _, rfl⟩ (fun p hp ys t hn ht k' b hk' => ?_) fun t ht => ?_
  · obtain ⟨y5, y6, y7, y8, y9, y10, rfl⟩ := ht
    rw [List.length_range] at hn
    rw [List.mem_range] at hp
    simp only [dName, List.set_cons_succ, List.set_cons_zero]
    refine seq_to [.val (.int s), .val (.list (dInts ms)), .val (.int w), .val (.int l), .own (.lst (dRows ys)), .val (.int p), .own (.lst (dNats (later (panesOf s ms) p))), y7, y8, y9, y10, .no] (fun k2 h2 => ?_) ?_
    · simp only [den, initS, endB, dSeq, dSet, dPar, dRet, dRetN, dIfS, dDrop, dFor, dNext, dBreak, dCont, dNever, dRaise, dAug, fAddI, dAppend, dSetIx, dVar, dC, dOp, dUn, dCB, dNil, dCons, dLst, dTup, dTest, dAnd, dOr, dNot, dAndV, dOrV, dNotV, dIf, dChain, dIsi, dIsi2, dYes, fAdd, fSub, fMul, fDiv, fMod, fPow, fNeg, fIx, fLen, fMax, fMin, fSum, fSorted, fAbs, fInt, fList, fTuple, fRepr, gEq, gNe, gLt, gLe, gGt, gGe, gIn, gNotIn, gIs, gIsNot, cD, put, cut, see, sees, look, fz, fzs, fzV, fill, dLc, dSeqI, dRng1, dRng2, dEnum, dZip, dName, dgTup, dgCons, dgNil, dAsg, dCall, dCallS, stAll, mapSt_st, mapSt_no, mapSt_val, mapSt_ow, mapSt_scr, mapSt_ns, noSts, wipeS, dSl, dPart, dNoPart, fSl, dRev, dBM, mCount, mIndex, dStInt, dStTurn, dStPop, dStCells, dStPut, dStTurnPut, dLenScr, tyName, isTyN, isNone, isBool, toInts_ints, dInts_len, List.map_cons, List.map_nil, List.map_append, List.getElem?_cons_zero, List.getElem?_cons_succ, List.set_cons_zero, List.set_cons_succ, List.length_cons, List.length_nil, List.take_nil, List.take_zero, List.take_succ_cons, List.cons_append, List.nil_append, List.replicate_zero, List.replicate_succ, if_true, if_false, ite_true, ite_false, Bool.false_eq_true, Bool.not_true, Bool.not_false, reduceIte, Nat.zero_add, Nat.add_zero, Nat.reduceAdd, Nat.reduceSub, Nat.sub_self, decide_true, decide_false, true_and, and_true, List.length_map]
      refine ⟨by omega, by rw [rangeL0]; simp; omega, ?_⟩
      rw [rangeL0, Int.toNat_natCast]
      refine lc_filter _ (fun i : Nat => decide (((p : Int) + 1) * s ≤ ms.getD i 0)) (fun i : Nat => .int (i : Int)) _ (fun i hi k3 h3 => ?_) ?_
      · rw [List.mem_range] at hi
        simp only [stepLc, den, initS, endB, dSeq, dSet, dPar, dRet, dRetN, dIfS, dDrop, dFor, dNext, dBreak, dCont, dNever, dRaise, dAug, fAddI, dAppend, dSetIx, dVar, dC, dOp, dUn, dCB, dNil, dCons, dLst, dTup, dTest, dAnd, dOr, dNot, dAndV, dOrV, dNotV, dIf, dChain, dIsi, dIsi2, dYes, fAdd, fSub, fMul, fDiv, fMod, fPow, fNeg, fIx, fLen, fMax, fMin, fSum, fSorted, fAbs, fInt, fList, fTuple, fRepr, gEq, gNe, gLt, gLe, gGt, gGe, gIn, gNotIn, gIs, gIsNot, cD, put, cut, see, sees, look, fz, fzs, fzV, fill, dLc, dSeqI, dRng1, dRng2, dEnum, dZip, dName, dgTup, dgCons, dgNil, dAsg, dCall, dCallS, stAll, mapSt_st, mapSt_no, mapSt_val, mapSt_ow, mapSt_scr, mapSt_ns, noSts, wipeS, dSl, dPart, dNoPart, fSl, dRev, dBM, mCount, mIndex, dStInt, dStTurn, dStPop, dStCells, dStPut, dStTurnPut, dLenScr, tyName, isTyN, isNone, isBool, toInts_ints, dInts_len, List.map_cons, List.map_nil, List.map_append, List.getElem?_cons_zero, List.getElem?_cons_succ, List.set_cons_zero, List.set_cons_succ, List.length_cons, List.length_nil, List.take_nil, List.take_zero, List.take_succ_cons, List.cons_append, List.nil_append, List.replicate_zero, List.replicate_succ, if_true, if_false, ite_true, ite_false, Bool.false_eq_true, Bool.not_true, Bool.not_false, reduceIte, Nat.zero_add, Nat.add_zero, Nat.reduceAdd, Nat.reduceSub, Nat.sub_self, decide_true, decide_false, true_and, and_true, List.length_map, atI_ints hi]
        rw [getD_of hi] at h3
        refine ⟨.inr ⟨by omega, by omega⟩, ?_⟩
        by_cases hc : ((p : Int) + 1) * s ≤ ms[i] <;> simpa [hc] using h3
      · rw [later_law h p]
        exact h2
    refine seq_to [.val (.int s), .val (.list (dInts ms)), .val (.int w), .val (.int l), .own (.lst (dRows ys)), .val (.int p), .own (.lst (dNats (later (panesOf s ms) p))), .val (.int (duePlace (panesOf s ms) p : Nat)), y8, y9, y10, .no] (fun k2 h2 => ?_) ?_
    · simp only [den, initS, endB, dSeq, dSet, dPar, dRet, dRetN, dIfS, dDrop, dFor, dNext, dBreak, dCont, dNever, dRaise, dAug, fAddI, dAppend, dSetIx, dVar, dC, dOp, dUn, dCB, dNil, dCons, dLst, dTup, dTest, dAnd, dOr, dNot, dAndV, dOrV, dNotV, dIf, dChain, dIsi, dIsi2, dYes, fAdd, fSub, fMul, fDiv, fMod, fPow, fNeg, fIx, fLen, fMax, fMin, fSum, fSorted, fAbs, fInt, fList, fTuple, fRepr, gEq, gNe, gLt, gLe, gGt, gGe, gIn, gNotIn, gIs, gIsNot, cD, put, cut, see, sees, look, fz, fzs, fzV, fill, dLc, dSeqI, dRng1, dRng2, dEnum, dZip, dName, dgTup, dgCons, dgNil, dAsg, dCall, dCallS, stAll, mapSt_st, mapSt_no, mapSt_val, mapSt_ow, mapSt_scr, mapSt_ns, noSts, wipeS, dSl, dPart, dNoPart, fSl, dRev, dBM, mCount, mIndex, dStInt, dStTurn, dStPop, dStCells, dStPut, dStTurnPut, dLenScr, tyName, isTyN, isNone, isBool, toInts_ints, dInts_len, List.map_cons, List.map_nil, List.map_append, List.getElem?_cons_zero, List.getElem?_cons_succ, List.set_cons_zero, List.set_cons_succ, List.length_cons, List.length_nil, List.take_nil, List.take_zero, List.take_succ_cons, List.cons_append, List.nil_append, List.replicate_zero, List.replicate_succ, if_true, if_false, ite_true, ite_false, Bool.false_eq_true, Bool.not_true, Bool.not_false, reduceIte, Nat.zero_add, Nat.add_zero, Nat.reduceAdd, Nat.reduceSub, Nat.sub_self, decide_true, decide_false, true_and, and_true, List.length_map, eqv_nil]
      refine ⟨Nat.zero_le _, by rw [dNats_ints]; exact shaped_ints _, shaped_ints [], ?_⟩
      unfold duePlace at h2
      cases e : later (panesOf s ms) p with
      | nil =>
        rw [e] at h2
        simpa [dNats, panes_len] using h2
      | cons i r =>
        rw [e] at h2
        simp [dNats, atI, ixN]
        simpa [dNats] using h2
    refine seq_to [.val (.int s), .val (.list (dInts ms)), .val (.int w), .val (.int l), .own (.lst (dRows ys)), .val (.int p), .own (.lst (dNats (later (panesOf s ms) p))), .val (.int (duePlace (panesOf s ms) p : Nat)), .own (.lst []), y9, y10, .no] (fun k2 h2 => ?_) ?_
    · simp only [den, initS, endB, dSeq, dSet, dPar, dRet, dRetN, dIfS, dDrop, dFor, dNext, dBreak, dCont, dNever, dRaise, dAug, fAddI, dAppend, dSetIx, dVar, dC, dOp, dUn, dCB, dNil, dCons, dLst, dTup, dTest, dAnd, dOr, dNot, dAndV, dOrV, dNotV, dIf, dChain, dIsi, dIsi2, dYes, fAdd, fSub, fMul, fDiv, fMod, fPow, fNeg, fIx, fLen, fMax, fMin, fSum, fSorted, fAbs, fInt, fList, fTuple, fRepr, gEq, gNe, gLt, gLe, gGt, gGe, gIn, gNotIn, gIs, gIsNot, cD, put, cut, see, sees, look, fz, fzs, fzV, fill, dLc, dSeqI, dRng1, dRng2, dEnum, dZip, dName, dgTup, dgCons, dgNil, dAsg, dCall, dCallS, stAll, mapSt_st, mapSt_no, mapSt_val, mapSt_ow, mapSt_scr, mapSt_ns, noSts, wipeS, dSl, dPart, dNoPart, fSl, dRev, dBM, mCount, mIndex, dStInt, dStTurn, dStPop, dStCells, dStPut, dStTurnPut, dLenScr, tyName, isTyN, isNone, isBool, toInts_ints, dInts_len, List.map_cons, List.map_nil, List.map_append, List.getElem?_cons_zero, List.getElem?_cons_succ, List.set_cons_zero, List.set_cons_succ, List.length_cons, List.length_nil, List.take_nil, List.take_zero, List.take_succ_cons, List.cons_append, List.nil_append, List.replicate_zero, List.replicate_succ, if_true, if_false, ite_true, ite_false, Bool.false_eq_true, Bool.not_true, Bool.not_false, reduceIte, Nat.zero_add, Nat.add_zero, Nat.reduceAdd, Nat.reduceSub, Nat.sub_self, decide_true, decide_false, true_and, and_true, List.length_map]
      exact ⟨Nat.zero_le _, h2⟩
    refine seq_toP (fun t => ∃ y9 y10, t = [.val (.int s), .val (.list (dInts ms)), .val (.int w), .val (.int l), .own (.lst (dRows ys)), .val (.int p), .own (.lst (dNats (later (panesOf s ms) p))), .val (.int (duePlace (panesOf s ms) p : Nat)), .own (.lst (dInts (costRow (panesOf s ms) w l p))), y9, y10, .no]) (fun k2 h2 => ?_) fun t ht => ?_
    · simp only [den, initS, endB, dSeq, dSet, dPar, dRet, dRetN, dIfS, dDrop, dFor, dNext, dBreak, dCont, dNever, dRaise, dAug, fAddI, dAppend, dSetIx, dVar, dC, dOp, dUn, dCB, dNil, dCons, dLst, dTup, dTest, dAnd, dOr, dNot, dAndV, dOrV, dNotV, dIf, dChain, dIsi, dIsi2, dYes, fAdd, fSub, fMul, fDiv, fMod, fPow, fNeg, fIx, fLen, fMax, fMin, fSum, fSorted, fAbs, fInt, fList, fTuple, fRepr, gEq, gNe, gLt, gLe, gGt, gGe, gIn, gNotIn, gIs, gIsNot, cD, put, cut, see, sees, look, fz, fzs, fzV, fill, dLc, dSeqI, dRng1, dRng2, dEnum, dZip, dName, dgTup, dgCons, dgNil, dAsg, dCall, dCallS, stAll, mapSt_st, mapSt_no, mapSt_val, mapSt_ow, mapSt_scr, mapSt_ns, noSts, wipeS, dSl, dPart, dNoPart, fSl, dRev, dBM, mCount, mIndex, dStInt, dStTurn, dStPop, dStCells, dStPut, dStTurnPut, dLenScr, tyName, isTyN, isNone, isBool, toInts_ints, dInts_len, List.map_cons, List.map_nil, List.map_append, List.getElem?_cons_zero, List.getElem?_cons_succ, List.set_cons_zero, List.set_cons_succ, List.length_cons, List.length_nil, List.take_nil, List.take_zero, List.take_succ_cons, List.cons_append, List.nil_append, List.replicate_zero, List.replicate_succ, if_true, if_false, ite_true, ite_false, Bool.false_eq_true, Bool.not_true, Bool.not_false, reduceIte, Nat.zero_add, Nat.add_zero, Nat.reduceAdd, Nat.reduceSub, Nat.sub_self, decide_true, decide_false, true_and, and_true, List.length_map]
      refine ⟨by omega, ?_⟩
      rw [rangeL0, show ((ms.length : Int) + 1).toNat = (panesOf s ms).length + 1 by rw [panes_len]; omega]
      refine for_push _ (costAt (panesOf s ms) w l p) (fun zs t => ∃ y9 y10, t = [.val (.int s), .val (.list (dInts ms)), .val (.int w), .val (.int l), .own (.lst (dRows ys)), .val (.int p), .own (.lst (dNats (later (panesOf s ms) p))), .val (.int (duePlace (panesOf s ms) p : Nat)), .own (.lst (dInts zs)), y9, y10, .no]) _ ⟨_, _, rfl⟩ (fun e he zs t hz ht k3 b3 h3 => ?_) fun t ht => h2 t ht
      obtain ⟨y9, y10, rfl⟩ := ht
      rw [List.length_range, panes_len] at hz
      rw [List.mem_range, panes_len] at he
      simp only [dName, List.set_cons_succ, List.set_cons_zero]
      refine seq_toP (fun t => ∃ ones : List D, ones.length = ((panesOf s ms).drop e).count (p : Int) ∧ t = [.val (.int s), .val (.list (dInts ms)), .val (.int w), .val (.int l), .own (.lst (dRows ys)), .val (.int p), .own (.lst (dNats (later (panesOf s ms) p))), .val (.int (duePlace (panesOf s ms) p : Nat)), .own (.lst (dInts zs)), .val (.int (e : Int)), .own (.lst ones), .no]) (fun k4 h4 => ?_) fun t ht => ?_
      · simp only [den, initS, endB, dSeq, dSet, dPar, dRet, dRetN, dIfS, dDrop, dFor, dNext, dBreak, dCont, dNever, dRaise, dAug, fAddI, dAppend, dSetIx, dVar, dC, dOp, dUn, dCB, dNil, dCons, dLst, dTup, dTest, dAnd, dOr, dNot, dAndV, dOrV, dNotV, dIf, dChain, dIsi, dIsi2, dYes, fAdd, fSub, fMul, fDiv, fMod, fPow, fNeg, fIx, fLen, fMax, fMin, fSum, fSorted, fAbs, fInt, fList, fTuple, fRepr, gEq, gNe, gLt, gLe, gGt, gGe, gIn, gNotIn, gIs, gIsNot, cD, put, cut, see, sees, look, fz, fzs, fzV, fill, dLc, dSeqI, dRng1, dRng2, dEnum, dZip, dName, dgTup, dgCons, dgNil, dAsg, dCall, dCallS, stAll, mapSt_st, mapSt_no, mapSt_val, mapSt_ow, mapSt_scr, mapSt_ns, noSts, wipeS, dSl, dPart, dNoPart, fSl, dRev, dBM, mCount, mIndex, dStInt, dStTurn, dStPop, dStCells, dStPut, dStTurnPut, dLenScr, tyName, isTyN, isNone, isBool, toInts_ints, dInts_len, List.map_cons, List.map_nil, List.map_append, List.getElem?_cons_zero, List.getElem?_cons_succ, List.set_cons_zero, List.set_cons_succ, List.length_cons, List.length_nil, List.take_nil, List.take_zero, List.take_succ_cons, List.cons_append, List.nil_append, List.replicate_zero, List.replicate_succ, if_true, if_false, ite_true, ite_false, Bool.false_eq_true, Bool.not_true, Bool.not_false, reduceIte, Nat.zero_add, Nat.add_zero, Nat.reduceAdd, Nat.reduceSub, Nat.sub_self, decide_true, decide_false, true_and, and_true, List.length_map]
        refine ⟨⟨by omega, by omega, by omega, by omega⟩, by rw [rangeL_]; simp; omega, ?_⟩
        rw [rangeL_, show ((ms.length : Int) - (e : Int)).toNat = ms.length - e by omega]
        refine lc_filter _ (fun i : Nat => decide ((p : Int) * s ≤ ms.getD (e + i) 0 ∧ ms.getD (e + i) 0 < ((p : Int) + 1) * s)) (fun i : Nat => .int 1) _ (fun i hi k5 h5 => ?_) ?_
        · rw [List.mem_range] at hi
          have hi2 : e + i < ms.length := by omega
          have e7 : (e : Int) + (i : Int) = ((e + i : Nat) : Int) := rfl
          simp only [stepLc, den, initS, endB, dSeq, dSet, dPar, dRet, dRetN, dIfS, dDrop, dFor, dNext, dBreak, dCont, dNever, dRaise, dAug, fAddI, dAppend, dSetIx, dVar, dC, dOp, dUn, dCB, dNil, dCons, dLst, dTup, dTest, dAnd, dOr, dNot, dAndV, dOrV, dNotV, dIf, dChain, dIsi, dIsi2, dYes, fAdd, fSub, fMul, fDiv, fMod, fPow, fNeg, fIx, fLen, fMax, fMin, fSum, fSorted, fAbs, fInt, fList, fTuple, fRepr, gEq, gNe, gLt, gLe, gGt, gGe, gIn, gNotIn, gIs, gIsNot, cD, put, cut, see, sees, look, fz, fzs, fzV, fill, dLc, dSeqI, dRng1, dRng2, dEnum, dZip, dName, dgTup, dgCons, dgNil, dAsg, dCall, dCallS, stAll, mapSt_st, mapSt_no, mapSt_val, mapSt_ow, mapSt_scr, mapSt_ns, noSts, wipeS, dSl, dPart, dNoPart, fSl, dRev, dBM, mCount, mIndex, dStInt, dStTurn, dStPop, dStCells, dStPut, dStTurnPut, dLenScr, tyName, isTyN, isNone, isBool, toInts_ints, dInts_len, List.map_cons, List.map_nil, List.map_append, List.getElem?_cons_zero, List.getElem?_cons_succ, List.set_cons_zero, List.set_cons_succ, List.length_cons, List.length_nil, List.take_nil, List.take_zero, List.take_succ_cons, List.cons_append, List.nil_append, List.replicate_zero, List.replicate_succ, if_true, if_false, ite_true, ite_false, Bool.false_eq_true, Bool.not_true, Bool.not_false, reduceIte, Nat.zero_add, Nat.add_zero, Nat.reduceAdd, Nat.reduceSub, Nat.sub_self, decide_true, decide_false, true_and, and_true, List.length_map, e7, atI_ints hi2]
          rw [getD_of hi2] at h5
          refine ⟨.inr ⟨by omega, by omega⟩, ?_⟩
          by_cases hc : (p : Int) * s ≤ ms[e + i]
          · rw [if_pos (decide_eq_true hc)]
            refine ⟨.inr ⟨by omega, by omega⟩, ?_⟩
            by_cases hc2 : ms[e + i] < ((p : Int) + 1) * s <;> simpa [hc, hc2] using h5
          · rw [if_neg (by simpa using hc)]
            simpa [hc] using h5
        · exact h4 _ ⟨_, by rw [List.length_map]; exact lost_law h p e, rfl⟩
      · obtain ⟨ones, ho, rfl⟩ := ht
        have c1 := List.count_le_length (a := (p : Int)) (l := (panesOf s ms).drop e)
        rw [List.length_drop, panes_len] at c1
        simp only [den, initS, endB, dSeq, dSet, dPar, dRet, dRetN, dIfS, dDrop, dFor, dNext, dBreak, dCont, dNever, dRaise, dAug, fAddI, dAppend, dSetIx, dVar, dC, dOp, dUn, dCB, dNil, dCons, dLst, dTup, dTest, dAnd, dOr, dNot, dAndV, dOrV, dNotV, dIf, dChain, dIsi, dIsi2, dYes, fAdd, fSub, fMul, fDiv, fMod, fPow, fNeg, fIx, fLen, fMax, fMin, fSum, fSorted, fAbs, fInt, fList, fTuple, fRepr, gEq, gNe, gLt, gLe, gGt, gGe, gIn, gNotIn, gIs, gIsNot, cD, put, cut, see, sees, look, fz, fzs, fzV, fill, dLc, dSeqI, dRng1, dRng2, dEnum, dZip, dName, dgTup, dgCons, dgNil, dAsg, dCall, dCallS, stAll, mapSt_st, mapSt_no, mapSt_val, mapSt_ow, mapSt_scr, mapSt_ns, noSts, wipeS, dSl, dPart, dNoPart, fSl, dRev, dBM, mCount, mIndex, dStInt, dStTurn, dStPop, dStCells, dStPut, dStTurnPut, dLenScr, tyName, isTyN, isNone, isBool, toInts_ints, dInts_len, List.map_cons, List.map_nil, List.map_append, List.getElem?_cons_zero, List.getElem?_cons_succ, List.set_cons_zero, List.set_cons_succ, List.length_cons, List.length_nil, List.take_nil, List.take_zero, List.take_succ_cons, List.cons_append, List.nil_append, List.replicate_zero, List.replicate_succ, if_true, if_false, ite_true, ite_false, Bool.false_eq_true, Bool.not_true, Bool.not_false, reduceIte, Nat.zero_add, Nat.add_zero, Nat.reduceAdd, Nat.reduceSub, Nat.sub_self, decide_true, decide_false, true_and, and_true, List.length_map, dInts_snoc, ho]
        refine ⟨.inl ⟨by omega, by omega⟩, ?_⟩
        have ce : costAt (panesOf s ms) w l p e = l * (((panesOf s ms).drop e).count (p : Int) : Nat) + (if ((duePlace (panesOf s ms) p : Nat) : Int) < e then w * ((e : Int) - (duePlace (panesOf s ms) p : Nat)) else 0) := by
          unfold costAt
          split
          · rw [show max 0 ((e : Int) - (duePlace (panesOf s ms) p : Nat)) = (e : Int) - (duePlace (panesOf s ms) p : Nat) by omega, Int.add_comm]
          · rw [show max 0 ((e : Int) - (duePlace (panesOf s ms) p : Nat)) = 0 by omega, Int.mul_zero, Int.zero_add, Int.add_zero]
        rw [ce] at h3
        by_cases hc : ((duePlace (panesOf s ms) p : Nat) : Int) < e
        · rw [if_pos hc] at h3
          rw [if_pos (decide_eq_true hc)]
          exact ⟨.inl ⟨by omega, by omega⟩, by omega, h3 _ ⟨_, _, rfl⟩⟩
        · rw [if_neg hc] at h3
          rw [if_neg (by simpa using hc)]
          exact ⟨by omega, h3 _ ⟨_, _, rfl⟩⟩
    · obtain ⟨y9, y10, rfl⟩ := ht
      simp only [den, initS, endB, dSeq, dSet, dPar, dRet, dRetN, dIfS, dDrop, dFor, dNext, dBreak, dCont, dNever, dRaise, dAug, fAddI, dAppend, dSetIx, dVar, dC, dOp, dUn, dCB, dNil, dCons, dLst, dTup, dTest, dAnd, dOr, dNot, dAndV, dOrV, dNotV, dIf, dChain, dIsi, dIsi2, dYes, fAdd, fSub, fMul, fDiv, fMod, fPow, fNeg, fIx, fLen, fMax, fMin, fSum, fSorted, fAbs, fInt, fList, fTuple, fRepr, gEq, gNe, gLt, gLe, gGt, gGe, gIn, gNotIn, gIs, gIsNot, cD, put, cut, see, sees, look, fz, fzs, fzV, fill, dLc, dSeqI, dRng1, dRng2, dEnum, dZip, dName, dgTup, dgCons, dgNil, dAsg, dCall, dCallS, stAll, mapSt_st, mapSt_no, mapSt_val, mapSt_ow, mapSt_scr, mapSt_ns, noSts, wipeS, dSl, dPart, dNoPart, fSl, dRev, dBM, mCount, mIndex, dStInt, dStTurn, dStPop, dStCells, dStPut, dStTurnPut, dLenScr, tyName, isTyN, isNone, isBool, toInts_ints, dInts_len, List.map_cons, List.map_nil, List.map_append, List.getElem?_cons_zero, List.getElem?_cons_succ, List.set_cons_zero, List.set_cons_succ, List.length_cons, List.length_nil, List.take_nil, List.take_zero, List.take_succ_cons, List.cons_append, List.nil_append, List.replicate_zero, List.replicate_succ, if_true, if_false, ite_true, ite_false, Bool.false_eq_true, Bool.not_true, Bool.not_false, reduceIte, Nat.zero_add, Nat.add_zero, Nat.reduceAdd, Nat.reduceSub, Nat.sub_self, decide_true, decide_false, true_and, and_true, List.length_map, dRows_snoc, dRows_len]
      exact ⟨by omega, hk' _ ⟨_, _, _, _, _, _, rfl⟩⟩
  · obtain ⟨y5, y6, y7, y8, y9, y10, rfl⟩ := ht
    simp only [den, initS, endB, dSeq, dSet, dPar, dRet, dRetN, dIfS, dDrop, dFor, dNext, dBreak, dCont, dNever, dRaise, dAug, fAddI, dAppend, dSetIx, dVar, dC, dOp, dUn, dCB, dNil, dCons, dLst, dTup, dTest, dAnd, dOr, dNot, dAndV, dOrV, dNotV, dIf, dChain, dIsi, dIsi2, dYes, fAdd, fSub, fMul, fDiv, fMod, fPow, fNeg, fIx, fLen, fMax, fMin, fSum, fSorted, fAbs, fInt, fList, fTuple, fRepr, gEq, gNe, gLt, gLe, gGt, gGe, gIn, gNotIn, gIs, gIsNot, cD, put, cut, see, sees, look, fz, fzs, fzV, fill, dLc, dSeqI, dRng1, dRng2, dEnum, dZip, dName, dgTup, dgCons, dgNil, dAsg, dCall, dCallS, stAll, mapSt_st, mapSt_no, mapSt_val, mapSt_ow, mapSt_scr, mapSt_ns, noSts, wipeS, dSl, dPart, dNoPart, fSl, dRev, dBM, mCount, mIndex, dStInt, dStTurn, dStPop, dStCells, dStPut, dStTurnPut, dLenScr, tyName, isTyN, isNone, isBool, toInts_ints, dInts_len, List.map_cons, List.map_nil, List.map_append, List.getElem?_cons_zero, List.getElem?_cons_succ, List.set_cons_zero, List.set_cons_succ, List.length_cons, List.length_nil, List.take_nil, List.take_zero, List.take_succ_cons, List.cons_append, List.nil_append, List.replicate_zero, List.replicate_succ, if_true, if_false, ite_true, ite_false, Bool.false_eq_true, Bool.not_true, Bool.not_false, reduceIte, Nat.zero_add, Nat.add_zero, Nat.reduceAdd, Nat.reduceSub, Nat.sub_self, decide_true, decide_false, true_and, and_true, List.length_map]
    exact hk

abbrev nn__law_least : Nat := 5
-- 0:rows 1:best 2:row 3:place 4:k
def B__law_least : (String → Prop) → DSt := fun kx => (dSeq (dSet 1 (dOp fMul (dLst (dCons (dC (.int 0)) dNil)) (dCB fLen (dCons (dOp fIx (dVar 0) (dC (.int 0))) dNil)))) (dSeq (dFor (dSeqI (dRev (dVar 0))) (dName 2) (dSet 1 (dLc (dRng1 (dCons (dCB fLen (dCons (dVar 2) dNil)) dNil)) (dName 3) dYes (dCB fMin (dCons (dLc (dRng2 (dCons (dVar 3) (dCons (dCB fLen (dCons (dVar 2) dNil)) dNil))) (dName 4) dYes (dOp fAdd (dOp fIx (dVar 2) (dVar 4)) (dOp fIx (dVar 1) (dVar 4))) [4]) dNil)) [3]))) (dRet (dOp fIx (dVar 1) (dC (.int 0))))))
def R__law_least : DFn := den false 5 B__law_least
def T__law_least : DFn := fun _ ds k _ => ∃ (W : Nat) (rows : List Row), ds = [.list (dRows rows)] ∧ 0 < W ∧ W ≤ 100 ∧ Wide W rows ∧ rows ≠ [] ∧ k (.int ((bestB W rows).getD 0 0)) 0
theorem imp__law_least : ∀ B ds k kx, ds.length = 1 → T__law_least B ds k kx → R__law_least B ds k kx := fun B ds k kx _ h => by
  obtain ⟨W, rows, rfl, h0, h1, hw, hne, hk⟩ := h
  have sz : sizeLine = 2 ^ 24 := rfl
  simp only [R__law_least, B__law_least, den, initS]
  refine seq_to [.val (.list (dRows rows)), .own (.lst (dInts (bestB W []))), .no, .no, .no] (fun k' hk' => ?_) ?_
  · cases rows with
    | nil => exact absurd rfl hne
    | cons r rs =>
      have hr : r.length = W := hw r (List.mem_cons_self ..)
      have e : atI (dRows (r :: rs)) 0 = some (.list (dInts r)) := by
        have := atI_mapN (fun r : List Int => PyData.list (dInts r)) (r :: rs) (i := 0) (by simp)
        exact this
      have e2 : (List.replicate (W : Int).toNat [PyData.int 0]).flatten = dInts (bestB W []) := by
        simp [bestB, dInts]
      simp only [den, initS, endB, dSeq, dSet, dPar, dRet, dRetN, dIfS, dDrop, dFor, dNext, dBreak, dCont, dNever, dRaise, dAug, fAddI, dAppend, dSetIx, dVar, dC, dOp, dUn, dCB, dNil, dCons, dLst, dTup, dTest, dAnd, dOr, dNot, dAndV, dOrV, dNotV, dIf, dChain, dIsi, dIsi2, dYes, fAdd, fSub, fMul, fDiv, fMod, fPow, fNeg, fIx, fLen, fMax, fMin, fSum, fSorted, fAbs, fInt, fList, fTuple, fRepr, gEq, gNe, gLt, gLe, gGt, gGe, gIn, gNotIn, gIs, gIsNot, cD, put, cut, see, sees, look, fz, fzs, fzV, fill, dLc, dSeqI, dRng1, dRng2, dEnum, dZip, dName, dgTup, dgCons, dgNil, dAsg, dCall, dCallS, stAll, mapSt_st, mapSt_no, mapSt_val, mapSt_ow, mapSt_scr, mapSt_ns, noSts, wipeS, dSl, dPart, dNoPart, fSl, dRev, dBM, mCount, mIndex, dStInt, dStTurn, dStPop, dStCells, dStPut, dStTurnPut, dLenScr, tyName, isTyN, isNone, isBool, toInts_ints, dInts_len, List.map_cons, List.map_nil, List.map_append, List.getElem?_cons_zero, List.getElem?_cons_succ, List.set_cons_zero, List.set_cons_succ, List.length_cons, List.length_nil, List.take_nil, List.take_zero, List.take_succ_cons, List.cons_append, List.nil_append, List.replicate_zero, List.replicate_succ, if_true, if_false, ite_true, ite_false, Bool.false_eq_true, Bool.not_true, Bool.not_false, reduceIte, Nat.zero_add, Nat.add_zero, Nat.reduceAdd, Nat.reduceSub, Nat.sub_self, decide_true, decide_false, true_and, and_true, List.length_map, e, hr, e2]
      exact ⟨by omega, by omega, by omega, by omega, hk'⟩
  refine dSeq_for ?_
  simp only [den, initS, endB, dSeq, dSet, dPar, dRet, dRetN, dIfS, dDrop, dFor, dNext, dBreak, dCont, dNever, dRaise, dAug, fAddI, dAppend, dSetIx, dVar, dC, dOp, dUn, dCB, dNil, dCons, dLst, dTup, dTest, dAnd, dOr, dNot, dAndV, dOrV, dNotV, dIf, dChain, dIsi, dIsi2, dYes, fAdd, fSub, fMul, fDiv, fMod, fPow, fNeg, fIx, fLen, fMax, fMin, fSum, fSorted, fAbs, fInt, fList, fTuple, fRepr, gEq, gNe, gLt, gLe, gGt, gGe, gIn, gNotIn, gIs, gIsNot, cD, put, cut, see, sees, look, fz, fzs, fzV, fill, dLc, dSeqI, dRng1, dRng2, dEnum, dZip, dName, dgTup, dgCons, dgNil, dAsg, dCall, dCallS, stAll, mapSt_st, mapSt_no, mapSt_val, mapSt_ow, mapSt_scr, mapSt_ns, noSts, wipeS, dSl, dPart, dNoPart, fSl, dRev, dBM, mCount, mIndex, dStInt, dStTurn, dStPop, dStCells, dStPut, dStTurnPut, dLenScr, tyName, isTyN, isNone, isBool, toInts_ints, dInts_len, List.map_cons, List.map_nil, List.map_append, List.getElem?_cons_zero, List.getElem?_cons_succ, List.set_cons_zero, List.set_cons_succ, List.length_cons, List.length_nil, List.take_nil, List.take_zero, List.take_succ_cons, List.cons_append, List.nil_append, List.replicate_zero, List.replicate_succ, if_true, if_false, ite_true, ite_false, Bool.false_eq_true, Bool.not_true, Bool.not_false, reduceIte, Nat.zero_add, Nat.add_zero, Nat.reduceAdd, Nat.reduceSub, Nat.sub_self, decide_true, decide_false, true_and, and_true, List.length_map]
  rw [dRows_rev, dRows_map]
  refine for_to _ (fun zs t => ∃ done, rows = zs.reverse ++ done ∧ ∃ y2, t = [.val (.list (dRows rows)), .own (.lst (dInts (bestB W done))), y2, .no, .no]) _ ⟨[], by simp, _, rfl⟩ (fun r zs t ht k' b hk' => ?_) fun t ht => ?_
  · obtain ⟨done, e, y2, rfl⟩ := ht
    have hr : r.length = W := hw r (by rw [e]; simp)
    have e1 : rows = zs.reverse ++ (r :: done) := by rw [e]; simp
    simp only [den, initS, endB, dSeq, dSet, dPar, dRet, dRetN, dIfS, dDrop, dFor, dNext, dBreak, dCont, dNever, dRaise, dAug, fAddI, dAppend, dSetIx, dVar, dC, dOp, dUn, dCB, dNil, dCons, dLst, dTup, dTest, dAnd, dOr, dNot, dAndV, dOrV, dNotV, dIf, dChain, dIsi, dIsi2, dYes, fAdd, fSub, fMul, fDiv, fMod, fPow, fNeg, fIx, fLen, fMax, fMin, fSum, fSorted, fAbs, fInt, fList, fTuple, fRepr, gEq, gNe, gLt, gLe, gGt, gGe, gIn, gNotIn, gIs, gIsNot, cD, put, cut, see, sees, look, fz, fzs, fzV, fill, dLc, dSeqI, dRng1, dRng2, dEnum, dZip, dName, dgTup, dgCons, dgNil, dAsg, dCall, dCallS, stAll, mapSt_st, mapSt_no, mapSt_val, mapSt_ow, mapSt_scr, mapSt_ns, noSts, wipeS, dSl, dPart, dNoPart, fSl, dRev, dBM, mCount, mIndex, dStInt, dStTurn, dStPop, dStCells, dStPut, dStTurnPut, dLenScr, tyName, isTyN, isNone, isBool, toInts_ints, dInts_len, List.map_cons, List.map_nil, List.map_append, List.getElem?_cons_zero, List.getElem?_cons_succ, List.set_cons_zero, List.set_cons_succ, List.length_cons, List.length_nil, List.take_nil, List.take_zero, List.take_succ_cons, List.cons_append, List.nil_append, List.replicate_zero, List.replicate_succ, if_true, if_false, ite_true, ite_false, Bool.false_eq_true, Bool.not_true, Bool.not_false, reduceIte, Nat.zero_add, Nat.add_zero, Nat.reduceAdd, Nat.reduceSub, Nat.sub_self, decide_true, decide_false, true_and, and_true, List.length_map, hr]
    refine ⟨by omega, by rw [rangeL0]; simp; omega, ?_⟩
    rw [rangeL0, Int.toNat_natCast]
    refine lc_map _ (fun p : Nat => .int (lmin ((List.range (W - p)).map fun i => r.getD (p + i) 0 + (bestB W done).getD (p + i) 0))) _ (fun p hp k3 h3 => ?_) ?_
    · rw [List.mem_range] at hp
      simp only [stepLc, den, initS, endB, dSeq, dSet, dPar, dRet, dRetN, dIfS, dDrop, dFor, dNext, dBreak, dCont, dNever, dRaise, dAug, fAddI, dAppend, dSetIx, dVar, dC, dOp, dUn, dCB, dNil, dCons, dLst, dTup, dTest, dAnd, dOr, dNot, dAndV, dOrV, dNotV, dIf, dChain, dIsi, dIsi2, dYes, fAdd, fSub, fMul, fDiv, fMod, fPow, fNeg, fIx, fLen, fMax, fMin, fSum, fSorted, fAbs, fInt, fList, fTuple, fRepr, gEq, gNe, gLt, gLe, gGt, gGe, gIn, gNotIn, gIs, gIsNot, cD, put, cut, see, sees, look, fz, fzs, fzV, fill, dLc, dSeqI, dRng1, dRng2, dEnum, dZip, dName, dgTup, dgCons, dgNil, dAsg, dCall, dCallS, stAll, mapSt_st, mapSt_no, mapSt_val, mapSt_ow, mapSt_scr, mapSt_ns, noSts, wipeS, dSl, dPart, dNoPart, fSl, dRev, dBM, mCount, mIndex, dStInt, dStTurn, dStPop, dStCells, dStPut, dStTurnPut, dLenScr, tyName, isTyN, isNone, isBool, toInts_ints, dInts_len, List.map_cons, List.map_nil, List.map_append, List.getElem?_cons_zero, List.getElem?_cons_succ, List.set_cons_zero, List.set_cons_succ, List.length_cons, List.length_nil, List.take_nil, List.take_zero, List.take_succ_cons, List.cons_append, List.nil_append, List.replicate_zero, List.replicate_succ, if_true, if_false, ite_true, ite_false, Bool.false_eq_true, Bool.not_true, Bool.not_false, reduceIte, Nat.zero_add, Nat.add_zero, Nat.reduceAdd, Nat.reduceSub, Nat.sub_self, decide_true, decide_false, true_and, and_true, List.length_map, hr]
      refine ⟨⟨by omega, by omega, by omega, by omega⟩, by rw [rangeL_]; simp; omega, ?_⟩
      rw [rangeL_, show ((W : Int) - (p : Int)).toNat = W - p by omega]
      refine lc_map _ (fun i : Nat => .int (r.getD (p + i) 0 + (bestB W done).getD (p + i) 0)) _ (fun i hi k5 h5 => ?_) ?_
      · rw [List.mem_range] at hi
        have e7 : (p : Int) + (i : Int) = ((p + i : Nat) : Int) := rfl
        have i1 : p + i < r.length := by omega
        have i2 : p + i < (bestB W done).length := by rw [bestB_len]; omega
        simp only [stepLc, den, initS, endB, dSeq, dSet, dPar, dRet, dRetN, dIfS, dDrop, dFor, dNext, dBreak, dCont, dNever, dRaise, dAug, fAddI, dAppend, dSetIx, dVar, dC, dOp, dUn, dCB, dNil, dCons, dLst, dTup, dTest, dAnd, dOr, dNot, dAndV, dOrV, dNotV, dIf, dChain, dIsi, dIsi2, dYes, fAdd, fSub, fMul, fDiv, fMod, fPow, fNeg, fIx, fLen, fMax, fMin, fSum, fSorted, fAbs, fInt, fList, fTuple, fRepr, gEq, gNe, gLt, gLe, gGt, gGe, gIn, gNotIn, gIs, gIsNot, cD, put, cut, see, sees, look, fz, fzs, fzV, fill, dLc, dSeqI, dRng1, dRng2, dEnum, dZip, dName, dgTup, dgCons, dgNil, dAsg, dCall, dCallS, stAll, mapSt_st, mapSt_no, mapSt_val, mapSt_ow, mapSt_scr, mapSt_ns, noSts, wipeS, dSl, dPart, dNoPart, fSl, dRev, dBM, mCount, mIndex, dStInt, dStTurn, dStPop, dStCells, dStPut, dStTurnPut, dLenScr, tyName, isTyN, isNone, isBool, toInts_ints, dInts_len, List.map_cons, List.map_nil, List.map_append, List.getElem?_cons_zero, List.getElem?_cons_succ, List.set_cons_zero, List.set_cons_succ, List.length_cons, List.length_nil, List.take_nil, List.take_zero, List.take_succ_cons, List.cons_append, List.nil_append, List.replicate_zero, List.replicate_succ, if_true, if_false, ite_true, ite_false, Bool.false_eq_true, Bool.not_true, Bool.not_false, reduceIte, Nat.zero_add, Nat.add_zero, Nat.reduceAdd, Nat.reduceSub, Nat.sub_self, decide_true, decide_false, true_and, and_true, List.length_map, e7, atI_ints i1, atI_ints i2]
        rw [getD_of i1, getD_of i2] at h5
        exact h5
      · rw [map_int]
        simp only [den, initS, endB, dSeq, dSet, dPar, dRet, dRetN, dIfS, dDrop, dFor, dNext, dBreak, dCont, dNever, dRaise, dAug, fAddI, dAppend, dSetIx, dVar, dC, dOp, dUn, dCB, dNil, dCons, dLst, dTup, dTest, dAnd, dOr, dNot, dAndV, dOrV, dNotV, dIf, dChain, dIsi, dIsi2, dYes, fAdd, fSub, fMul, fDiv, fMod, fPow, fNeg, fIx, fLen, fMax, fMin, fSum, fSorted, fAbs, fInt, fList, fTuple, fRepr, gEq, gNe, gLt, gLe, gGt, gGe, gIn, gNotIn, gIs, gIsNot, cD, put, cut, see, sees, look, fz, fzs, fzV, fill, dLc, dSeqI, dRng1, dRng2, dEnum, dZip, dName, dgTup, dgCons, dgNil, dAsg, dCall, dCallS, stAll, mapSt_st, mapSt_no, mapSt_val, mapSt_ow, mapSt_scr, mapSt_ns, noSts, wipeS, dSl, dPart, dNoPart, fSl, dRev, dBM, mCount, mIndex, dStInt, dStTurn, dStPop, dStCells, dStPut, dStTurnPut, dLenScr, tyName, isTyN, isNone, isBool, toInts_ints, dInts_len, List.map_cons, List.map_nil, List.map_append, List.getElem?_cons_zero, List.getElem?_cons_succ, List.set_cons_zero, List.set_cons_succ, List.length_cons, List.length_nil, List.take_nil, List.take_zero, List.take_succ_cons, List.cons_append, List.nil_append, List.replicate_zero, List.replicate_succ, if_true, if_false, ite_true, ite_false, Bool.false_eq_true, Bool.not_true, Bool.not_false, reduceIte, Nat.zero_add, Nat.add_zero, Nat.reduceAdd, Nat.reduceSub, Nat.sub_self, decide_true, decide_false, true_and, and_true, List.length_map]
        refine ⟨?_, h3⟩
        intro z
        have := congrArg List.length z
        simp at this
        omega
    · rw [map_int]
      simp only [den, initS, endB, dSeq, dSet, dPar, dRet, dRetN, dIfS, dDrop, dFor, dNext, dBreak, dCont, dNever, dRaise, dAug, fAddI, dAppend, dSetIx, dVar, dC, dOp, dUn, dCB, dNil, dCons, dLst, dTup, dTest, dAnd, dOr, dNot, dAndV, dOrV, dNotV, dIf, dChain, dIsi, dIsi2, dYes, fAdd, fSub, fMul, fDiv, fMod, fPow, fNeg, fIx, fLen, fMax, fMin, fSum, fSorted, fAbs, fInt, fList, fTuple, fRepr, gEq, gNe, gLt, gLe, gGt, gGe, gIn, gNotIn, gIs, gIsNot, cD, put, cut, see, sees, look, fz, fzs, fzV, fill, dLc, dSeqI, dRng1, dRng2, dEnum, dZip, dName, dgTup, dgCons, dgNil, dAsg, dCall, dCallS, stAll, mapSt_st, mapSt_no, mapSt_val, mapSt_ow, mapSt_scr, mapSt_ns, noSts, wipeS, dSl, dPart, dNoPart, fSl, dRev, dBM, mCount, mIndex, dStInt, dStTurn, dStPop, dStCells, dStPut, dStTurnPut, dLenScr, tyName, isTyN, isNone, isBool, toInts_ints, dInts_len, List.map_cons, List.map_nil, List.map_append, List.getElem?_cons_zero, List.getElem?_cons_succ, List.set_cons_zero, List.set_cons_succ, List.length_cons, List.length_nil, List.take_nil, List.take_zero, List.take_succ_cons, List.cons_append, List.nil_append, List.replicate_zero, List.replicate_succ, if_true, if_false, ite_true, ite_false, Bool.false_eq_true, Bool.not_true, Bool.not_false, reduceIte, Nat.zero_add, Nat.add_zero, Nat.reduceAdd, Nat.reduceSub, Nat.sub_self, decide_true, decide_false, true_and, and_true, List.length_map]
      exact hk' _ ⟨r :: done, e1, _, rfl⟩
  · obtain ⟨done, e, y2, rfl⟩ := ht
    simp only [List.reverse_nil, List.nil_append] at e
    subst e
    have i2 : 0 < (bestB W rows).length := by rw [bestB_len]; omega
    have e3 : atI (dInts (bestB W rows)) 0 = some (.int (bestB W rows)[0]) := atI_ints (i := 0) i2
    simp only [den, initS, endB, dSeq, dSet, dPar, dRet, dRetN, dIfS, dDrop, dFor, dNext, dBreak, dCont, dNever, dRaise, dAug, fAddI, dAppend, dSetIx, dVar, dC, dOp, dUn, dCB, dNil, dCons, dLst, dTup, dTest, dAnd, dOr, dNot, dAndV, dOrV, dNotV, dIf, dChain, dIsi, dIsi2, dYes, fAdd, fSub, fMul, fDiv, fMod, fPow, fNeg, fIx, fLen, fMax, fMin, fSum, fSorted, fAbs, fInt, fList, fTuple, fRepr, gEq, gNe, gLt, gLe, gGt, gGe, gIn, gNotIn, gIs, gIsNot, cD, put, cut, see, sees, look, fz, fzs, fzV, fill, dLc, dSeqI, dRng1, dRng2, dEnum, dZip, dName, dgTup, dgCons, dgNil, dAsg, dCall, dCallS, stAll, mapSt_st, mapSt_no, mapSt_val, mapSt_ow, mapSt_scr, mapSt_ns, noSts, wipeS, dSl, dPart, dNoPart, fSl, dRev, dBM, mCount, mIndex, dStInt, dStTurn, dStPop, dStCells, dStPut, dStTurnPut, dLenScr, tyName, isTyN, isNone, isBool, toInts_ints, dInts_len, List.map_cons, List.map_nil, List.map_append, List.getElem?_cons_zero, List.getElem?_cons_succ, List.set_cons_zero, List.set_cons_succ, List.length_cons, List.length_nil, List.take_nil, List.take_zero, List.take_succ_cons, List.cons_append, List.nil_append, List.replicate_zero, List.replicate_succ, if_true, if_false, ite_true, ite_false, Bool.false_eq_true, Bool.not_true, Bool.not_false, reduceIte, Nat.zero_add, Nat.add_zero, Nat.reduceAdd, Nat.reduceSub, Nat.sub_self, decide_true, decide_false, true_and, and_true, List.length_map, e3]
    rw [getD_of i2] at hk
    exact hk

abbrev nn__law_all_least : Nat := 6
-- 0:rows 1:lists 2:row 3:longer 4:places 5:place
def B__law_all_least : (String → Prop) → DSt := fun kx => (dSeq (dSet 1 (dLst (dCons (dLst dNil) dNil))) (dSeq (dFor (dSeqI (dVar 0)) (dName 2) (dSeq (dSet 3 (dLst dNil)) (dSeq (dFor (dSeqI (dVar 1)) (dName 4) (dSet 3 (dOp fAdd (dVar 3) (dLc (dRng1 (dCons (dCB fLen (dCons (dVar 2) dNil)) dNil)) (dName 5) (dOr (dTest (dOp (cD gEq) (dVar 4) (dLst dNil))) (dTest (dOp (cD gGe) (dVar 5) (dOp fIx (dVar 4) (dUn fNeg (dC (.int 1))))))) (dOp fAdd (dVar 4) (dLst (dCons (dVar 5) dNil))) [5])))) (dSet 1 (dVar 3))))) (dRet (dCB fMin (dCons (dLc (dSeqI (dVar 1)) (dName 4) dYes (dCB fSum (dCons (dLc (dZip (dCons (dVar 0) (dCons (dVar 4) dNil))) (dgTup 2 (dgCons (dName 2) (dgCons (dName 5) dgNil))) dYes (dOp fIx (dVar 2) (dVar 5)) [2, 5]) dNil)) [4]) dNil)))))
def R__law_all_least : DFn := den false 6 B__law_all_least
def dLists (ls : List (List Nat)) : List D := ls.map fun es => .list (dNats es)
def extL (W : Nat) (es : List Nat) : List (List Nat) := ((List.range W).filter (okAfter es)).map fun p => es ++ [p]
theorem ext_le (W : Nat) (es : List Nat) : (extL W es).length ≤ W := by
  rw [extL, List.length_map]
  exact Nat.le_trans (List.length_filter_le _ _) (by simp)
theorem exts_le (W : Nat) : ∀ ls : List (List Nat), (ls.flatMap (extL W)).length ≤ ls.length * W
  | [] => by simp
  | es :: ls => by
    have h1 := exts_le W ls
    have h2 := ext_le W es
    rw [List.flatMap_cons, List.length_append, List.length_cons, Nat.add_mul, Nat.one_mul]
    omega
def T__law_all_least : DFn := fun _ ds k _ => ∃ (W : Nat) (rows : List Row), ds = [.list (dRows rows)] ∧ 0 < W ∧ W ≤ 9 ∧ Wide W rows ∧ rows.length ≤ 4 ∧ k (.int (lmin ((allL W rows).map (pcost rows)))) 0
theorem imp__law_all_least : ∀ B ds k kx, ds.length = 1 → T__law_all_least B ds k kx → R__law_all_least B ds k kx := fun B ds k kx _ h => by
  obtain ⟨W, rows, rfl, h0, h1, hw, h4, hk⟩ := h
  have sz : sizeLine = 2 ^ 24 := rfl
  have big : ∀ (done : List Row), done.length ≤ 4 → (allL W done).length ≤ 9 ^ 4 := fun done hd =>
    Nat.le_trans (all_len done) (Nat.le_trans (Nat.pow_le_pow_left h1 _) (Nat.pow_le_pow_right (by decide) hd))
  simp only [R__law_all_least, B__law_all_least, den, initS]
  refine seq_to [.val (.list (dRows rows)), .own (.lst (dLists [[]])), .no, .no, .no, .no] (fun k' hk' => ?_) ?_
  · simp only [den, initS, endB, dSeq, dSet, dPar, dRet, dRetN, dIfS, dDrop, dFor, dNext, dBreak, dCont, dNever, dRaise, dAug, fAddI, dAppend, dSetIx, dVar, dC, dOp, dUn, dCB, dNil, dCons, dLst, dTup, dTest, dAnd, dOr, dNot, dAndV, dOrV, dNotV, dIf, dChain, dIsi, dIsi2, dYes, fAdd, fSub, fMul, fDiv, fMod, fPow, fNeg, fIx, fLen, fMax, fMin, fSum, fSorted, fAbs, fInt, fList, fTuple, fRepr, gEq, gNe, gLt, gLe, gGt, gGe, gIn, gNotIn, gIs, gIsNot, cD, put, cut, see, sees, look, fz, fzs, fzV, fill, dLc, dSeqI, dRng1, dRng2, dEnum, dZip, dName, dgTup, dgCons, dgNil, dAsg, dCall, dCallS, stAll, mapSt_st, mapSt_no, mapSt_val, mapSt_ow, mapSt_scr, mapSt_ns, noSts, wipeS, dSl, dPart, dNoPart, fSl, dRev, dBM, mCount, mIndex, dStInt, dStTurn, dStPop, dStCells, dStPut, dStTurnPut, dLenScr, tyName, isTyN, isNone, isBool, toInts_ints, dInts_len, List.map_cons, List.map_nil, List.map_append, List.getElem?_cons_zero, List.getElem?_cons_succ, List.set_cons_zero, List.set_cons_succ, List.length_cons, List.length_nil, List.take_nil, List.take_zero, List.take_succ_cons, List.cons_append, List.nil_append, List.replicate_zero, List.replicate_succ, if_true, if_false, ite_true, ite_false, Bool.false_eq_true, Bool.not_true, Bool.not_false, reduceIte, Nat.zero_add, Nat.add_zero, Nat.reduceAdd, Nat.reduceSub, Nat.sub_self, decide_true, decide_false, true_and, and_true, List.length_map]
    exact ⟨Nat.zero_le _, by omega, hk'⟩
  refine dSeq_for ?_
  simp only [den, initS, endB, dSeq, dSet, dPar, dRet, dRetN, dIfS, dDrop, dFor, dNext, dBreak, dCont, dNever, dRaise, dAug, fAddI, dAppend, dSetIx, dVar, dC, dOp, dUn, dCB, dNil, dCons, dLst, dTup, dTest, dAnd, dOr, dNot, dAndV, dOrV, dNotV, dIf, dChain, dIsi, dIsi2, dYes, fAdd, fSub, fMul, fDiv, fMod, fPow, fNeg, fIx, fLen, fMax, fMin, fSum, fSorted, fAbs, fInt, fList, fTuple, fRepr, gEq, gNe, gLt, gLe, gGt, gGe, gIn, gNotIn, gIs, gIsNot, cD, put, cut, see, sees, look, fz, fzs, fzV, fill, dLc, dSeqI, dRng1, dRng2, dEnum, dZip, dName, dgTup, dgCons, dgNil, dAsg, dCall, dCallS, stAll, mapSt_st, mapSt_no, mapSt_val, mapSt_ow, mapSt_scr, mapSt_ns, noSts, wipeS, dSl, dPart, dNoPart, fSl, dRev, dBM, mCount, mIndex, dStInt, dStTurn, dStPop, dStCells, dStPut, dStTurnPut, dLenScr, tyName, isTyN, isNone, isBool, toInts_ints, dInts_len, List.map_cons, List.map_nil, List.map_append, List.getElem?_cons_zero, List.getElem?_cons_succ, List.set_cons_zero, List.set_cons_succ, List.length_cons, List.length_nil, List.take_nil, List.take_zero, List.take_succ_cons, List.cons_append, List.nil_append, List.replicate_zero, List.replicate_succ, if_true, if_false, ite_true, ite_false, Bool.false_eq_true, Bool.not_true, Bool.not_false, reduceIte, Nat.zero_add, Nat.add_zero, Nat.reduceAdd, Nat.reduceSub, Nat.sub_self, decide_true, decide_false, true_and, and_true, List.length_map]
  rw [dRows_map]
  refine for_to _ (fun zs t => ∃ done, rows = done ++ zs ∧ ∃ y1 y2 y3 y4, (y1 = .own (.lst (dLists (allL W done))) ∨ y1 = .val (.list (dLists (allL W done)))) ∧ t = [.val (.list (dRows rows)), y1, y2, y3, y4, .no]) _ ⟨[], rfl, _, _, _, _, .inl rfl, rfl⟩ (fun r zs t ht k' b hk' => ?_) fun t ht => ?_
  · obtain ⟨done, e, y1, y2, y3, y4, hy, rfl⟩ := ht
    have hr : r.length = W := hw r (by rw [e]; simp)
    have e1 : rows = (done ++ [r]) ++ zs := by rw [e]; simp
    have hd : done.length + 1 ≤ 4 := by
      rw [e] at h4
      simp at h4
      omega
    simp only [dName, List.set_cons_succ, List.set_cons_zero]
    refine seq_to [.val (.list (dRows rows)), y1, .val (.list (dInts r)), .own (.lst []), y4, .no] (fun k2 h2 => ?_) ?_
    · simp only [den, initS, endB, dSeq, dSet, dPar, dRet, dRetN, dIfS, dDrop, dFor, dNext, dBreak, dCont, dNever, dRaise, dAug, fAddI, dAppend, dSetIx, dVar, dC, dOp, dUn, dCB, dNil, dCons, dLst, dTup, dTest, dAnd, dOr, dNot, dAndV, dOrV, dNotV, dIf, dChain, dIsi, dIsi2, dYes, fAdd, fSub, fMul, fDiv, fMod, fPow, fNeg, fIx, fLen, fMax, fMin, fSum, fSorted, fAbs, fInt, fList, fTuple, fRepr, gEq, gNe, gLt, gLe, gGt, gGe, gIn, gNotIn, gIs, gIsNot, cD, put, cut, see, sees, look, fz, fzs, fzV, fill, dLc, dSeqI, dRng1, dRng2, dEnum, dZip, dName, dgTup, dgCons, dgNil, dAsg, dCall, dCallS, stAll, mapSt_st, mapSt_no, mapSt_val, mapSt_ow, mapSt_scr, mapSt_ns, noSts, wipeS, dSl, dPart, dNoPart, fSl, dRev, dBM, mCount, mIndex, dStInt, dStTurn, dStPop, dStCells, dStPut, dStTurnPut, dLenScr, tyName, isTyN, isNone, isBool, toInts_ints, dInts_len, List.map_cons, List.map_nil, List.map_append, List.getElem?_cons_zero, List.getElem?_cons_succ, List.set_cons_zero, List.set_cons_succ, List.length_cons, List.length_nil, List.take_nil, List.take_zero, List.take_succ_cons, List.cons_append, List.nil_append, List.replicate_zero, List.replicate_succ, if_true, if_false, ite_true, ite_false, Bool.false_eq_true, Bool.not_true, Bool.not_false, reduceIte, Nat.zero_add, Nat.add_zero, Nat.reduceAdd, Nat.reduceSub, Nat.sub_self, decide_true, decide_false, true_and, and_true, List.length_map]
      exact ⟨Nat.zero_le _, h2⟩
    refine seq_toP (fun t => ∃ y4, t = [.val (.list (dRows rows)), .val (.list (dLists (allL W done))), .val (.list (dInts r)), .own (.lst (dLists (allL W (done ++ [r])))), y4, .no]) (fun k2 h2 => ?_) fun t ht => ?_
    · have go : forGo (dName 4) (dSet 3 (dOp fAdd (dVar 3) (dLc (dRng1 (dCons (dCB fLen (dCons (dVar 2) dNil)) dNil)) (dName 5) (dOr (dTest (dOp (cD gEq) (dVar 4) (dLst dNil))) (dTest (dOp (cD gGe) (dVar 5) (dOp fIx (dVar 4) (dUn fNeg (dC (.int 1))))))) (dOp fAdd (dVar 4) (dLst (dCons (dVar 5) dNil))) [5]))) ⟨k2, fun d s => k d 0, b, k'⟩ (dLists (allL W done)) [.val (.list (dRows rows)), .val (.list (dLists (allL W done))), .val (.list (dInts r)), .own (.lst []), y4, .no] := by
        refine for_to _ (fun ws t => ∃ pre, allL W done = pre ++ ws ∧ ∃ y4, t = [.val (.list (dRows rows)), .val (.list (dLists (allL W done))), .val (.list (dInts r)), .own (.lst (dLists (pre.flatMap (extL W)))), y4, .no]) _ ⟨[], rfl, _, rfl⟩ (fun es ws t ht k3 b3 h3 => ?_) fun t ht => ?_
        · obtain ⟨pre, e3, y4, rfl⟩ := ht
          have hes : es ∈ allL W done := by rw [e3]; simp
          have hm := (all_mem done es).mp hes
          simp only [den, initS, endB, dSeq, dSet, dPar, dRet, dRetN, dIfS, dDrop, dFor, dNext, dBreak, dCont, dNever, dRaise, dAug, fAddI, dAppend, dSetIx, dVar, dC, dOp, dUn, dCB, dNil, dCons, dLst, dTup, dTest, dAnd, dOr, dNot, dAndV, dOrV, dNotV, dIf, dChain, dIsi, dIsi2, dYes, fAdd, fSub, fMul, fDiv, fMod, fPow, fNeg, fIx, fLen, fMax, fMin, fSum, fSorted, fAbs, fInt, fList, fTuple, fRepr, gEq, gNe, gLt, gLe, gGt, gGe, gIn, gNotIn, gIs, gIsNot, cD, put, cut, see, sees, look, fz, fzs, fzV, fill, dLc, dSeqI, dRng1, dRng2, dEnum, dZip, dName, dgTup, dgCons, dgNil, dAsg, dCall, dCallS, stAll, mapSt_st, mapSt_no, mapSt_val, mapSt_ow, mapSt_scr, mapSt_ns, noSts, wipeS, dSl, dPart, dNoPart, fSl, dRev, dBM, mCount, mIndex, dStInt, dStTurn, dStPop, dStCells, dStPut, dStTurnPut, dLenScr, tyName, isTyN, isNone, isBool, toInts_ints, dInts_len, List.map_cons, List.map_nil, List.map_append, List.getElem?_cons_zero, List.getElem?_cons_succ, List.set_cons_zero, List.set_cons_succ, List.length_cons, List.length_nil, List.take_nil, List.take_zero, List.take_succ_cons, List.cons_append, List.nil_append, List.replicate_zero, List.replicate_succ, if_true, if_false, ite_true, ite_false, Bool.false_eq_true, Bool.not_true, Bool.not_false, reduceIte, Nat.zero_add, Nat.add_zero, Nat.reduceAdd, Nat.reduceSub, Nat.sub_self, decide_true, decide_false, true_and, and_true, List.length_map, hr]
          refine ⟨by omega, by rw [rangeL0]; simp; omega, ?_⟩
          rw [rangeL0, Int.toNat_natCast]
          refine lc_filter _ (okAfter es) (fun p : Nat => .list (dNats (es ++ [p]))) _ (fun p hp k5 h5 => ?_) ?_
          · simp only [stepLc, den, initS, endB, dSeq, dSet, dPar, dRet, dRetN, dIfS, dDrop, dFor, dNext, dBreak, dCont, dNever, dRaise, dAug, fAddI, dAppend, dSetIx, dVar, dC, dOp, dUn, dCB, dNil, dCons, dLst, dTup, dTest, dAnd, dOr, dNot, dAndV, dOrV, dNotV, dIf, dChain, dIsi, dIsi2, dYes, fAdd, fSub, fMul, fDiv, fMod, fPow, fNeg, fIx, fLen, fMax, fMin, fSum, fSorted, fAbs, fInt, fList, fTuple, fRepr, gEq, gNe, gLt, gLe, gGt, gGe, gIn, gNotIn, gIs, gIsNot, cD, put, cut, see, sees, look, fz, fzs, fzV, fill, dLc, dSeqI, dRng1, dRng2, dEnum, dZip, dName, dgTup, dgCons, dgNil, dAsg, dCall, dCallS, stAll, mapSt_st, mapSt_no, mapSt_val, mapSt_ow, mapSt_scr, mapSt_ns, noSts, wipeS, dSl, dPart, dNoPart, fSl, dRev, dBM, mCount, mIndex, dStInt, dStTurn, dStPop, dStCells, dStPut, dStTurnPut, dLenScr, tyName, isTyN, isNone, isBool, toInts_ints, dInts_len, List.map_cons, List.map_nil, List.map_append, List.getElem?_cons_zero, List.getElem?_cons_succ, List.set_cons_zero, List.set_cons_succ, List.length_cons, List.length_nil, List.take_nil, List.take_zero, List.take_succ_cons, List.cons_append, List.nil_append, List.replicate_zero, List.replicate_succ, if_true, if_false, ite_true, ite_false, Bool.false_eq_true, Bool.not_true, Bool.not_false, reduceIte, Nat.zero_add, Nat.add_zero, Nat.reduceAdd, Nat.reduceSub, Nat.sub_self, decide_true, decide_false, true_and, and_true, List.length_map, eqv_nil]
            refine ⟨Nat.zero_le _, by rw [dNats_ints]; exact shaped_ints _, shaped_ints [], ?_⟩
            have e8 : dNats es ++ [PyData.int (p : Int)] = dNats (es ++ [p]) := by simp [dNats]
            have le : (dNats es).length + 1 ≤ sizeLine := by rw [dNats_len, hm.1]; omega
            cases q : es.getLast? with
            | none =>
              have e0 := List.getLast?_eq_none_iff.mp q
              have e9 : okAfter es p = true := okAfter_iff.mpr (by rw [q]; simp)
              rw [e9] at h5
              have e10 : (dNats es).isEmpty = true := by rw [e0]; rfl
              simp only [e10, den, initS, endB, dSeq, dSet, dPar, dRet, dRetN, dIfS, dDrop, dFor, dNext, dBreak, dCont, dNever, dRaise, dAug, fAddI, dAppend, dSetIx, dVar, dC, dOp, dUn, dCB, dNil, dCons, dLst, dTup, dTest, dAnd, dOr, dNot, dAndV, dOrV, dNotV, dIf, dChain, dIsi, dIsi2, dYes, fAdd, fSub, fMul, fDiv, fMod, fPow, fNeg, fIx, fLen, fMax, fMin, fSum, fSorted, fAbs, fInt, fList, fTuple, fRepr, gEq, gNe, gLt, gLe, gGt, gGe, gIn, gNotIn, gIs, gIsNot, cD, put, cut, see, sees, look, fz, fzs, fzV, fill, dLc, dSeqI, dRng1, dRng2, dEnum, dZip, dName, dgTup, dgCons, dgNil, dAsg, dCall, dCallS, stAll, mapSt_st, mapSt_no, mapSt_val, mapSt_ow, mapSt_scr, mapSt_ns, noSts, wipeS, dSl, dPart, dNoPart, fSl, dRev, dBM, mCount, mIndex, dStInt, dStTurn, dStPop, dStCells, dStPut, dStTurnPut, dLenScr, tyName, isTyN, isNone, isBool, toInts_ints, dInts_len, List.map_cons, List.map_nil, List.map_append, List.getElem?_cons_zero, List.getElem?_cons_succ, List.set_cons_zero, List.set_cons_succ, List.length_cons, List.length_nil, List.take_nil, List.take_zero, List.take_succ_cons, List.cons_append, List.nil_append, List.replicate_zero, List.replicate_succ, if_true, if_false, ite_true, ite_false, Bool.false_eq_true, Bool.not_true, Bool.not_false, reduceIte, Nat.zero_add, Nat.add_zero, Nat.reduceAdd, Nat.reduceSub, Nat.sub_self, decide_true, decide_false, true_and, and_true, List.length_map, e8]
              refine ⟨by omega, le, ?_⟩
              simpa using h5
            | some x =>
              obtain ⟨init, e0⟩ := List.getLast?_eq_some_iff.mp q
              have e10 : (dNats es).isEmpty = false := by rw [e0]; simp [dNats]
              have e11 : atI (dNats es) (-1) = some (.int (x : Int)) := by
                rw [e0, show dNats (init ++ [x]) = dNats init ++ [.int (x : Int)] by simp [dNats]]
                exact atI_last _ _
              simp only [e10, e11, den, initS, endB, dSeq, dSet, dPar, dRet, dRetN, dIfS, dDrop, dFor, dNext, dBreak, dCont, dNever, dRaise, dAug, fAddI, dAppend, dSetIx, dVar, dC, dOp, dUn, dCB, dNil, dCons, dLst, dTup, dTest, dAnd, dOr, dNot, dAndV, dOrV, dNotV, dIf, dChain, dIsi, dIsi2, dYes, fAdd, fSub, fMul, fDiv, fMod, fPow, fNeg, fIx, fLen, fMax, fMin, fSum, fSorted, fAbs, fInt, fList, fTuple, fRepr, gEq, gNe, gLt, gLe, gGt, gGe, gIn, gNotIn, gIs, gIsNot, cD, put, cut, see, sees, look, fz, fzs, fzV, fill, dLc, dSeqI, dRng1, dRng2, dEnum, dZip, dName, dgTup, dgCons, dgNil, dAsg, dCall, dCallS, stAll, mapSt_st, mapSt_no, mapSt_val, mapSt_ow, mapSt_scr, mapSt_ns, noSts, wipeS, dSl, dPart, dNoPart, fSl, dRev, dBM, mCount, mIndex, dStInt, dStTurn, dStPop, dStCells, dStPut, dStTurnPut, dLenScr, tyName, isTyN, isNone, isBool, toInts_ints, dInts_len, List.map_cons, List.map_nil, List.map_append, List.getElem?_cons_zero, List.getElem?_cons_succ, List.set_cons_zero, List.set_cons_succ, List.length_cons, List.length_nil, List.take_nil, List.take_zero, List.take_succ_cons, List.cons_append, List.nil_append, List.replicate_zero, List.replicate_succ, if_true, if_false, ite_true, ite_false, Bool.false_eq_true, Bool.not_true, Bool.not_false, reduceIte, Nat.zero_add, Nat.add_zero, Nat.reduceAdd, Nat.reduceSub, Nat.sub_self, decide_true, decide_false, true_and, and_true, List.length_map, e8]
              by_cases hc : x ≤ p
              · have e9 : okAfter es p = true := okAfter_iff.mpr (by rw [q]; intro z hz; cases hz; exact hc)
                rw [e9] at h5
                rw [if_pos (decide_eq_true (by omega))]
                refine ⟨by omega, le, ?_⟩
                simpa using h5
              · have e9 : okAfter es p = false := by
                  rw [Bool.eq_false_iff]
                  intro z
                  exact hc (okAfter_iff.mp z x q)
                rw [e9] at h5
                rw [if_neg (by simp; omega)]
                simpa using h5
          · have e8 : (((List.range W).filter (okAfter es)).map fun p : Nat => PyData.list (dNats (es ++ [p]))) = dLists (extL W es) := by simp [dLists, extL]
            rw [e8]
            have e9 : dLists (pre.flatMap (extL W)) ++ dLists (extL W es) = dLists ((pre ++ [es]).flatMap (extL W)) := by simp [dLists]
            have l1 := exts_le W pre
            have l2 := ext_le W es
            have l3 := big done (by omega)
            have l4 : pre.length ≤ 9 ^ 4 := by
              rw [e3] at l3
              simp at l3 ⊢
              omega
            have l5 : pre.length * W ≤ 9 ^ 4 * 9 := Nat.mul_le_mul l4 h1
            simp only [den, initS, endB, dSeq, dSet, dPar, dRet, dRetN, dIfS, dDrop, dFor, dNext, dBreak, dCont, dNever, dRaise, dAug, fAddI, dAppend, dSetIx, dVar, dC, dOp, dUn, dCB, dNil, dCons, dLst, dTup, dTest, dAnd, dOr, dNot, dAndV, dOrV, dNotV, dIf, dChain, dIsi, dIsi2, dYes, fAdd, fSub, fMul, fDiv, fMod, fPow, fNeg, fIx, fLen, fMax, fMin, fSum, fSorted, fAbs, fInt, fList, fTuple, fRepr, gEq, gNe, gLt, gLe, gGt, gGe, gIn, gNotIn, gIs, gIsNot, cD, put, cut, see, sees, look, fz, fzs, fzV, fill, dLc, dSeqI, dRng1, dRng2, dEnum, dZip, dName, dgTup, dgCons, dgNil, dAsg, dCall, dCallS, stAll, mapSt_st, mapSt_no, mapSt_val, mapSt_ow, mapSt_scr, mapSt_ns, noSts, wipeS, dSl, dPart, dNoPart, fSl, dRev, dBM, mCount, mIndex, dStInt, dStTurn, dStPop, dStCells, dStPut, dStTurnPut, dLenScr, tyName, isTyN, isNone, isBool, toInts_ints, dInts_len, List.map_cons, List.map_nil, List.map_append, List.getElem?_cons_zero, List.getElem?_cons_succ, List.set_cons_zero, List.set_cons_succ, List.length_cons, List.length_nil, List.take_nil, List.take_zero, List.take_succ_cons, List.cons_append, List.nil_append, List.replicate_zero, List.replicate_succ, if_true, if_false, ite_true, ite_false, Bool.false_eq_true, Bool.not_true, Bool.not_false, reduceIte, Nat.zero_add, Nat.add_zero, Nat.reduceAdd, Nat.reduceSub, Nat.sub_self, decide_true, decide_false, true_and, and_true, List.length_map, e9]
            refine ⟨by simp only [dLists, List.length_map]; omega, h3 _ ⟨pre ++ [es], by rw [e3]; simp, _, rfl⟩⟩
        · obtain ⟨pre, e3, y4, rfl⟩ := ht
          rw [List.append_nil] at e3
          rw [← e3]
          refine h2 _ ⟨y4, ?_⟩
          rw [all_snoc]
          rfl
      rcases hy with rfl | rfl <;> simp only [den, initS, endB, dSeq, dSet, dPar, dRet, dRetN, dIfS, dDrop, dFor, dNext, dBreak, dCont, dNever, dRaise, dAug, fAddI, dAppend, dSetIx, dVar, dC, dOp, dUn, dCB, dNil, dCons, dLst, dTup, dTest, dAnd, dOr, dNot, dAndV, dOrV, dNotV, dIf, dChain, dIsi, dIsi2, dYes, fAdd, fSub, fMul, fDiv, fMod, fPow, fNeg, fIx, fLen, fMax, fMin, fSum, fSorted, fAbs, fInt, fList, fTuple, fRepr, gEq, gNe, gLt, gLe, gGt, gGe, gIn, gNotIn, gIs, gIsNot, cD, put, cut, see, sees, look, fz, fzs, fzV, fill, dLc, dSeqI, dRng1, dRng2, dEnum, dZip, dName, dgTup, dgCons, dgNil, dAsg, dCall, dCallS, stAll, mapSt_st, mapSt_no, mapSt_val, mapSt_ow, mapSt_scr, mapSt_ns, noSts, wipeS, dSl, dPart, dNoPart, fSl, dRev, dBM, mCount, mIndex, dStInt, dStTurn, dStPop, dStCells, dStPut, dStTurnPut, dLenScr, tyName, isTyN, isNone, isBool, toInts_ints, dInts_len, List.map_cons, List.map_nil, List.map_append, List.getElem?_cons_zero, List.getElem?_cons_succ, List.set_cons_zero, List.set_cons_succ, List.length_cons, List.length_nil, List.take_nil, List.take_zero, List.take_succ_cons, List.cons_append, List.nil_append, List.replicate_zero, List.replicate_succ, if_true, if_false, ite_true, ite_false, Bool.false_eq_true, Bool.not_true, Bool.not_false, reduceIte, Nat.zero_add, Nat.add_zero, Nat.reduceAdd, Nat.reduceSub, Nat.sub_self, decide_true, decide_false, true_and, and_true, List.length_map] <;> exact go
    · obtain ⟨y4, rfl⟩ := ht
      simp only [den, initS, endB, dSeq, dSet, dPar, dRet, dRetN, dIfS, dDrop, dFor, dNext, dBreak, dCont, dNever, dRaise, dAug, fAddI, dAppend, dSetIx, dVar, dC, dOp, dUn, dCB, dNil, dCons, dLst, dTup, dTest, dAnd, dOr, dNot, dAndV, dOrV, dNotV, dIf, dChain, dIsi, dIsi2, dYes, fAdd, fSub, fMul, fDiv, fMod, fPow, fNeg, fIx, fLen, fMax, fMin, fSum, fSorted, fAbs, fInt, fList, fTuple, fRepr, gEq, gNe, gLt, gLe, gGt, gGe, gIn, gNotIn, gIs, gIsNot, cD, put, cut, see, sees, look, fz, fzs, fzV, fill, dLc, dSeqI, dRng1, dRng2, dEnum, dZip, dName, dgTup, dgCons, dgNil, dAsg, dCall, dCallS, stAll, mapSt_st, mapSt_no, mapSt_val, mapSt_ow, mapSt_scr, mapSt_ns, noSts, wipeS, dSl, dPart, dNoPart, fSl, dRev, dBM, mCount, mIndex, dStInt, dStTurn, dStPop, dStCells, dStPut, dStTurnPut, dLenScr, tyName, isTyN, isNone, isBool, toInts_ints, dInts_len, List.map_cons, List.map_nil, List.map_append, List.getElem?_cons_zero, List.getElem?_cons_succ, List.set_cons_zero, List.set_cons_succ, List.length_cons, List.length_nil, List.take_nil, List.take_zero, List.take_succ_cons, List.cons_append, List.nil_append, List.replicate_zero, List.replicate_succ, if_true, if_false, ite_true, ite_false, Bool.false_eq_true, Bool.not_true, Bool.not_false, reduceIte, Nat.zero_add, Nat.add_zero, Nat.reduceAdd, Nat.reduceSub, Nat.sub_self, decide_true, decide_false, true_and, and_true, List.length_map]
      exact hk' _ ⟨done ++ [r], e1, _, _, _, _, .inr rfl, rfl⟩
  · obtain ⟨done, e, y1, y2, y3, y4, hy, rfl⟩ := ht
    rw [List.append_nil] at e
    subst e
    have go : lcGo (dName 4) dYes (dCB fSum (dCons (dLc (dZip (dCons (dVar 0) (dCons (dVar 4) dNil))) (dgTup 2 (dgCons (dName 2) (dgCons (dName 5) dgNil))) dYes (dOp fIx (dVar 2) (dVar 5)) [2, 5]) dNil)) [4] (dLists (allL W rows)) [] [.val (.list (dRows rows)), .val (.list (dLists (allL W rows))), y2, y3, .no, .no] fun acc s => match toInts acc with
        | some ns => ns ≠ [] ∧ k (.int (lmin ns)) 0
        | none => False := by
      refine lc_mapS (fun t => ∃ y2 y3, t = [.val (.list (dRows rows)), .val (.list (dLists (allL W rows))), y2, y3, .no, .no]) _ (fun es => .int (pcost rows es)) _ ⟨_, _, rfl⟩ (fun es hes t ht k3 h3 => ?_) fun t ht => ?_
      · obtain ⟨y2, y3, rfl⟩ := ht
        have hm := (all_mem rows es).mp hes
        simp only [stepLc, den, initS, endB, dSeq, dSet, dPar, dRet, dRetN, dIfS, dDrop, dFor, dNext, dBreak, dCont, dNever, dRaise, dAug, fAddI, dAppend, dSetIx, dVar, dC, dOp, dUn, dCB, dNil, dCons, dLst, dTup, dTest, dAnd, dOr, dNot, dAndV, dOrV, dNotV, dIf, dChain, dIsi, dIsi2, dYes, fAdd, fSub, fMul, fDiv, fMod, fPow, fNeg, fIx, fLen, fMax, fMin, fSum, fSorted, fAbs, fInt, fList, fTuple, fRepr, gEq, gNe, gLt, gLe, gGt, gGe, gIn, gNotIn, gIs, gIsNot, cD, put, cut, see, sees, look, fz, fzs, fzV, fill, dLc, dSeqI, dRng1, dRng2, dEnum, dZip, dName, dgTup, dgCons, dgNil, dAsg, dCall, dCallS, stAll, mapSt_st, mapSt_no, mapSt_val, mapSt_ow, mapSt_scr, mapSt_ns, noSts, wipeS, dSl, dPart, dNoPart, fSl, dRev, dBM, mCount, mIndex, dStInt, dStTurn, dStPop, dStCells, dStPut, dStTurnPut, dLenScr, tyName, isTyN, isNone, isBool, toInts_ints, dInts_len, List.map_cons, List.map_nil, List.map_append, List.getElem?_cons_zero, List.getElem?_cons_succ, List.set_cons_zero, List.set_cons_succ, List.length_cons, List.length_nil, List.take_nil, List.take_zero, List.take_succ_cons, List.cons_append, List.nil_append, List.replicate_zero, List.replicate_succ, if_true, if_false, ite_true, ite_false, Bool.false_eq_true, Bool.not_true, Bool.not_false, reduceIte, Nat.zero_add, Nat.add_zero, Nat.reduceAdd, Nat.reduceSub, Nat.sub_self, decide_true, decide_false, true_and, and_true, List.length_map]
        rw [dRows_map, dNats, zipL_map]
        refine ⟨by rw [List.length_map, List.length_zip]; omega, lc_map _ (fun q : Row × Nat => .int (q.1.getD q.2 0)) _ (fun q hq k5 h5 => ?_) ?_⟩
        · have hq2 := zip_ok hw hm.2 q hq
          simp only [stepLc, den, initS, endB, dSeq, dSet, dPar, dRet, dRetN, dIfS, dDrop, dFor, dNext, dBreak, dCont, dNever, dRaise, dAug, fAddI, dAppend, dSetIx, dVar, dC, dOp, dUn, dCB, dNil, dCons, dLst, dTup, dTest, dAnd, dOr, dNot, dAndV, dOrV, dNotV, dIf, dChain, dIsi, dIsi2, dYes, fAdd, fSub, fMul, fDiv, fMod, fPow, fNeg, fIx, fLen, fMax, fMin, fSum, fSorted, fAbs, fInt, fList, fTuple, fRepr, gEq, gNe, gLt, gLe, gGt, gGe, gIn, gNotIn, gIs, gIsNot, cD, put, cut, see, sees, look, fz, fzs, fzV, fill, dLc, dSeqI, dRng1, dRng2, dEnum, dZip, dName, dgTup, dgCons, dgNil, dAsg, dCall, dCallS, stAll, mapSt_st, mapSt_no, mapSt_val, mapSt_ow, mapSt_scr, mapSt_ns, noSts, wipeS, dSl, dPart, dNoPart, fSl, dRev, dBM, mCount, mIndex, dStInt, dStTurn, dStPop, dStCells, dStPut, dStTurnPut, dLenScr, tyName, isTyN, isNone, isBool, toInts_ints, dInts_len, List.map_cons, List.map_nil, List.map_append, List.getElem?_cons_zero, List.getElem?_cons_succ, List.set_cons_zero, List.set_cons_succ, List.length_cons, List.length_nil, List.take_nil, List.take_zero, List.take_succ_cons, List.cons_append, List.nil_append, List.replicate_zero, List.replicate_succ, if_true, if_false, ite_true, ite_false, Bool.false_eq_true, Bool.not_true, Bool.not_false, reduceIte, Nat.zero_add, Nat.add_zero, Nat.reduceAdd, Nat.reduceSub, Nat.sub_self, decide_true, decide_false, true_and, and_true, List.length_map, atI_ints hq2]
          rw [getD_of hq2] at h5
          exact h5
        · rw [map_int]
          simp only [den, initS, endB, dSeq, dSet, dPar, dRet, dRetN, dIfS, dDrop, dFor, dNext, dBreak, dCont, dNever, dRaise, dAug, fAddI, dAppend, dSetIx, dVar, dC, dOp, dUn, dCB, dNil, dCons, dLst, dTup, dTest, dAnd, dOr, dNot, dAndV, dOrV, dNotV, dIf, dChain, dIsi, dIsi2, dYes, fAdd, fSub, fMul, fDiv, fMod, fPow, fNeg, fIx, fLen, fMax, fMin, fSum, fSorted, fAbs, fInt, fList, fTuple, fRepr, gEq, gNe, gLt, gLe, gGt, gGe, gIn, gNotIn, gIs, gIsNot, cD, put, cut, see, sees, look, fz, fzs, fzV, fill, dLc, dSeqI, dRng1, dRng2, dEnum, dZip, dName, dgTup, dgCons, dgNil, dAsg, dCall, dCallS, stAll, mapSt_st, mapSt_no, mapSt_val, mapSt_ow, mapSt_scr, mapSt_ns, noSts, wipeS, dSl, dPart, dNoPart, fSl, dRev, dBM, mCount, mIndex, dStInt, dStTurn, dStPop, dStCells, dStPut, dStTurnPut, dLenScr, tyName, isTyN, isNone, isBool, toInts_ints, dInts_len, List.map_cons, List.map_nil, List.map_append, List.getElem?_cons_zero, List.getElem?_cons_succ, List.set_cons_zero, List.set_cons_succ, List.length_cons, List.length_nil, List.take_nil, List.take_zero, List.take_succ_cons, List.cons_append, List.nil_append, List.replicate_zero, List.replicate_succ, if_true, if_false, ite_true, ite_false, Bool.false_eq_true, Bool.not_true, Bool.not_false, reduceIte, Nat.zero_add, Nat.add_zero, Nat.reduceAdd, Nat.reduceSub, Nat.sub_self, decide_true, decide_false, true_and, and_true, List.length_map, pcost_zip]
          exact h3 _ ⟨_, _, rfl⟩
      · rw [map_int]
        simp only [den, initS, endB, dSeq, dSet, dPar, dRet, dRetN, dIfS, dDrop, dFor, dNext, dBreak, dCont, dNever, dRaise, dAug, fAddI, dAppend, dSetIx, dVar, dC, dOp, dUn, dCB, dNil, dCons, dLst, dTup, dTest, dAnd, dOr, dNot, dAndV, dOrV, dNotV, dIf, dChain, dIsi, dIsi2, dYes, fAdd, fSub, fMul, fDiv, fMod, fPow, fNeg, fIx, fLen, fMax, fMin, fSum, fSorted, fAbs, fInt, fList, fTuple, fRepr, gEq, gNe, gLt, gLe, gGt, gGe, gIn, gNotIn, gIs, gIsNot, cD, put, cut, see, sees, look, fz, fzs, fzV, fill, dLc, dSeqI, dRng1, dRng2, dEnum, dZip, dName, dgTup, dgCons, dgNil, dAsg, dCall, dCallS, stAll, mapSt_st, mapSt_no, mapSt_val, mapSt_ow, mapSt_scr, mapSt_ns, noSts, wipeS, dSl, dPart, dNoPart, fSl, dRev, dBM, mCount, mIndex, dStInt, dStTurn, dStPop, dStCells, dStPut, dStTurnPut, dLenScr, tyName, isTyN, isNone, isBool, toInts_ints, dInts_len, List.map_cons, List.map_nil, List.map_append, List.getElem?_cons_zero, List.getElem?_cons_succ, List.set_cons_zero, List.set_cons_succ, List.length_cons, List.length_nil, List.take_nil, List.take_zero, List.take_succ_cons, List.cons_append, List.nil_append, List.replicate_zero, List.replicate_succ, if_true, if_false, ite_true, ite_false, Bool.false_eq_true, Bool.not_true, Bool.not_false, reduceIte, Nat.zero_add, Nat.add_zero, Nat.reduceAdd, Nat.reduceSub, Nat.sub_self, decide_true, decide_false, true_and, and_true, List.length_map]
        refine ⟨?_, hk⟩
        intro z
        have := congrArg List.length z
        simp at this
        have hex : List.replicate rows.length 0 ∈ allL W rows := (all_mem rows _).mpr ⟨by simp, chF_rep h0 _⟩
        rw [this] at hex
        cases hex
    have l3 := big rows h4
    rcases hy with rfl | rfl <;> simp only [den, initS, endB, dSeq, dSet, dPar, dRet, dRetN, dIfS, dDrop, dFor, dNext, dBreak, dCont, dNever, dRaise, dAug, fAddI, dAppend, dSetIx, dVar, dC, dOp, dUn, dCB, dNil, dCons, dLst, dTup, dTest, dAnd, dOr, dNot, dAndV, dOrV, dNotV, dIf, dChain, dIsi, dIsi2, dYes, fAdd, fSub, fMul, fDiv, fMod, fPow, fNeg, fIx, fLen, fMax, fMin, fSum, fSorted, fAbs, fInt, fList, fTuple, fRepr, gEq, gNe, gLt, gLe, gGt, gGe, gIn, gNotIn, gIs, gIsNot, cD, put, cut, see, sees, look, fz, fzs, fzV, fill, dLc, dSeqI, dRng1, dRng2, dEnum, dZip, dName, dgTup, dgCons, dgNil, dAsg, dCall, dCallS, stAll, mapSt_st, mapSt_no, mapSt_val, mapSt_ow, mapSt_scr, mapSt_ns, noSts, wipeS, dSl, dPart, dNoPart, fSl, dRev, dBM, mCount, mIndex, dStInt, dStTurn, dStPop, dStCells, dStPut, dStTurnPut, dLenScr, tyName, isTyN, isNone, isBool, toInts_ints, dInts_len, List.map_cons, List.map_nil, List.map_append, List.getElem?_cons_zero, List.getElem?_cons_succ, List.set_cons_zero, List.set_cons_succ, List.length_cons, List.length_nil, List.take_nil, List.take_zero, List.take_succ_cons, List.cons_append, List.nil_append, List.replicate_zero, List.replicate_succ, if_true, if_false, ite_true, ite_false, Bool.false_eq_true, Bool.not_true, Bool.not_false, reduceIte, Nat.zero_add, Nat.add_zero, Nat.reduceAdd, Nat.reduceSub, Nat.sub_self, decide_true, decide_false, true_and, and_true, List.length_map] <;> exact ⟨by simp only [dLists, List.length_map]; omega, go⟩

abbrev nn__law_in_order : Nat := 5
-- 0:rows 1:last 2:row 3:cheap 4:place
def B__law_in_order : (String → Prop) → DSt := fun kx => (dSeq (dSet 1 (dC (.int 0))) (dSeq (dFor (dSeqI (dVar 0)) (dName 2) (dSeq (dSet 3 (dLc (dRng1 (dCons (dCB fLen (dCons (dVar 2) dNil)) dNil)) (dName 4) (dAnd (dTest (dOp (cD gEq) (dOp fIx (dVar 2) (dVar 4)) (dCB fMin (dCons (dVar 2) dNil)))) (dTest (dOp (cD gGe) (dVar 4) (dVar 1)))) (dVar 4) [4])) (dSeq (dIfS (dTest (dOp (cD gEq) (dVar 3) (dLst dNil))) (dRet (dC (.bool false))) dNext) (dSet 1 (dOp fIx (dVar 3) (dC (.int 0))))))) (dRet (dC (.bool true)))))
def R__law_in_order : DFn := den false 5 B__law_in_order
def T__law_in_order : DFn := fun _ ds k _ => ∃ (W : Nat) (rows : List Row), ds = [.list (dRows rows)] ∧ 0 < W ∧ W ≤ 100 ∧ Wide W rows ∧ k (.bool (greedy 0 rows)) 0
theorem imp__law_in_order : ∀ B ds k kx, ds.length = 1 → T__law_in_order B ds k kx → R__law_in_order B ds k kx := fun B ds k kx _ h => by
  obtain ⟨W, rows, rfl, h0, h1, hw, hk⟩ := h
  have sz : sizeLine = 2 ^ 24 := rfl
  simp only [R__law_in_order, B__law_in_order, den, initS]
  refine seq_to [.val (.list (dRows rows)), .val (.int ((0 : Nat) : Int)), .no, .no, .no] (fun k' hk' => ?_) ?_
  · simp only [den, initS, endB, dSeq, dSet, dPar, dRet, dRetN, dIfS, dDrop, dFor, dNext, dBreak, dCont, dNever, dRaise, dAug, fAddI, dAppend, dSetIx, dVar, dC, dOp, dUn, dCB, dNil, dCons, dLst, dTup, dTest, dAnd, dOr, dNot, dAndV, dOrV, dNotV, dIf, dChain, dIsi, dIsi2, dYes, fAdd, fSub, fMul, fDiv, fMod, fPow, fNeg, fIx, fLen, fMax, fMin, fSum, fSorted, fAbs, fInt, fList, fTuple, fRepr, gEq, gNe, gLt, gLe, gGt, gGe, gIn, gNotIn, gIs, gIsNot, cD, put, cut, see, sees, look, fz, fzs, fzV, fill, dLc, dSeqI, dRng1, dRng2, dEnum, dZip, dName, dgTup, dgCons, dgNil, dAsg, dCall, dCallS, stAll, mapSt_st, mapSt_no, mapSt_val, mapSt_ow, mapSt_scr, mapSt_ns, noSts, wipeS, dSl, dPart, dNoPart, fSl, dRev, dBM, mCount, mIndex, dStInt, dStTurn, dStPop, dStCells, dStPut, dStTurnPut, dLenScr, tyName, isTyN, isNone, isBool, toInts_ints, dInts_len, List.map_cons, List.map_nil, List.map_append, List.getElem?_cons_zero, List.getElem?_cons_succ, List.set_cons_zero, List.set_cons_succ, List.length_cons, List.length_nil, List.take_nil, List.take_zero, List.take_succ_cons, List.cons_append, List.nil_append, List.replicate_zero, List.replicate_succ, if_true, if_false, ite_true, ite_false, Bool.false_eq_true, Bool.not_true, Bool.not_false, reduceIte, Nat.zero_add, Nat.add_zero, Nat.reduceAdd, Nat.reduceSub, Nat.sub_self, decide_true, decide_false, true_and, and_true, List.length_map]
    exact hk'
  refine dSeq_for ?_
  simp only [den, initS, endB, dSeq, dSet, dPar, dRet, dRetN, dIfS, dDrop, dFor, dNext, dBreak, dCont, dNever, dRaise, dAug, fAddI, dAppend, dSetIx, dVar, dC, dOp, dUn, dCB, dNil, dCons, dLst, dTup, dTest, dAnd, dOr, dNot, dAndV, dOrV, dNotV, dIf, dChain, dIsi, dIsi2, dYes, fAdd, fSub, fMul, fDiv, fMod, fPow, fNeg, fIx, fLen, fMax, fMin, fSum, fSorted, fAbs, fInt, fList, fTuple, fRepr, gEq, gNe, gLt, gLe, gGt, gGe, gIn, gNotIn, gIs, gIsNot, cD, put, cut, see, sees, look, fz, fzs, fzV, fill, dLc, dSeqI, dRng1, dRng2, dEnum, dZip, dName, dgTup, dgCons, dgNil, dAsg, dCall, dCallS, stAll, mapSt_st, mapSt_no, mapSt_val, mapSt_ow, mapSt_scr, mapSt_ns, noSts, wipeS, dSl, dPart, dNoPart, fSl, dRev, dBM, mCount, mIndex, dStInt, dStTurn, dStPop, dStCells, dStPut, dStTurnPut, dLenScr, tyName, isTyN, isNone, isBool, toInts_ints, dInts_len, List.map_cons, List.map_nil, List.map_append, List.getElem?_cons_zero, List.getElem?_cons_succ, List.set_cons_zero, List.set_cons_succ, List.length_cons, List.length_nil, List.take_nil, List.take_zero, List.take_succ_cons, List.cons_append, List.nil_append, List.replicate_zero, List.replicate_succ, if_true, if_false, ite_true, ite_false, Bool.false_eq_true, Bool.not_true, Bool.not_false, reduceIte, Nat.zero_add, Nat.add_zero, Nat.reduceAdd, Nat.reduceSub, Nat.sub_self, decide_true, decide_false, true_and, and_true, List.length_map]
  rw [dRows_map]
  refine for_to _ (fun zs t => ∃ (last : Nat) (y2 y3 : Sl), t = [.val (.list (dRows rows)), .val (.int (last : Int)), y2, y3, .no] ∧ greedy last zs = greedy 0 rows ∧ ∀ r ∈ zs, r.length = W) _ ⟨0, _, _, rfl, rfl, hw⟩ (fun r zs t ht k' b hk' => ?_) fun t ht => ?_
  · obtain ⟨last, y2, y3, rfl, hg, hz⟩ := ht
    have hr := hz r (List.mem_cons_self ..)
    have rne : r ≠ [] := by intro z; rw [z] at hr; simp at hr; omega
    simp only [dName, List.set_cons_succ, List.set_cons_zero]
    refine seq_to [.val (.list (dRows rows)), .val (.int (last : Int)), .val (.list (dInts r)), .own (.lst (dNats (cheapL r last))), .no] (fun k2 h2 => ?_) ?_
    · simp only [den, initS, endB, dSeq, dSet, dPar, dRet, dRetN, dIfS, dDrop, dFor, dNext, dBreak, dCont, dNever, dRaise, dAug, fAddI, dAppend, dSetIx, dVar, dC, dOp, dUn, dCB, dNil, dCons, dLst, dTup, dTest, dAnd, dOr, dNot, dAndV, dOrV, dNotV, dIf, dChain, dIsi, dIsi2, dYes, fAdd, fSub, fMul, fDiv, fMod, fPow, fNeg, fIx, fLen, fMax, fMin, fSum, fSorted, fAbs, fInt, fList, fTuple, fRepr, gEq, gNe, gLt, gLe, gGt, gGe, gIn, gNotIn, gIs, gIsNot, cD, put, cut, see, sees, look, fz, fzs, fzV, fill, dLc, dSeqI, dRng1, dRng2, dEnum, dZip, dName, dgTup, dgCons, dgNil, dAsg, dCall, dCallS, stAll, mapSt_st, mapSt_no, mapSt_val, mapSt_ow, mapSt_scr, mapSt_ns, noSts, wipeS, dSl, dPart, dNoPart, fSl, dRev, dBM, mCount, mIndex, dStInt, dStTurn, dStPop, dStCells, dStPut, dStTurnPut, dLenScr, tyName, isTyN, isNone, isBool, toInts_ints, dInts_len, List.map_cons, List.map_nil, List.map_append, List.getElem?_cons_zero, List.getElem?_cons_succ, List.set_cons_zero, List.set_cons_succ, List.length_cons, List.length_nil, List.take_nil, List.take_zero, List.take_succ_cons, List.cons_append, List.nil_append, List.replicate_zero, List.replicate_succ, if_true, if_false, ite_true, ite_false, Bool.false_eq_true, Bool.not_true, Bool.not_false, reduceIte, Nat.zero_add, Nat.add_zero, Nat.reduceAdd, Nat.reduceSub, Nat.sub_self, decide_true, decide_false, true_and, and_true, List.length_map]
      refine ⟨by omega, by rw [rangeL0]; simp; omega, ?_⟩
      rw [rangeL0, Int.toNat_natCast]
      refine lc_filter _ (fun p : Nat => decide (r.getD p 0 = lmin r ∧ last ≤ p)) (fun p : Nat => .int (p : Int)) _ (fun p hp k5 h5 => ?_) h2
      rw [List.mem_range] at hp
      rw [getD_of hp] at h5
      simp only [stepLc, den, initS, endB, dSeq, dSet, dPar, dRet, dRetN, dIfS, dDrop, dFor, dNext, dBreak, dCont, dNever, dRaise, dAug, fAddI, dAppend, dSetIx, dVar, dC, dOp, dUn, dCB, dNil, dCons, dLst, dTup, dTest, dAnd, dOr, dNot, dAndV, dOrV, dNotV, dIf, dChain, dIsi, dIsi2, dYes, fAdd, fSub, fMul, fDiv, fMod, fPow, fNeg, fIx, fLen, fMax, fMin, fSum, fSorted, fAbs, fInt, fList, fTuple, fRepr, gEq, gNe, gLt, gLe, gGt, gGe, gIn, gNotIn, gIs, gIsNot, cD, put, cut, see, sees, look, fz, fzs, fzV, fill, dLc, dSeqI, dRng1, dRng2, dEnum, dZip, dName, dgTup, dgCons, dgNil, dAsg, dCall, dCallS, stAll, mapSt_st, mapSt_no, mapSt_val, mapSt_ow, mapSt_scr, mapSt_ns, noSts, wipeS, dSl, dPart, dNoPart, fSl, dRev, dBM, mCount, mIndex, dStInt, dStTurn, dStPop, dStCells, dStPut, dStTurnPut, dLenScr, tyName, isTyN, isNone, isBool, toInts_ints, dInts_len, List.map_cons, List.map_nil, List.map_append, List.getElem?_cons_zero, List.getElem?_cons_succ, List.set_cons_zero, List.set_cons_succ, List.length_cons, List.length_nil, List.take_nil, List.take_zero, List.take_succ_cons, List.cons_append, List.nil_append, List.replicate_zero, List.replicate_succ, if_true, if_false, ite_true, ite_false, Bool.false_eq_true, Bool.not_true, Bool.not_false, reduceIte, Nat.zero_add, Nat.add_zero, Nat.reduceAdd, Nat.reduceSub, Nat.sub_self, decide_true, decide_false, true_and, and_true, List.length_map, atI_ints hp, eqv_int]
      refine ⟨rne, shaped_int _, shaped_int _, ?_⟩
      by_cases hc : r[p] = lmin r
      · rw [if_pos (decide_eq_true hc)]
        by_cases hc2 : last ≤ p
        · rw [if_pos (decide_eq_true (by omega))]
          simpa [hc, hc2] using h5
        · rw [if_neg (by simp; omega)]
          simpa [hc, hc2] using h5
      · rw [if_neg (by simpa using hc)]
        simpa [hc] using h5
    have gc : greedy last (r :: zs) = (match cheapL r last with
      | [] => false
      | c :: _ => greedy c zs) := rfl
    rw [gc] at hg
    cases q : cheapL r last with
    | nil =>
      rw [q] at hg
      simp only at hg
      simp only [den, initS, endB, dSeq, dSet, dPar, dRet, dRetN, dIfS, dDrop, dFor, dNext, dBreak, dCont, dNever, dRaise, dAug, fAddI, dAppend, dSetIx, dVar, dC, dOp, dUn, dCB, dNil, dCons, dLst, dTup, dTest, dAnd, dOr, dNot, dAndV, dOrV, dNotV, dIf, dChain, dIsi, dIsi2, dYes, fAdd, fSub, fMul, fDiv, fMod, fPow, fNeg, fIx, fLen, fMax, fMin, fSum, fSorted, fAbs, fInt, fList, fTuple, fRepr, gEq, gNe, gLt, gLe, gGt, gGe, gIn, gNotIn, gIs, gIsNot, cD, put, cut, see, sees, look, fz, fzs, fzV, fill, dLc, dSeqI, dRng1, dRng2, dEnum, dZip, dName, dgTup, dgCons, dgNil, dAsg, dCall, dCallS, stAll, mapSt_st, mapSt_no, mapSt_val, mapSt_ow, mapSt_scr, mapSt_ns, noSts, wipeS, dSl, dPart, dNoPart, fSl, dRev, dBM, mCount, mIndex, dStInt, dStTurn, dStPop, dStCells, dStPut, dStTurnPut, dLenScr, tyName, isTyN, isNone, isBool, toInts_ints, dInts_len, List.map_cons, List.map_nil, List.map_append, List.getElem?_cons_zero, List.getElem?_cons_succ, List.set_cons_zero, List.set_cons_succ, List.length_cons, List.length_nil, List.take_nil, List.take_zero, List.take_succ_cons, List.cons_append, List.nil_append, List.replicate_zero, List.replicate_succ, if_true, if_false, ite_true, ite_false, Bool.false_eq_true, Bool.not_true, Bool.not_false, reduceIte, Nat.zero_add, Nat.add_zero, Nat.reduceAdd, Nat.reduceSub, Nat.sub_self, decide_true, decide_false, true_and, and_true, List.length_map, eqv_nil, dNats, List.isEmpty_nil]
      rw [← hg] at hk
      exact ⟨Nat.zero_le _, shaped_ints [], shaped_ints [], hk⟩
    | cons c cs =>
      rw [q] at hg
      simp only at hg
      have e1 : atI (dNats (c :: cs)) 0 = some (.int (c : Int)) := atI_mapN (fun e : Nat => PyData.int (e : Int)) (c :: cs) (i := 0) (by simp)
      have e2 : (dNats (c :: cs)).isEmpty = false := rfl
      simp only [den, initS, endB, dSeq, dSet, dPar, dRet, dRetN, dIfS, dDrop, dFor, dNext, dBreak, dCont, dNever, dRaise, dAug, fAddI, dAppend, dSetIx, dVar, dC, dOp, dUn, dCB, dNil, dCons, dLst, dTup, dTest, dAnd, dOr, dNot, dAndV, dOrV, dNotV, dIf, dChain, dIsi, dIsi2, dYes, fAdd, fSub, fMul, fDiv, fMod, fPow, fNeg, fIx, fLen, fMax, fMin, fSum, fSorted, fAbs, fInt, fList, fTuple, fRepr, gEq, gNe, gLt, gLe, gGt, gGe, gIn, gNotIn, gIs, gIsNot, cD, put, cut, see, sees, look, fz, fzs, fzV, fill, dLc, dSeqI, dRng1, dRng2, dEnum, dZip, dName, dgTup, dgCons, dgNil, dAsg, dCall, dCallS, stAll, mapSt_st, mapSt_no, mapSt_val, mapSt_ow, mapSt_scr, mapSt_ns, noSts, wipeS, dSl, dPart, dNoPart, fSl, dRev, dBM, mCount, mIndex, dStInt, dStTurn, dStPop, dStCells, dStPut, dStTurnPut, dLenScr, tyName, isTyN, isNone, isBool, toInts_ints, dInts_len, List.map_cons, List.map_nil, List.map_append, List.getElem?_cons_zero, List.getElem?_cons_succ, List.set_cons_zero, List.set_cons_succ, List.length_cons, List.length_nil, List.take_nil, List.take_zero, List.take_succ_cons, List.cons_append, List.nil_append, List.replicate_zero, List.replicate_succ, if_true, if_false, ite_true, ite_false, Bool.false_eq_true, Bool.not_true, Bool.not_false, reduceIte, Nat.zero_add, Nat.add_zero, Nat.reduceAdd, Nat.reduceSub, Nat.sub_self, decide_true, decide_false, true_and, and_true, List.length_map, eqv_nil, e1, e2]
      exact ⟨Nat.zero_le _, by rw [dNats_ints]; exact shaped_ints _, shaped_ints [], hk' _ ⟨c, _, _, rfl, hg, fun r hr => hz r (List.mem_cons_of_mem _ hr)⟩⟩
  · obtain ⟨last, y2, y3, rfl, hg, _⟩ := ht
    simp only [den, initS, endB, dSeq, dSet, dPar, dRet, dRetN, dIfS, dDrop, dFor, dNext, dBreak, dCont, dNever, dRaise, dAug, fAddI, dAppend, dSetIx, dVar, dC, dOp, dUn, dCB, dNil, dCons, dLst, dTup, dTest, dAnd, dOr, dNot, dAndV, dOrV, dNotV, dIf, dChain, dIsi, dIsi2, dYes, fAdd, fSub, fMul, fDiv, fMod, fPow, fNeg, fIx, fLen, fMax, fMin, fSum, fSorted, fAbs, fInt, fList, fTuple, fRepr, gEq, gNe, gLt, gLe, gGt, gGe, gIn, gNotIn, gIs, gIsNot, cD, put, cut, see, sees, look, fz, fzs, fzV, fill, dLc, dSeqI, dRng1, dRng2, dEnum, dZip, dName, dgTup, dgCons, dgNil, dAsg, dCall, dCallS, stAll, mapSt_st, mapSt_no, mapSt_val, mapSt_ow, mapSt_scr, mapSt_ns, noSts, wipeS, dSl, dPart, dNoPart, fSl, dRev, dBM, mCount, mIndex, dStInt, dStTurn, dStPop, dStCells, dStPut, dStTurnPut, dLenScr, tyName, isTyN, isNone, isBool, toInts_ints, dInts_len, List.map_cons, List.map_nil, List.map_append, List.getElem?_cons_zero, List.getElem?_cons_succ, List.set_cons_zero, List.set_cons_succ, List.length_cons, List.length_nil, List.take_nil, List.take_zero, List.take_succ_cons, List.cons_append, List.nil_append, List.replicate_zero, List.replicate_succ, if_true, if_false, ite_true, ite_false, Bool.false_eq_true, Bool.not_true, Bool.not_false, reduceIte, Nat.zero_add, Nat.add_zero, Nat.reduceAdd, Nat.reduceSub, Nat.sub_self, decide_true, decide_false, true_and, and_true, List.length_map]
    rw [← hg] at hk
    exact hk

abbrev nn__law_closing_right : Nat := 14
-- 0:state 1:size 2:moments 3:wait 4:lose 5:rows 6:kept 7:own 8:one 9:places 10:drawn 11:due 12:row 13:place
def B__law_closing_right : (String → Prop) → DSt := fun kx => (dSeq (dPar [5, 6] (dCons (dCall 4 T__law_costs (fun _ => False) (dCons (dVar 1) (dCons (dVar 2) (dCons (dVar 3) (dCons (dVar 4) dNil))))) (dCons (dCB fList (dCons (dVar 2) dNil)) dNil))) (dSeq (dPar [7, 8] (dCons (dCB fSum (dCons (dLc (dSeqI (dVar 5)) (dName 12) dYes (dCB fMin (dCons (dVar 12) dNil)) [12]) dNil)) (dCons (dCall 1 T__law_least (fun _ => False) (dCons (dVar 5) dNil)) dNil))) (dSeq (dIfS (dAnd (dTest (dOp (cD gLt) (dCB fLen (dCons (dVar 5) dNil)) (dC (.int 5)))) (dAnd (dTest (dOp (cD gLt) (dCB fLen (dCons (dVar 2) dNil)) (dC (.int 9)))) (dTest (dOp (cD gNe) (dCall 1 T__law_all_least (fun _ => False) (dCons (dVar 5) dNil)) (dVar 8))))) (dRet (dC (.bool false))) dNext) (dSeq (dIfS (dNot (dTest (dCall 2 T__law_is (fun _ => False) (dCons (dCall 4 T_pane_costs (fun _ => False) (dCons (dVar 1) (dCons (dVar 2) (dCons (dVar 3) (dCons (dVar 4) dNil))))) (dCons (dVar 5) dNil))))) (dRet (dC (.bool false))) dNext) (dSeq (dIfS (dOr (dNot (dTest (dCall 2 T__law_is (fun _ => False) (dCons (dCall 4 T_least_own (fun _ => False) (dCons (dVar 1) (dCons (dVar 2) (dCons (dVar 3) (dCons (dVar 4) dNil))))) (dCons (dVar 7) dNil))))) (dNot (dTest (dCall 2 T__law_is (fun _ => False) (dCons (dCall 4 T_least_one (fun _ => False) (dCons (dVar 1) (dCons (dVar 2) (dCons (dVar 3) (dCons (dVar 4) dNil))))) (dCons (dVar 8) dNil)))))) (dRet (dC (.bool false))) dNext) (dSeq (dIfS (dOr (dNot (dTest (dChain gLe gLe (dVar 7) (dVar 8) (dOp fMul (dVar 7) (dCB fLen (dCons (dVar 5) dNil)))))) (dTest (dOp (cD gNe) (dOp (cD gEq) (dVar 7) (dVar 8)) (dCall 1 T__law_in_order (fun _ => False) (dCons (dVar 5) dNil))))) (dRet (dC (.bool false))) dNext) (dSeq (dSet 9 (dCall 4 T_closings (fun _ => False) (dCons (dVar 1) (dCons (dVar 2) (dCons (dVar 3) (dCons (dVar 4) dNil)))))) (dSeq (dIfS (dOr (dNot (dTest (dCall 1 T__law_plain (fun _ => False) (dCons (dVar 9) dNil)))) (dOr (dNot (dTest (dIsi "list" (dVar 9)))) (dOr (dTest (dOp (cD gNe) (dCB fLen (dCons (dVar 9) dNil)) (dCB fLen (dCons (dVar 5) dNil)))) (dTest (dOp (cD gNe) (dCB fSorted (dCons (dVar 9) dNil)) (dVar 9)))))) (dRet (dC (.bool false))) dNext) (dSeq (dIfS (dTest (dOp (cD gNe) (dLc (dSeqI (dVar 9)) (dName 13) (dOr (dNot (dTest (dIsi "int" (dVar 13)))) (dOr (dTest (dOp (cD gIs) (dVar 13) (dC (.bool true)))) (dOr (dTest (dOp (cD gIs) (dVar 13) (dC (.bool false)))) (dNot (dTest (dChain gLe gLe (dC (.int 0)) (dVar 13) (dCB fLen (dCons (dVar 2) dNil)))))))) (dC (.int 1)) [13]) (dLst dNil))) (dRet (dC (.bool false))) dNext) (dSeq (dIfS (dOr (dTest (dOp (cD gNe) (dCB fSum (dCons (dLc (dZip (dCons (dVar 5) (dCons (dVar 9) dNil))) (dgTup 2 (dgCons (dName 12) (dgCons (dName 13) dgNil))) dYes (dOp fIx (dVar 12) (dVar 13)) [12, 13]) dNil)) (dVar 8))) (dNot (dTest (dCall 2 T__law_is (fun _ => False) (dCons (dCall 5 T_closing_cost (fun _ => False) (dCons (dVar 1) (dCons (dVar 2) (dCons (dVar 3) (dCons (dVar 4) (dCons (dVar 9) dNil)))))) (dCons (dVar 8) dNil)))))) (dRet (dC (.bool false))) dNext) (dSeq (dSet 10 (dCB fSorted (dCons (dLc (dSeqI (dVar 5)) (dName 12) dYes (dCallS 0 1 T__law_draw (fun _ => False) (dCons (dOp fAdd (dCB fLen (dCons (dVar 2) dNil)) (dC (.int 1))) dNil)) [12]) dNil))) (dSeq (dSet 11 (dCB fSum (dCons (dLc (dZip (dCons (dVar 5) (dCons (dVar 10) dNil))) (dgTup 2 (dgCons (dName 12) (dgCons (dName 13) dgNil))) dYes (dOp fIx (dVar 12) (dVar 13)) [12, 13]) dNil))) (dRet (dAndV (dCall 2 T__law_is (fun _ => False) (dCons (dCall 5 T_closing_cost (fun _ => False) (dCons (dVar 1) (dCons (dVar 2) (dCons (dVar 3) (dCons (dVar 4) (dCons (dVar 10) dNil)))))) (dCons (dVar 11) dNil))) (dOp (cD gEq) (dVar 2) (dVar 6))))))))))))))))
def R__law_closing_right : DFn := den true 14 B__law_closing_right
theorem sumZip9 {x0 x1 x2 x3 x4 x6 x7 x8 x10 x11 : Sl} {W : Nat} {rows : List Row} {es : List Nat} (hw : Wide W rows) (hc : ChF W 0 es) (hl : rows.length < sizeLine) (k : R → Sg → Prop)
    (hk : k (.d (.int (pcost rows es))) ⟨[x0, x1, x2, x3, x4, .val (.list (dRows rows)), x6, x7, x8, .val (.list (dNats es)), x10, x11, .no, .no], []⟩) :
    dCB fSum (dCons (dLc (dZip (dCons (dVar 5) (dCons (dVar 9) dNil))) (dgTup 2 (dgCons (dName 12) (dgCons (dName 13) dgNil))) dYes (dOp fIx (dVar 12) (dVar 13)) [12, 13]) dNil) ⟨[x0, x1, x2, x3, x4, .val (.list (dRows rows)), x6, x7, x8, .val (.list (dNats es)), x10, x11, .no, .no], []⟩ k := by
  simp only [den, initS, endB, dSeq, dSet, dPar, dRet, dRetN, dIfS, dDrop, dFor, dNext, dBreak, dCont, dNever, dRaise, dAug, fAddI, dAppend, dSetIx, dVar, dC, dOp, dUn, dCB, dNil, dCons, dLst, dTup, dTest, dAnd, dOr, dNot, dAndV, dOrV, dNotV, dIf, dChain, dIsi, dIsi2, dYes, fAdd, fSub, fMul, fDiv, fMod, fPow, fNeg, fIx, fLen, fMax, fMin, fSum, fSorted, fAbs, fInt, fList, fTuple, fRepr, gEq, gNe, gLt, gLe, gGt, gGe, gIn, gNotIn, gIs, gIsNot, cD, put, cut, see, sees, look, fz, fzs, fzV, fill, dLc, dSeqI, dRng1, dRng2, dEnum, dZip, dName, dgTup, dgCons, dgNil, dAsg, dCall, dCallS, stAll, mapSt_st, mapSt_no, mapSt_val, mapSt_ow, mapSt_scr, mapSt_ns, noSts, wipeS, dSl, dPart, dNoPart, fSl, dRev, dBM, mCount, mIndex, dStInt, dStTurn, dStPop, dStCells, dStPut, dStTurnPut, dLenScr, tyName, isTyN, isNone, isBool, toInts_ints, dInts_len, List.map_cons, List.map_nil, List.map_append, List.getElem?_cons_zero, List.getElem?_cons_succ, List.set_cons_zero, List.set_cons_succ, List.length_cons, List.length_nil, List.take_nil, List.take_zero, List.take_succ_cons, List.cons_append, List.nil_append, List.replicate_zero, List.replicate_succ, if_true, if_false, ite_true, ite_false, Bool.false_eq_true, Bool.not_true, Bool.not_false, reduceIte, Nat.zero_add, Nat.add_zero, Nat.reduceAdd, Nat.reduceSub, Nat.sub_self, decide_true, decide_false, true_and, and_true, List.length_map]
  rw [dRows_map, dNats, zipL_map]
  refine ⟨by rw [List.length_map, List.length_zip]; omega, lc_map _ (fun q : Row × Nat => .int (q.1.getD q.2 0)) _ (fun q hq k5 h5 => ?_) ?_⟩
  · have hq2 := zip_ok hw hc q hq
    simp only [stepLc, den, initS, endB, dSeq, dSet, dPar, dRet, dRetN, dIfS, dDrop, dFor, dNext, dBreak, dCont, dNever, dRaise, dAug, fAddI, dAppend, dSetIx, dVar, dC, dOp, dUn, dCB, dNil, dCons, dLst, dTup, dTest, dAnd, dOr, dNot, dAndV, dOrV, dNotV, dIf, dChain, dIsi, dIsi2, dYes, fAdd, fSub, fMul, fDiv, fMod, fPow, fNeg, fIx, fLen, fMax, fMin, fSum, fSorted, fAbs, fInt, fList, fTuple, fRepr, gEq, gNe, gLt, gLe, gGt, gGe, gIn, gNotIn, gIs, gIsNot, cD, put, cut, see, sees, look, fz, fzs, fzV, fill, dLc, dSeqI, dRng1, dRng2, dEnum, dZip, dName, dgTup, dgCons, dgNil, dAsg, dCall, dCallS, stAll, mapSt_st, mapSt_no, mapSt_val, mapSt_ow, mapSt_scr, mapSt_ns, noSts, wipeS, dSl, dPart, dNoPart, fSl, dRev, dBM, mCount, mIndex, dStInt, dStTurn, dStPop, dStCells, dStPut, dStTurnPut, dLenScr, tyName, isTyN, isNone, isBool, toInts_ints, dInts_len, List.map_cons, List.map_nil, List.map_append, List.getElem?_cons_zero, List.getElem?_cons_succ, List.set_cons_zero, List.set_cons_succ, List.length_cons, List.length_nil, List.take_nil, List.take_zero, List.take_succ_cons, List.cons_append, List.nil_append, List.replicate_zero, List.replicate_succ, if_true, if_false, ite_true, ite_false, Bool.false_eq_true, Bool.not_true, Bool.not_false, reduceIte, Nat.zero_add, Nat.add_zero, Nat.reduceAdd, Nat.reduceSub, Nat.sub_self, decide_true, decide_false, true_and, and_true, List.length_map, atI_ints hq2]
    rw [getD_of hq2] at h5
    exact h5
  · rw [map_int]
    simp only [den, initS, endB, dSeq, dSet, dPar, dRet, dRetN, dIfS, dDrop, dFor, dNext, dBreak, dCont, dNever, dRaise, dAug, fAddI, dAppend, dSetIx, dVar, dC, dOp, dUn, dCB, dNil, dCons, dLst, dTup, dTest, dAnd, dOr, dNot, dAndV, dOrV, dNotV, dIf, dChain, dIsi, dIsi2, dYes, fAdd, fSub, fMul, fDiv, fMod, fPow, fNeg, fIx, fLen, fMax, fMin, fSum, fSorted, fAbs, fInt, fList, fTuple, fRepr, gEq, gNe, gLt, gLe, gGt, gGe, gIn, gNotIn, gIs, gIsNot, cD, put, cut, see, sees, look, fz, fzs, fzV, fill, dLc, dSeqI, dRng1, dRng2, dEnum, dZip, dName, dgTup, dgCons, dgNil, dAsg, dCall, dCallS, stAll, mapSt_st, mapSt_no, mapSt_val, mapSt_ow, mapSt_scr, mapSt_ns, noSts, wipeS, dSl, dPart, dNoPart, fSl, dRev, dBM, mCount, mIndex, dStInt, dStTurn, dStPop, dStCells, dStPut, dStTurnPut, dLenScr, tyName, isTyN, isNone, isBool, toInts_ints, dInts_len, List.map_cons, List.map_nil, List.map_append, List.getElem?_cons_zero, List.getElem?_cons_succ, List.set_cons_zero, List.set_cons_succ, List.length_cons, List.length_nil, List.take_nil, List.take_zero, List.take_succ_cons, List.cons_append, List.nil_append, List.replicate_zero, List.replicate_succ, if_true, if_false, ite_true, ite_false, Bool.false_eq_true, Bool.not_true, Bool.not_false, reduceIte, Nat.zero_add, Nat.add_zero, Nat.reduceAdd, Nat.reduceSub, Nat.sub_self, decide_true, decide_false, true_and, and_true, List.length_map, pcost_zip]
    exact hk
def T__law_closing_right : DFn := fun B ds k _ => ∃ (s : Int) (ms : List Int) (w l : Int), ds = [.int s, .list (dInts ms), .int w, .int l] ∧ Ok s ms w l ∧ 0 ≤ B ∧ B < 2 ^ 39 ∧ k (.bool true) (B + 1000)
theorem imp__law_closing_right : ∀ B ds k kx, ds.length = 4 → T__law_closing_right B ds k kx → R__law_closing_right B ds k kx := fun B ds k kx _ h => by
  obtain ⟨s, ms, w, l, rfl, h, hB0, hB1, hk⟩ := h
  have sz : sizeLine = 2 ^ 24 := rfl
  have cl := costs_len h
  have cw := costs_wide (s := s) (ms := ms) (w := w) (l := l)
  have n2 := h.n2
  have one := costs_one h
  have W0 : 0 < ms.length + 1 := Nat.succ_pos _
  obtain ⟨hown, hown2⟩ := one_bound W0 cw one (costs_bear h) (costs_least h) (costs_ne h)
  obtain ⟨pes, pe1, pe2, pe3, pe4, pe5⟩ := trace_ok W0 (costs s ms w l) cw ms.length (by omega)
  have pcost1 : pcost (costs s ms w l) pes = oneL (costs s ms w l) := by
    rw [pe5, one_last W0 _ cw (costs_ne h)]
    rfl
  have pl : placesL (costs s ms w l) ms.length = pes := pe1
  have b1 := pcost_bound h pe2 pe3
  have nOne : Near (oneL (costs s ms w l)) := by rw [← pcost1]; exact ⟨by omega, by omega⟩
  have own0 := own_nonneg h
  have nOwn : Near (ownL (costs s ms w l)) := ⟨by omega, by rw [pcost1] at b1; omega⟩
  have nRows : Nice (.list (dRows (costs s ms w l))) := nice_rows (c := 41) (fun r hr => ⟨by rw [cw r hr]; omega, fun x hx => by have := costs_mem h r hr x hx; exact ⟨by omega, by omega⟩⟩) (by omega)
  have least : (bestB (ms.length + 1) (costs s ms w l)).getD 0 0 = oneL (costs s ms w l) := one_best W0 _ cw (costs_ne h)
  simp only [R__law_closing_right, B__law_closing_right, den, initS]
  refine seq_to [.st B, .val (.int s), .val (.list (dInts ms)), .val (.int w), .val (.int l), .val (.list (dRows (costs s ms w l))), .own (.lst (dInts ms)), .no, .no, .no, .no, .no, .no, .no] (fun k' hk' => ?_) ?_
  · simp only [T__law_costs, den, initS, endB, dSeq, dSet, dPar, dRet, dRetN, dIfS, dDrop, dFor, dNext, dBreak, dCont, dNever, dRaise, dAug, fAddI, dAppend, dSetIx, dVar, dC, dOp, dUn, dCB, dNil, dCons, dLst, dTup, dTest, dAnd, dOr, dNot, dAndV, dOrV, dNotV, dIf, dChain, dIsi, dIsi2, dYes, fAdd, fSub, fMul, fDiv, fMod, fPow, fNeg, fIx, fLen, fMax, fMin, fSum, fSorted, fAbs, fInt, fList, fTuple, fRepr, gEq, gNe, gLt, gLe, gGt, gGe, gIn, gNotIn, gIs, gIsNot, cD, put, cut, see, sees, look, fz, fzs, fzV, fill, dLc, dSeqI, dRng1, dRng2, dEnum, dZip, dName, dgTup, dgCons, dgNil, dAsg, dCall, dCallS, stAll, mapSt_st, mapSt_no, mapSt_val, mapSt_ow, mapSt_scr, mapSt_ns, noSts, wipeS, dSl, dPart, dNoPart, fSl, dRev, dBM, mCount, mIndex, dStInt, dStTurn, dStPop, dStCells, dStPut, dStTurnPut, dLenScr, tyName, isTyN, isNone, isBool, toInts_ints, dInts_len, List.map_cons, List.map_nil, List.map_append, List.getElem?_cons_zero, List.getElem?_cons_succ, List.set_cons_zero, List.set_cons_succ, List.length_cons, List.length_nil, List.take_nil, List.take_zero, List.take_succ_cons, List.cons_append, List.nil_append, List.replicate_zero, List.replicate_succ, if_true, if_false, ite_true, ite_false, Bool.false_eq_true, Bool.not_true, Bool.not_false, reduceIte, Nat.zero_add, Nat.add_zero, Nat.reduceAdd, Nat.reduceSub, Nat.sub_self, decide_true, decide_false, true_and, and_true, List.length_map]
    exact ⟨s, ms, w, l, rfl, h, hk'⟩
  refine seq_to [.st B, .val (.int s), .val (.list (dInts ms)), .val (.int w), .val (.int l), .val (.list (dRows (costs s ms w l))), .own (.lst (dInts ms)), .val (.int (ownL (costs s ms w l))), .val (.int (oneL (costs s ms w l))), .no, .no, .no, .no, .no] (fun k' hk' => ?_) ?_
  · simp only [den, initS, endB, dSeq, dSet, dPar, dRet, dRetN, dIfS, dDrop, dFor, dNext, dBreak, dCont, dNever, dRaise, dAug, fAddI, dAppend, dSetIx, dVar, dC, dOp, dUn, dCB, dNil, dCons, dLst, dTup, dTest, dAnd, dOr, dNot, dAndV, dOrV, dNotV, dIf, dChain, dIsi, dIsi2, dYes, fAdd, fSub, fMul, fDiv, fMod, fPow, fNeg, fIx, fLen, fMax, fMin, fSum, fSorted, fAbs, fInt, fList, fTuple, fRepr, gEq, gNe, gLt, gLe, gGt, gGe, gIn, gNotIn, gIs, gIsNot, cD, put, cut, see, sees, look, fz, fzs, fzV, fill, dLc, dSeqI, dRng1, dRng2, dEnum, dZip, dName, dgTup, dgCons, dgNil, dAsg, dCall, dCallS, stAll, mapSt_st, mapSt_no, mapSt_val, mapSt_ow, mapSt_scr, mapSt_ns, noSts, wipeS, dSl, dPart, dNoPart, fSl, dRev, dBM, mCount, mIndex, dStInt, dStTurn, dStPop, dStCells, dStPut, dStTurnPut, dLenScr, tyName, isTyN, isNone, isBool, toInts_ints, dInts_len, List.map_cons, List.map_nil, List.map_append, List.getElem?_cons_zero, List.getElem?_cons_succ, List.set_cons_zero, List.set_cons_succ, List.length_cons, List.length_nil, List.take_nil, List.take_zero, List.take_succ_cons, List.cons_append, List.nil_append, List.replicate_zero, List.replicate_succ, if_true, if_false, ite_true, ite_false, Bool.false_eq_true, Bool.not_true, Bool.not_false, reduceIte, Nat.zero_add, Nat.add_zero, Nat.reduceAdd, Nat.reduceSub, Nat.sub_self, decide_true, decide_false, true_and, and_true, List.length_map]
    refine ⟨by rw [dRows_len]; omega, ?_⟩
    rw [dRows_map]
    refine lc_map _ (fun r => .int (lmin r)) _ (fun r hr k2 h2 => ?_) ?_
    · simp only [stepLc, den, initS, endB, dSeq, dSet, dPar, dRet, dRetN, dIfS, dDrop, dFor, dNext, dBreak, dCont, dNever, dRaise, dAug, fAddI, dAppend, dSetIx, dVar, dC, dOp, dUn, dCB, dNil, dCons, dLst, dTup, dTest, dAnd, dOr, dNot, dAndV, dOrV, dNotV, dIf, dChain, dIsi, dIsi2, dYes, fAdd, fSub, fMul, fDiv, fMod, fPow, fNeg, fIx, fLen, fMax, fMin, fSum, fSorted, fAbs, fInt, fList, fTuple, fRepr, gEq, gNe, gLt, gLe, gGt, gGe, gIn, gNotIn, gIs, gIsNot, cD, put, cut, see, sees, look, fz, fzs, fzV, fill, dLc, dSeqI, dRng1, dRng2, dEnum, dZip, dName, dgTup, dgCons, dgNil, dAsg, dCall, dCallS, stAll, mapSt_st, mapSt_no, mapSt_val, mapSt_ow, mapSt_scr, mapSt_ns, noSts, wipeS, dSl, dPart, dNoPart, fSl, dRev, dBM, mCount, mIndex, dStInt, dStTurn, dStPop, dStCells, dStPut, dStTurnPut, dLenScr, tyName, isTyN, isNone, isBool, toInts_ints, dInts_len, List.map_cons, List.map_nil, List.map_append, List.getElem?_cons_zero, List.getElem?_cons_succ, List.set_cons_zero, List.set_cons_succ, List.length_cons, List.length_nil, List.take_nil, List.take_zero, List.take_succ_cons, List.cons_append, List.nil_append, List.replicate_zero, List.replicate_succ, if_true, if_false, ite_true, ite_false, Bool.false_eq_true, Bool.not_true, Bool.not_false, reduceIte, Nat.zero_add, Nat.add_zero, Nat.reduceAdd, Nat.reduceSub, Nat.sub_self, decide_true, decide_false, true_and, and_true, List.length_map]
      have := cw r hr
      exact ⟨by intro z; rw [z] at this; simp at this, h2⟩
    · rw [map_int]
      simp only [T__law_least, den, initS, endB, dSeq, dSet, dPar, dRet, dRetN, dIfS, dDrop, dFor, dNext, dBreak, dCont, dNever, dRaise, dAug, fAddI, dAppend, dSetIx, dVar, dC, dOp, dUn, dCB, dNil, dCons, dLst, dTup, dTest, dAnd, dOr, dNot, dAndV, dOrV, dNotV, dIf, dChain, dIsi, dIsi2, dYes, fAdd, fSub, fMul, fDiv, fMod, fPow, fNeg, fIx, fLen, fMax, fMin, fSum, fSorted, fAbs, fInt, fList, fTuple, fRepr, gEq, gNe, gLt, gLe, gGt, gGe, gIn, gNotIn, gIs, gIsNot, cD, put, cut, see, sees, look, fz, fzs, fzV, fill, dLc, dSeqI, dRng1, dRng2, dEnum, dZip, dName, dgTup, dgCons, dgNil, dAsg, dCall, dCallS, stAll, mapSt_st, mapSt_no, mapSt_val, mapSt_ow, mapSt_scr, mapSt_ns, noSts, wipeS, dSl, dPart, dNoPart, fSl, dRev, dBM, mCount, mIndex, dStInt, dStTurn, dStPop, dStCells, dStPut, dStTurnPut, dLenScr, tyName, isTyN, isNone, isBool, toInts_ints, dInts_len, List.map_cons, List.map_nil, List.map_append, List.getElem?_cons_zero, List.getElem?_cons_succ, List.set_cons_zero, List.set_cons_succ, List.length_cons, List.length_nil, List.take_nil, List.take_zero, List.take_succ_cons, List.cons_append, List.nil_append, List.replicate_zero, List.replicate_succ, if_true, if_false, ite_true, ite_false, Bool.false_eq_true, Bool.not_true, Bool.not_false, reduceIte, Nat.zero_add, Nat.add_zero, Nat.reduceAdd, Nat.reduceSub, Nat.sub_self, decide_true, decide_false, true_and, and_true, List.length_map]
      refine ⟨_, _, rfl, W0, by omega, cw, costs_ne h, ?_⟩
      rw [least]
      exact hk'
  refine seq_to [.st B, .val (.int s), .val (.list (dInts ms)), .val (.int w), .val (.int l), .val (.list (dRows (costs s ms w l))), .own (.lst (dInts ms)), .val (.int (ownL (costs s ms w l))), .val (.int (oneL (costs s ms w l))), .no, .no, .no, .no, .no] (fun k' hk' => ?_) ?_
  · simp only [T__law_all_least, den, initS, endB, dSeq, dSet, dPar, dRet, dRetN, dIfS, dDrop, dFor, dNext, dBreak, dCont, dNever, dRaise, dAug, fAddI, dAppend, dSetIx, dVar, dC, dOp, dUn, dCB, dNil, dCons, dLst, dTup, dTest, dAnd, dOr, dNot, dAndV, dOrV, dNotV, dIf, dChain, dIsi, dIsi2, dYes, fAdd, fSub, fMul, fDiv, fMod, fPow, fNeg, fIx, fLen, fMax, fMin, fSum, fSorted, fAbs, fInt, fList, fTuple, fRepr, gEq, gNe, gLt, gLe, gGt, gGe, gIn, gNotIn, gIs, gIsNot, cD, put, cut, see, sees, look, fz, fzs, fzV, fill, dLc, dSeqI, dRng1, dRng2, dEnum, dZip, dName, dgTup, dgCons, dgNil, dAsg, dCall, dCallS, stAll, mapSt_st, mapSt_no, mapSt_val, mapSt_ow, mapSt_scr, mapSt_ns, noSts, wipeS, dSl, dPart, dNoPart, fSl, dRev, dBM, mCount, mIndex, dStInt, dStTurn, dStPop, dStCells, dStPut, dStTurnPut, dLenScr, tyName, isTyN, isNone, isBool, toInts_ints, dInts_len, List.map_cons, List.map_nil, List.map_append, List.getElem?_cons_zero, List.getElem?_cons_succ, List.set_cons_zero, List.set_cons_succ, List.length_cons, List.length_nil, List.take_nil, List.take_zero, List.take_succ_cons, List.cons_append, List.nil_append, List.replicate_zero, List.replicate_succ, if_true, if_false, ite_true, ite_false, Bool.false_eq_true, Bool.not_true, Bool.not_false, reduceIte, Nat.zero_add, Nat.add_zero, Nat.reduceAdd, Nat.reduceSub, Nat.sub_self, decide_true, decide_false, true_and, and_true, List.length_map, dRows_len]
    by_cases c1 : ((costs s ms w l).length : Int) < 5
    · rw [if_pos (decide_eq_true c1)]
      by_cases c2 : (ms.length : Int) < 9
      · rw [if_pos (decide_eq_true c2)]
        refine ⟨_, _, rfl, W0, by omega, cw, by omega, shaped_int _, shaped_int _, ?_⟩
        rw [all_min one, eqv_int, decide_eq_true rfl]
        exact hk'
      · rw [if_neg (by simpa using c2)]
        exact hk'
    · rw [if_neg (by simpa using c1)]
      exact hk'
  refine seq_to [.st B, .val (.int s), .val (.list (dInts ms)), .val (.int w), .val (.int l), .val (.list (dRows (costs s ms w l))), .own (.lst (dInts ms)), .val (.int (ownL (costs s ms w l))), .val (.int (oneL (costs s ms w l))), .no, .no, .no, .no, .no] (fun k' hk' => ?_) ?_
  · simp only [T__law_is, T_pane_costs, den, initS, endB, dSeq, dSet, dPar, dRet, dRetN, dIfS, dDrop, dFor, dNext, dBreak, dCont, dNever, dRaise, dAug, fAddI, dAppend, dSetIx, dVar, dC, dOp, dUn, dCB, dNil, dCons, dLst, dTup, dTest, dAnd, dOr, dNot, dAndV, dOrV, dNotV, dIf, dChain, dIsi, dIsi2, dYes, fAdd, fSub, fMul, fDiv, fMod, fPow, fNeg, fIx, fLen, fMax, fMin, fSum, fSorted, fAbs, fInt, fList, fTuple, fRepr, gEq, gNe, gLt, gLe, gGt, gGe, gIn, gNotIn, gIs, gIsNot, cD, put, cut, see, sees, look, fz, fzs, fzV, fill, dLc, dSeqI, dRng1, dRng2, dEnum, dZip, dName, dgTup, dgCons, dgNil, dAsg, dCall, dCallS, stAll, mapSt_st, mapSt_no, mapSt_val, mapSt_ow, mapSt_scr, mapSt_ns, noSts, wipeS, dSl, dPart, dNoPart, fSl, dRev, dBM, mCount, mIndex, dStInt, dStTurn, dStPop, dStCells, dStPut, dStTurnPut, dLenScr, tyName, isTyN, isNone, isBool, toInts_ints, dInts_len, List.map_cons, List.map_nil, List.map_append, List.getElem?_cons_zero, List.getElem?_cons_succ, List.set_cons_zero, List.set_cons_succ, List.length_cons, List.length_nil, List.take_nil, List.take_zero, List.take_succ_cons, List.cons_append, List.nil_append, List.replicate_zero, List.replicate_succ, if_true, if_false, ite_true, ite_false, Bool.false_eq_true, Bool.not_true, Bool.not_false, reduceIte, Nat.zero_add, Nat.add_zero, Nat.reduceAdd, Nat.reduceSub, Nat.sub_self, decide_true, decide_false, true_and, and_true, List.length_map]
    exact ⟨s, ms, w, l, rfl, h, _, rfl, nRows, hk'⟩
  refine seq_to [.st B, .val (.int s), .val (.list (dInts ms)), .val (.int w), .val (.int l), .val (.list (dRows (costs s ms w l))), .own (.lst (dInts ms)), .val (.int (ownL (costs s ms w l))), .val (.int (oneL (costs s ms w l))), .no, .no, .no, .no, .no] (fun k' hk' => ?_) ?_
  · simp only [T__law_is, T_least_own, T_least_one, den, initS, endB, dSeq, dSet, dPar, dRet, dRetN, dIfS, dDrop, dFor, dNext, dBreak, dCont, dNever, dRaise, dAug, fAddI, dAppend, dSetIx, dVar, dC, dOp, dUn, dCB, dNil, dCons, dLst, dTup, dTest, dAnd, dOr, dNot, dAndV, dOrV, dNotV, dIf, dChain, dIsi, dIsi2, dYes, fAdd, fSub, fMul, fDiv, fMod, fPow, fNeg, fIx, fLen, fMax, fMin, fSum, fSorted, fAbs, fInt, fList, fTuple, fRepr, gEq, gNe, gLt, gLe, gGt, gGe, gIn, gNotIn, gIs, gIsNot, cD, put, cut, see, sees, look, fz, fzs, fzV, fill, dLc, dSeqI, dRng1, dRng2, dEnum, dZip, dName, dgTup, dgCons, dgNil, dAsg, dCall, dCallS, stAll, mapSt_st, mapSt_no, mapSt_val, mapSt_ow, mapSt_scr, mapSt_ns, noSts, wipeS, dSl, dPart, dNoPart, fSl, dRev, dBM, mCount, mIndex, dStInt, dStTurn, dStPop, dStCells, dStPut, dStTurnPut, dLenScr, tyName, isTyN, isNone, isBool, toInts_ints, dInts_len, List.map_cons, List.map_nil, List.map_append, List.getElem?_cons_zero, List.getElem?_cons_succ, List.set_cons_zero, List.set_cons_succ, List.length_cons, List.length_nil, List.take_nil, List.take_zero, List.take_succ_cons, List.cons_append, List.nil_append, List.replicate_zero, List.replicate_succ, if_true, if_false, ite_true, ite_false, Bool.false_eq_true, Bool.not_true, Bool.not_false, reduceIte, Nat.zero_add, Nat.add_zero, Nat.reduceAdd, Nat.reduceSub, Nat.sub_self, decide_true, decide_false, true_and, and_true, List.length_map]
    exact ⟨s, ms, w, l, rfl, h, _, rfl, nice_int nOwn, s, ms, w, l, rfl, h, _, rfl, nice_int nOne, hk'⟩
  refine seq_to [.st B, .val (.int s), .val (.list (dInts ms)), .val (.int w), .val (.int l), .val (.list (dRows (costs s ms w l))), .own (.lst (dInts ms)), .val (.int (ownL (costs s ms w l))), .val (.int (oneL (costs s ms w l))), .no, .no, .no, .no, .no] (fun k' hk' => ?_) ?_
  · simp only [T__law_in_order, den, initS, endB, dSeq, dSet, dPar, dRet, dRetN, dIfS, dDrop, dFor, dNext, dBreak, dCont, dNever, dRaise, dAug, fAddI, dAppend, dSetIx, dVar, dC, dOp, dUn, dCB, dNil, dCons, dLst, dTup, dTest, dAnd, dOr, dNot, dAndV, dOrV, dNotV, dIf, dChain, dIsi, dIsi2, dYes, fAdd, fSub, fMul, fDiv, fMod, fPow, fNeg, fIx, fLen, fMax, fMin, fSum, fSorted, fAbs, fInt, fList, fTuple, fRepr, gEq, gNe, gLt, gLe, gGt, gGe, gIn, gNotIn, gIs, gIsNot, cD, put, cut, see, sees, look, fz, fzs, fzV, fill, dLc, dSeqI, dRng1, dRng2, dEnum, dZip, dName, dgTup, dgCons, dgNil, dAsg, dCall, dCallS, stAll, mapSt_st, mapSt_no, mapSt_val, mapSt_ow, mapSt_scr, mapSt_ns, noSts, wipeS, dSl, dPart, dNoPart, fSl, dRev, dBM, mCount, mIndex, dStInt, dStTurn, dStPop, dStCells, dStPut, dStTurnPut, dLenScr, tyName, isTyN, isNone, isBool, toInts_ints, dInts_len, List.map_cons, List.map_nil, List.map_append, List.getElem?_cons_zero, List.getElem?_cons_succ, List.set_cons_zero, List.set_cons_succ, List.length_cons, List.length_nil, List.take_nil, List.take_zero, List.take_succ_cons, List.cons_append, List.nil_append, List.replicate_zero, List.replicate_succ, if_true, if_false, ite_true, ite_false, Bool.false_eq_true, Bool.not_true, Bool.not_false, reduceIte, Nat.zero_add, Nat.add_zero, Nat.reduceAdd, Nat.reduceSub, Nat.sub_self, decide_true, decide_false, true_and, and_true, List.length_map, dRows_len]
    rw [if_pos (decide_eq_true hown)]
    refine ⟨.inl nOwn.wide, ?_⟩
    rw [decide_eq_true hown2]
    simp only [den, initS, endB, dSeq, dSet, dPar, dRet, dRetN, dIfS, dDrop, dFor, dNext, dBreak, dCont, dNever, dRaise, dAug, fAddI, dAppend, dSetIx, dVar, dC, dOp, dUn, dCB, dNil, dCons, dLst, dTup, dTest, dAnd, dOr, dNot, dAndV, dOrV, dNotV, dIf, dChain, dIsi, dIsi2, dYes, fAdd, fSub, fMul, fDiv, fMod, fPow, fNeg, fIx, fLen, fMax, fMin, fSum, fSorted, fAbs, fInt, fList, fTuple, fRepr, gEq, gNe, gLt, gLe, gGt, gGe, gIn, gNotIn, gIs, gIsNot, cD, put, cut, see, sees, look, fz, fzs, fzV, fill, dLc, dSeqI, dRng1, dRng2, dEnum, dZip, dName, dgTup, dgCons, dgNil, dAsg, dCall, dCallS, stAll, mapSt_st, mapSt_no, mapSt_val, mapSt_ow, mapSt_scr, mapSt_ns, noSts, wipeS, dSl, dPart, dNoPart, fSl, dRev, dBM, mCount, mIndex, dStInt, dStTurn, dStPop, dStCells, dStPut, dStTurnPut, dLenScr, tyName, isTyN, isNone, isBool, toInts_ints, dInts_len, List.map_cons, List.map_nil, List.map_append, List.getElem?_cons_zero, List.getElem?_cons_succ, List.set_cons_zero, List.set_cons_succ, List.length_cons, List.length_nil, List.take_nil, List.take_zero, List.take_succ_cons, List.cons_append, List.nil_append, List.replicate_zero, List.replicate_succ, if_true, if_false, ite_true, ite_false, Bool.false_eq_true, Bool.not_true, Bool.not_false, reduceIte, Nat.zero_add, Nat.add_zero, Nat.reduceAdd, Nat.reduceSub, Nat.sub_self, decide_true, decide_false, true_and, and_true, List.length_map, eqv_int, eqv_bool]
    refine ⟨shaped_int _, shaped_int _, _, _, rfl, W0, by omega, cw, shaped_bool _, shaped_bool _, ?_⟩
    have e1 : decide (ownL (costs s ms w l) = oneL (costs s ms w l)) = greedy 0 (costs s ms w l) := by
      rw [Bool.eq_iff_iff, decide_eq_true_eq]
      exact own_one_iff cw one
    rw [e1]
    simpa using hk'
  refine seq_to [.st B, .val (.int s), .val (.list (dInts ms)), .val (.int w), .val (.int l), .val (.list (dRows (costs s ms w l))), .own (.lst (dInts ms)), .val (.int (ownL (costs s ms w l))), .val (.int (oneL (costs s ms w l))), .val (.list (dNats pes)), .no, .no, .no, .no] (fun k' hk' => ?_) ?_
  · simp only [T_closings, den, initS, endB, dSeq, dSet, dPar, dRet, dRetN, dIfS, dDrop, dFor, dNext, dBreak, dCont, dNever, dRaise, dAug, fAddI, dAppend, dSetIx, dVar, dC, dOp, dUn, dCB, dNil, dCons, dLst, dTup, dTest, dAnd, dOr, dNot, dAndV, dOrV, dNotV, dIf, dChain, dIsi, dIsi2, dYes, fAdd, fSub, fMul, fDiv, fMod, fPow, fNeg, fIx, fLen, fMax, fMin, fSum, fSorted, fAbs, fInt, fList, fTuple, fRepr, gEq, gNe, gLt, gLe, gGt, gGe, gIn, gNotIn, gIs, gIsNot, cD, put, cut, see, sees, look, fz, fzs, fzV, fill, dLc, dSeqI, dRng1, dRng2, dEnum, dZip, dName, dgTup, dgCons, dgNil, dAsg, dCall, dCallS, stAll, mapSt_st, mapSt_no, mapSt_val, mapSt_ow, mapSt_scr, mapSt_ns, noSts, wipeS, dSl, dPart, dNoPart, fSl, dRev, dBM, mCount, mIndex, dStInt, dStTurn, dStPop, dStCells, dStPut, dStTurnPut, dLenScr, tyName, isTyN, isNone, isBool, toInts_ints, dInts_len, List.map_cons, List.map_nil, List.map_append, List.getElem?_cons_zero, List.getElem?_cons_succ, List.set_cons_zero, List.set_cons_succ, List.length_cons, List.length_nil, List.take_nil, List.take_zero, List.take_succ_cons, List.cons_append, List.nil_append, List.replicate_zero, List.replicate_succ, if_true, if_false, ite_true, ite_false, Bool.false_eq_true, Bool.not_true, Bool.not_false, reduceIte, Nat.zero_add, Nat.add_zero, Nat.reduceAdd, Nat.reduceSub, Nat.sub_self, decide_true, decide_false, true_and, and_true, List.length_map]
    exact ⟨s, ms, w, l, rfl, h, by rw [pl]; exact hk'⟩
  have nP : Nice (.list (dNats pes)) := by
    rw [dNats_ints]
    exact nice_ints (near_places pe3 n2) (by simp; omega)
  refine seq_to [.st B, .val (.int s), .val (.list (dInts ms)), .val (.int w), .val (.int l), .val (.list (dRows (costs s ms w l))), .own (.lst (dInts ms)), .val (.int (ownL (costs s ms w l))), .val (.int (oneL (costs s ms w l))), .val (.list (dNats pes)), .no, .no, .no, .no] (fun k' hk' => ?_) ?_
  · simp only [den, initS, endB, dSeq, dSet, dPar, dRet, dRetN, dIfS, dDrop, dFor, dNext, dBreak, dCont, dNever, dRaise, dAug, fAddI, dAppend, dSetIx, dVar, dC, dOp, dUn, dCB, dNil, dCons, dLst, dTup, dTest, dAnd, dOr, dNot, dAndV, dOrV, dNotV, dIf, dChain, dIsi, dIsi2, dYes, fAdd, fSub, fMul, fDiv, fMod, fPow, fNeg, fIx, fLen, fMax, fMin, fSum, fSorted, fAbs, fInt, fList, fTuple, fRepr, gEq, gNe, gLt, gLe, gGt, gGe, gIn, gNotIn, gIs, gIsNot, cD, put, cut, see, sees, look, fz, fzs, fzV, fill, dLc, dSeqI, dRng1, dRng2, dEnum, dZip, dName, dgTup, dgCons, dgNil, dAsg, dCall, dCallS, stAll, mapSt_st, mapSt_no, mapSt_val, mapSt_ow, mapSt_scr, mapSt_ns, noSts, wipeS, dSl, dPart, dNoPart, fSl, dRev, dBM, mCount, mIndex, dStInt, dStTurn, dStPop, dStCells, dStPut, dStTurnPut, dLenScr, tyName, isTyN, isNone, isBool, toInts_ints, dInts_len, List.map_cons, List.map_nil, List.map_append, List.getElem?_cons_zero, List.getElem?_cons_succ, List.set_cons_zero, List.set_cons_succ, List.length_cons, List.length_nil, List.take_nil, List.take_zero, List.take_succ_cons, List.cons_append, List.nil_append, List.replicate_zero, List.replicate_succ, if_true, if_false, ite_true, ite_false, Bool.false_eq_true, Bool.not_true, Bool.not_false, reduceIte, Nat.zero_add, Nat.add_zero, Nat.reduceAdd, Nat.reduceSub, Nat.sub_self, decide_true, decide_false, true_and, and_true, List.length_map]
    refine ⟨_, rfl, nP.p, Nat.le_trans nP.d6 (by decide), nP.w, ?_⟩
    simp only [den, initS, endB, dSeq, dSet, dPar, dRet, dRetN, dIfS, dDrop, dFor, dNext, dBreak, dCont, dNever, dRaise, dAug, fAddI, dAppend, dSetIx, dVar, dC, dOp, dUn, dCB, dNil, dCons, dLst, dTup, dTest, dAnd, dOr, dNot, dAndV, dOrV, dNotV, dIf, dChain, dIsi, dIsi2, dYes, fAdd, fSub, fMul, fDiv, fMod, fPow, fNeg, fIx, fLen, fMax, fMin, fSum, fSorted, fAbs, fInt, fList, fTuple, fRepr, gEq, gNe, gLt, gLe, gGt, gGe, gIn, gNotIn, gIs, gIsNot, cD, put, cut, see, sees, look, fz, fzs, fzV, fill, dLc, dSeqI, dRng1, dRng2, dEnum, dZip, dName, dgTup, dgCons, dgNil, dAsg, dCall, dCallS, stAll, mapSt_st, mapSt_no, mapSt_val, mapSt_ow, mapSt_scr, mapSt_ns, noSts, wipeS, dSl, dPart, dNoPart, fSl, dRev, dBM, mCount, mIndex, dStInt, dStTurn, dStPop, dStCells, dStPut, dStTurnPut, dLenScr, tyName, isTyN, isNone, isBool, toInts_ints, dInts_len, List.map_cons, List.map_nil, List.map_append, List.getElem?_cons_zero, List.getElem?_cons_succ, List.set_cons_zero, List.set_cons_succ, List.length_cons, List.length_nil, List.take_nil, List.take_zero, List.take_succ_cons, List.cons_append, List.nil_append, List.replicate_zero, List.replicate_succ, if_true, if_false, ite_true, ite_false, Bool.false_eq_true, Bool.not_true, Bool.not_false, reduceIte, Nat.zero_add, Nat.add_zero, Nat.reduceAdd, Nat.reduceSub, Nat.sub_self, decide_true, decide_false, true_and, and_true, List.length_map, dRows_len, dNats_len, pe2, eqv_int]
    refine ⟨shaped_int _, shaped_int _, ?_⟩
    rw [dNats_ints]
    simp only [den, initS, endB, dSeq, dSet, dPar, dRet, dRetN, dIfS, dDrop, dFor, dNext, dBreak, dCont, dNever, dRaise, dAug, fAddI, dAppend, dSetIx, dVar, dC, dOp, dUn, dCB, dNil, dCons, dLst, dTup, dTest, dAnd, dOr, dNot, dAndV, dOrV, dNotV, dIf, dChain, dIsi, dIsi2, dYes, fAdd, fSub, fMul, fDiv, fMod, fPow, fNeg, fIx, fLen, fMax, fMin, fSum, fSorted, fAbs, fInt, fList, fTuple, fRepr, gEq, gNe, gLt, gLe, gGt, gGe, gIn, gNotIn, gIs, gIsNot, cD, put, cut, see, sees, look, fz, fzs, fzV, fill, dLc, dSeqI, dRng1, dRng2, dEnum, dZip, dName, dgTup, dgCons, dgNil, dAsg, dCall, dCallS, stAll, mapSt_st, mapSt_no, mapSt_val, mapSt_ow, mapSt_scr, mapSt_ns, noSts, wipeS, dSl, dPart, dNoPart, fSl, dRev, dBM, mCount, mIndex, dStInt, dStTurn, dStPop, dStCells, dStPut, dStTurnPut, dLenScr, tyName, isTyN, isNone, isBool, toInts_ints, dInts_len, List.map_cons, List.map_nil, List.map_append, List.getElem?_cons_zero, List.getElem?_cons_succ, List.set_cons_zero, List.set_cons_succ, List.length_cons, List.length_nil, List.take_nil, List.take_zero, List.take_succ_cons, List.cons_append, List.nil_append, List.replicate_zero, List.replicate_succ, if_true, if_false, ite_true, ite_false, Bool.false_eq_true, Bool.not_true, Bool.not_false, reduceIte, Nat.zero_add, Nat.add_zero, Nat.reduceAdd, Nat.reduceSub, Nat.sub_self, decide_true, decide_false, true_and, and_true, List.length_map, sort_places pe3, eqv_ints, decide_true]
    exact ⟨shaped_ints _, shaped_ints _, by rw [← dNats_ints]; exact hk'⟩
  refine seq_to [.st B, .val (.int s), .val (.list (dInts ms)), .val (.int w), .val (.int l), .val (.list (dRows (costs s ms w l))), .own (.lst (dInts ms)), .val (.int (ownL (costs s ms w l))), .val (.int (oneL (costs s ms w l))), .val (.list (dNats pes)), .no, .no, .no, .no] (fun k' hk' => ?_) ?_
  · simp only [den, initS, endB, dSeq, dSet, dPar, dRet, dRetN, dIfS, dDrop, dFor, dNext, dBreak, dCont, dNever, dRaise, dAug, fAddI, dAppend, dSetIx, dVar, dC, dOp, dUn, dCB, dNil, dCons, dLst, dTup, dTest, dAnd, dOr, dNot, dAndV, dOrV, dNotV, dIf, dChain, dIsi, dIsi2, dYes, fAdd, fSub, fMul, fDiv, fMod, fPow, fNeg, fIx, fLen, fMax, fMin, fSum, fSorted, fAbs, fInt, fList, fTuple, fRepr, gEq, gNe, gLt, gLe, gGt, gGe, gIn, gNotIn, gIs, gIsNot, cD, put, cut, see, sees, look, fz, fzs, fzV, fill, dLc, dSeqI, dRng1, dRng2, dEnum, dZip, dName, dgTup, dgCons, dgNil, dAsg, dCall, dCallS, stAll, mapSt_st, mapSt_no, mapSt_val, mapSt_ow, mapSt_scr, mapSt_ns, noSts, wipeS, dSl, dPart, dNoPart, fSl, dRev, dBM, mCount, mIndex, dStInt, dStTurn, dStPop, dStCells, dStPut, dStTurnPut, dLenScr, tyName, isTyN, isNone, isBool, toInts_ints, dInts_len, List.map_cons, List.map_nil, List.map_append, List.getElem?_cons_zero, List.getElem?_cons_succ, List.set_cons_zero, List.set_cons_succ, List.length_cons, List.length_nil, List.take_nil, List.take_zero, List.take_succ_cons, List.cons_append, List.nil_append, List.replicate_zero, List.replicate_succ, if_true, if_false, ite_true, ite_false, Bool.false_eq_true, Bool.not_true, Bool.not_false, reduceIte, Nat.zero_add, Nat.add_zero, Nat.reduceAdd, Nat.reduceSub, Nat.sub_self, decide_true, decide_false, true_and, and_true, List.length_map]
    refine ⟨by rw [dNats_len]; omega, ?_⟩
    refine lc_pure (fun _ => none) _ _ (fun d hd k2 h2 => ?_) ?_
    · obtain ⟨e, he, rfl⟩ := List.mem_map.mp hd
      have := (chF_lo pe3 e he).2
      simp only [stepLc, den, initS, endB, dSeq, dSet, dPar, dRet, dRetN, dIfS, dDrop, dFor, dNext, dBreak, dCont, dNever, dRaise, dAug, fAddI, dAppend, dSetIx, dVar, dC, dOp, dUn, dCB, dNil, dCons, dLst, dTup, dTest, dAnd, dOr, dNot, dAndV, dOrV, dNotV, dIf, dChain, dIsi, dIsi2, dYes, fAdd, fSub, fMul, fDiv, fMod, fPow, fNeg, fIx, fLen, fMax, fMin, fSum, fSorted, fAbs, fInt, fList, fTuple, fRepr, gEq, gNe, gLt, gLe, gGt, gGe, gIn, gNotIn, gIs, gIsNot, cD, put, cut, see, sees, look, fz, fzs, fzV, fill, dLc, dSeqI, dRng1, dRng2, dEnum, dZip, dName, dgTup, dgCons, dgNil, dAsg, dCall, dCallS, stAll, mapSt_st, mapSt_no, mapSt_val, mapSt_ow, mapSt_scr, mapSt_ns, noSts, wipeS, dSl, dPart, dNoPart, fSl, dRev, dBM, mCount, mIndex, dStInt, dStTurn, dStPop, dStCells, dStPut, dStTurnPut, dLenScr, tyName, isTyN, isNone, isBool, toInts_ints, dInts_len, List.map_cons, List.map_nil, List.map_append, List.getElem?_cons_zero, List.getElem?_cons_succ, List.set_cons_zero, List.set_cons_succ, List.length_cons, List.length_nil, List.take_nil, List.take_zero, List.take_succ_cons, List.cons_append, List.nil_append, List.replicate_zero, List.replicate_succ, if_true, if_false, ite_true, ite_false, Bool.false_eq_true, Bool.not_true, Bool.not_false, reduceIte, Nat.zero_add, Nat.add_zero, Nat.reduceAdd, Nat.reduceSub, Nat.sub_self, decide_true, decide_false, true_and, and_true, List.length_map]
      simp
      rw [if_neg (by omega)]
      exact h2
    · have e0 : (dNats pes).filterMap (fun _ => (none : Option D)) = [] := by
        induction (dNats pes) with
        | nil => rfl
        | cons a l ih => simp
      rw [e0]
      simp only [den, initS, endB, dSeq, dSet, dPar, dRet, dRetN, dIfS, dDrop, dFor, dNext, dBreak, dCont, dNever, dRaise, dAug, fAddI, dAppend, dSetIx, dVar, dC, dOp, dUn, dCB, dNil, dCons, dLst, dTup, dTest, dAnd, dOr, dNot, dAndV, dOrV, dNotV, dIf, dChain, dIsi, dIsi2, dYes, fAdd, fSub, fMul, fDiv, fMod, fPow, fNeg, fIx, fLen, fMax, fMin, fSum, fSorted, fAbs, fInt, fList, fTuple, fRepr, gEq, gNe, gLt, gLe, gGt, gGe, gIn, gNotIn, gIs, gIsNot, cD, put, cut, see, sees, look, fz, fzs, fzV, fill, dLc, dSeqI, dRng1, dRng2, dEnum, dZip, dName, dgTup, dgCons, dgNil, dAsg, dCall, dCallS, stAll, mapSt_st, mapSt_no, mapSt_val, mapSt_ow, mapSt_scr, mapSt_ns, noSts, wipeS, dSl, dPart, dNoPart, fSl, dRev, dBM, mCount, mIndex, dStInt, dStTurn, dStPop, dStCells, dStPut, dStTurnPut, dLenScr, tyName, isTyN, isNone, isBool, toInts_ints, dInts_len, List.map_cons, List.map_nil, List.map_append, List.getElem?_cons_zero, List.getElem?_cons_succ, List.set_cons_zero, List.set_cons_succ, List.length_cons, List.length_nil, List.take_nil, List.take_zero, List.take_succ_cons, List.cons_append, List.nil_append, List.replicate_zero, List.replicate_succ, if_true, if_false, ite_true, ite_false, Bool.false_eq_true, Bool.not_true, Bool.not_false, reduceIte, Nat.zero_add, Nat.add_zero, Nat.reduceAdd, Nat.reduceSub, Nat.sub_self, decide_true, decide_false, true_and, and_true, List.length_map, eqv_nil, List.isEmpty_nil]
      exact ⟨Nat.zero_le _, shaped_ints [], shaped_ints [], hk'⟩
  refine seq_to [.st B, .val (.int s), .val (.list (dInts ms)), .val (.int w), .val (.int l), .val (.list (dRows (costs s ms w l))), .own (.lst (dInts ms)), .val (.int (ownL (costs s ms w l))), .val (.int (oneL (costs s ms w l))), .val (.list (dNats pes)), .no, .no, .no, .no] (fun k' hk' => ?_) ?_
  · simp only [dIfS, dOr, dTest, dOp]
    refine sumZip9 cw pe3 (by omega) _ ?_
    simp only [den, initS, endB, dSeq, dSet, dPar, dRet, dRetN, dIfS, dDrop, dFor, dNext, dBreak, dCont, dNever, dRaise, dAug, fAddI, dAppend, dSetIx, dVar, dC, dOp, dUn, dCB, dNil, dCons, dLst, dTup, dTest, dAnd, dOr, dNot, dAndV, dOrV, dNotV, dIf, dChain, dIsi, dIsi2, dYes, fAdd, fSub, fMul, fDiv, fMod, fPow, fNeg, fIx, fLen, fMax, fMin, fSum, fSorted, fAbs, fInt, fList, fTuple, fRepr, gEq, gNe, gLt, gLe, gGt, gGe, gIn, gNotIn, gIs, gIsNot, cD, put, cut, see, sees, look, fz, fzs, fzV, fill, dLc, dSeqI, dRng1, dRng2, dEnum, dZip, dName, dgTup, dgCons, dgNil, dAsg, dCall, dCallS, stAll, mapSt_st, mapSt_no, mapSt_val, mapSt_ow, mapSt_scr, mapSt_ns, noSts, wipeS, dSl, dPart, dNoPart, fSl, dRev, dBM, mCount, mIndex, dStInt, dStTurn, dStPop, dStCells, dStPut, dStTurnPut, dLenScr, tyName, isTyN, isNone, isBool, toInts_ints, dInts_len, List.map_cons, List.map_nil, List.map_append, List.getElem?_cons_zero, List.getElem?_cons_succ, List.set_cons_zero, List.set_cons_succ, List.length_cons, List.length_nil, List.take_nil, List.take_zero, List.take_succ_cons, List.cons_append, List.nil_append, List.replicate_zero, List.replicate_succ, if_true, if_false, ite_true, ite_false, Bool.false_eq_true, Bool.not_true, Bool.not_false, reduceIte, Nat.zero_add, Nat.add_zero, Nat.reduceAdd, Nat.reduceSub, Nat.sub_self, decide_true, decide_false, true_and, and_true, List.length_map, eqv_int, pcost1, decide_true, T_closing_cost, T__law_is]
    exact ⟨shaped_int _, shaped_int _, s, ms, w, l, pes, rfl, h, pe2, pe3, _, by rw [pcost1], nice_int nOne, hk'⟩
  refine seq_toP (fun t => ∃ des : List Nat, des.length = (costs s ms w l).length ∧ ChF (ms.length + 1) 0 des ∧ t = [.st (B + (costs s ms w l).length), .val (.int s), .val (.list (dInts ms)), .val (.int w), .val (.int l), .val (.list (dRows (costs s ms w l))), .own (.lst (dInts ms)), .val (.int (ownL (costs s ms w l))), .val (.int (oneL (costs s ms w l))), .val (.list (dNats pes)), .own (.lst (dNats des)), .no, .no, .no]) (fun k' hk' => ?_) fun t ht => ?_
  · simp only [den, initS, endB, dSeq, dSet, dPar, dRet, dRetN, dIfS, dDrop, dFor, dNext, dBreak, dCont, dNever, dRaise, dAug, fAddI, dAppend, dSetIx, dVar, dC, dOp, dUn, dCB, dNil, dCons, dLst, dTup, dTest, dAnd, dOr, dNot, dAndV, dOrV, dNotV, dIf, dChain, dIsi, dIsi2, dYes, fAdd, fSub, fMul, fDiv, fMod, fPow, fNeg, fIx, fLen, fMax, fMin, fSum, fSorted, fAbs, fInt, fList, fTuple, fRepr, gEq, gNe, gLt, gLe, gGt, gGe, gIn, gNotIn, gIs, gIsNot, cD, put, cut, see, sees, look, fz, fzs, fzV, fill, dLc, dSeqI, dRng1, dRng2, dEnum, dZip, dName, dgTup, dgCons, dgNil, dAsg, dCall, dCallS, stAll, mapSt_st, mapSt_no, mapSt_val, mapSt_ow, mapSt_scr, mapSt_ns, noSts, wipeS, dSl, dPart, dNoPart, fSl, dRev, dBM, mCount, mIndex, dStInt, dStTurn, dStPop, dStCells, dStPut, dStTurnPut, dLenScr, tyName, isTyN, isNone, isBool, toInts_ints, dInts_len, List.map_cons, List.map_nil, List.map_append, List.getElem?_cons_zero, List.getElem?_cons_succ, List.set_cons_zero, List.set_cons_succ, List.length_cons, List.length_nil, List.take_nil, List.take_zero, List.take_succ_cons, List.cons_append, List.nil_append, List.replicate_zero, List.replicate_succ, if_true, if_false, ite_true, ite_false, Bool.false_eq_true, Bool.not_true, Bool.not_false, reduceIte, Nat.zero_add, Nat.add_zero, Nat.reduceAdd, Nat.reduceSub, Nat.sub_self, decide_true, decide_false, true_and, and_true, List.length_map]
    refine ⟨by rw [dRows_len]; omega, ?_⟩
    refine lc_inv (fun xs acc t => ∃ ns : List Int, acc = dInts ns ∧ (∀ x ∈ ns, 0 ≤ x ∧ x ≤ (ms.length : Int)) ∧ ns.length + xs.length = (costs s ms w l).length ∧ t = [.st (B + ns.length), .val (.int s), .val (.list (dInts ms)), .val (.int w), .val (.int l), .val (.list (dRows (costs s ms w l))), .own (.lst (dInts ms)), .val (.int (ownL (costs s ms w l))), .val (.int (oneL (costs s ms w l))), .val (.list (dNats pes)), .no, .no, .no, .no])
      (fun x xs acc t ht k3 h3 => ?_) (fun acc t ht => ?_) _ _ _ ⟨[], rfl, fun _ h => (by cases h), by simp [dRows_len], by simp⟩
    · obtain ⟨ns, rfl, hn, hl, rfl⟩ := ht
      simp only [stepLc, T__law_draw, den, initS, endB, dSeq, dSet, dPar, dRet, dRetN, dIfS, dDrop, dFor, dNext, dBreak, dCont, dNever, dRaise, dAug, fAddI, dAppend, dSetIx, dVar, dC, dOp, dUn, dCB, dNil, dCons, dLst, dTup, dTest, dAnd, dOr, dNot, dAndV, dOrV, dNotV, dIf, dChain, dIsi, dIsi2, dYes, fAdd, fSub, fMul, fDiv, fMod, fPow, fNeg, fIx, fLen, fMax, fMin, fSum, fSorted, fAbs, fInt, fList, fTuple, fRepr, gEq, gNe, gLt, gLe, gGt, gGe, gIn, gNotIn, gIs, gIsNot, cD, put, cut, see, sees, look, fz, fzs, fzV, fill, dLc, dSeqI, dRng1, dRng2, dEnum, dZip, dName, dgTup, dgCons, dgNil, dAsg, dCall, dCallS, stAll, mapSt_st, mapSt_no, mapSt_val, mapSt_ow, mapSt_scr, mapSt_ns, noSts, wipeS, dSl, dPart, dNoPart, fSl, dRev, dBM, mCount, mIndex, dStInt, dStTurn, dStPop, dStCells, dStPut, dStTurnPut, dLenScr, tyName, isTyN, isNone, isBool, toInts_ints, dInts_len, List.map_cons, List.map_nil, List.map_append, List.getElem?_cons_zero, List.getElem?_cons_succ, List.set_cons_zero, List.set_cons_succ, List.length_cons, List.length_nil, List.take_nil, List.take_zero, List.take_succ_cons, List.cons_append, List.nil_append, List.replicate_zero, List.replicate_succ, if_true, if_false, ite_true, ite_false, Bool.false_eq_true, Bool.not_true, Bool.not_false, reduceIte, Nat.zero_add, Nat.add_zero, Nat.reduceAdd, Nat.reduceSub, Nat.sub_self, decide_true, decide_false, true_and, and_true, List.length_map]
      simp at hl
      refine ⟨_, rfl, by omega, by omega, by omega, by omega, fun n n0 n1 => h3 _ _ ⟨ns ++ [n], by simp [dInts], fun y hy => ?_, by simp; omega, by simp; omega⟩⟩
      rcases List.mem_append.mp hy with hy | hy
      · exact hn y hy
      · rw [List.mem_singleton] at hy
        subst hy
        omega
    · obtain ⟨ns, rfl, hn, hl, rfl⟩ := ht
      obtain ⟨des, d1, d2, d3⟩ := drawn_ok hn
      simp at hl
      simp only [den, initS, endB, dSeq, dSet, dPar, dRet, dRetN, dIfS, dDrop, dFor, dNext, dBreak, dCont, dNever, dRaise, dAug, fAddI, dAppend, dSetIx, dVar, dC, dOp, dUn, dCB, dNil, dCons, dLst, dTup, dTest, dAnd, dOr, dNot, dAndV, dOrV, dNotV, dIf, dChain, dIsi, dIsi2, dYes, fAdd, fSub, fMul, fDiv, fMod, fPow, fNeg, fIx, fLen, fMax, fMin, fSum, fSorted, fAbs, fInt, fList, fTuple, fRepr, gEq, gNe, gLt, gLe, gGt, gGe, gIn, gNotIn, gIs, gIsNot, cD, put, cut, see, sees, look, fz, fzs, fzV, fill, dLc, dSeqI, dRng1, dRng2, dEnum, dZip, dName, dgTup, dgCons, dgNil, dAsg, dCall, dCallS, stAll, mapSt_st, mapSt_no, mapSt_val, mapSt_ow, mapSt_scr, mapSt_ns, noSts, wipeS, dSl, dPart, dNoPart, fSl, dRev, dBM, mCount, mIndex, dStInt, dStTurn, dStPop, dStCells, dStPut, dStTurnPut, dLenScr, tyName, isTyN, isNone, isBool, toInts_ints, dInts_len, List.map_cons, List.map_nil, List.map_append, List.getElem?_cons_zero, List.getElem?_cons_succ, List.set_cons_zero, List.set_cons_succ, List.length_cons, List.length_nil, List.take_nil, List.take_zero, List.take_succ_cons, List.cons_append, List.nil_append, List.replicate_zero, List.replicate_succ, if_true, if_false, ite_true, ite_false, Bool.false_eq_true, Bool.not_true, Bool.not_false, reduceIte, Nat.zero_add, Nat.add_zero, Nat.reduceAdd, Nat.reduceSub, Nat.sub_self, decide_true, decide_false, true_and, and_true, List.length_map, d1]
      exact hk' _ ⟨des, by omega, d3, by rw [hl]⟩
  obtain ⟨des, d1, d2, rfl⟩ := ht
  have b2 := pcost_bound h d1 d2
  refine seq_to [.st (B + (costs s ms w l).length), .val (.int s), .val (.list (dInts ms)), .val (.int w), .val (.int l), .val (.list (dRows (costs s ms w l))), .own (.lst (dInts ms)), .val (.int (ownL (costs s ms w l))), .val (.int (oneL (costs s ms w l))), .val (.list (dNats pes)), .val (.list (dNats des)), .val (.int (pcost (costs s ms w l) des)), .no, .no] (fun k' hk' => ?_) ?_
  · simp only [den, initS, endB, dSeq, dSet, dPar, dRet, dRetN, dIfS, dDrop, dFor, dNext, dBreak, dCont, dNever, dRaise, dAug, fAddI, dAppend, dSetIx, dVar, dC, dOp, dUn, dCB, dNil, dCons, dLst, dTup, dTest, dAnd, dOr, dNot, dAndV, dOrV, dNotV, dIf, dChain, dIsi, dIsi2, dYes, fAdd, fSub, fMul, fDiv, fMod, fPow, fNeg, fIx, fLen, fMax, fMin, fSum, fSorted, fAbs, fInt, fList, fTuple, fRepr, gEq, gNe, gLt, gLe, gGt, gGe, gIn, gNotIn, gIs, gIsNot, cD, put, cut, see, sees, look, fz, fzs, fzV, fill, dLc, dSeqI, dRng1, dRng2, dEnum, dZip, dName, dgTup, dgCons, dgNil, dAsg, dCall, dCallS, stAll, mapSt_st, mapSt_no, mapSt_val, mapSt_ow, mapSt_scr, mapSt_ns, noSts, wipeS, dSl, dPart, dNoPart, fSl, dRev, dBM, mCount, mIndex, dStInt, dStTurn, dStPop, dStCells, dStPut, dStTurnPut, dLenScr, tyName, isTyN, isNone, isBool, toInts_ints, dInts_len, List.map_cons, List.map_nil, List.map_append, List.getElem?_cons_zero, List.getElem?_cons_succ, List.set_cons_zero, List.set_cons_succ, List.length_cons, List.length_nil, List.take_nil, List.take_zero, List.take_succ_cons, List.cons_append, List.nil_append, List.replicate_zero, List.replicate_succ, if_true, if_false, ite_true, ite_false, Bool.false_eq_true, Bool.not_true, Bool.not_false, reduceIte, Nat.zero_add, Nat.add_zero, Nat.reduceAdd, Nat.reduceSub, Nat.sub_self, decide_true, decide_false, true_and, and_true, List.length_map]
    rw [dRows_map, dNats, zipL_map]
    refine ⟨by rw [List.length_map, List.length_zip]; omega, lc_map _ (fun q : Row × Nat => .int (q.1.getD q.2 0)) _ (fun q hq k5 h5 => ?_) ?_⟩
    · have hq2 := zip_ok cw d2 q hq
      simp only [stepLc, den, initS, endB, dSeq, dSet, dPar, dRet, dRetN, dIfS, dDrop, dFor, dNext, dBreak, dCont, dNever, dRaise, dAug, fAddI, dAppend, dSetIx, dVar, dC, dOp, dUn, dCB, dNil, dCons, dLst, dTup, dTest, dAnd, dOr, dNot, dAndV, dOrV, dNotV, dIf, dChain, dIsi, dIsi2, dYes, fAdd, fSub, fMul, fDiv, fMod, fPow, fNeg, fIx, fLen, fMax, fMin, fSum, fSorted, fAbs, fInt, fList, fTuple, fRepr, gEq, gNe, gLt, gLe, gGt, gGe, gIn, gNotIn, gIs, gIsNot, cD, put, cut, see, sees, look, fz, fzs, fzV, fill, dLc, dSeqI, dRng1, dRng2, dEnum, dZip, dName, dgTup, dgCons, dgNil, dAsg, dCall, dCallS, stAll, mapSt_st, mapSt_no, mapSt_val, mapSt_ow, mapSt_scr, mapSt_ns, noSts, wipeS, dSl, dPart, dNoPart, fSl, dRev, dBM, mCount, mIndex, dStInt, dStTurn, dStPop, dStCells, dStPut, dStTurnPut, dLenScr, tyName, isTyN, isNone, isBool, toInts_ints, dInts_len, List.map_cons, List.map_nil, List.map_append, List.getElem?_cons_zero, List.getElem?_cons_succ, List.set_cons_zero, List.set_cons_succ, List.length_cons, List.length_nil, List.take_nil, List.take_zero, List.take_succ_cons, List.cons_append, List.nil_append, List.replicate_zero, List.replicate_succ, if_true, if_false, ite_true, ite_false, Bool.false_eq_true, Bool.not_true, Bool.not_false, reduceIte, Nat.zero_add, Nat.add_zero, Nat.reduceAdd, Nat.reduceSub, Nat.sub_self, decide_true, decide_false, true_and, and_true, List.length_map, atI_ints hq2]
      rw [getD_of hq2] at h5
      exact h5
    · rw [map_int]
      simp only [den, initS, endB, dSeq, dSet, dPar, dRet, dRetN, dIfS, dDrop, dFor, dNext, dBreak, dCont, dNever, dRaise, dAug, fAddI, dAppend, dSetIx, dVar, dC, dOp, dUn, dCB, dNil, dCons, dLst, dTup, dTest, dAnd, dOr, dNot, dAndV, dOrV, dNotV, dIf, dChain, dIsi, dIsi2, dYes, fAdd, fSub, fMul, fDiv, fMod, fPow, fNeg, fIx, fLen, fMax, fMin, fSum, fSorted, fAbs, fInt, fList, fTuple, fRepr, gEq, gNe, gLt, gLe, gGt, gGe, gIn, gNotIn, gIs, gIsNot, cD, put, cut, see, sees, look, fz, fzs, fzV, fill, dLc, dSeqI, dRng1, dRng2, dEnum, dZip, dName, dgTup, dgCons, dgNil, dAsg, dCall, dCallS, stAll, mapSt_st, mapSt_no, mapSt_val, mapSt_ow, mapSt_scr, mapSt_ns, noSts, wipeS, dSl, dPart, dNoPart, fSl, dRev, dBM, mCount, mIndex, dStInt, dStTurn, dStPop, dStCells, dStPut, dStTurnPut, dLenScr, tyName, isTyN, isNone, isBool, toInts_ints, dInts_len, List.map_cons, List.map_nil, List.map_append, List.getElem?_cons_zero, List.getElem?_cons_succ, List.set_cons_zero, List.set_cons_succ, List.length_cons, List.length_nil, List.take_nil, List.take_zero, List.take_succ_cons, List.cons_append, List.nil_append, List.replicate_zero, List.replicate_succ, if_true, if_false, ite_true, ite_false, Bool.false_eq_true, Bool.not_true, Bool.not_false, reduceIte, Nat.zero_add, Nat.add_zero, Nat.reduceAdd, Nat.reduceSub, Nat.sub_self, decide_true, decide_false, true_and, and_true, List.length_map, pcost_zip]
      exact hk'
  simp only [T_closing_cost, T__law_is, den, initS, endB, dSeq, dSet, dPar, dRet, dRetN, dIfS, dDrop, dFor, dNext, dBreak, dCont, dNever, dRaise, dAug, fAddI, dAppend, dSetIx, dVar, dC, dOp, dUn, dCB, dNil, dCons, dLst, dTup, dTest, dAnd, dOr, dNot, dAndV, dOrV, dNotV, dIf, dChain, dIsi, dIsi2, dYes, fAdd, fSub, fMul, fDiv, fMod, fPow, fNeg, fIx, fLen, fMax, fMin, fSum, fSorted, fAbs, fInt, fList, fTuple, fRepr, gEq, gNe, gLt, gLe, gGt, gGe, gIn, gNotIn, gIs, gIsNot, cD, put, cut, see, sees, look, fz, fzs, fzV, fill, dLc, dSeqI, dRng1, dRng2, dEnum, dZip, dName, dgTup, dgCons, dgNil, dAsg, dCall, dCallS, stAll, mapSt_st, mapSt_no, mapSt_val, mapSt_ow, mapSt_scr, mapSt_ns, noSts, wipeS, dSl, dPart, dNoPart, fSl, dRev, dBM, mCount, mIndex, dStInt, dStTurn, dStPop, dStCells, dStPut, dStTurnPut, dLenScr, tyName, isTyN, isNone, isBool, toInts_ints, dInts_len, List.map_cons, List.map_nil, List.map_append, List.getElem?_cons_zero, List.getElem?_cons_succ, List.set_cons_zero, List.set_cons_succ, List.length_cons, List.length_nil, List.take_nil, List.take_zero, List.take_succ_cons, List.cons_append, List.nil_append, List.replicate_zero, List.replicate_succ, if_true, if_false, ite_true, ite_false, Bool.false_eq_true, Bool.not_true, Bool.not_false, reduceIte, Nat.zero_add, Nat.add_zero, Nat.reduceAdd, Nat.reduceSub, Nat.sub_self, decide_true, decide_false, true_and, and_true, List.length_map]
  refine ⟨s, ms, w, l, des, rfl, h, d1, d2, _, rfl, nice_int ⟨by omega, by omega⟩, shaped_ints _, shaped_ints _, ?_⟩
  rw [eqv_ints, decide_eq_true rfl]
  exact ⟨B + 1000, by omega, hk⟩

abbrev nn_law : Nat := 13
-- 0:script 1:state 2:turn 3:size 4:panes 5:moments 6:way 7:wait 8:lose 9:late 10:lap 11:k 12:at
def B_law : (String → Prop) → DSt := fun kx => (dSeq (dFor (dRng1 (dCons (dOp fAdd (dC (.int 4)) (dCB fMin (dCons (dLenScr 0) (dCons (dC (.int 6)) dNil)))) dNil)) (dName 2) (dSeq (dAsg (dgTup 2 (dgCons (dName 3) (dgCons (dName 4) dgNil))) (dTup (dCons (dCallS 1 1 T__law_pick (fun _ => False) (dCons (dLst (dCons (dC (.int 1)) (dCons (dC (.int 2)) (dCons (dC (.int 3)) (dCons (dC (.int 5)) (dCons (dC (.int 20)) dNil)))))) dNil)) (dCons (dOp fAdd (dC (.int 1)) (dCallS 1 1 T__law_draw (fun _ => False) (dCons (dC (.int 4)) dNil))) dNil)))) (dSeq (dSet 5 (dLc (dRng1 (dCons (dOp fAdd (dC (.int 1)) (dCallS 1 1 T__law_draw (fun _ => False) (dCons (dC (.int 8)) dNil))) dNil)) (dName 10) dYes (dCallS 1 1 T__law_draw (fun _ => False) (dCons (dOp fMul (dVar 3) (dVar 4)) dNil)) [10])) (dSeq (dSet 6 (dCallS 1 1 T__law_draw (fun _ => False) (dCons (dC (.int 3)) dNil))) (dSeq (dIfS (dTest (dOp (cD gLt) (dVar 6) (dC (.int 2)))) (dSet 5 (dCB fSorted (dCons (dVar 5) dNil))) dNext) (dSeq (dIfS (dTest (dOp (cD gEq) (dVar 6) (dC (.int 0)))) (dSet 5 (dOp fAdd (dOp fAdd (dSl (dVar 5) (dPart (dC (.int 1))) dNoPart) (dSl (dVar 5) dNoPart (dPart (dC (.int 1))))) (dLc (dRng1 (dCons (dCallS 1 1 T__law_draw (fun _ => False) (dCons (dC (.int 2)) dNil)) dNil)) (dName 10) dYes (dCallS 1 1 T__law_draw (fun _ => False) (dCons (dVar 3) dNil)) [10]))) dNext) (dSeq (dPar [7, 8] (dCons (dCallS 1 1 T__law_pick (fun _ => False) (dCons (dLst (dCons (dC (.int 0)) (dCons (dC (.int 1)) (dCons (dC (.int 1)) (dCons (dC (.int 2)) (dCons (dCallS 1 1 T__law_draw (fun _ => False) (dCons (dC (.int 1001)) dNil)) dNil)))))) dNil)) (dCons (dCallS 1 1 T__law_pick (fun _ => False) (dCons (dLst (dCons (dC (.int 0)) (dCons (dC (.int 1)) (dCons (dC (.int 2)) (dCons (dC (.int 3)) (dCons (dC (.int 5)) (dCons (dCallS 1 1 T__law_draw (fun _ => False) (dCons (dC (.int 1001)) dNil)) dNil))))))) dNil)) dNil))) (dSeq (dIfS (dNot (dTest (dCallS 1 4 T__law_closing_right (fun _ => False) (dCons (dVar 3) (dCons (dVar 5) (dCons (dVar 7) (dCons (dVar 8) dNil))))))) (dRet (dC (.bool false))) dNext) (dSeq (dSet 9 (dOp fAdd (dOp fAdd (dLst (dCons (dCallS 1 1 T__law_draw (fun _ => False) (dCons (dVar 3) dNil)) dNil)) (dLc (dRng1 (dCons (dCallS 1 1 T__law_draw (fun _ => False) (dCons (dC (.int 4)) dNil)) dNil)) (dName 11) dYes (dOp fMul (dVar 3) (dOp fAdd (dC (.int 1)) (dVar 11))) [11])) (dLc (dRng1 (dCons (dOp fAdd (dC (.int 1)) (dCallS 1 1 T__law_draw (fun _ => False) (dCons (dC (.int 3)) dNil))) dNil)) (dName 10) dYes (dCallS 1 1 T__law_draw (fun _ => False) (dCons (dVar 3) dNil)) [10]))) (dIfS (dNot (dTest (dCallS 1 4 T__law_closing_right (fun _ => False) (dCons (dVar 3) (dCons (dVar 9) (dCons (dCallS 1 1 T__law_pick (fun _ => False) (dCons (dLst (dCons (dC (.int 1)) (dCons (dC (.int 1)) (dCons (dC (.int 2)) dNil)))) dNil)) (dCons (dCallS 1 1 T__law_pick (fun _ => False) (dCons (dLst (dCons (dC (.int 2)) (dCons (dC (.int 5)) (dCons (dC (.int 50)) dNil)))) dNil)) dNil))))))) (dRet (dC (.bool false))) dNext)))))))))) (dSeq (dSet 3 (dCallS 1 1 T__law_pick (fun _ => False) (dCons (dLst (dCons (dC (.int 10)) (dCons (dC (.int 14)) (dCons (dC (.int 20)) dNil)))) dNil))) (dSeq (dSet 5 (dLc (dRng1 (dCons (dOp fAdd (dC (.int 10)) (dCallS 1 1 T__law_draw (fun _ => False) (dCons (dC (.int 31)) dNil))) dNil)) (dName 12) dYes (dCB fMin (dCons (dC (.int 200)) (dCons (dOp fAdd (dOp fMul (dVar 12) (dC (.int 5))) (dCallS 1 1 T__law_draw (fun _ => False) (dCons (dC (.int 40)) dNil))) dNil))) [12])) (dRet (dCallS 1 4 T__law_closing_right (fun _ => False) (dCons (dVar 3) (dCons (dVar 5) (dCons (dC (.int 1)) (dCons (dCallS 1 1 T__law_pick (fun _ => False) (dCons (dLst (dCons (dC (.int 1)) (dCons (dC (.int 2)) (dCons (dC (.int 4)) (dCons (dC (.int 9)) dNil))))) dNil)) dNil)))))))))
theorem law_true : ∀ n : Nat, n ≤ 63 → B_law (fun _ => False) ⟨fun _ => False, fun d _ => d = .bool true, fun _ => False, fun _ => False⟩ (lawS n nn_law) := fun n hn => by
  have sz : sizeLine = 2 ^ 24 := rfl
  have e0 : lawS n nn_law = [.scr n, .st 0, .no, .no, .no, .no, .no, .no, .no, .no, .no, .no, .no] := rfl
  rw [e0]
  unfold B_law
  refine seq_toP (fun t => ∃ (B : Int) (y2 y3 y4 y5 y6 y7 y8 y9 : Sl), 0 ≤ B ∧ B ≤ 100000 ∧ t = [.scr n, .st B, (ns y2), (ns y3), (ns y4), (ns y5), (ns y6), (ns y7), (ns y8), (ns y9), .no, .no, .no]) (fun k' hk' => ?_) fun t ht => ?_
  · simp only [dFor, den, initS, endB, dSeq, dSet, dPar, dRet, dRetN, dIfS, dDrop, dFor, dNext, dBreak, dCont, dNever, dRaise, dAug, fAddI, dAppend, dSetIx, dVar, dC, dOp, dUn, dCB, dNil, dCons, dLst, dTup, dTest, dAnd, dOr, dNot, dAndV, dOrV, dNotV, dIf, dChain, dIsi, dIsi2, dYes, fAdd, fSub, fMul, fDiv, fMod, fPow, fNeg, fIx, fLen, fMax, fMin, fSum, fSorted, fAbs, fInt, fList, fTuple, fRepr, gEq, gNe, gLt, gLe, gGt, gGe, gIn, gNotIn, gIs, gIsNot, cD, put, cut, see, sees, look, fz, fzs, fzV, fill, dLc, dSeqI, dRng1, dRng2, dEnum, dZip, dName, dgTup, dgCons, dgNil, dAsg, dCall, dCallS, stAll, mapSt_st, mapSt_no, mapSt_val, mapSt_ow, mapSt_scr, mapSt_ns, noSts, wipeS, dSl, dPart, dNoPart, fSl, dRev, dBM, mCount, mIndex, dStInt, dStTurn, dStPop, dStCells, dStPut, dStTurnPut, dLenScr, tyName, isTyN, isNone, isBool, toInts_ints, dInts_len, List.map_cons, List.map_nil, List.map_append, List.getElem?_cons_zero, List.getElem?_cons_succ, List.set_cons_zero, List.set_cons_succ, List.length_cons, List.length_nil, List.take_nil, List.take_zero, List.take_succ_cons, List.cons_append, List.nil_append, List.replicate_zero, List.replicate_succ, if_true, if_false, ite_true, ite_false, Bool.false_eq_true, Bool.not_true, Bool.not_false, reduceIte, Nat.zero_add, Nat.add_zero, Nat.reduceAdd, Nat.reduceSub, Nat.sub_self, decide_true, decide_false, true_and, and_true, List.length_map]
    refine ⟨by omega, ?_⟩
    rw [rangeL0]
    refine for_to _ (fun zs t => ∃ (B : Int) (y2 y3 y4 y5 y6 y7 y8 y9 : Sl), 0 ≤ B ∧ B + 5000 * zs.length ≤ 100000 ∧ t = [.scr n, .st B, (ns y2), (ns y3), (ns y4), (ns y5), (ns y6), (ns y7), (ns y8), (ns y9), .no, .no, .no]) _ ⟨0, .no, .no, .no, .no, .no, .no, .no, .no, Int.le_refl _, by simp; omega, rfl⟩ (fun x zs t ht k1 b1 hk1 => ?_) fun t ht => ?_
    · obtain ⟨B, y2, y3, y4, y5, y6, y7, y8, y9, hB, hB2, rfl⟩ := ht
      rw [List.length_cons] at hB2
      simp only [dName, List.set_cons_succ, List.set_cons_zero]
      refine seq_toP (fun t => ∃ s p : Int, 1 ≤ s ∧ s ≤ 20 ∧ 1 ≤ p ∧ p ≤ 4 ∧ t = [.scr n, .st (B + 2), .val (.int (x : Int)), .val (.int s), .val (.int p), (ns y5), (ns y6), (ns y7), (ns y8), (ns y9), .no, .no, .no]) (fun k2 h2 => ?_) fun t ht => ?_
      · simp only [T__law_pick, T__law_draw, den, initS, endB, dSeq, dSet, dPar, dRet, dRetN, dIfS, dDrop, dFor, dNext, dBreak, dCont, dNever, dRaise, dAug, fAddI, dAppend, dSetIx, dVar, dC, dOp, dUn, dCB, dNil, dCons, dLst, dTup, dTest, dAnd, dOr, dNot, dAndV, dOrV, dNotV, dIf, dChain, dIsi, dIsi2, dYes, fAdd, fSub, fMul, fDiv, fMod, fPow, fNeg, fIx, fLen, fMax, fMin, fSum, fSorted, fAbs, fInt, fList, fTuple, fRepr, gEq, gNe, gLt, gLe, gGt, gGe, gIn, gNotIn, gIs, gIsNot, cD, put, cut, see, sees, look, fz, fzs, fzV, fill, dLc, dSeqI, dRng1, dRng2, dEnum, dZip, dName, dgTup, dgCons, dgNil, dAsg, dCall, dCallS, stAll, mapSt_st, mapSt_no, mapSt_val, mapSt_ow, mapSt_scr, mapSt_ns, noSts, wipeS, dSl, dPart, dNoPart, fSl, dRev, dBM, mCount, mIndex, dStInt, dStTurn, dStPop, dStCells, dStPut, dStTurnPut, dLenScr, tyName, isTyN, isNone, isBool, toInts_ints, dInts_len, List.map_cons, List.map_nil, List.map_append, List.getElem?_cons_zero, List.getElem?_cons_succ, List.set_cons_zero, List.set_cons_succ, List.length_cons, List.length_nil, List.take_nil, List.take_zero, List.take_succ_cons, List.cons_append, List.nil_append, List.replicate_zero, List.replicate_succ, if_true, if_false, ite_true, ite_false, Bool.false_eq_true, Bool.not_true, Bool.not_false, reduceIte, Nat.zero_add, Nat.add_zero, Nat.reduceAdd, Nat.reduceSub, Nat.sub_self, decide_true, decide_false, true_and, and_true, List.length_map]
        refine ⟨by omega, _, rfl, hB, by omega, by simp, by simp, fun d hd => ⟨_, rfl, by omega, by omega, by omega, by omega, fun m m0 m1 => ⟨by omega, ?_⟩⟩⟩
        have hd2 : ∃ s : Int, d = .int s ∧ 1 ≤ s ∧ s ≤ 20 := by
          simp at hd
          rcases hd with rfl | rfl | rfl | rfl | rfl <;> exact ⟨_, rfl, by omega, by omega⟩
        obtain ⟨s, rfl, s1, s2⟩ := hd2
        exact h2 _ ⟨s, 1 + m, s1, s2, by omega, by omega, by rw [show B + 1 + 1 = B + 2 by omega]⟩
      obtain ⟨s, p, s1, s2, p1, p2, rfl⟩ := ht
      have sp : s * p ≤ 20 * 4 := Int.mul_le_mul s2 p2 (by omega) (by omega)
      have sp0 : 0 < s * p := Int.mul_pos (by omega) (by omega)
      refine seq_toP (fun t => ∃ (B1 : Int) (ms : List Int), B ≤ B1 ∧ B1 ≤ B + 20 ∧ 1 ≤ ms.length ∧ ms.length ≤ 8 ∧ (∀ m ∈ ms, 0 ≤ m ∧ m ≤ 200) ∧ t = [.scr n, .st B1, .val (.int (x : Int)), .val (.int s), .val (.int p), .own (.lst (dInts ms)), (ns y6), (ns y7), (ns y8), (ns y9), .no, .no, .no]) (fun k2 h2 => ?_) fun t ht => ?_
      · simp only [T__law_draw, den, initS, endB, dSeq, dSet, dPar, dRet, dRetN, dIfS, dDrop, dFor, dNext, dBreak, dCont, dNever, dRaise, dAug, fAddI, dAppend, dSetIx, dVar, dC, dOp, dUn, dCB, dNil, dCons, dLst, dTup, dTest, dAnd, dOr, dNot, dAndV, dOrV, dNotV, dIf, dChain, dIsi, dIsi2, dYes, fAdd, fSub, fMul, fDiv, fMod, fPow, fNeg, fIx, fLen, fMax, fMin, fSum, fSorted, fAbs, fInt, fList, fTuple, fRepr, gEq, gNe, gLt, gLe, gGt, gGe, gIn, gNotIn, gIs, gIsNot, cD, put, cut, see, sees, look, fz, fzs, fzV, fill, dLc, dSeqI, dRng1, dRng2, dEnum, dZip, dName, dgTup, dgCons, dgNil, dAsg, dCall, dCallS, stAll, mapSt_st, mapSt_no, mapSt_val, mapSt_ow, mapSt_scr, mapSt_ns, noSts, wipeS, dSl, dPart, dNoPart, fSl, dRev, dBM, mCount, mIndex, dStInt, dStTurn, dStPop, dStCells, dStPut, dStTurnPut, dLenScr, tyName, isTyN, isNone, isBool, toInts_ints, dInts_len, List.map_cons, List.map_nil, List.map_append, List.getElem?_cons_zero, List.getElem?_cons_succ, List.set_cons_zero, List.set_cons_succ, List.length_cons, List.length_nil, List.take_nil, List.take_zero, List.take_succ_cons, List.cons_append, List.nil_append, List.replicate_zero, List.replicate_succ, if_true, if_false, ite_true, ite_false, Bool.false_eq_true, Bool.not_true, Bool.not_false, reduceIte, Nat.zero_add, Nat.add_zero, Nat.reduceAdd, Nat.reduceSub, Nat.sub_self, decide_true, decide_false, true_and, and_true, List.length_map]
        refine ⟨_, rfl, by omega, by omega, by omega, by omega, fun c c0 c1 => ⟨⟨by omega, by omega⟩, by rw [rangeL_len]; omega, ?_⟩⟩
        refine lc_draw (fun B => [.scr n, .st B, .val (.int (x : Int)), .val (.int s), .val (.int p), (ns y5), (ns y6), (ns y7), (ns y8), (ns y9), .no, .no, .no]) (fun m => 0 ≤ m ∧ m ≤ 200) _ (B + 2 + 1) (fun d hd B' b1 b2 k3 h3 => ?_) fun ns hl hm => ?_
        · rw [rangeL_len] at b2
          simp only [stepLc, T__law_draw, den, initS, endB, dSeq, dSet, dPar, dRet, dRetN, dIfS, dDrop, dFor, dNext, dBreak, dCont, dNever, dRaise, dAug, fAddI, dAppend, dSetIx, dVar, dC, dOp, dUn, dCB, dNil, dCons, dLst, dTup, dTest, dAnd, dOr, dNot, dAndV, dOrV, dNotV, dIf, dChain, dIsi, dIsi2, dYes, fAdd, fSub, fMul, fDiv, fMod, fPow, fNeg, fIx, fLen, fMax, fMin, fSum, fSorted, fAbs, fInt, fList, fTuple, fRepr, gEq, gNe, gLt, gLe, gGt, gGe, gIn, gNotIn, gIs, gIsNot, cD, put, cut, see, sees, look, fz, fzs, fzV, fill, dLc, dSeqI, dRng1, dRng2, dEnum, dZip, dName, dgTup, dgCons, dgNil, dAsg, dCall, dCallS, stAll, mapSt_st, mapSt_no, mapSt_val, mapSt_ow, mapSt_scr, mapSt_ns, noSts, wipeS, dSl, dPart, dNoPart, fSl, dRev, dBM, mCount, mIndex, dStInt, dStTurn, dStPop, dStCells, dStPut, dStTurnPut, dLenScr, tyName, isTyN, isNone, isBool, toInts_ints, dInts_len, List.map_cons, List.map_nil, List.map_append, List.getElem?_cons_zero, List.getElem?_cons_succ, List.set_cons_zero, List.set_cons_succ, List.length_cons, List.length_nil, List.take_nil, List.take_zero, List.take_succ_cons, List.cons_append, List.nil_append, List.replicate_zero, List.replicate_succ, if_true, if_false, ite_true, ite_false, Bool.false_eq_true, Bool.not_true, Bool.not_false, reduceIte, Nat.zero_add, Nat.add_zero, Nat.reduceAdd, Nat.reduceSub, Nat.sub_self, decide_true, decide_false, true_and, and_true, List.length_map]
          exact ⟨.inl ⟨by omega, by omega⟩, _, rfl, by omega, by omega, sp0, by omega, fun m m0 m1 => h3 m ⟨m0, by omega⟩⟩
        · rw [rangeL_len] at hl
          simp only [den, initS, endB, dSeq, dSet, dPar, dRet, dRetN, dIfS, dDrop, dFor, dNext, dBreak, dCont, dNever, dRaise, dAug, fAddI, dAppend, dSetIx, dVar, dC, dOp, dUn, dCB, dNil, dCons, dLst, dTup, dTest, dAnd, dOr, dNot, dAndV, dOrV, dNotV, dIf, dChain, dIsi, dIsi2, dYes, fAdd, fSub, fMul, fDiv, fMod, fPow, fNeg, fIx, fLen, fMax, fMin, fSum, fSorted, fAbs, fInt, fList, fTuple, fRepr, gEq, gNe, gLt, gLe, gGt, gGe, gIn, gNotIn, gIs, gIsNot, cD, put, cut, see, sees, look, fz, fzs, fzV, fill, dLc, dSeqI, dRng1, dRng2, dEnum, dZip, dName, dgTup, dgCons, dgNil, dAsg, dCall, dCallS, stAll, mapSt_st, mapSt_no, mapSt_val, mapSt_ow, mapSt_scr, mapSt_ns, noSts, wipeS, dSl, dPart, dNoPart, fSl, dRev, dBM, mCount, mIndex, dStInt, dStTurn, dStPop, dStCells, dStPut, dStTurnPut, dLenScr, tyName, isTyN, isNone, isBool, toInts_ints, dInts_len, List.map_cons, List.map_nil, List.map_append, List.getElem?_cons_zero, List.getElem?_cons_succ, List.set_cons_zero, List.set_cons_succ, List.length_cons, List.length_nil, List.take_nil, List.take_zero, List.take_succ_cons, List.cons_append, List.nil_append, List.replicate_zero, List.replicate_succ, if_true, if_false, ite_true, ite_false, Bool.false_eq_true, Bool.not_true, Bool.not_false, reduceIte, Nat.zero_add, Nat.add_zero, Nat.reduceAdd, Nat.reduceSub, Nat.sub_self, decide_true, decide_false, true_and, and_true, List.length_map, rangeL_len]
          exact h2 _ ⟨_, ns, by omega, by omega, by omega, by omega, hm, rfl⟩
      obtain ⟨B1, ms, b1, b2, l1, l2, hm, rfl⟩ := ht
      refine seq_toP (fun t => ∃ wy : Int, t = [.scr n, .st (B1 + 1), .val (.int (x : Int)), .val (.int s), .val (.int p), .own (.lst (dInts ms)), .val (.int wy), (ns y7), (ns y8), (ns y9), .no, .no, .no]) (fun k2 h2 => ?_) fun t ht => ?_
      · simp only [T__law_draw, den, initS, endB, dSeq, dSet, dPar, dRet, dRetN, dIfS, dDrop, dFor, dNext, dBreak, dCont, dNever, dRaise, dAug, fAddI, dAppend, dSetIx, dVar, dC, dOp, dUn, dCB, dNil, dCons, dLst, dTup, dTest, dAnd, dOr, dNot, dAndV, dOrV, dNotV, dIf, dChain, dIsi, dIsi2, dYes, fAdd, fSub, fMul, fDiv, fMod, fPow, fNeg, fIx, fLen, fMax, fMin, fSum, fSorted, fAbs, fInt, fList, fTuple, fRepr, gEq, gNe, gLt, gLe, gGt, gGe, gIn, gNotIn, gIs, gIsNot, cD, put, cut, see, sees, look, fz, fzs, fzV, fill, dLc, dSeqI, dRng1, dRng2, dEnum, dZip, dName, dgTup, dgCons, dgNil, dAsg, dCall, dCallS, stAll, mapSt_st, mapSt_no, mapSt_val, mapSt_ow, mapSt_scr, mapSt_ns, noSts, wipeS, dSl, dPart, dNoPart, fSl, dRev, dBM, mCount, mIndex, dStInt, dStTurn, dStPop, dStCells, dStPut, dStTurnPut, dLenScr, tyName, isTyN, isNone, isBool, toInts_ints, dInts_len, List.map_cons, List.map_nil, List.map_append, List.getElem?_cons_zero, List.getElem?_cons_succ, List.set_cons_zero, List.set_cons_succ, List.length_cons, List.length_nil, List.take_nil, List.take_zero, List.take_succ_cons, List.cons_append, List.nil_append, List.replicate_zero, List.replicate_succ, if_true, if_false, ite_true, ite_false, Bool.false_eq_true, Bool.not_true, Bool.not_false, reduceIte, Nat.zero_add, Nat.add_zero, Nat.reduceAdd, Nat.reduceSub, Nat.sub_self, decide_true, decide_false, true_and, and_true, List.length_map]
        exact ⟨_, rfl, by omega, by omega, by omega, by omega, fun c c0 c1 => h2 _ ⟨c, rfl⟩⟩
      obtain ⟨wy, rfl⟩ := ht
      refine seq_toP (fun t => ∃ (ms : List Int), 1 ≤ ms.length ∧ ms.length ≤ 8 ∧ (∀ m ∈ ms, 0 ≤ m ∧ m ≤ 200) ∧ t = [.scr n, .st (B1 + 1), .val (.int (x : Int)), .val (.int s), .val (.int p), .own (.lst (dInts ms)), .val (.int wy), (ns y7), (ns y8), (ns y9), .no, .no, .no]) (fun k2 h2 => ?_) fun t ht => ?_
      · simp only [den, initS, endB, dSeq, dSet, dPar, dRet, dRetN, dIfS, dDrop, dFor, dNext, dBreak, dCont, dNever, dRaise, dAug, fAddI, dAppend, dSetIx, dVar, dC, dOp, dUn, dCB, dNil, dCons, dLst, dTup, dTest, dAnd, dOr, dNot, dAndV, dOrV, dNotV, dIf, dChain, dIsi, dIsi2, dYes, fAdd, fSub, fMul, fDiv, fMod, fPow, fNeg, fIx, fLen, fMax, fMin, fSum, fSorted, fAbs, fInt, fList, fTuple, fRepr, gEq, gNe, gLt, gLe, gGt, gGe, gIn, gNotIn, gIs, gIsNot, cD, put, cut, see, sees, look, fz, fzs, fzV, fill, dLc, dSeqI, dRng1, dRng2, dEnum, dZip, dName, dgTup, dgCons, dgNil, dAsg, dCall, dCallS, stAll, mapSt_st, mapSt_no, mapSt_val, mapSt_ow, mapSt_scr, mapSt_ns, noSts, wipeS, dSl, dPart, dNoPart, fSl, dRev, dBM, mCount, mIndex, dStInt, dStTurn, dStPop, dStCells, dStPut, dStTurnPut, dLenScr, tyName, isTyN, isNone, isBool, toInts_ints, dInts_len, List.map_cons, List.map_nil, List.map_append, List.getElem?_cons_zero, List.getElem?_cons_succ, List.set_cons_zero, List.set_cons_succ, List.length_cons, List.length_nil, List.take_nil, List.take_zero, List.take_succ_cons, List.cons_append, List.nil_append, List.replicate_zero, List.replicate_succ, if_true, if_false, ite_true, ite_false, Bool.false_eq_true, Bool.not_true, Bool.not_false, reduceIte, Nat.zero_add, Nat.add_zero, Nat.reduceAdd, Nat.reduceSub, Nat.sub_self, decide_true, decide_false, true_and, and_true, List.length_map]
        split
        · have hp := sortI_perm ms
          exact h2 _ ⟨sortI ms, by rw [hp.length_eq]; exact l1, by rw [hp.length_eq]; exact l2, fun m h => hm m (hp.mem_iff.mp h), rfl⟩
        · exact h2 _ ⟨ms, l1, l2, hm, rfl⟩
      obtain ⟨ms, l1, l2, hm, rfl⟩ := ht
      refine seq_toP (fun t => ∃ (B2 : Int) (ms : List Int), B1 ≤ B2 ∧ B2 ≤ B1 + 5 ∧ 1 ≤ ms.length ∧ ms.length ≤ 10 ∧ (∀ m ∈ ms, 0 ≤ m ∧ m ≤ 200) ∧ t = [.scr n, .st B2, .val (.int (x : Int)), .val (.int s), .val (.int p), .own (.lst (dInts ms)), .val (.int wy), (ns y7), (ns y8), (ns y9), .no, .no, .no]) (fun k2 h2 => ?_) fun t ht => ?_
      · simp only [dIfS, dTest, dOp, dVar, dC, cD, gEq, see, look, put, cut, List.getElem?_cons_zero, List.getElem?_cons_succ, eqv_int, List.take_nil]
        refine ⟨shaped_int _, shaped_int _, ?_⟩
        split
        · have e1 : (some (1 : Int)) = some ((1 : Nat) : Int) := rfl
          simp only [T__law_draw, den, initS, endB, dSeq, dSet, dPar, dRet, dRetN, dIfS, dDrop, dFor, dNext, dBreak, dCont, dNever, dRaise, dAug, fAddI, dAppend, dSetIx, dVar, dC, dOp, dUn, dCB, dNil, dCons, dLst, dTup, dTest, dAnd, dOr, dNot, dAndV, dOrV, dNotV, dIf, dChain, dIsi, dIsi2, dYes, fAdd, fSub, fMul, fDiv, fMod, fPow, fNeg, fIx, fLen, fMax, fMin, fSum, fSorted, fAbs, fInt, fList, fTuple, fRepr, gEq, gNe, gLt, gLe, gGt, gGe, gIn, gNotIn, gIs, gIsNot, cD, put, cut, see, sees, look, fz, fzs, fzV, fill, dLc, dSeqI, dRng1, dRng2, dEnum, dZip, dName, dgTup, dgCons, dgNil, dAsg, dCall, dCallS, stAll, mapSt_st, mapSt_no, mapSt_val, mapSt_ow, mapSt_scr, mapSt_ns, noSts, wipeS, dSl, dPart, dNoPart, fSl, dRev, dBM, mCount, mIndex, dStInt, dStTurn, dStPop, dStCells, dStPut, dStTurnPut, dLenScr, tyName, isTyN, isNone, isBool, toInts_ints, dInts_len, List.map_cons, List.map_nil, List.map_append, List.getElem?_cons_zero, List.getElem?_cons_succ, List.set_cons_zero, List.set_cons_succ, List.length_cons, List.length_nil, List.take_nil, List.take_zero, List.take_succ_cons, List.cons_append, List.nil_append, List.replicate_zero, List.replicate_succ, if_true, if_false, ite_true, ite_false, Bool.false_eq_true, Bool.not_true, Bool.not_false, reduceIte, Nat.zero_add, Nat.add_zero, Nat.reduceAdd, Nat.reduceSub, Nat.sub_self, decide_true, decide_false, true_and, and_true, List.length_map, e1, cutL_from, cutL_to, dInts_drop, dInts_take, dInts_app]
          have l3 : (ms.drop 1 ++ ms.take 1).length = ms.length := by simp; omega
          have l4 : (ms.drop 1).length + (ms.take 1).length = ms.length := by rw [← List.length_append]; exact l3
          refine ⟨by omega, _, rfl, by omega, by omega, by omega, by omega, fun c c0 c1 => ⟨⟨by omega, by omega⟩, by rw [rangeL_len]; omega, ?_⟩⟩
          refine lc_draw (fun B => [.scr n, .st B, .val (.int (x : Int)), .val (.int s), .val (.int p), .own (.lst (dInts ms)), .val (.int wy), (ns y7), (ns y8), (ns y9), .no, .no, .no]) (fun m => 0 ≤ m ∧ m ≤ 200) _ (B1 + 1 + 1) (fun d hd B' b1 b2 k3 h3 => ?_) fun ns hl hn => ?_
          · rw [rangeL_len] at b2
            simp only [stepLc, T__law_draw, den, initS, endB, dSeq, dSet, dPar, dRet, dRetN, dIfS, dDrop, dFor, dNext, dBreak, dCont, dNever, dRaise, dAug, fAddI, dAppend, dSetIx, dVar, dC, dOp, dUn, dCB, dNil, dCons, dLst, dTup, dTest, dAnd, dOr, dNot, dAndV, dOrV, dNotV, dIf, dChain, dIsi, dIsi2, dYes, fAdd, fSub, fMul, fDiv, fMod, fPow, fNeg, fIx, fLen, fMax, fMin, fSum, fSorted, fAbs, fInt, fList, fTuple, fRepr, gEq, gNe, gLt, gLe, gGt, gGe, gIn, gNotIn, gIs, gIsNot, cD, put, cut, see, sees, look, fz, fzs, fzV, fill, dLc, dSeqI, dRng1, dRng2, dEnum, dZip, dName, dgTup, dgCons, dgNil, dAsg, dCall, dCallS, stAll, mapSt_st, mapSt_no, mapSt_val, mapSt_ow, mapSt_scr, mapSt_ns, noSts, wipeS, dSl, dPart, dNoPart, fSl, dRev, dBM, mCount, mIndex, dStInt, dStTurn, dStPop, dStCells, dStPut, dStTurnPut, dLenScr, tyName, isTyN, isNone, isBool, toInts_ints, dInts_len, List.map_cons, List.map_nil, List.map_append, List.getElem?_cons_zero, List.getElem?_cons_succ, List.set_cons_zero, List.set_cons_succ, List.length_cons, List.length_nil, List.take_nil, List.take_zero, List.take_succ_cons, List.cons_append, List.nil_append, List.replicate_zero, List.replicate_succ, if_true, if_false, ite_true, ite_false, Bool.false_eq_true, Bool.not_true, Bool.not_false, reduceIte, Nat.zero_add, Nat.add_zero, Nat.reduceAdd, Nat.reduceSub, Nat.sub_self, decide_true, decide_false, true_and, and_true, List.length_map]
            exact ⟨_, rfl, by omega, by omega, by omega, by omega, fun m m0 m1 => h3 m ⟨m0, by omega⟩⟩
          · rw [rangeL_len] at hl
            simp only [den, initS, endB, dSeq, dSet, dPar, dRet, dRetN, dIfS, dDrop, dFor, dNext, dBreak, dCont, dNever, dRaise, dAug, fAddI, dAppend, dSetIx, dVar, dC, dOp, dUn, dCB, dNil, dCons, dLst, dTup, dTest, dAnd, dOr, dNot, dAndV, dOrV, dNotV, dIf, dChain, dIsi, dIsi2, dYes, fAdd, fSub, fMul, fDiv, fMod, fPow, fNeg, fIx, fLen, fMax, fMin, fSum, fSorted, fAbs, fInt, fList, fTuple, fRepr, gEq, gNe, gLt, gLe, gGt, gGe, gIn, gNotIn, gIs, gIsNot, cD, put, cut, see, sees, look, fz, fzs, fzV, fill, dLc, dSeqI, dRng1, dRng2, dEnum, dZip, dName, dgTup, dgCons, dgNil, dAsg, dCall, dCallS, stAll, mapSt_st, mapSt_no, mapSt_val, mapSt_ow, mapSt_scr, mapSt_ns, noSts, wipeS, dSl, dPart, dNoPart, fSl, dRev, dBM, mCount, mIndex, dStInt, dStTurn, dStPop, dStCells, dStPut, dStTurnPut, dLenScr, tyName, isTyN, isNone, isBool, toInts_ints, dInts_len, List.map_cons, List.map_nil, List.map_append, List.getElem?_cons_zero, List.getElem?_cons_succ, List.set_cons_zero, List.set_cons_succ, List.length_cons, List.length_nil, List.take_nil, List.take_zero, List.take_succ_cons, List.cons_append, List.nil_append, List.replicate_zero, List.replicate_succ, if_true, if_false, ite_true, ite_false, Bool.false_eq_true, Bool.not_true, Bool.not_false, reduceIte, Nat.zero_add, Nat.add_zero, Nat.reduceAdd, Nat.reduceSub, Nat.sub_self, decide_true, decide_false, true_and, and_true, List.length_map, rangeL_len, dInts_app, l3]
            refine ⟨by omega, h2 _ ⟨_, _, by omega, by omega, by rw [List.length_append, l3]; omega, by rw [List.length_append, l3]; omega, fun m h => ?_, rfl⟩⟩
            rcases List.mem_append.mp h with h | h
            · rcases List.mem_append.mp h with h | h
              · exact hm m (List.mem_of_mem_drop h)
              · exact hm m (List.mem_of_mem_take h)
            · exact hn m h
        · simp only [den, initS, endB, dSeq, dSet, dPar, dRet, dRetN, dIfS, dDrop, dFor, dNext, dBreak, dCont, dNever, dRaise, dAug, fAddI, dAppend, dSetIx, dVar, dC, dOp, dUn, dCB, dNil, dCons, dLst, dTup, dTest, dAnd, dOr, dNot, dAndV, dOrV, dNotV, dIf, dChain, dIsi, dIsi2, dYes, fAdd, fSub, fMul, fDiv, fMod, fPow, fNeg, fIx, fLen, fMax, fMin, fSum, fSorted, fAbs, fInt, fList, fTuple, fRepr, gEq, gNe, gLt, gLe, gGt, gGe, gIn, gNotIn, gIs, gIsNot, cD, put, cut, see, sees, look, fz, fzs, fzV, fill, dLc, dSeqI, dRng1, dRng2, dEnum, dZip, dName, dgTup, dgCons, dgNil, dAsg, dCall, dCallS, stAll, mapSt_st, mapSt_no, mapSt_val, mapSt_ow, mapSt_scr, mapSt_ns, noSts, wipeS, dSl, dPart, dNoPart, fSl, dRev, dBM, mCount, mIndex, dStInt, dStTurn, dStPop, dStCells, dStPut, dStTurnPut, dLenScr, tyName, isTyN, isNone, isBool, toInts_ints, dInts_len, List.map_cons, List.map_nil, List.map_append, List.getElem?_cons_zero, List.getElem?_cons_succ, List.set_cons_zero, List.set_cons_succ, List.length_cons, List.length_nil, List.take_nil, List.take_zero, List.take_succ_cons, List.cons_append, List.nil_append, List.replicate_zero, List.replicate_succ, if_true, if_false, ite_true, ite_false, Bool.false_eq_true, Bool.not_true, Bool.not_false, reduceIte, Nat.zero_add, Nat.add_zero, Nat.reduceAdd, Nat.reduceSub, Nat.sub_self, decide_true, decide_false, true_and, and_true, List.length_map]
          exact h2 _ ⟨_, ms, by omega, by omega, l1, by omega, hm, rfl⟩
      obtain ⟨B2, ms, b3, b4, l1, l2, hm, rfl⟩ := ht
      refine seq_toP (fun t => ∃ w l : Int, 0 ≤ w ∧ w ≤ 1000 ∧ 0 ≤ l ∧ l ≤ 1000 ∧ t = [.scr n, .st (B2 + 4), .val (.int (x : Int)), .val (.int s), .val (.int p), .own (.lst (dInts ms)), .val (.int wy), .val (.int w), .val (.int l), (ns y9), .no, .no, .no]) (fun k2 h2 => ?_) fun t ht => ?_
      · simp only [T__law_draw, T__law_pick, den, initS, endB, dSeq, dSet, dPar, dRet, dRetN, dIfS, dDrop, dFor, dNext, dBreak, dCont, dNever, dRaise, dAug, fAddI, dAppend, dSetIx, dVar, dC, dOp, dUn, dCB, dNil, dCons, dLst, dTup, dTest, dAnd, dOr, dNot, dAndV, dOrV, dNotV, dIf, dChain, dIsi, dIsi2, dYes, fAdd, fSub, fMul, fDiv, fMod, fPow, fNeg, fIx, fLen, fMax, fMin, fSum, fSorted, fAbs, fInt, fList, fTuple, fRepr, gEq, gNe, gLt, gLe, gGt, gGe, gIn, gNotIn, gIs, gIsNot, cD, put, cut, see, sees, look, fz, fzs, fzV, fill, dLc, dSeqI, dRng1, dRng2, dEnum, dZip, dName, dgTup, dgCons, dgNil, dAsg, dCall, dCallS, stAll, mapSt_st, mapSt_no, mapSt_val, mapSt_ow, mapSt_scr, mapSt_ns, noSts, wipeS, dSl, dPart, dNoPart, fSl, dRev, dBM, mCount, mIndex, dStInt, dStTurn, dStPop, dStCells, dStPut, dStTurnPut, dLenScr, tyName, isTyN, isNone, isBool, toInts_ints, dInts_len, List.map_cons, List.map_nil, List.map_append, List.getElem?_cons_zero, List.getElem?_cons_succ, List.set_cons_zero, List.set_cons_succ, List.length_cons, List.length_nil, List.take_nil, List.take_zero, List.take_succ_cons, List.cons_append, List.nil_append, List.replicate_zero, List.replicate_succ, if_true, if_false, ite_true, ite_false, Bool.false_eq_true, Bool.not_true, Bool.not_false, reduceIte, Nat.zero_add, Nat.add_zero, Nat.reduceAdd, Nat.reduceSub, Nat.sub_self, decide_true, decide_false, true_and, and_true, List.length_map]
        refine ⟨_, rfl, by omega, by omega, by omega, by omega, fun c c0 c1 => ⟨by omega, _, rfl, by omega, by omega, by simp, by simp, fun d hd => ⟨_, rfl, by omega, by omega, by omega, by omega, fun c' c0' c1' => ⟨by omega, _, rfl, by omega, by omega, by simp, by simp, fun d' hd' => ?_⟩⟩⟩⟩
        have hd2 : ∃ s : Int, d = .int s ∧ 0 ≤ s ∧ s ≤ 1000 := by
          simp at hd
          rcases hd with rfl | rfl | rfl | rfl <;> exact ⟨_, rfl, by omega, by omega⟩
        have hd3 : ∃ s : Int, d' = .int s ∧ 0 ≤ s ∧ s ≤ 1000 := by
          simp at hd'
          rcases hd' with rfl | rfl | rfl | rfl | rfl | rfl <;> exact ⟨_, rfl, by omega, by omega⟩
        obtain ⟨w, rfl, w1, w2⟩ := hd2
        obtain ⟨l, rfl, l1, l2⟩ := hd3
        exact h2 _ ⟨w, l, w1, w2, l1, l2, by rw [show B2 + 1 + 1 + 1 + 1 = B2 + 4 by omega]⟩
      obtain ⟨w, l, w1, w2, o1, o2, rfl⟩ := ht
      refine seq_to [.scr n, .st (B2 + 4 + 1000), .val (.int (x : Int)), .val (.int s), .val (.int p), .val (.list (dInts ms)), .val (.int wy), .val (.int w), .val (.int l), (ns y9), .no, .no, .no] (fun k2 h2 => ?_) ?_
      · simp only [T__law_closing_right, den, initS, endB, dSeq, dSet, dPar, dRet, dRetN, dIfS, dDrop, dFor, dNext, dBreak, dCont, dNever, dRaise, dAug, fAddI, dAppend, dSetIx, dVar, dC, dOp, dUn, dCB, dNil, dCons, dLst, dTup, dTest, dAnd, dOr, dNot, dAndV, dOrV, dNotV, dIf, dChain, dIsi, dIsi2, dYes, fAdd, fSub, fMul, fDiv, fMod, fPow, fNeg, fIx, fLen, fMax, fMin, fSum, fSorted, fAbs, fInt, fList, fTuple, fRepr, gEq, gNe, gLt, gLe, gGt, gGe, gIn, gNotIn, gIs, gIsNot, cD, put, cut, see, sees, look, fz, fzs, fzV, fill, dLc, dSeqI, dRng1, dRng2, dEnum, dZip, dName, dgTup, dgCons, dgNil, dAsg, dCall, dCallS, stAll, mapSt_st, mapSt_no, mapSt_val, mapSt_ow, mapSt_scr, mapSt_ns, noSts, wipeS, dSl, dPart, dNoPart, fSl, dRev, dBM, mCount, mIndex, dStInt, dStTurn, dStPop, dStCells, dStPut, dStTurnPut, dLenScr, tyName, isTyN, isNone, isBool, toInts_ints, dInts_len, List.map_cons, List.map_nil, List.map_append, List.getElem?_cons_zero, List.getElem?_cons_succ, List.set_cons_zero, List.set_cons_succ, List.length_cons, List.length_nil, List.take_nil, List.take_zero, List.take_succ_cons, List.cons_append, List.nil_append, List.replicate_zero, List.replicate_succ, if_true, if_false, ite_true, ite_false, Bool.false_eq_true, Bool.not_true, Bool.not_false, reduceIte, Nat.zero_add, Nat.add_zero, Nat.reduceAdd, Nat.reduceSub, Nat.sub_self, decide_true, decide_false, true_and, and_true, List.length_map]
        exact ⟨s, ms, w, l, rfl, ⟨s1, s2, l1, by omega, hm, w1, w2, o1, o2⟩, by omega, by omega, h2⟩
      refine seq_toP (fun t => ∃ (B3 : Int) (ls : List Int), B2 ≤ B3 ∧ B3 ≤ B2 + 1100 ∧ 1 ≤ ls.length ∧ ls.length ≤ 10 ∧ (∀ m ∈ ls, 0 ≤ m ∧ m ≤ 200) ∧ t = [.scr n, .st B3, .val (.int (x : Int)), .val (.int s), .val (.int p), .val (.list (dInts ms)), .val (.int wy), .val (.int w), .val (.int l), .own (.lst (dInts ls)), .no, .no, .no]) (fun k2 h2 => ?_) fun t ht => ?_
      · simp only [T__law_draw, den, initS, endB, dSeq, dSet, dPar, dRet, dRetN, dIfS, dDrop, dFor, dNext, dBreak, dCont, dNever, dRaise, dAug, fAddI, dAppend, dSetIx, dVar, dC, dOp, dUn, dCB, dNil, dCons, dLst, dTup, dTest, dAnd, dOr, dNot, dAndV, dOrV, dNotV, dIf, dChain, dIsi, dIsi2, dYes, fAdd, fSub, fMul, fDiv, fMod, fPow, fNeg, fIx, fLen, fMax, fMin, fSum, fSorted, fAbs, fInt, fList, fTuple, fRepr, gEq, gNe, gLt, gLe, gGt, gGe, gIn, gNotIn, gIs, gIsNot, cD, put, cut, see, sees, look, fz, fzs, fzV, fill, dLc, dSeqI, dRng1, dRng2, dEnum, dZip, dName, dgTup, dgCons, dgNil, dAsg, dCall, dCallS, stAll, mapSt_st, mapSt_no, mapSt_val, mapSt_ow, mapSt_scr, mapSt_ns, noSts, wipeS, dSl, dPart, dNoPart, fSl, dRev, dBM, mCount, mIndex, dStInt, dStTurn, dStPop, dStCells, dStPut, dStTurnPut, dLenScr, tyName, isTyN, isNone, isBool, toInts_ints, dInts_len, List.map_cons, List.map_nil, List.map_append, List.getElem?_cons_zero, List.getElem?_cons_succ, List.set_cons_zero, List.set_cons_succ, List.length_cons, List.length_nil, List.take_nil, List.take_zero, List.take_succ_cons, List.cons_append, List.nil_append, List.replicate_zero, List.replicate_succ, if_true, if_false, ite_true, ite_false, Bool.false_eq_true, Bool.not_true, Bool.not_false, reduceIte, Nat.zero_add, Nat.add_zero, Nat.reduceAdd, Nat.reduceSub, Nat.sub_self, decide_true, decide_false, true_and, and_true, List.length_map]
        refine ⟨_, rfl, by omega, by omega, by omega, by omega, fun c c0 c1 => ⟨by omega, _, rfl, by omega, by omega, by omega, by omega, fun d d0 d1 => ⟨⟨by omega, by omega⟩, by rw [rangeL_len]; omega, ?_⟩⟩⟩
        rw [rangeL0]
        refine lc_map _ (fun i : Nat => .int (s * (1 + (i : Int)))) _ (fun i hi k3 h3 => ?_) ?_
        · simp only [stepLc, den, initS, endB, dSeq, dSet, dPar, dRet, dRetN, dIfS, dDrop, dFor, dNext, dBreak, dCont, dNever, dRaise, dAug, fAddI, dAppend, dSetIx, dVar, dC, dOp, dUn, dCB, dNil, dCons, dLst, dTup, dTest, dAnd, dOr, dNot, dAndV, dOrV, dNotV, dIf, dChain, dIsi, dIsi2, dYes, fAdd, fSub, fMul, fDiv, fMod, fPow, fNeg, fIx, fLen, fMax, fMin, fSum, fSorted, fAbs, fInt, fList, fTuple, fRepr, gEq, gNe, gLt, gLe, gGt, gGe, gIn, gNotIn, gIs, gIsNot, cD, put, cut, see, sees, look, fz, fzs, fzV, fill, dLc, dSeqI, dRng1, dRng2, dEnum, dZip, dName, dgTup, dgCons, dgNil, dAsg, dCall, dCallS, stAll, mapSt_st, mapSt_no, mapSt_val, mapSt_ow, mapSt_scr, mapSt_ns, noSts, wipeS, dSl, dPart, dNoPart, fSl, dRev, dBM, mCount, mIndex, dStInt, dStTurn, dStPop, dStCells, dStPut, dStTurnPut, dLenScr, tyName, isTyN, isNone, isBool, toInts_ints, dInts_len, List.map_cons, List.map_nil, List.map_append, List.getElem?_cons_zero, List.getElem?_cons_succ, List.set_cons_zero, List.set_cons_succ, List.length_cons, List.length_nil, List.take_nil, List.take_zero, List.take_succ_cons, List.cons_append, List.nil_append, List.replicate_zero, List.replicate_succ, if_true, if_false, ite_true, ite_false, Bool.false_eq_true, Bool.not_true, Bool.not_false, reduceIte, Nat.zero_add, Nat.add_zero, Nat.reduceAdd, Nat.reduceSub, Nat.sub_self, decide_true, decide_false, true_and, and_true, List.length_map]
          exact ⟨.inl ⟨by omega, by omega⟩, h3⟩
        have d3 : d.toNat ≤ 3 := by omega
        rw [map_int]
        simp only [T__law_draw, den, initS, endB, dSeq, dSet, dPar, dRet, dRetN, dIfS, dDrop, dFor, dNext, dBreak, dCont, dNever, dRaise, dAug, fAddI, dAppend, dSetIx, dVar, dC, dOp, dUn, dCB, dNil, dCons, dLst, dTup, dTest, dAnd, dOr, dNot, dAndV, dOrV, dNotV, dIf, dChain, dIsi, dIsi2, dYes, fAdd, fSub, fMul, fDiv, fMod, fPow, fNeg, fIx, fLen, fMax, fMin, fSum, fSorted, fAbs, fInt, fList, fTuple, fRepr, gEq, gNe, gLt, gLe, gGt, gGe, gIn, gNotIn, gIs, gIsNot, cD, put, cut, see, sees, look, fz, fzs, fzV, fill, dLc, dSeqI, dRng1, dRng2, dEnum, dZip, dName, dgTup, dgCons, dgNil, dAsg, dCall, dCallS, stAll, mapSt_st, mapSt_no, mapSt_val, mapSt_ow, mapSt_scr, mapSt_ns, noSts, wipeS, dSl, dPart, dNoPart, fSl, dRev, dBM, mCount, mIndex, dStInt, dStTurn, dStPop, dStCells, dStPut, dStTurnPut, dLenScr, tyName, isTyN, isNone, isBool, toInts_ints, dInts_len, List.map_cons, List.map_nil, List.map_append, List.getElem?_cons_zero, List.getElem?_cons_succ, List.set_cons_zero, List.set_cons_succ, List.length_cons, List.length_nil, List.take_nil, List.take_zero, List.take_succ_cons, List.cons_append, List.nil_append, List.replicate_zero, List.replicate_succ, if_true, if_false, ite_true, ite_false, Bool.false_eq_true, Bool.not_true, Bool.not_false, reduceIte, Nat.zero_add, Nat.add_zero, Nat.reduceAdd, Nat.reduceSub, Nat.sub_self, decide_true, decide_false, true_and, and_true, List.length_map, List.length_range]
        refine ⟨by omega, _, rfl, by omega, by omega, by omega, by omega, fun e e0 e1 => ⟨⟨by omega, by omega⟩, by rw [rangeL_len]; omega, ?_⟩⟩
        refine lc_draw (fun B => [.scr n, .st B, .val (.int (x : Int)), .val (.int s), .val (.int p), .val (.list (dInts ms)), .val (.int wy), .val (.int w), .val (.int l), (ns y9), .no, .no, .no]) (fun m => 0 ≤ m ∧ m ≤ 200) _ (B2 + 4 + 1000 + 1 + 1 + 1) (fun _ hd B' b1 b2 k3 h3 => ?_) fun ns hl hn => ?_
        · rw [rangeL_len] at b2
          simp only [stepLc, T__law_draw, den, initS, endB, dSeq, dSet, dPar, dRet, dRetN, dIfS, dDrop, dFor, dNext, dBreak, dCont, dNever, dRaise, dAug, fAddI, dAppend, dSetIx, dVar, dC, dOp, dUn, dCB, dNil, dCons, dLst, dTup, dTest, dAnd, dOr, dNot, dAndV, dOrV, dNotV, dIf, dChain, dIsi, dIsi2, dYes, fAdd, fSub, fMul, fDiv, fMod, fPow, fNeg, fIx, fLen, fMax, fMin, fSum, fSorted, fAbs, fInt, fList, fTuple, fRepr, gEq, gNe, gLt, gLe, gGt, gGe, gIn, gNotIn, gIs, gIsNot, cD, put, cut, see, sees, look, fz, fzs, fzV, fill, dLc, dSeqI, dRng1, dRng2, dEnum, dZip, dName, dgTup, dgCons, dgNil, dAsg, dCall, dCallS, stAll, mapSt_st, mapSt_no, mapSt_val, mapSt_ow, mapSt_scr, mapSt_ns, noSts, wipeS, dSl, dPart, dNoPart, fSl, dRev, dBM, mCount, mIndex, dStInt, dStTurn, dStPop, dStCells, dStPut, dStTurnPut, dLenScr, tyName, isTyN, isNone, isBool, toInts_ints, dInts_len, List.map_cons, List.map_nil, List.map_append, List.getElem?_cons_zero, List.getElem?_cons_succ, List.set_cons_zero, List.set_cons_succ, List.length_cons, List.length_nil, List.take_nil, List.take_zero, List.take_succ_cons, List.cons_append, List.nil_append, List.replicate_zero, List.replicate_succ, if_true, if_false, ite_true, ite_false, Bool.false_eq_true, Bool.not_true, Bool.not_false, reduceIte, Nat.zero_add, Nat.add_zero, Nat.reduceAdd, Nat.reduceSub, Nat.sub_self, decide_true, decide_false, true_and, and_true, List.length_map]
          exact ⟨_, rfl, by omega, by omega, by omega, by omega, fun m m0 m1 => h3 m ⟨m0, by omega⟩⟩
        · rw [rangeL_len] at hl
          have e9 : PyData.int c :: (dInts ((List.range d.toNat).map fun i : Nat => s * (1 + (i : Int))) ++ dInts ns) = dInts (c :: (((List.range d.toNat).map fun i : Nat => s * (1 + (i : Int))) ++ ns)) := by simp [dInts]
          simp only [den, initS, endB, dSeq, dSet, dPar, dRet, dRetN, dIfS, dDrop, dFor, dNext, dBreak, dCont, dNever, dRaise, dAug, fAddI, dAppend, dSetIx, dVar, dC, dOp, dUn, dCB, dNil, dCons, dLst, dTup, dTest, dAnd, dOr, dNot, dAndV, dOrV, dNotV, dIf, dChain, dIsi, dIsi2, dYes, fAdd, fSub, fMul, fDiv, fMod, fPow, fNeg, fIx, fLen, fMax, fMin, fSum, fSorted, fAbs, fInt, fList, fTuple, fRepr, gEq, gNe, gLt, gLe, gGt, gGe, gIn, gNotIn, gIs, gIsNot, cD, put, cut, see, sees, look, fz, fzs, fzV, fill, dLc, dSeqI, dRng1, dRng2, dEnum, dZip, dName, dgTup, dgCons, dgNil, dAsg, dCall, dCallS, stAll, mapSt_st, mapSt_no, mapSt_val, mapSt_ow, mapSt_scr, mapSt_ns, noSts, wipeS, dSl, dPart, dNoPart, fSl, dRev, dBM, mCount, mIndex, dStInt, dStTurn, dStPop, dStCells, dStPut, dStTurnPut, dLenScr, tyName, isTyN, isNone, isBool, toInts_ints, dInts_len, List.map_cons, List.map_nil, List.map_append, List.getElem?_cons_zero, List.getElem?_cons_succ, List.set_cons_zero, List.set_cons_succ, List.length_cons, List.length_nil, List.take_nil, List.take_zero, List.take_succ_cons, List.cons_append, List.nil_append, List.replicate_zero, List.replicate_succ, if_true, if_false, ite_true, ite_false, Bool.false_eq_true, Bool.not_true, Bool.not_false, reduceIte, Nat.zero_add, Nat.add_zero, Nat.reduceAdd, Nat.reduceSub, Nat.sub_self, decide_true, decide_false, true_and, and_true, List.length_map, rangeL_len, List.length_range, e9]
          refine ⟨by omega, h2 _ ⟨_, _, by omega, by omega, by simp, by simp; omega, fun m h => ?_, rfl⟩⟩
          rcases List.mem_cons.mp h with h | h
          · omega
          · rcases List.mem_append.mp h with h | h
            · obtain ⟨i, hi, rfl⟩ := List.mem_map.mp h
              rw [List.mem_range] at hi
              have m1 : s * (1 + (i : Int)) ≤ 20 * 3 := Int.mul_le_mul s2 (by omega) (by omega) (by omega)
              have m2 : 0 ≤ s * (1 + (i : Int)) := Int.mul_nonneg (by omega) (by omega)
              omega
            · exact hn m h
      obtain ⟨B3, ls, b5, b6, q1, q2, hq, rfl⟩ := ht
      simp only [T__law_pick, T__law_closing_right, den, initS, endB, dSeq, dSet, dPar, dRet, dRetN, dIfS, dDrop, dFor, dNext, dBreak, dCont, dNever, dRaise, dAug, fAddI, dAppend, dSetIx, dVar, dC, dOp, dUn, dCB, dNil, dCons, dLst, dTup, dTest, dAnd, dOr, dNot, dAndV, dOrV, dNotV, dIf, dChain, dIsi, dIsi2, dYes, fAdd, fSub, fMul, fDiv, fMod, fPow, fNeg, fIx, fLen, fMax, fMin, fSum, fSorted, fAbs, fInt, fList, fTuple, fRepr, gEq, gNe, gLt, gLe, gGt, gGe, gIn, gNotIn, gIs, gIsNot, cD, put, cut, see, sees, look, fz, fzs, fzV, fill, dLc, dSeqI, dRng1, dRng2, dEnum, dZip, dName, dgTup, dgCons, dgNil, dAsg, dCall, dCallS, stAll, mapSt_st, mapSt_no, mapSt_val, mapSt_ow, mapSt_scr, mapSt_ns, noSts, wipeS, dSl, dPart, dNoPart, fSl, dRev, dBM, mCount, mIndex, dStInt, dStTurn, dStPop, dStCells, dStPut, dStTurnPut, dLenScr, tyName, isTyN, isNone, isBool, toInts_ints, dInts_len, List.map_cons, List.map_nil, List.map_append, List.getElem?_cons_zero, List.getElem?_cons_succ, List.set_cons_zero, List.set_cons_succ, List.length_cons, List.length_nil, List.take_nil, List.take_zero, List.take_succ_cons, List.cons_append, List.nil_append, List.replicate_zero, List.replicate_succ, if_true, if_false, ite_true, ite_false, Bool.false_eq_true, Bool.not_true, Bool.not_false, reduceIte, Nat.zero_add, Nat.add_zero, Nat.reduceAdd, Nat.reduceSub, Nat.sub_self, decide_true, decide_false, true_and, and_true, List.length_map]
      refine ⟨by omega, _, rfl, by omega, by omega, by simp, by simp, fun d hd => ⟨by omega, _, rfl, by omega, by omega, by simp, by simp, fun d' hd' => ?_⟩⟩
      have hd2 : ∃ s : Int, d = .int s ∧ 0 ≤ s ∧ s ≤ 1000 := by
        simp at hd
        rcases hd with rfl | rfl <;> exact ⟨_, rfl, by omega, by omega⟩
      have hd3 : ∃ s : Int, d' = .int s ∧ 0 ≤ s ∧ s ≤ 1000 := by
        simp at hd'
        rcases hd' with rfl | rfl | rfl <;> exact ⟨_, rfl, by omega, by omega⟩
      obtain ⟨u, rfl, u1, u2⟩ := hd2
      obtain ⟨v, rfl, v1, v2⟩ := hd3
      refine ⟨s, ls, u, v, rfl, ⟨s1, s2, q1, by omega, hq, u1, u2, v1, v2⟩, by omega, by omega, ?_⟩
      exact hk1 _ ⟨_, .val (.int (x : Int)), .val (.int s), .val (.int p), .val (.list (dInts ms)), .val (.int wy), .val (.int w), .val (.int l), .val (.list (dInts ls)), by omega, by omega, rfl⟩
    · obtain ⟨B, y2, y3, y4, y5, y6, y7, y8, y9, hB, hB2, rfl⟩ := ht
      exact hk' _ ⟨B, _, _, _, _, _, _, _, _, hB, by simpa using hB2, rfl⟩
  · obtain ⟨B, y2, y3, y4, y5, y6, y7, y8, y9, hB, hB2, rfl⟩ := ht
    refine seq_toP (fun t => ∃ s : Int, 1 ≤ s ∧ s ≤ 20 ∧ t = [.scr n, .st (B + 1), (ns y2), .val (.int s), (ns y4), (ns y5), (ns y6), (ns y7), (ns y8), (ns y9), .no, .no, .no]) (fun k2 h2 => ?_) fun t ht => ?_
    · simp only [T__law_pick, den, initS, endB, dSeq, dSet, dPar, dRet, dRetN, dIfS, dDrop, dFor, dNext, dBreak, dCont, dNever, dRaise, dAug, fAddI, dAppend, dSetIx, dVar, dC, dOp, dUn, dCB, dNil, dCons, dLst, dTup, dTest, dAnd, dOr, dNot, dAndV, dOrV, dNotV, dIf, dChain, dIsi, dIsi2, dYes, fAdd, fSub, fMul, fDiv, fMod, fPow, fNeg, fIx, fLen, fMax, fMin, fSum, fSorted, fAbs, fInt, fList, fTuple, fRepr, gEq, gNe, gLt, gLe, gGt, gGe, gIn, gNotIn, gIs, gIsNot, cD, put, cut, see, sees, look, fz, fzs, fzV, fill, dLc, dSeqI, dRng1, dRng2, dEnum, dZip, dName, dgTup, dgCons, dgNil, dAsg, dCall, dCallS, stAll, mapSt_st, mapSt_no, mapSt_val, mapSt_ow, mapSt_scr, mapSt_ns, noSts, wipeS, dSl, dPart, dNoPart, fSl, dRev, dBM, mCount, mIndex, dStInt, dStTurn, dStPop, dStCells, dStPut, dStTurnPut, dLenScr, tyName, isTyN, isNone, isBool, toInts_ints, dInts_len, List.map_cons, List.map_nil, List.map_append, List.getElem?_cons_zero, List.getElem?_cons_succ, List.set_cons_zero, List.set_cons_succ, List.length_cons, List.length_nil, List.take_nil, List.take_zero, List.take_succ_cons, List.cons_append, List.nil_append, List.replicate_zero, List.replicate_succ, if_true, if_false, ite_true, ite_false, Bool.false_eq_true, Bool.not_true, Bool.not_false, reduceIte, Nat.zero_add, Nat.add_zero, Nat.reduceAdd, Nat.reduceSub, Nat.sub_self, decide_true, decide_false, true_and, and_true, List.length_map]
      refine ⟨by omega, _, rfl, by omega, by omega, by simp, by simp, fun d hd => ?_⟩
      have hd2 : ∃ s : Int, d = .int s ∧ 1 ≤ s ∧ s ≤ 20 := by
        simp at hd
        rcases hd with rfl | rfl | rfl <;> exact ⟨_, rfl, by omega, by omega⟩
      obtain ⟨s, rfl, s1, s2⟩ := hd2
      exact h2 _ ⟨s, s1, s2, rfl⟩
    obtain ⟨s, s1, s2, rfl⟩ := ht
    refine seq_toP (fun t => ∃ (B1 : Int) (ms : List Int), B ≤ B1 ∧ B1 ≤ B + 60 ∧ 1 ≤ ms.length ∧ ms.length ≤ 40 ∧ (∀ m ∈ ms, 0 ≤ m ∧ m ≤ 200) ∧ t = [.scr n, .st B1, (ns y2), .val (.int s), (ns y4), .own (.lst (dInts ms)), (ns y6), (ns y7), (ns y8), (ns y9), .no, .no, .no]) (fun k2 h2 => ?_) fun t ht => ?_
    · simp only [T__law_draw, den, initS, endB, dSeq, dSet, dPar, dRet, dRetN, dIfS, dDrop, dFor, dNext, dBreak, dCont, dNever, dRaise, dAug, fAddI, dAppend, dSetIx, dVar, dC, dOp, dUn, dCB, dNil, dCons, dLst, dTup, dTest, dAnd, dOr, dNot, dAndV, dOrV, dNotV, dIf, dChain, dIsi, dIsi2, dYes, fAdd, fSub, fMul, fDiv, fMod, fPow, fNeg, fIx, fLen, fMax, fMin, fSum, fSorted, fAbs, fInt, fList, fTuple, fRepr, gEq, gNe, gLt, gLe, gGt, gGe, gIn, gNotIn, gIs, gIsNot, cD, put, cut, see, sees, look, fz, fzs, fzV, fill, dLc, dSeqI, dRng1, dRng2, dEnum, dZip, dName, dgTup, dgCons, dgNil, dAsg, dCall, dCallS, stAll, mapSt_st, mapSt_no, mapSt_val, mapSt_ow, mapSt_scr, mapSt_ns, noSts, wipeS, dSl, dPart, dNoPart, fSl, dRev, dBM, mCount, mIndex, dStInt, dStTurn, dStPop, dStCells, dStPut, dStTurnPut, dLenScr, tyName, isTyN, isNone, isBool, toInts_ints, dInts_len, List.map_cons, List.map_nil, List.map_append, List.getElem?_cons_zero, List.getElem?_cons_succ, List.set_cons_zero, List.set_cons_succ, List.length_cons, List.length_nil, List.take_nil, List.take_zero, List.take_succ_cons, List.cons_append, List.nil_append, List.replicate_zero, List.replicate_succ, if_true, if_false, ite_true, ite_false, Bool.false_eq_true, Bool.not_true, Bool.not_false, reduceIte, Nat.zero_add, Nat.add_zero, Nat.reduceAdd, Nat.reduceSub, Nat.sub_self, decide_true, decide_false, true_and, and_true, List.length_map]
      refine ⟨_, rfl, by omega, by omega, by omega, by omega, fun c c0 c1 => ⟨⟨by omega, by omega⟩, by rw [rangeL_len]; omega, ?_⟩⟩
      refine lc_draw (fun B => [.scr n, .st B, (ns y2), .val (.int s), (ns y4), (ns y5), (ns y6), (ns y7), (ns y8), (ns y9), .no, .no, .no]) (fun m => 0 ≤ m ∧ m ≤ 200) _ (B + 1 + 1) (fun d hd B' b1 b2 k3 h3 => ?_) fun ns hl hm => ?_
      · rw [rangeL_len] at b2
        rw [rangeL0] at hd
        obtain ⟨i, hi, rfl⟩ := List.mem_map.mp hd
        simp only [stepLc, T__law_draw, den, initS, endB, dSeq, dSet, dPar, dRet, dRetN, dIfS, dDrop, dFor, dNext, dBreak, dCont, dNever, dRaise, dAug, fAddI, dAppend, dSetIx, dVar, dC, dOp, dUn, dCB, dNil, dCons, dLst, dTup, dTest, dAnd, dOr, dNot, dAndV, dOrV, dNotV, dIf, dChain, dIsi, dIsi2, dYes, fAdd, fSub, fMul, fDiv, fMod, fPow, fNeg, fIx, fLen, fMax, fMin, fSum, fSorted, fAbs, fInt, fList, fTuple, fRepr, gEq, gNe, gLt, gLe, gGt, gGe, gIn, gNotIn, gIs, gIsNot, cD, put, cut, see, sees, look, fz, fzs, fzV, fill, dLc, dSeqI, dRng1, dRng2, dEnum, dZip, dName, dgTup, dgCons, dgNil, dAsg, dCall, dCallS, stAll, mapSt_st, mapSt_no, mapSt_val, mapSt_ow, mapSt_scr, mapSt_ns, noSts, wipeS, dSl, dPart, dNoPart, fSl, dRev, dBM, mCount, mIndex, dStInt, dStTurn, dStPop, dStCells, dStPut, dStTurnPut, dLenScr, tyName, isTyN, isNone, isBool, toInts_ints, dInts_len, List.map_cons, List.map_nil, List.map_append, List.getElem?_cons_zero, List.getElem?_cons_succ, List.set_cons_zero, List.set_cons_succ, List.length_cons, List.length_nil, List.take_nil, List.take_zero, List.take_succ_cons, List.cons_append, List.nil_append, List.replicate_zero, List.replicate_succ, if_true, if_false, ite_true, ite_false, Bool.false_eq_true, Bool.not_true, Bool.not_false, reduceIte, Nat.zero_add, Nat.add_zero, Nat.reduceAdd, Nat.reduceSub, Nat.sub_self, decide_true, decide_false, true_and, and_true, List.length_map]
        exact ⟨.inr ⟨by omega, by omega⟩, _, rfl, by omega, by omega, by omega, by omega, fun m m0 m1 => h3 _ ⟨by omega, by omega⟩⟩
      · rw [rangeL_len] at hl
        simp only [den, initS, endB, dSeq, dSet, dPar, dRet, dRetN, dIfS, dDrop, dFor, dNext, dBreak, dCont, dNever, dRaise, dAug, fAddI, dAppend, dSetIx, dVar, dC, dOp, dUn, dCB, dNil, dCons, dLst, dTup, dTest, dAnd, dOr, dNot, dAndV, dOrV, dNotV, dIf, dChain, dIsi, dIsi2, dYes, fAdd, fSub, fMul, fDiv, fMod, fPow, fNeg, fIx, fLen, fMax, fMin, fSum, fSorted, fAbs, fInt, fList, fTuple, fRepr, gEq, gNe, gLt, gLe, gGt, gGe, gIn, gNotIn, gIs, gIsNot, cD, put, cut, see, sees, look, fz, fzs, fzV, fill, dLc, dSeqI, dRng1, dRng2, dEnum, dZip, dName, dgTup, dgCons, dgNil, dAsg, dCall, dCallS, stAll, mapSt_st, mapSt_no, mapSt_val, mapSt_ow, mapSt_scr, mapSt_ns, noSts, wipeS, dSl, dPart, dNoPart, fSl, dRev, dBM, mCount, mIndex, dStInt, dStTurn, dStPop, dStCells, dStPut, dStTurnPut, dLenScr, tyName, isTyN, isNone, isBool, toInts_ints, dInts_len, List.map_cons, List.map_nil, List.map_append, List.getElem?_cons_zero, List.getElem?_cons_succ, List.set_cons_zero, List.set_cons_succ, List.length_cons, List.length_nil, List.take_nil, List.take_zero, List.take_succ_cons, List.cons_append, List.nil_append, List.replicate_zero, List.replicate_succ, if_true, if_false, ite_true, ite_false, Bool.false_eq_true, Bool.not_true, Bool.not_false, reduceIte, Nat.zero_add, Nat.add_zero, Nat.reduceAdd, Nat.reduceSub, Nat.sub_self, decide_true, decide_false, true_and, and_true, List.length_map, rangeL_len]
        exact h2 _ ⟨_, ns, by omega, by omega, by omega, by omega, hm, rfl⟩
    obtain ⟨B1, ms, b1, b2, l1, l2, hm, rfl⟩ := ht
    simp only [T__law_pick, T__law_closing_right, den, initS, endB, dSeq, dSet, dPar, dRet, dRetN, dIfS, dDrop, dFor, dNext, dBreak, dCont, dNever, dRaise, dAug, fAddI, dAppend, dSetIx, dVar, dC, dOp, dUn, dCB, dNil, dCons, dLst, dTup, dTest, dAnd, dOr, dNot, dAndV, dOrV, dNotV, dIf, dChain, dIsi, dIsi2, dYes, fAdd, fSub, fMul, fDiv, fMod, fPow, fNeg, fIx, fLen, fMax, fMin, fSum, fSorted, fAbs, fInt, fList, fTuple, fRepr, gEq, gNe, gLt, gLe, gGt, gGe, gIn, gNotIn, gIs, gIsNot, cD, put, cut, see, sees, look, fz, fzs, fzV, fill, dLc, dSeqI, dRng1, dRng2, dEnum, dZip, dName, dgTup, dgCons, dgNil, dAsg, dCall, dCallS, stAll, mapSt_st, mapSt_no, mapSt_val, mapSt_ow, mapSt_scr, mapSt_ns, noSts, wipeS, dSl, dPart, dNoPart, fSl, dRev, dBM, mCount, mIndex, dStInt, dStTurn, dStPop, dStCells, dStPut, dStTurnPut, dLenScr, tyName, isTyN, isNone, isBool, toInts_ints, dInts_len, List.map_cons, List.map_nil, List.map_append, List.getElem?_cons_zero, List.getElem?_cons_succ, List.set_cons_zero, List.set_cons_succ, List.length_cons, List.length_nil, List.take_nil, List.take_zero, List.take_succ_cons, List.cons_append, List.nil_append, List.replicate_zero, List.replicate_succ, if_true, if_false, ite_true, ite_false, Bool.false_eq_true, Bool.not_true, Bool.not_false, reduceIte, Nat.zero_add, Nat.add_zero, Nat.reduceAdd, Nat.reduceSub, Nat.sub_self, decide_true, decide_false, true_and, and_true, List.length_map]
    refine ⟨by omega, _, rfl, by omega, by omega, by simp, by simp, fun d hd => ?_⟩
    have hd2 : ∃ s : Int, d = .int s ∧ 0 ≤ s ∧ s ≤ 1000 := by
      simp at hd
      rcases hd with rfl | rfl | rfl | rfl <;> exact ⟨_, rfl, by omega, by omega⟩
    obtain ⟨u, rfl, u1, u2⟩ := hd2
    exact ⟨s, ms, 1, u, rfl, ⟨s1, s2, l1, l2, hm, by omega, by omega, u1, u2⟩, by omega, by omega⟩

end k72


namespace k72
open PySem PySem.Spec L2 DL
def top (i : Nat) : Stmt := PySem.Challenge.pw_riverknown_k72_whole_panes_closed_by_one.main.body.getD i (.Pass ⟨0, 0, 0, 0⟩)
abbrev FnP (K : PySem.W.Frag) (x : Str) (st : Stmt) (f : Addr) (fd : FuncData) : Prop := FunD K x x (defArgs st) (defBody st) (defScope st) [] [] f fd

structure Glob (K : PySem.W.Frag) (mg : Str → Option Value) (cls : String → Addr) : Prop where
  f_abs : mg "abs" = none
  f_bool : mg "bool" = none
  f_dict : mg "dict" = none
  f_enumerate : mg "enumerate" = none
  f_int : mg "int" = none
  f_isinstance : mg "isinstance" = none
  f_len : mg "len" = none
  f_list : mg "list" = none
  f_max : mg "max" = none
  f_min : mg "min" = none
  f_range : mg "range" = none
  f_repr : mg "repr" = none
  f_sorted : mg "sorted" = none
  f_str : mg "str" = none
  f_sum : mg "sum" = none
  f_tuple : mg "tuple" = none
  f_zip : mg "zip" = none
  i_MOST_COMING : ∃ u, mg "MOST_COMING" = some u ∧ RelV (.int 40) u
  i_MOST_COST : ∃ u, mg "MOST_COST" = some u ∧ RelV (.int 1000) u
  i_MOST_MOMENT : ∃ u, mg "MOST_MOMENT" = some u ∧ RelV (.int 200) u
  i_MOST_SIZE : ∃ u, mg "MOST_SIZE" = some u ∧ RelV (.int 20) u
  x_NoAsk : XcF K mg "NoAsk" (cls "NoAsk")
section
variable {P : Program} {w : World} {K : PySem.W.Frag} {mg : Str → Option Value} {base : Heap} {cls : String → Addr} {f : Addr} {fd : FuncData}
abbrev S_is_whole : Stmt := top 4
abbrev N_is_whole : List Str := ["thing"]
theorem sc_is_whole : FnScope N_is_whole ["thing"] (defScope S_is_whole) := ⟨rfl, rfl, rfl, by decide +kernel, rfl, by decide +kernel, by decide +kernel⟩
theorem ok_is_whole (G : Glob K mg cls)  (F : FnP K "is_whole" S_is_whole f fd) : FnG P w K mg base 1 f fd ["thing"] (spD K cls false 1 T_is_whole) := by
  refine fnD F sc_is_whole rfl B_is_whole imp_is_whole fun cdv A outer s H E hr hgd => ⟨_, (pss_one (ps_ret (pe_and (pe_callB (k_isi (K := K) rfl) rfl G.f_isinstance bt_isi (pa_cons (pv 0) (pa_cons (pe_bltn (v := .ty "int") rfl G.f_int bt_int rfl) pa_nil))) (pe_one (pe_not (pe_callB (k_isi (K := K) rfl) rfl G.f_isinstance bt_isi (pa_cons (pv 0) (pa_cons (pe_bltn (v := .ty "bool") rfl G.f_bool bt_bool rfl) pa_nil)))))))), fun Fr kx hx => ?_⟩
  exact (drs_ret (dr_andV (dr_isi (T := "int") (by decide) (dr_var 0)) (dr_notV (dr_isi (T := "bool") (by decide) (dr_var 0)))))
abbrev S_need_number : Stmt := top 5
abbrev N_need_number : List Str := ["thing", "low", "high"]
theorem sc_need_number : FnScope N_need_number ["thing", "low", "high"] (defScope S_need_number) := ⟨rfl, rfl, rfl, by decide +kernel, rfl, by decide +kernel, by decide +kernel⟩
theorem ok_need_number (G : Glob K mg cls) (c_is_whole : CalG P w K mg base 1 "is_whole" ["thing"] (spD K cls false 1 T_is_whole)) (F : FnP K "need_number" S_need_number f fd) : FnG P w K mg base 2 f fd ["thing", "low", "high"] (spD K cls false 3 T_need_number) := by
  refine fnD F sc_need_number rfl B_need_number imp_need_number fun cdv A outer s H E hr hgd => ⟨_, (pss_one (ps_if (PW.pt (pw_or (pt_not (pt_val (pe_cg c_is_whole hr (by decide) hgd rfl passL (pa_cons (pv 0) pa_nil)))) (pw_or1 (pt_not (pt_chain op_le op_le (pv 1) (pv 0) (pv 2)))))) (pss_one (ps_raise rfl (takes_of rfl rfl rfl rfl) (pmk_own PySem.F.excBase_ValueError G.x_NoAsk.q G.x_NoAsk.g G.x_NoAsk.k (raises_own G.x_NoAsk.s G.x_NoAsk.t) rfl))) pss_nil)), fun Fr kx hx => ?_⟩
  exact (drs_if (drt_or (drt_not (drt_B (dr_call XOk.none (dra_cons (dr_var 0) dra_nil)))) (drt_not (drt_test (dr_chain cm_le cm_le (dr_var 1) (dr_var 0) (dr_var 2))))) (drs_raise (c := "NoAsk") hx) drs_next)
abbrev S_need_moments : Stmt := top 11
abbrev N_need_moments : List Str := ["size", "moments", "wait", "lose", "moment"]
theorem sc_need_moments : FnScope N_need_moments ["size", "moments", "wait", "lose"] (defScope S_need_moments) := ⟨rfl, rfl, rfl, by decide +kernel, rfl, by decide +kernel, by decide +kernel⟩
theorem ok_need_moments (G : Glob K mg cls) (c_need_number : CalG P w K mg base 2 "need_number" ["thing", "low", "high"] (spD K cls false 3 T_need_number)) (F : FnP K "need_moments" S_need_moments f fd) : FnG P w K mg base 3 f fd ["size", "moments", "wait", "lose"] (spD K cls false 4 T_need_moments) := by
  refine fnD F sc_need_moments rfl B_need_moments imp_need_moments fun cdv A outer s H E hr hgd => ⟨_, (pss_cons (ps_expr (pe_cg c_need_number hr (by decide) hgd rfl passL (pa_cons (pv 0) (pa_cons pe_int (pa_cons (pe_gk rfl G.i_MOST_SIZE) pa_nil))))) (pss_cons (ps_if (PW.pt (pw_or (pt_not (pt_val (pe_callB (k_isi (K := K) rfl) rfl G.f_isinstance bt_isi (pa_cons (pv 1) (pa_cons (pe_bltn (v := .ty "list") rfl G.f_list bt_list rfl) pa_nil))))) (pw_or1 (pt_not (pt_chain op_le op_le pe_int (pe_callB (k_len (K := K) rfl) rfl G.f_len bt_len (pa_cons (pv 1) pa_nil)) (pe_gk rfl G.i_MOST_COMING)))))) (pss_one (ps_raise rfl (takes_of rfl rfl rfl rfl) (pmk_own PySem.F.excBase_ValueError G.x_NoAsk.q G.x_NoAsk.g G.x_NoAsk.k (raises_own G.x_NoAsk.s G.x_NoAsk.t) rfl))) pss_nil) (pss_cons (ps_for (passes_of rfl) rfl (pi_seqK (K := K) rfl (pv 1)) (pg_name (i := 4) sc_need_moments.nd rfl (by first | exact Or.inl rfl | exact Or.inr rfl)) (pss_one (ps_expr (pe_cg c_need_number hr (by decide) hgd rfl passL (pa_cons (pv 4) (pa_cons pe_int (pa_cons (pe_gk rfl G.i_MOST_MOMENT) pa_nil))))))) (pss_cons (ps_expr (pe_cg c_need_number hr (by decide) hgd rfl passL (pa_cons (pv 2) (pa_cons pe_int (pa_cons (pe_gk rfl G.i_MOST_COST) pa_nil))))) (pss_one (ps_expr (pe_cg c_need_number hr (by decide) hgd rfl passL (pa_cons (pv 3) (pa_cons pe_int (pa_cons (pe_gk rfl G.i_MOST_COST) pa_nil)))))))))), fun Fr kx hx => ?_⟩
  exact (drs_seq (drs_drop (dr_call XOk.none (dra_cons (dr_var 0) (dra_cons dr_int (dra_cons dr_int dra_nil))))) (drs_seq (drs_if (drt_or (drt_not (drt_B (dr_isi (T := "list") (by decide) (dr_var 1)))) (drt_not (drt_test (dr_chain cm_le cm_le dr_int (dr_cb ca_len (dra_cons (dr_var 1) dra_nil)) dr_int)))) (drs_raise (c := "NoAsk") hx) drs_next) (drs_seq (drs_for (dri_seq (dr_var 1)) drg_name (drs_drop (dr_call XOk.none (dra_cons (dr_var 4) (dra_cons dr_int (dra_cons dr_int dra_nil)))))) (drs_seq (drs_drop (dr_call XOk.none (dra_cons (dr_var 2) (dra_cons dr_int (dra_cons dr_int dra_nil))))) (drs_drop (dr_call XOk.none (dra_cons (dr_var 3) (dra_cons dr_int (dra_cons dr_int dra_nil)))))))))
abbrev S_due_place : Stmt := top 12
abbrev N_due_place : List Str := ["panes", "pane", "later", "at", "one"]
theorem sc_due_place : FnScope N_due_place ["panes", "pane"] (defScope S_due_place) := ⟨rfl, rfl, rfl, by decide +kernel, rfl, by decide +kernel, by decide +kernel⟩
theorem ok_due_place (G : Glob K mg cls)  (F : FnP K "due_place" S_due_place f fd) : FnG P w K mg base 1 f fd ["panes", "pane"] (spD K cls false 2 T_due_place) := by
  refine fnD F sc_due_place rfl B_due_place imp_due_place fun cdv A outer s H E hr hgd => ⟨_, (pss_cons (ps_setLc (i := 2) (own := [("at", 3), ("one", 4)]) (g := (gTup K 2 (gCons (gName 3) (gCons (gName 4) gNil)))) rfl sc_due_place.nd rfl rfl (sw_true rfl rfl rfl (by decide +kernel)) (pi_enumK (K := K) rfl rfl G.f_enumerate (pa_cons (pv 0) pa_nil)) (blkOk_by (N := N_due_place) (sc := defScope S_due_place) (own := [("at", 3), ("one", 4)]) (by decide +kernel)) (fun _ _ _ _ _ => (pg_tupK (K := K) rfl rfl (pgs_cons (pg_name (i := 3) sc_due_place.nd rfl (by first | exact Or.inl rfl | exact Or.inr rfl)) (pgs_cons (pg_name (i := 4) sc_due_place.nd rfl (by first | exact Or.inl rfl | exact Or.inr rfl)) pgs_nil)))) (fun _ _ _ _ _ => (pts_one (pt_cmpR op_gt (pv 4) (pv 1) (by first | exact nomark _ | rfl)))) (fun _ _ _ _ _ => (pv 3))) (pss_one (ps_ret (pe_ifExp (pt_cmpR (k_ne (K := K) rfl hr) (pv 2) (pe_lst pa_nil) (by first | exact nomark _ | rfl)) (pe_op (k_add (K := K) rfl) (pe_ix (k_ix (K := K) rfl) (pv 2) pe_int (fun _ _ => rfl)) pe_int) (pe_callB (k_len (K := K) rfl) rfl G.f_len bt_len (pa_cons (pv 0) pa_nil)))))), fun Fr kx hx => ?_⟩
  exact (drs_seq (drs_set (i := 2) (dr_lc (dri_enum (dra_cons (dr_var 0) dra_nil)) (drg_tup (drgs_cons drg_name (drgs_cons drg_name drgs_nil))) (blk_tup (blkS_name (by decide) (blkS_name (by decide) blkS_nil))) (fun F => (drt_test (dr_op cm_gt.op (dr_var 4) (dr_var 1)))) (fun F => (dr_var 3)))) (drs_ret (dr_if (drt_test (dr_op cm_ne.op (dr_var 2) (dr_lst dra_nil))) (dr_op od_add (dr_op od_ix (dr_var 2) dr_int) dr_int) (dr_cb ca_len (dra_cons (dr_var 0) dra_nil)))))
abbrev S_pane_costs : Stmt := top 13
abbrev N_pane_costs : List Str := ["size", "moments", "wait", "lose", "panes", "rows", "pane", "due", "row", "place", "moment"]
theorem sc_pane_costs : FnScope N_pane_costs ["size", "moments", "wait", "lose"] (defScope S_pane_costs) := ⟨rfl, rfl, rfl, by decide +kernel, rfl, by decide +kernel, by decide +kernel⟩
theorem ok_pane_costs (G : Glob K mg cls) (c_need_moments : CalG P w K mg base 3 "need_moments" ["size", "moments", "wait", "lose"] (spD K cls false 4 T_need_moments)) (c_due_place : CalG P w K mg base 1 "due_place" ["panes", "pane"] (spD K cls false 2 T_due_place)) (F : FnP K "pane_costs" S_pane_costs f fd) : FnG P w K mg base 4 f fd ["size", "moments", "wait", "lose"] (spD K cls false 4 T_pane_costs) := by
  refine fnD F sc_pane_costs rfl B_pane_costs imp_pane_costs fun cdv A outer s H E hr hgd => ⟨_, (pss_cons (ps_expr (pe_cg c_need_moments hr (by decide) hgd rfl passL (pa_cons (pv 0) (pa_cons (pv 1) (pa_cons (pv 2) (pa_cons (pv 3) pa_nil)))))) (pss_cons (ps_par (i := 4) (j := 5) rfl sc_pane_costs.nd rfl rfl (by decide) rfl rfl (pa_cons (pe_lc (own := [("moment", 10)]) (g := (gName 10)) rfl sc_pane_costs.nd (pi_seqK (K := K) rfl (pv 1)) (blkOk_by (N := N_pane_costs) (sc := defScope S_pane_costs) (own := [("moment", 10)]) (by decide +kernel)) (fun _ _ _ _ _ => (pg_name (i := 10) sc_pane_costs.nd rfl (by first | exact Or.inl rfl | exact Or.inr rfl))) (fun _ _ _ _ _ => pts_nil) (fun _ _ _ _ _ => (pe_op op_fdiv (pv 10) (pv 0)))) (pa_cons (pe_lst pa_nil) pa_nil)) rfl) (pss_cons (ps_for (passes_of rfl) rfl (pi_range1 rfl G.f_range (pa_cons (pe_op (k_add (K := K) rfl) (pe_callB (k_max (K := K) rfl rfl) rfl G.f_max bt_max (pa_cons (pv 4) pa_nil)) pe_int) pa_nil)) (pg_name (i := 6) sc_pane_costs.nd rfl (by first | exact Or.inl rfl | exact Or.inr rfl)) (pss_cons (ps_set (i := 7) sc_pane_costs.nd rfl (by first | exact Or.inl rfl | exact Or.inr rfl) (pe_cg c_due_place hr (by decide) hgd rfl passL (pa_cons (pv 4) (pa_cons (pv 6) pa_nil)))) (pss_cons (ps_set (i := 8) sc_pane_costs.nd rfl (by first | exact Or.inl rfl | exact Or.inr rfl) (pe_lst pa_nil)) (pss_cons (ps_for (passes_of rfl) rfl (pi_range1 rfl G.f_range (pa_cons (pe_op (k_add (K := K) rfl) (pe_callB (k_len (K := K) rfl) rfl G.f_len bt_len (pa_cons (pv 4) pa_nil)) pe_int) pa_nil)) (pg_name (i := 9) sc_pane_costs.nd rfl (by first | exact Or.inl rfl | exact Or.inr rfl)) (pss_one (ps_expr (pe_bmK (K := K) rfl PySem.F.plainAttrs_list PySem.F.slot_list_append PySem.F.type_list_append mt_append (pv 8) (pa_cons (pe_op (k_add (K := K) rfl) (pe_op op_mulD (pv 2) (pe_callB (k_max (K := K) rfl rfl) rfl G.f_max bt_max (pa_cons pe_int (pa_cons (pe_op op_sub (pv 9) (pv 7)) pa_nil)))) (pe_op op_mulD (pv 3) (pe_bmK (K := K) rfl PySem.F.plainAttrs_list PySem.F.slot_list_count PySem.F.type_list_count (k_count (K := K) rfl) (pe_slice (k_sl (K := K) rfl) (pv 4) (po_some (pv 9)) po_none) (pa_cons (pv 6) pa_nil)))) pa_nil))))) (pss_one (ps_expr (pe_bmK (K := K) rfl PySem.F.plainAttrs_list PySem.F.slot_list_append PySem.F.type_list_append mt_append (pv 5) (pa_cons (pv 8) pa_nil)))))))) (pss_one (ps_ret (pv 5)))))), fun Fr kx hx => ?_⟩
  exact (drs_seq (drs_drop (dr_call XOk.none (dra_cons (dr_var 0) (dra_cons (dr_var 1) (dra_cons (dr_var 2) (dra_cons (dr_var 3) dra_nil)))))) (drs_seq (drs_par (i := 4) (j := 5) (dra_cons (dr_lc (dri_seq (dr_var 1)) drg_name (blk_name (by decide)) (fun F => drt_yes) (fun F => (dr_op od_div (dr_var 10) (dr_var 0)))) (dra_cons (dr_lst dra_nil) dra_nil))) (drs_seq (drs_for (dri_rng1 (dra_cons (dr_op od_add (dr_cb ca_max (dra_cons (dr_var 4) dra_nil)) dr_int) dra_nil)) drg_name (drs_seq (drs_set (i := 7) (dr_call XOk.none (dra_cons (dr_var 4) (dra_cons (dr_var 6) dra_nil)))) (drs_seq (drs_set (i := 8) (dr_lst dra_nil)) (drs_seq (drs_for (dri_rng1 (dra_cons (dr_op od_add (dr_cb ca_len (dra_cons (dr_var 4) dra_nil)) dr_int) dra_nil)) drg_name (drs_append (i := 8) (dr_op od_add (dr_op od_mul (dr_var 2) (dr_cb ca_max (dra_cons dr_int (dra_cons (dr_op od_sub (dr_var 9) (dr_var 7)) dra_nil)))) (dr_op od_mul (dr_var 3) (dr_bm md_count (dr_sl (dr_var 4) (dro_some (dr_var 9)) dro_none) (dra_cons (dr_var 6) dra_nil)))))) (drs_append (i := 5) (dr_var 8)))))) (drs_ret (dr_var 5)))))
abbrev S_least_own : Stmt := top 14
abbrev N_least_own : List Str := ["size", "moments", "wait", "lose", "row"]
theorem sc_least_own : FnScope N_least_own ["size", "moments", "wait", "lose"] (defScope S_least_own) := ⟨rfl, rfl, rfl, by decide +kernel, rfl, by decide +kernel, by decide +kernel⟩
theorem ok_least_own (G : Glob K mg cls) (c_pane_costs : CalG P w K mg base 4 "pane_costs" ["size", "moments", "wait", "lose"] (spD K cls false 4 T_pane_costs)) (F : FnP K "least_own" S_least_own f fd) : FnG P w K mg base 5 f fd ["size", "moments", "wait", "lose"] (spD K cls false 4 T_least_own) := by
  refine fnD F sc_least_own rfl B_least_own imp_least_own fun cdv A outer s H E hr hgd => ⟨_, (pss_one (ps_ret (pe_callB (k_sum (K := K) rfl rfl) rfl G.f_sum bt_sum (pa_cons (pe_lc (own := [("row", 4)]) (g := (gName 4)) rfl sc_least_own.nd (pi_seqK (K := K) rfl (pe_cg c_pane_costs hr (by decide) hgd rfl passL (pa_cons (pv 0) (pa_cons (pv 1) (pa_cons (pv 2) (pa_cons (pv 3) pa_nil)))))) (blkOk_by (N := N_least_own) (sc := defScope S_least_own) (own := [("row", 4)]) (by decide +kernel)) (fun _ _ _ _ _ => (pg_name (i := 4) sc_least_own.nd rfl (by first | exact Or.inl rfl | exact Or.inr rfl))) (fun _ _ _ _ _ => pts_nil) (fun _ _ _ _ _ => (pe_callB (k_min (K := K) rfl rfl) rfl G.f_min bt_min (pa_cons (pv 4) pa_nil)))) pa_nil)))), fun Fr kx hx => ?_⟩
  exact (drs_ret (dr_cb ca_sum (dra_cons (dr_lc (dri_seq (dr_call XOk.none (dra_cons (dr_var 0) (dra_cons (dr_var 1) (dra_cons (dr_var 2) (dra_cons (dr_var 3) dra_nil)))))) drg_name (blk_name (by decide)) (fun F => drt_yes) (fun F => (dr_cb ca_min (dra_cons (dr_var 4) dra_nil)))) dra_nil)))
abbrev S_loss_paper : Stmt := top 15
abbrev N_loss_paper : List Str := ["size", "moments", "wait", "lose", "rows", "costs", "row", "place", "cost"]
theorem sc_loss_paper : FnScope N_loss_paper ["size", "moments", "wait", "lose"] (defScope S_loss_paper) := ⟨rfl, rfl, rfl, by decide +kernel, rfl, by decide +kernel, by decide +kernel⟩
theorem ok_loss_paper (G : Glob K mg cls) (c_pane_costs : CalG P w K mg base 4 "pane_costs" ["size", "moments", "wait", "lose"] (spD K cls false 4 T_pane_costs)) (F : FnP K "loss_paper" S_loss_paper f fd) : FnG P w K mg base 5 f fd ["size", "moments", "wait", "lose"] (spD K cls false 4 T_loss_paper) := by
  refine fnD F sc_loss_paper rfl B_loss_paper imp_loss_paper fun cdv A outer s H E hr hgd => ⟨_, (pss_cons (ps_set (i := 4) sc_loss_paper.nd rfl (by first | exact Or.inl rfl | exact Or.inr rfl) (pe_lst pa_nil)) (pss_cons (ps_for (passes_of rfl) rfl (pi_seqK (K := K) rfl (pe_cg c_pane_costs hr (by decide) hgd rfl passL (pa_cons (pv 0) (pa_cons (pv 1) (pa_cons (pv 2) (pa_cons (pv 3) pa_nil)))))) (pg_name (i := 5) sc_loss_paper.nd rfl (by first | exact Or.inl rfl | exact Or.inr rfl)) (pss_cons (ps_set (i := 6) sc_loss_paper.nd rfl (by first | exact Or.inl rfl | exact Or.inr rfl) (pe_lst pa_nil)) (pss_cons (ps_for (passes_of rfl) rfl (pi_enumK (K := K) rfl rfl G.f_enumerate (pa_cons (pv 5) pa_nil)) (pg_tupK (K := K) rfl rfl (pgs_cons (pg_name (i := 7) sc_loss_paper.nd rfl (by first | exact Or.inl rfl | exact Or.inr rfl)) (pgs_cons (pg_name (i := 8) sc_loss_paper.nd rfl (by first | exact Or.inl rfl | exact Or.inr rfl)) pgs_nil))) (pss_one (ps_expr (pe_bmK (K := K) rfl PySem.F.plainAttrs_list PySem.F.slot_list_append PySem.F.type_list_append mt_append (pv 6) (pa_cons (pe_op (k_add (K := K) rfl) (pv 8) (pe_ifExp (pt_cmpR (k_ne (K := K) rfl hr) (pv 4) (pe_lst pa_nil) (by first | exact nomark _ | rfl)) (pe_callB (k_min (K := K) rfl rfl) rfl G.f_min bt_min (pa_cons (pe_slice (k_sl (K := K) rfl) (pe_ix (k_ix (K := K) rfl) (pv 4) (pe_un un_neg pe_int) (fun _ _ => rfl)) po_none (po_some (pe_op (k_add (K := K) rfl) (pv 7) pe_int))) pa_nil)) pe_int)) pa_nil))))) (pss_one (ps_expr (pe_bmK (K := K) rfl PySem.F.plainAttrs_list PySem.F.slot_list_append PySem.F.type_list_append mt_append (pv 4) (pa_cons (pv 6) pa_nil))))))) (pss_one (ps_ret (pv 4))))), fun Fr kx hx => ?_⟩
  exact (drs_seq (drs_set (i := 4) (dr_lst dra_nil)) (drs_seq (drs_for (dri_seq (dr_call XOk.none (dra_cons (dr_var 0) (dra_cons (dr_var 1) (dra_cons (dr_var 2) (dra_cons (dr_var 3) dra_nil)))))) drg_name (drs_seq (drs_set (i := 6) (dr_lst dra_nil)) (drs_seq (drs_for (dri_enum (dra_cons (dr_var 5) dra_nil)) (drg_tup (drgs_cons drg_name (drgs_cons drg_name drgs_nil))) (drs_append (i := 6) (dr_op od_add (dr_var 8) (dr_if (drt_test (dr_op cm_ne.op (dr_var 4) (dr_lst dra_nil))) (dr_cb ca_min (dra_cons (dr_sl (dr_op od_ix (dr_var 4) (dr_un ud_neg dr_int)) dro_none (dro_some (dr_op od_add (dr_var 7) dr_int))) dra_nil)) dr_int)))) (drs_append (i := 4) (dr_var 6))))) (drs_ret (dr_var 4))))
abbrev S_least_one : Stmt := top 16
abbrev N_least_one : List Str := ["size", "moments", "wait", "lose"]
theorem sc_least_one : FnScope N_least_one ["size", "moments", "wait", "lose"] (defScope S_least_one) := ⟨rfl, rfl, rfl, by decide +kernel, rfl, by decide +kernel, by decide +kernel⟩
theorem ok_least_one (G : Glob K mg cls) (c_loss_paper : CalG P w K mg base 5 "loss_paper" ["size", "moments", "wait", "lose"] (spD K cls false 4 T_loss_paper)) (F : FnP K "least_one" S_least_one f fd) : FnG P w K mg base 6 f fd ["size", "moments", "wait", "lose"] (spD K cls false 4 T_least_one) := by
  refine fnD F sc_least_one rfl B_least_one imp_least_one fun cdv A outer s H E hr hgd => ⟨_, (pss_one (ps_ret (pe_callB (k_min (K := K) rfl rfl) rfl G.f_min bt_min (pa_cons (pe_ix (k_ix (K := K) rfl) (pe_cg c_loss_paper hr (by decide) hgd rfl passL (pa_cons (pv 0) (pa_cons (pv 1) (pa_cons (pv 2) (pa_cons (pv 3) pa_nil))))) (pe_un un_neg pe_int) (fun _ _ => rfl)) pa_nil)))), fun Fr kx hx => ?_⟩
  exact (drs_ret (dr_cb ca_min (dra_cons (dr_op od_ix (dr_call XOk.none (dra_cons (dr_var 0) (dra_cons (dr_var 1) (dra_cons (dr_var 2) (dra_cons (dr_var 3) dra_nil))))) (dr_un ud_neg dr_int)) dra_nil)))
abbrev S_closings : Stmt := top 17
abbrev N_closings : List Str := ["size", "moments", "wait", "lose", "found", "end", "row"]
theorem sc_closings : FnScope N_closings ["size", "moments", "wait", "lose"] (defScope S_closings) := ⟨rfl, rfl, rfl, by decide +kernel, rfl, by decide +kernel, by decide +kernel⟩
theorem ok_closings (G : Glob K mg cls) (c_loss_paper : CalG P w K mg base 5 "loss_paper" ["size", "moments", "wait", "lose"] (spD K cls false 4 T_loss_paper)) (F : FnP K "closings" S_closings f fd) : FnG P w K mg base 6 f fd ["size", "moments", "wait", "lose"] (spD K cls false 4 T_closings) := by
  refine fnD F sc_closings rfl B_closings imp_closings fun cdv A outer s H E hr hgd => ⟨_, (pss_cons (ps_par (i := 4) (j := 5) rfl sc_closings.nd rfl rfl (by decide) rfl rfl (pa_cons (pe_lst pa_nil) (pa_cons (pe_callB (k_len (K := K) rfl) rfl G.f_len bt_len (pa_cons (pv 1) pa_nil)) pa_nil)) rfl) (pss_cons (ps_for (passes_of rfl) rfl (pi_seqK (K := K) rfl (pe_revK (K := K) rfl (pe_cg c_loss_paper hr (by decide) hgd rfl passL (pa_cons (pv 0) (pa_cons (pv 1) (pa_cons (pv 2) (pa_cons (pv 3) pa_nil))))))) (pg_name (i := 6) sc_closings.nd rfl (by first | exact Or.inl rfl | exact Or.inr rfl)) (pss_cons (ps_set (i := 5) sc_closings.nd rfl (by first | exact Or.inl rfl | exact Or.inr rfl) (pe_bmK (K := K) rfl PySem.F.plainAttrs_list PySem.F.slot_list_index PySem.F.type_list_index (k_index (K := K) rfl hr) (pv 6) (pa_cons (pe_callB (k_min (K := K) rfl rfl) rfl G.f_min bt_min (pa_cons (pe_slice (k_sl (K := K) rfl) (pv 6) po_none (po_some (pe_op (k_add (K := K) rfl) (pv 5) pe_int))) pa_nil)) pa_nil))) (pss_one (ps_expr (pe_bmK (K := K) rfl PySem.F.plainAttrs_list PySem.F.slot_list_append PySem.F.type_list_append mt_append (pv 4) (pa_cons (pv 5) pa_nil)))))) (pss_one (ps_ret (pe_revK (K := K) rfl (pv 4)))))), fun Fr kx hx => ?_⟩
  exact (drs_seq (drs_par (i := 4) (j := 5) (dra_cons (dr_lst dra_nil) (dra_cons (dr_cb ca_len (dra_cons (dr_var 1) dra_nil)) dra_nil))) (drs_seq (drs_for (dri_seq (dr_rev (dr_call XOk.none (dra_cons (dr_var 0) (dra_cons (dr_var 1) (dra_cons (dr_var 2) (dra_cons (dr_var 3) dra_nil))))))) drg_name (drs_seq (drs_set (i := 5) (dr_bm md_index (dr_var 6) (dra_cons (dr_cb ca_min (dra_cons (dr_sl (dr_var 6) dro_none (dro_some (dr_op od_add (dr_var 5) dr_int))) dra_nil)) dra_nil))) (drs_append (i := 4) (dr_var 5)))) (drs_ret (dr_rev (dr_var 4)))))
abbrev S_are_closings : Stmt := top 18
abbrev N_are_closings : List Str := ["size", "moments", "thing", "at", "place"]
theorem sc_are_closings : FnScope N_are_closings ["size", "moments", "thing"] (defScope S_are_closings) := ⟨rfl, rfl, rfl, by decide +kernel, rfl, by decide +kernel, by decide +kernel⟩
theorem ok_are_closings (G : Glob K mg cls) (c_is_whole : CalG P w K mg base 1 "is_whole" ["thing"] (spD K cls false 1 T_is_whole)) (F : FnP K "are_closings" S_are_closings f fd) : FnG P w K mg base 2 f fd ["size", "moments", "thing"] (spD K cls false 3 T_are_closings) := by
  refine fnD F sc_are_closings rfl B_are_closings imp_are_closings fun cdv A outer s H E hr hgd => ⟨_, (pss_cons (ps_if (PW.pt (pw_or (pt_not (pt_val (pe_callB (k_isi (K := K) rfl) rfl G.f_isinstance bt_isi (pa_cons (pv 2) (pa_cons (pe_bltn (v := .ty "list") rfl G.f_list bt_list rfl) pa_nil))))) (pw_or1 (pt_cmpR (k_ne (K := K) rfl hr) (pe_callB (k_len (K := K) rfl) rfl G.f_len bt_len (pa_cons (pv 2) pa_nil)) (pe_op (k_add (K := K) rfl) (pe_op op_fdiv (pe_callB (k_max (K := K) rfl rfl) rfl G.f_max bt_max (pa_cons (pv 1) pa_nil)) (pv 0)) pe_int) (by first | exact nomark _ | rfl))))) (pss_one (ps_ret pe_bl)) pss_nil) (pss_cons (ps_for (passes_of rfl) rfl (pi_enumK (K := K) rfl rfl G.f_enumerate (pa_cons (pv 2) pa_nil)) (pg_tupK (K := K) rfl rfl (pgs_cons (pg_name (i := 3) sc_are_closings.nd rfl (by first | exact Or.inl rfl | exact Or.inr rfl)) (pgs_cons (pg_name (i := 4) sc_are_closings.nd rfl (by first | exact Or.inl rfl | exact Or.inr rfl)) pgs_nil))) (pss_one (ps_if (PW.pt (pw_or (pt_not (pt_val (pe_cg c_is_whole hr (by decide) hgd rfl passL (pa_cons (pv 4) pa_nil)))) (pw_or1 (pt_not (pt_chain op_le op_le (pe_ifExp (pt_cmpR op_gt (pv 3) pe_int (by first | exact nomark _ | rfl)) (pe_ix (k_ix (K := K) rfl) (pv 2) (pe_op op_sub (pv 3) pe_int) (fun _ _ => rfl)) pe_int) (pv 4) (pe_callB (k_len (K := K) rfl) rfl G.f_len bt_len (pa_cons (pv 1) pa_nil))))))) (pss_one (ps_ret pe_bl)) pss_nil))) (pss_one (ps_ret pe_bl)))), fun Fr kx hx => ?_⟩
  exact (drs_seq (drs_if (drt_or (drt_not (drt_B (dr_isi (T := "list") (by decide) (dr_var 2)))) (drt_test (dr_op cm_ne.op (dr_cb ca_len (dra_cons (dr_var 2) dra_nil)) (dr_op od_add (dr_op od_div (dr_cb ca_max (dra_cons (dr_var 1) dra_nil)) (dr_var 0)) dr_int)))) (drs_ret dr_bl) drs_next) (drs_seq (drs_for (dri_enum (dra_cons (dr_var 2) dra_nil)) (drg_tup (drgs_cons drg_name (drgs_cons drg_name drgs_nil))) (drs_if (drt_or (drt_not (drt_B (dr_call XOk.none (dra_cons (dr_var 4) dra_nil)))) (drt_not (drt_test (dr_chain cm_le cm_le (dr_if (drt_test (dr_op cm_gt.op (dr_var 3) dr_int)) (dr_op od_ix (dr_var 2) (dr_op od_sub (dr_var 3) dr_int)) dr_int) (dr_var 4) (dr_cb ca_len (dra_cons (dr_var 1) dra_nil)))))) (drs_ret dr_bl) drs_next)) (drs_ret dr_bl)))
abbrev S_closing_cost : Stmt := top 19
abbrev N_closing_cost : List Str := ["size", "moments", "wait", "lose", "places", "rows", "row", "place"]
theorem sc_closing_cost : FnScope N_closing_cost ["size", "moments", "wait", "lose", "places"] (defScope S_closing_cost) := ⟨rfl, rfl, rfl, by decide +kernel, rfl, by decide +kernel, by decide +kernel⟩
theorem ok_closing_cost (G : Glob K mg cls) (c_pane_costs : CalG P w K mg base 4 "pane_costs" ["size", "moments", "wait", "lose"] (spD K cls false 4 T_pane_costs)) (c_are_closings : CalG P w K mg base 2 "are_closings" ["size", "moments", "thing"] (spD K cls false 3 T_are_closings)) (F : FnP K "closing_cost" S_closing_cost f fd) : FnG P w K mg base 5 f fd ["size", "moments", "wait", "lose", "places"] (spD K cls false 5 T_closing_cost) := by
  refine fnD F sc_closing_cost rfl B_closing_cost imp_closing_cost fun cdv A outer s H E hr hgd => ⟨_, (pss_cons (ps_set (i := 5) sc_closing_cost.nd rfl (by first | exact Or.inl rfl | exact Or.inr rfl) (pe_cg c_pane_costs hr (by decide) hgd rfl passL (pa_cons (pv 0) (pa_cons (pv 1) (pa_cons (pv 2) (pa_cons (pv 3) pa_nil)))))) (pss_cons (ps_if (pt_not (pt_val (pe_cg c_are_closings hr (by decide) hgd rfl passL (pa_cons (pv 0) (pa_cons (pv 1) (pa_cons (pv 4) pa_nil)))))) (pss_one (ps_raise rfl (takes_of rfl rfl rfl rfl) (pmk_own PySem.F.excBase_ValueError G.x_NoAsk.q G.x_NoAsk.g G.x_NoAsk.k (raises_own G.x_NoAsk.s G.x_NoAsk.t) rfl))) pss_nil) (pss_one (ps_ret (pe_callB (k_sum (K := K) rfl rfl) rfl G.f_sum bt_sum (pa_cons (pe_lc (own := [("row", 6), ("place", 7)]) (g := (gTup K 2 (gCons (gName 6) (gCons (gName 7) gNil)))) rfl sc_closing_cost.nd (pi_zipK (K := K) rfl rfl G.f_zip (pa_cons (pv 5) (pa_cons (pv 4) pa_nil))) (blkOk_by (N := N_closing_cost) (sc := defScope S_closing_cost) (own := [("row", 6), ("place", 7)]) (by decide +kernel)) (fun _ _ _ _ _ => (pg_tupK (K := K) rfl rfl (pgs_cons (pg_name (i := 6) sc_closing_cost.nd rfl (by first | exact Or.inl rfl | exact Or.inr rfl)) (pgs_cons (pg_name (i := 7) sc_closing_cost.nd rfl (by first | exact Or.inl rfl | exact Or.inr rfl)) pgs_nil)))) (fun _ _ _ _ _ => pts_nil) (fun _ _ _ _ _ => (pe_ix (k_ix (K := K) rfl) (pv 6) (pv 7) (fun _ _ => rfl)))) pa_nil)))))), fun Fr kx hx => ?_⟩
  exact (drs_seq (drs_set (i := 5) (dr_call XOk.none (dra_cons (dr_var 0) (dra_cons (dr_var 1) (dra_cons (dr_var 2) (dra_cons (dr_var 3) dra_nil)))))) (drs_seq (drs_if (drt_not (drt_B (dr_call XOk.none (dra_cons (dr_var 0) (dra_cons (dr_var 1) (dra_cons (dr_var 4) dra_nil)))))) (drs_raise (c := "NoAsk") hx) drs_next) (drs_ret (dr_cb ca_sum (dra_cons (dr_lc (dri_zip (dra_cons (dr_var 5) (dra_cons (dr_var 4) dra_nil))) (drg_tup (drgs_cons drg_name (drgs_cons drg_name drgs_nil))) (blk_tup (blkS_name (by decide) (blkS_name (by decide) blkS_nil))) (fun F => drt_yes) (fun F => (dr_op od_ix (dr_var 6) (dr_var 7)))) dra_nil)))))
abbrev S__law_begun : Stmt := top 21
abbrev N__law_begun : List Str := ["script", "great", "cell"]
theorem sc__law_begun : FnScope N__law_begun ["script"] (defScope S__law_begun) := ⟨rfl, rfl, rfl, by decide +kernel, rfl, by decide +kernel, by decide +kernel⟩
theorem ok__law_begun (G : Glob K mg cls) (F : FnP K "_law_begun" S__law_begun f fd) : FnG P w K mg base 1 f fd ["script"] (spBegun K) := by
  refine fnG_of F sc__law_begun (fun vs H Q E h => by obtain ⟨a, ns, rfl, _⟩ := h; rfl) fun cdv A outer s H vs Q E hr hgd h => ⟨_, (pss_cons (ps_setLc (i := 1) (own := [("cell", 2)]) (g := (gName 2)) rfl sc__law_begun.nd rfl rfl (sw_true rfl rfl rfl (by decide +kernel)) (pi_seqK (K := K) rfl (pv 0)) (blkOk_by (N := N__law_begun) (sc := defScope S__law_begun) (own := [("cell", 2)]) (by decide +kernel)) (fun _ _ _ _ _ => (pg_name (i := 2) sc__law_begun.nd rfl (by first | exact Or.inl rfl | exact Or.inr rfl))) (fun _ _ _ _ _ => (pts_one (pt_cmpR op_ge (pe_callB call_absD rfl G.f_abs bt_abs (pa_cons (pv 2) pa_nil)) (pe_op op_pow pe_int pe_int) (by first | exact nomark _ | rfl)))) (fun _ _ _ _ _ => (pe_op op_sub (pe_callB call_absD rfl G.f_abs bt_abs (pa_cons (pv 2) pa_nil)) (pe_op op_pow pe_int pe_int)))) (pss_one (ps_ret (pe_disp (pps_cons pe_str (pv 1) (pps_cons pe_str (pe_lc (own := [("cell", 2)]) (g := (gName 2)) rfl sc__law_begun.nd (pi_seqK (K := K) rfl (pv 0)) (blkOk_by (N := N__law_begun) (sc := defScope S__law_begun) (own := [("cell", 2)]) (by decide +kernel)) (fun _ _ _ _ _ => (pg_name (i := 2) sc__law_begun.nd rfl (by first | exact Or.inl rfl | exact Or.inr rfl))) (fun _ _ _ _ _ => pts_nil) (fun _ _ _ _ _ => (pe_callB call_absD rfl G.f_abs bt_abs (pa_cons (pv 2) pa_nil)))) (pps_cons pe_str pe_int (pps_cons pe_str pe_int pps_nil)))) rfl rfl (by simp) (by decide))))), begun_ok rfl vs H Q E h⟩
abbrev S__law_mixed : Stmt := top 22
abbrev N__law_mixed : List Str := ["state", "turn", "found", "prime", "blend", "cell"]
theorem sc__law_mixed : FnScope N__law_mixed ["state"] (defScope S__law_mixed) := ⟨rfl, rfl, rfl, by decide +kernel, rfl, by decide +kernel, by decide +kernel⟩
theorem ok__law_mixed (G : Glob K mg cls)  (F : FnP K "_law_mixed" S__law_mixed f fd) : FnG P w K mg base 1 f fd ["state"] (spD K cls true 0 T__law_mixed) := by
  refine fnD F sc__law_mixed rfl B__law_mixed imp__law_mixed fun cdv A outer s H E hr hgd => ⟨_, (pss_cons (ps_par (i := 1) (j := 2) rfl sc__law_mixed.nd rfl rfl (by decide) rfl rfl (pa_cons (pe_op (k_add (K := K) rfl) (pe_dget (hu_of hr) (pv 0) pe_str (fun _ _ => rfl)) pe_int) (pa_cons pe_int pa_nil)) rfl) (pss_cons (ps_dput (hu_of hr) (pv 0) pe_str (pv 1) rfl) (pss_cons (ps_for (passes_of rfl) rfl (pi_seqK (K := K) rfl (pe_lst (pa_cons pe_int (pa_cons pe_int (pa_cons pe_int (pa_cons pe_int pa_nil)))))) (pg_name (i := 3) sc__law_mixed.nd rfl (by first | exact Or.inl rfl | exact Or.inr rfl)) (pss_cons (ps_set (i := 4) sc__law_mixed.nd rfl (by first | exact Or.inl rfl | exact Or.inr rfl) (pe_op (k_add (K := K) rfl) (pe_op op_mulD pe_int (pv 1)) (pe_op op_fdiv (pv 3) pe_int))) (pss_cons (ps_for (passes_of rfl) rfl (pi_seqK (K := K) rfl (pe_dget (hu_of hr) (pv 0) pe_str (fun _ _ => rfl))) (pg_name (i := 5) sc__law_mixed.nd rfl (by first | exact Or.inl rfl | exact Or.inr rfl)) (pss_one (ps_set (i := 4) sc__law_mixed.nd rfl (by first | exact Or.inl rfl | exact Or.inr rfl) (pe_op op_mod (pe_callTy call_intD rfl G.f_int bt_int (pa_cons (pe_op (k_add (K := K) rfl) (pe_op (k_add (K := K) rfl) (pe_op op_mulD (pv 4) pe_int) (pv 5)) (pv 1)) pa_nil)) (pv 3))))) (pss_one (ps_set (i := 2) sc__law_mixed.nd rfl (by first | exact Or.inl rfl | exact Or.inr rfl) (pe_op (k_add (K := K) rfl) (pe_op op_mulD (pv 2) pe_int) (pe_op op_mod (pe_callTy call_intD rfl G.f_int bt_int (pa_cons (pe_op op_pow (pv 4) pe_int) pa_nil)) (pv 3)))))))) (pss_one (ps_ret (pv 2)))))), fun Fr kx hx => ?_⟩
  exact (drs_seq (drs_par (i := 1) (j := 2) (dra_cons (dr_op od_add dr_stTurn dr_int) (dra_cons dr_int dra_nil))) (drs_seq (drs_stTurn (dr_var 1)) (drs_seq (drs_for (dri_seq (dr_lst (dra_cons dr_int (dra_cons dr_int (dra_cons dr_int (dra_cons dr_int dra_nil)))))) drg_name (drs_seq (drs_set (i := 4) (dr_op od_add (dr_op od_mul dr_int (dr_var 1)) (dr_op od_div (dr_var 3) dr_int))) (drs_seq (drs_for dri_stCells drg_name (drs_set (i := 4) (dr_op od_mod (dr_cb ca_int (dra_cons (dr_op od_add (dr_op od_add (dr_op od_mul (dr_var 4) dr_int) (dr_var 5)) (dr_var 1)) dra_nil)) (dr_var 3)))) (drs_set (i := 2) (dr_op od_add (dr_op od_mul (dr_var 2) dr_int) (dr_op od_mod (dr_cb ca_int (dra_cons (dr_op od_pow (dr_var 4) dr_int) dra_nil)) (dr_var 3))))))) (drs_ret (dr_var 2)))))
abbrev S__law_draw : Stmt := top 23
abbrev N__law_draw : List Str := ["state", "room", "found"]
theorem sc__law_draw : FnScope N__law_draw ["state", "room"] (defScope S__law_draw) := ⟨rfl, rfl, rfl, by decide +kernel, rfl, by decide +kernel, by decide +kernel⟩
theorem ok__law_draw (G : Glob K mg cls) (c__law_mixed : CalG P w K mg base 1 "_law_mixed" ["state"] (spD K cls true 0 T__law_mixed)) (F : FnP K "_law_draw" S__law_draw f fd) : FnG P w K mg base 2 f fd ["state", "room"] (spD K cls true 1 T__law_draw) := by
  refine fnD F sc__law_draw rfl B__law_draw imp__law_draw fun cdv A outer s H E hr hgd => ⟨_, (pss_cons (ps_if (pt_cmpR (k_eq (K := K) rfl hr) (pe_dget (hu_of hr) (pv 0) pe_str (fun _ _ => rfl)) pe_int (by first | exact nomark _ | rfl)) (pss_one (ps_dput (hu_of hr) (pv 0) pe_str (pe_ifExp (pt_cmpR (k_ne (K := K) rfl hr) (pe_dget (hu_of hr) (pv 0) pe_str (fun _ _ => rfl)) (pe_lst pa_nil) (nomark _)) (pe_bmK (K := K) rfl PySem.F.plainAttrs_list PySem.F.slot_list_pop PySem.F.type_list_pop mt_popAt (pe_dget (hu_of hr) (pv 0) pe_str (fun _ _ => rfl)) (pa_cons pe_int pa_nil)) (pe_cg c__law_mixed hr (by decide) hgd rfl passL (pa_cons (pv 0) pa_nil))) rfl)) pss_nil) (pss_cons (ps_set (i := 2) sc__law_draw.nd rfl (by first | exact Or.inl rfl | exact Or.inr rfl) (pe_op op_mod (pe_callTy call_intD rfl G.f_int bt_int (pa_cons (pe_dget (hu_of hr) (pv 0) pe_str (fun _ _ => rfl)) pa_nil)) (pv 1))) (pss_cons (ps_dput (hu_of hr) (pv 0) pe_str (pe_op op_fdiv (pe_dget (hu_of hr) (pv 0) pe_str (fun _ _ => rfl)) (pv 1)) rfl) (pss_one (ps_ret (pv 2)))))), fun Fr kx hx => ?_⟩
  exact (drs_seq (drs_if (drt_test (dr_op cm_eq.op dr_stRest dr_int)) (drs_stRest (dr_stPop (dr_callS XOk.none dra_nil))) drs_next) (drs_seq (drs_set (i := 2) (dr_op od_mod (dr_cb ca_int (dra_cons dr_stRest dra_nil)) (dr_var 1))) (drs_seq (drs_stRest (dr_op od_div dr_stRest (dr_var 1))) (drs_ret (dr_var 2)))))
abbrev S__law_pick : Stmt := top 24
abbrev N__law_pick : List Str := ["state", "some"]
theorem sc__law_pick : FnScope N__law_pick ["state", "some"] (defScope S__law_pick) := ⟨rfl, rfl, rfl, by decide +kernel, rfl, by decide +kernel, by decide +kernel⟩
theorem ok__law_pick (G : Glob K mg cls) (c__law_draw : CalG P w K mg base 2 "_law_draw" ["state", "room"] (spD K cls true 1 T__law_draw)) (F : FnP K "_law_pick" S__law_pick f fd) : FnG P w K mg base 3 f fd ["state", "some"] (spD K cls true 1 T__law_pick) := by
  refine fnD F sc__law_pick rfl B__law_pick imp__law_pick fun cdv A outer s H E hr hgd => ⟨_, (pss_one (ps_ret (pe_ix (k_ix (K := K) rfl) (pv 1) (pe_cg c__law_draw hr (by decide) hgd rfl passL (pa_cons (pv 0) (pa_cons (pe_callB (k_len (K := K) rfl) rfl G.f_len bt_len (pa_cons (pv 1) pa_nil)) pa_nil))) (fun _ _ => rfl)))), fun Fr kx hx => ?_⟩
  exact (drs_ret (dr_op od_ix (dr_var 1) (dr_callS XOk.none (dra_cons (dr_cb ca_len (dra_cons (dr_var 1) dra_nil)) dra_nil))))
abbrev S__law_plain : Stmt := top 25
abbrev N__law_plain : List Str := ["value", "one"]
theorem sc__law_plain : FnScope N__law_plain ["value"] (defScope S__law_plain) := ⟨rfl, rfl, rfl, by decide +kernel, rfl, by decide +kernel, by decide +kernel⟩
theorem okS__law_plain (G : Glob K mg cls) {j : Nat} {Tp T' : DFn} (c__law_plain : CalG P w K mg base j "_law_plain" ["value"] (spD K cls false 1 Tp)) (imp : ∀ B ds k kx, ds.length = 1 → T' B ds k kx → den false 2 (B__law_plain Tp) B ds k kx) (F : FnP K "_law_plain" S__law_plain f fd) : FnG P w K mg base (j + 1) f fd ["value"] (spD K cls false 1 T') := by
  refine fnD F sc__law_plain rfl (B__law_plain Tp) imp fun cdv A outer s H E hr hgd => ⟨_, (pss_cons (ps_if (pt_val (pe_callB (k_isiT (K := K) rfl) rfl G.f_isinstance bt_isi (pa_cons (pv 0) (pa_cons (pe_tup (pa_cons (pe_bltn (v := .ty "list") rfl G.f_list bt_list rfl) (pa_cons (pe_bltn (v := .ty "tuple") rfl G.f_tuple bt_tuple rfl) pa_nil))) pa_nil)))) (pss_one (ps_ret (pe_cmpR (k_eq (K := K) rfl hr) (pe_lc (own := [("one", 1)]) (g := (gName 1)) rfl sc__law_plain.nd (pi_seqK (K := K) rfl (pv 0)) (blkOk_by (N := N__law_plain) (sc := defScope S__law_plain) (own := [("one", 1)]) (by decide +kernel)) (fun _ _ _ _ _ => (pg_name (i := 1) sc__law_plain.nd rfl (by first | exact Or.inl rfl | exact Or.inr rfl))) (fun _ _ _ _ _ => (pts_one (pt_not (pt_val (pe_cg c__law_plain hr (Nat.le_refl _) hgd rfl passL (pa_cons (pv 1) pa_nil)))))) (fun _ _ _ _ _ => pe_int)) (pe_lst pa_nil) (by first | exact nomark _ | rfl)))) pss_nil) (pss_cons (ps_if (pt_val (pe_callB (k_isi (K := K) rfl) rfl G.f_isinstance bt_isi (pa_cons (pv 0) (pa_cons (pe_bltn (v := .ty "dict") rfl G.f_dict bt_dict rfl) pa_nil)))) pss_never pss_nil) (pss_one (ps_ret (pe_or (pe_cmpR op_isD (pv 0) pe_non (by first | exact nomark _ | rfl)) (pe_one (pe_callB (k_isiT (K := K) rfl) rfl G.f_isinstance bt_isi (pa_cons (pv 0) (pa_cons (pe_tup (pa_cons (pe_bltn (v := .ty "int") rfl G.f_int bt_int rfl) (pa_cons (pe_bltn (v := .ty "str") rfl G.f_str bt_str rfl) pa_nil))) pa_nil))))))))), fun Fr kx hx => ?_⟩
  exact (drs_seq (drs_if (drt_B (dr_isi2 (T := "list") (U := "tuple") (by decide) (by decide) (dr_var 0))) (drs_ret (dr_op cm_eq.op (dr_lc (dri_seq (dr_var 0)) drg_name (blk_name (by decide)) (fun F => (drt_not (drt_B (dr_call XOk.none (dra_cons (dr_var 1) dra_nil))))) (fun F => dr_int)) (dr_lst dra_nil))) drs_next) (drs_seq (drs_if (drt_B (dr_isi (T := "dict") (by decide) (dr_var 0))) drs_never drs_next) (drs_ret (dr_orV (dr_op cm_is.op (dr_var 0) dr_non) (dr_isi2 (T := "int") (U := "str") (by decide) (by decide) (dr_var 0))))))
theorem ok__law_plain (G : Glob K mg cls) (g : mg "_law_plain" = some (.ref f)) (kp : PySem.W.keepIn K (.ref f) = true) (b : Binds K fd ["value"] []) (F : FnP K "_law_plain" S__law_plain f fd) : ∀ n : Nat, FnG P w K mg base n f fd ["value"] (spD K cls false 1 (TP n))
  | 0 => ⟨fun vs H Q E h => spD_len h, fun A outer s H args us vs Q E hg hr he hb hv h => by obtain ⟨_, _, _, _, _, _, _, _, _, _, _, z, _⟩ := h; exact z.elim⟩
  | n + 1 => okS__law_plain G (calG (ok__law_plain G g kp b F n) g kp b) (imp__law_plain n) F
abbrev S__law_is : Stmt := top 26
abbrev N__law_is : List Str := ["found", "due"]
theorem sc__law_is : FnScope N__law_is ["found", "due"] (defScope S__law_is) := ⟨rfl, rfl, rfl, by decide +kernel, rfl, by decide +kernel, by decide +kernel⟩
theorem ok__law_is (G : Glob K mg cls) (c__law_plain : CalG P w K mg base 8 "_law_plain" ["value"] (spD K cls false 1 T__law_plain)) (F : FnP K "_law_is" S__law_is f fd) : FnG P w K mg base 9 f fd ["found", "due"] (spD K cls false 2 T__law_is) := by
  refine fnD F sc__law_is rfl B__law_is imp__law_is fun cdv A outer s H E hr hgd => ⟨_, (pss_one (ps_ret (pe_and (pe_cg c__law_plain hr (by decide) hgd rfl passL (pa_cons (pv 0) pa_nil)) (pe_and (pe_cmpR (k_eq (K := K) rfl hr) (pv 0) (pv 1) (by first | exact nomark _ | rfl)) (pe_and (pe_cmpR (k_eq (K := K) rfl hr) (pv 1) (pv 0) (by first | exact nomark _ | rfl)) (pe_one (pe_cmpR (k_eq (K := K) rfl hr) (pe_callB (k_repr (K := K) rfl hgd hr) rfl G.f_repr bt_repr (pa_cons (pv 0) pa_nil)) (pe_callB (k_repr (K := K) rfl hgd hr) rfl G.f_repr bt_repr (pa_cons (pv 1) pa_nil)) (by first | exact nomark _ | rfl)))))))), fun Fr kx hx => ?_⟩
  exact (drs_ret (dr_andV (dr_call XOk.none (dra_cons (dr_var 0) dra_nil)) (dr_andV (dr_op cm_eq.op (dr_var 0) (dr_var 1)) (dr_andV (dr_op cm_eq.op (dr_var 1) (dr_var 0)) (dr_op cm_eq.op (dr_cb ca_repr (dra_cons (dr_var 0) dra_nil)) (dr_cb ca_repr (dra_cons (dr_var 1) dra_nil)))))))
abbrev S__law_costs : Stmt := top 27
abbrev N__law_costs : List Str := ["size", "moments", "wait", "lose", "rows", "pane", "later", "due", "row", "place", "lost", "at"]
theorem sc__law_costs : FnScope N__law_costs ["size", "moments", "wait", "lose"] (defScope S__law_costs) := ⟨rfl, rfl, rfl, by decide +kernel, rfl, by decide +kernel, by decide +kernel⟩
theorem ok__law_costs (G : Glob K mg cls)  (F : FnP K "_law_costs" S__law_costs f fd) : FnG P w K mg base 1 f fd ["size", "moments", "wait", "lose"] (spD K cls false 4 T__law_costs) := by
  refine fnD F sc__law_costs rfl B__law_costs imp__law_costs fun cdv A outer s H E hr hgd => ⟨_, (pss_cons (ps_set (i := 4) sc__law_costs.nd rfl (by first | exact Or.inl rfl | exact Or.inr rfl) (pe_lst pa_nil)) (pss_cons (ps_for (passes_of rfl) rfl (pi_range1 rfl G.f_range (pa_cons (pe_op (k_add (K := K) rfl) (pe_op op_fdiv (pe_callB (k_max (K := K) rfl rfl) rfl G.f_max bt_max (pa_cons (pv 1) pa_nil)) (pv 0)) pe_int) pa_nil)) (pg_name (i := 5) sc__law_costs.nd rfl (by first | exact Or.inl rfl | exact Or.inr rfl)) (pss_cons (ps_setLc (i := 6) (own := [("at", 11)]) (g := (gName 11)) rfl sc__law_costs.nd rfl rfl (sw_true rfl rfl rfl (by decide +kernel)) (pi_range1 rfl G.f_range (pa_cons (pe_callB (k_len (K := K) rfl) rfl G.f_len bt_len (pa_cons (pv 1) pa_nil)) pa_nil)) (blkOk_by (N := N__law_costs) (sc := defScope S__law_costs) (own := [("at", 11)]) (by decide +kernel)) (fun _ _ _ _ _ => (pg_name (i := 11) sc__law_costs.nd rfl (by first | exact Or.inl rfl | exact Or.inr rfl))) (fun _ _ _ _ _ => (pts_one (pt_cmpR op_ge (pe_ix (k_ix (K := K) rfl) (pv 1) (pv 11) (fun _ _ => rfl)) (pe_op op_mulD (pe_op (k_add (K := K) rfl) (pv 5) pe_int) (pv 0)) (by first | exact nomark _ | rfl)))) (fun _ _ _ _ _ => (pv 11))) (pss_cons (ps_set (i := 7) sc__law_costs.nd rfl (by first | exact Or.inl rfl | exact Or.inr rfl) (pe_ifExp (pt_cmpR (k_ne (K := K) rfl hr) (pv 6) (pe_lst pa_nil) (by first | exact nomark _ | rfl)) (pe_op (k_add (K := K) rfl) (pe_ix (k_ix (K := K) rfl) (pv 6) pe_int (fun _ _ => rfl)) pe_int) (pe_callB (k_len (K := K) rfl) rfl G.f_len bt_len (pa_cons (pv 1) pa_nil)))) (pss_cons (ps_set (i := 8) sc__law_costs.nd rfl (by first | exact Or.inl rfl | exact Or.inr rfl) (pe_lst pa_nil)) (pss_cons (ps_for (passes_of rfl) rfl (pi_range1 rfl G.f_range (pa_cons (pe_op (k_add (K := K) rfl) (pe_callB (k_len (K := K) rfl) rfl G.f_len bt_len (pa_cons (pv 1) pa_nil)) pe_int) pa_nil)) (pg_name (i := 9) sc__law_costs.nd rfl (by first | exact Or.inl rfl | exact Or.inr rfl)) (pss_cons (ps_setLc (i := 10) (own := [("at", 11)]) (g := (gName 11)) rfl sc__law_costs.nd rfl rfl (sw_true rfl rfl rfl (by decide +kernel)) (pi_range2 rfl G.f_range (pa_cons (pv 9) (pa_cons (pe_callB (k_len (K := K) rfl) rfl G.f_len bt_len (pa_cons (pv 1) pa_nil)) pa_nil))) (blkOk_by (N := N__law_costs) (sc := defScope S__law_costs) (own := [("at", 11)]) (by decide +kernel)) (fun _ _ _ _ _ => (pg_name (i := 11) sc__law_costs.nd rfl (by first | exact Or.inl rfl | exact Or.inr rfl))) (fun _ _ _ _ _ => (pts_one (pt_chain op_le op_lt (pe_op op_mulD (pv 5) (pv 0)) (pe_ix (k_ix (K := K) rfl) (pv 1) (pv 11) (fun _ _ => rfl)) (pe_op op_mulD (pe_op (k_add (K := K) rfl) (pv 5) pe_int) (pv 0))))) (fun _ _ _ _ _ => pe_int)) (pss_one (ps_expr (pe_bmK (K := K) rfl PySem.F.plainAttrs_list PySem.F.slot_list_append PySem.F.type_list_append mt_append (pv 8) (pa_cons (pe_op (k_add (K := K) rfl) (pe_op op_mulD (pv 3) (pe_callB (k_len (K := K) rfl) rfl G.f_len bt_len (pa_cons (pv 10) pa_nil))) (pe_ifExp (pt_cmpR op_gt (pv 9) (pv 7) (by first | exact nomark _ | rfl)) (pe_op op_mulD (pv 2) (pe_op op_sub (pv 9) (pv 7))) pe_int)) pa_nil)))))) (pss_one (ps_expr (pe_bmK (K := K) rfl PySem.F.plainAttrs_list PySem.F.slot_list_append PySem.F.type_list_append mt_append (pv 4) (pa_cons (pv 8) pa_nil))))))))) (pss_one (ps_ret (pv 4))))), fun Fr kx hx => ?_⟩
  exact (drs_seq (drs_set (i := 4) (dr_lst dra_nil)) (drs_seq (drs_for (dri_rng1 (dra_cons (dr_op od_add (dr_op od_div (dr_cb ca_max (dra_cons (dr_var 1) dra_nil)) (dr_var 0)) dr_int) dra_nil)) drg_name (drs_seq (drs_set (i := 6) (dr_lc (dri_rng1 (dra_cons (dr_cb ca_len (dra_cons (dr_var 1) dra_nil)) dra_nil)) drg_name (blk_name (by decide)) (fun F => (drt_test (dr_op cm_ge.op (dr_op od_ix (dr_var 1) (dr_var 11)) (dr_op od_mul (dr_op od_add (dr_var 5) dr_int) (dr_var 0))))) (fun F => (dr_var 11)))) (drs_seq (drs_set (i := 7) (dr_if (drt_test (dr_op cm_ne.op (dr_var 6) (dr_lst dra_nil))) (dr_op od_add (dr_op od_ix (dr_var 6) dr_int) dr_int) (dr_cb ca_len (dra_cons (dr_var 1) dra_nil)))) (drs_seq (drs_set (i := 8) (dr_lst dra_nil)) (drs_seq (drs_for (dri_rng1 (dra_cons (dr_op od_add (dr_cb ca_len (dra_cons (dr_var 1) dra_nil)) dr_int) dra_nil)) drg_name (drs_seq (drs_set (i := 10) (dr_lc (dri_rng2 (dra_cons (dr_var 9) (dra_cons (dr_cb ca_len (dra_cons (dr_var 1) dra_nil)) dra_nil))) drg_name (blk_name (by decide)) (fun F => (drt_test (dr_chain cm_le cm_lt (dr_op od_mul (dr_var 5) (dr_var 0)) (dr_op od_ix (dr_var 1) (dr_var 11)) (dr_op od_mul (dr_op od_add (dr_var 5) dr_int) (dr_var 0))))) (fun F => dr_int))) (drs_append (i := 8) (dr_op od_add (dr_op od_mul (dr_var 3) (dr_cb ca_len (dra_cons (dr_var 10) dra_nil))) (dr_if (drt_test (dr_op cm_gt.op (dr_var 9) (dr_var 7))) (dr_op od_mul (dr_var 2) (dr_op od_sub (dr_var 9) (dr_var 7))) dr_int))))) (drs_append (i := 4) (dr_var 8))))))) (drs_ret (dr_var 4))))
abbrev S__law_least : Stmt := top 28
abbrev N__law_least : List Str := ["rows", "best", "row", "place", "k"]
theorem sc__law_least : FnScope N__law_least ["rows"] (defScope S__law_least) := ⟨rfl, rfl, rfl, by decide +kernel, rfl, by decide +kernel, by decide +kernel⟩
theorem ok__law_least (G : Glob K mg cls)  (F : FnP K "_law_least" S__law_least f fd) : FnG P w K mg base 1 f fd ["rows"] (spD K cls false 1 T__law_least) := by
  refine fnD F sc__law_least rfl B__law_least imp__law_least fun cdv A outer s H E hr hgd => ⟨_, (pss_cons (ps_set (i := 1) sc__law_least.nd rfl (by first | exact Or.inl rfl | exact Or.inr rfl) (pe_op op_mulD (pe_lst (pa_cons pe_int pa_nil)) (pe_callB (k_len (K := K) rfl) rfl G.f_len bt_len (pa_cons (pe_ix (k_ix (K := K) rfl) (pv 0) pe_int (fun _ _ => rfl)) pa_nil)))) (pss_cons (ps_for (passes_of rfl) rfl (pi_seqK (K := K) rfl (pe_revK (K := K) rfl (pv 0))) (pg_name (i := 2) sc__law_least.nd rfl (by first | exact Or.inl rfl | exact Or.inr rfl)) (pss_one (ps_set (i := 1) sc__law_least.nd rfl (by first | exact Or.inl rfl | exact Or.inr rfl) (pe_lc (own := [("place", 3)]) (g := (gName 3)) rfl sc__law_least.nd (pi_range1 rfl G.f_range (pa_cons (pe_callB (k_len (K := K) rfl) rfl G.f_len bt_len (pa_cons (pv 2) pa_nil)) pa_nil)) (blkOk_by (N := N__law_least) (sc := defScope S__law_least) (own := [("place", 3)]) (by decide +kernel)) (fun _ _ _ _ _ => (pg_name (i := 3) sc__law_least.nd rfl (by first | exact Or.inl rfl | exact Or.inr rfl))) (fun _ _ _ _ _ => pts_nil) (fun _ _ _ _ _ => (pe_callB (k_min (K := K) rfl rfl) rfl G.f_min bt_min (pa_cons (pe_lc (own := [("k", 4)]) (g := (gName 4)) rfl sc__law_least.nd (pi_range2 rfl G.f_range (pa_cons (pv 3) (pa_cons (pe_callB (k_len (K := K) rfl) rfl G.f_len bt_len (pa_cons (pv 2) pa_nil)) pa_nil))) (blkOk_by (own := [("k", 4)]) (by kernel_rfl)) (fun _ _ _ _ _ => (pg_name (i := 4) sc__law_least.nd rfl (by first | exact Or.inl rfl | exact Or.inr rfl))) (fun _ _ _ _ _ => pts_nil) (fun _ _ _ _ _ => (pe_op (k_add (K := K) rfl) (pe_ix (k_ix (K := K) rfl) (pv 2) (pv 4) (fun _ _ => rfl)) (pe_ix (k_ix (K := K) rfl) (pv 1) (pv 4) (fun _ _ => rfl))))) pa_nil))))))) (pss_one (ps_ret (pe_ix (k_ix (K := K) rfl) (pv 1) pe_int (fun _ _ => rfl)))))), fun Fr kx hx => ?_⟩
  exact (drs_seq (drs_set (i := 1) (dr_op od_mul (dr_lst (dra_cons dr_int dra_nil)) (dr_cb ca_len (dra_cons (dr_op od_ix (dr_var 0) dr_int) dra_nil)))) (drs_seq (drs_for (dri_seq (dr_rev (dr_var 0))) drg_name (drs_set (i := 1) (dr_lc (dri_rng1 (dra_cons (dr_cb ca_len (dra_cons (dr_var 2) dra_nil)) dra_nil)) drg_name (blk_name (by decide)) (fun F => drt_yes) (fun F => (dr_cb ca_min (dra_cons (dr_lc (dri_rng2 (dra_cons (dr_var 3) (dra_cons (dr_cb ca_len (dra_cons (dr_var 2) dra_nil)) dra_nil))) drg_name (blk_name (by decide)) (fun F => drt_yes) (fun F => (dr_op od_add (dr_op od_ix (dr_var 2) (dr_var 4)) (dr_op od_ix (dr_var 1) (dr_var 4))))) dra_nil)))))) (drs_ret (dr_op od_ix (dr_var 1) dr_int))))
abbrev S__law_all_least : Stmt := top 29
abbrev N__law_all_least : List Str := ["rows", "lists", "row", "longer", "places", "place"]
theorem sc__law_all_least : FnScope N__law_all_least ["rows"] (defScope S__law_all_least) := ⟨rfl, rfl, rfl, by decide +kernel, rfl, by decide +kernel, by decide +kernel⟩
theorem ok__law_all_least (G : Glob K mg cls)  (F : FnP K "_law_all_least" S__law_all_least f fd) : FnG P w K mg base 1 f fd ["rows"] (spD K cls false 1 T__law_all_least) := by
  refine fnD F sc__law_all_least rfl B__law_all_least imp__law_all_least fun cdv A outer s H E hr hgd => ⟨_, (pss_cons (ps_set (i := 1) sc__law_all_least.nd rfl (by first | exact Or.inl rfl | exact Or.inr rfl) (pe_lst (pa_cons (pe_lst pa_nil) pa_nil))) (pss_cons (ps_for (passes_of rfl) rfl (pi_seqK (K := K) rfl (pv 0)) (pg_name (i := 2) sc__law_all_least.nd rfl (by first | exact Or.inl rfl | exact Or.inr rfl)) (pss_cons (ps_set (i := 3) sc__law_all_least.nd rfl (by first | exact Or.inl rfl | exact Or.inr rfl) (pe_lst pa_nil)) (pss_cons (ps_for (passes_of rfl) rfl (pi_seqK (K := K) rfl (pv 1)) (pg_name (i := 4) sc__law_all_least.nd rfl (by first | exact Or.inl rfl | exact Or.inr rfl)) (pss_one (ps_set (i := 3) sc__law_all_least.nd rfl (by first | exact Or.inl rfl | exact Or.inr rfl) (pe_op (k_add (K := K) rfl) (pv 3) (pe_lc (own := [("place", 5)]) (g := (gName 5)) rfl sc__law_all_least.nd (pi_range1 rfl G.f_range (pa_cons (pe_callB (k_len (K := K) rfl) rfl G.f_len bt_len (pa_cons (pv 2) pa_nil)) pa_nil)) (blkOk_by (N := N__law_all_least) (sc := defScope S__law_all_least) (own := [("place", 5)]) (by decide +kernel)) (fun _ _ _ _ _ => (pg_name (i := 5) sc__law_all_least.nd rfl (by first | exact Or.inl rfl | exact Or.inr rfl))) (fun _ _ _ _ _ => (pts_one (PW.pt (pw_or (pt_cmpR (k_eq (K := K) rfl hr) (pv 4) (pe_lst pa_nil) (by first | exact nomark _ | rfl)) (pw_or1 (pt_cmpR op_ge (pv 5) (pe_ix (k_ix (K := K) rfl) (pv 4) (pe_un un_neg pe_int) (fun _ _ => rfl)) (by first | exact nomark _ | rfl))))))) (fun _ _ _ _ _ => (pe_op (k_add (K := K) rfl) (pv 4) (pe_lst (pa_cons (pv 5) pa_nil))))))))) (pss_one (ps_set (i := 1) sc__law_all_least.nd rfl (by first | exact Or.inl rfl | exact Or.inr rfl) (pv 3)))))) (pss_one (ps_ret (pe_callB (k_min (K := K) rfl rfl) rfl G.f_min bt_min (pa_cons (pe_lc (own := [("places", 4)]) (g := (gName 4)) rfl sc__law_all_least.nd (pi_seqK (K := K) rfl (pv 1)) (blkOk_by (N := N__law_all_least) (sc := defScope S__law_all_least) (own := [("places", 4)]) (by decide +kernel)) (fun _ _ _ _ _ => (pg_name (i := 4) sc__law_all_least.nd rfl (by first | exact Or.inl rfl | exact Or.inr rfl))) (fun _ _ _ _ _ => pts_nil) (fun _ _ _ _ _ => (pe_callB (k_sum (K := K) rfl rfl) rfl G.f_sum bt_sum (pa_cons (pe_lc (own := [("row", 2), ("place", 5)]) (g := (gTup K 2 (gCons (gName 2) (gCons (gName 5) gNil)))) rfl sc__law_all_least.nd (pi_zipK (K := K) rfl rfl G.f_zip (pa_cons (pv 0) (pa_cons (pv 4) pa_nil))) (blkOk_by (own := [("row", 2), ("place", 5)]) (by kernel_rfl)) (fun _ _ _ _ _ => (pg_tupK (K := K) rfl rfl (pgs_cons (pg_name (i := 2) sc__law_all_least.nd rfl (by first | exact Or.inl rfl | exact Or.inr rfl)) (pgs_cons (pg_name (i := 5) sc__law_all_least.nd rfl (by first | exact Or.inl rfl | exact Or.inr rfl)) pgs_nil)))) (fun _ _ _ _ _ => pts_nil) (fun _ _ _ _ _ => (pe_ix (k_ix (K := K) rfl) (pv 2) (pv 5) (fun _ _ => rfl)))) pa_nil)))) pa_nil)))))), fun Fr kx hx => ?_⟩
  exact (drs_seq (drs_set (i := 1) (dr_lst (dra_cons (dr_lst dra_nil) dra_nil))) (drs_seq (drs_for (dri_seq (dr_var 0)) drg_name (drs_seq (drs_set (i := 3) (dr_lst dra_nil)) (drs_seq (drs_for (dri_seq (dr_var 1)) drg_name (drs_set (i := 3) (dr_op od_add (dr_var 3) (dr_lc (dri_rng1 (dra_cons (dr_cb ca_len (dra_cons (dr_var 2) dra_nil)) dra_nil)) drg_name (blk_name (by decide)) (fun F => (drt_or (drt_test (dr_op cm_eq.op (dr_var 4) (dr_lst dra_nil))) (drt_test (dr_op cm_ge.op (dr_var 5) (dr_op od_ix (dr_var 4) (dr_un ud_neg dr_int)))))) (fun F => (dr_op od_add (dr_var 4) (dr_lst (dra_cons (dr_var 5) dra_nil)))))))) (drs_set (i := 1) (dr_var 3))))) (drs_ret (dr_cb ca_min (dra_cons (dr_lc (dri_seq (dr_var 1)) drg_name (blk_name (by decide)) (fun F => drt_yes) (fun F => (dr_cb ca_sum (dra_cons (dr_lc (dri_zip (dra_cons (dr_var 0) (dra_cons (dr_var 4) dra_nil))) (drg_tup (drgs_cons drg_name (drgs_cons drg_name drgs_nil))) (blk_tup (blkS_name (by decide) (blkS_name (by decide) blkS_nil))) (fun F => drt_yes) (fun F => (dr_op od_ix (dr_var 2) (dr_var 5)))) dra_nil)))) dra_nil)))))
abbrev S__law_in_order : Stmt := top 30
abbrev N__law_in_order : List Str := ["rows", "last", "row", "cheap", "place"]
theorem sc__law_in_order : FnScope N__law_in_order ["rows"] (defScope S__law_in_order) := ⟨rfl, rfl, rfl, by decide +kernel, rfl, by decide +kernel, by decide +kernel⟩
theorem ok__law_in_order (G : Glob K mg cls)  (F : FnP K "_law_in_order" S__law_in_order f fd) : FnG P w K mg base 1 f fd ["rows"] (spD K cls false 1 T__law_in_order) := by
  refine fnD F sc__law_in_order rfl B__law_in_order imp__law_in_order fun cdv A outer s H E hr hgd => ⟨_, (pss_cons (ps_set (i := 1) sc__law_in_order.nd rfl (by first | exact Or.inl rfl | exact Or.inr rfl) pe_int) (pss_cons (ps_for (passes_of rfl) rfl (pi_seqK (K := K) rfl (pv 0)) (pg_name (i := 2) sc__law_in_order.nd rfl (by first | exact Or.inl rfl | exact Or.inr rfl)) (pss_cons (ps_setLc (i := 3) (own := [("place", 4)]) (g := (gName 4)) rfl sc__law_in_order.nd rfl rfl (sw_true rfl rfl rfl (by decide +kernel)) (pi_range1 rfl G.f_range (pa_cons (pe_callB (k_len (K := K) rfl) rfl G.f_len bt_len (pa_cons (pv 2) pa_nil)) pa_nil)) (blkOk_by (N := N__law_in_order) (sc := defScope S__law_in_order) (own := [("place", 4)]) (by decide +kernel)) (fun _ _ _ _ _ => (pg_name (i := 4) sc__law_in_order.nd rfl (by first | exact Or.inl rfl | exact Or.inr rfl))) (fun _ _ _ _ _ => (pts_one (PW.pt (pw_and (pt_cmpR (k_eq (K := K) rfl hr) (pe_ix (k_ix (K := K) rfl) (pv 2) (pv 4) (fun _ _ => rfl)) (pe_callB (k_min (K := K) rfl rfl) rfl G.f_min bt_min (pa_cons (pv 2) pa_nil)) (by first | exact nomark _ | rfl)) (pw_and1 (pt_cmpR op_ge (pv 4) (pv 1) (by first | exact nomark _ | rfl))))))) (fun _ _ _ _ _ => (pv 4))) (pss_cons (ps_if (pt_cmpR (k_eq (K := K) rfl hr) (pv 3) (pe_lst pa_nil) (by first | exact nomark _ | rfl)) (pss_one (ps_ret pe_bl)) pss_nil) (pss_one (ps_set (i := 1) sc__law_in_order.nd rfl (by first | exact Or.inl rfl | exact Or.inr rfl) (pe_ix (k_ix (K := K) rfl) (pv 3) pe_int (fun _ _ => rfl))))))) (pss_one (ps_ret pe_bl)))), fun Fr kx hx => ?_⟩
  exact (drs_seq (drs_set (i := 1) dr_int) (drs_seq (drs_for (dri_seq (dr_var 0)) drg_name (drs_seq (drs_set (i := 3) (dr_lc (dri_rng1 (dra_cons (dr_cb ca_len (dra_cons (dr_var 2) dra_nil)) dra_nil)) drg_name (blk_name (by decide)) (fun F => (drt_and (drt_test (dr_op cm_eq.op (dr_op od_ix (dr_var 2) (dr_var 4)) (dr_cb ca_min (dra_cons (dr_var 2) dra_nil)))) (drt_test (dr_op cm_ge.op (dr_var 4) (dr_var 1))))) (fun F => (dr_var 4)))) (drs_seq (drs_if (drt_test (dr_op cm_eq.op (dr_var 3) (dr_lst dra_nil))) (drs_ret dr_bl) drs_next) (drs_set (i := 1) (dr_op od_ix (dr_var 3) dr_int))))) (drs_ret dr_bl)))
abbrev S__law_closing_right : Stmt := top 31
abbrev N__law_closing_right : List Str := ["state", "size", "moments", "wait", "lose", "rows", "kept", "own", "one", "places", "drawn", "due", "row", "place"]
theorem sc__law_closing_right : FnScope N__law_closing_right ["state", "size", "moments", "wait", "lose"] (defScope S__law_closing_right) := ⟨rfl, rfl, rfl, by decide +kernel, rfl, by decide +kernel, by decide +kernel⟩
theorem ok__law_closing_right (G : Glob K mg cls) (c_pane_costs : CalG P w K mg base 4 "pane_costs" ["size", "moments", "wait", "lose"] (spD K cls false 4 T_pane_costs)) (c_least_own : CalG P w K mg base 5 "least_own" ["size", "moments", "wait", "lose"] (spD K cls false 4 T_least_own)) (c_least_one : CalG P w K mg base 6 "least_one" ["size", "moments", "wait", "lose"] (spD K cls false 4 T_least_one)) (c_closings : CalG P w K mg base 6 "closings" ["size", "moments", "wait", "lose"] (spD K cls false 4 T_closings)) (c_closing_cost : CalG P w K mg base 5 "closing_cost" ["size", "moments", "wait", "lose", "places"] (spD K cls false 5 T_closing_cost)) (c__law_draw : CalG P w K mg base 2 "_law_draw" ["state", "room"] (spD K cls true 1 T__law_draw)) (c__law_plain : CalG P w K mg base 8 "_law_plain" ["value"] (spD K cls false 1 T__law_plain)) (c__law_is : CalG P w K mg base 9 "_law_is" ["found", "due"] (spD K cls false 2 T__law_is)) (c__law_costs : CalG P w K mg base 1 "_law_costs" ["size", "moments", "wait", "lose"] (spD K cls false 4 T__law_costs)) (c__law_least : CalG P w K mg base 1 "_law_least" ["rows"] (spD K cls false 1 T__law_least)) (c__law_all_least : CalG P w K mg base 1 "_law_all_least" ["rows"] (spD K cls false 1 T__law_all_least)) (c__law_in_order : CalG P w K mg base 1 "_law_in_order" ["rows"] (spD K cls false 1 T__law_in_order)) (F : FnP K "_law_closing_right" S__law_closing_right f fd) : FnG P w K mg base 10 f fd ["state", "size", "moments", "wait", "lose"] (spD K cls true 4 T__law_closing_right) := by
  refine fnD F sc__law_closing_right rfl B__law_closing_right imp__law_closing_right fun cdv A outer s H E hr hgd => ⟨_, (pss_cons (ps_par (i := 5) (j := 6) rfl sc__law_closing_right.nd rfl rfl (by decide) rfl rfl (pa_cons (pe_cg c__law_costs hr (by decide) hgd rfl passL (pa_cons (pv 1) (pa_cons (pv 2) (pa_cons (pv 3) (pa_cons (pv 4) pa_nil))))) (pa_cons (pe_callTy (k_list (K := K) rfl) rfl G.f_list bt_list (pa_cons (pv 2) pa_nil)) pa_nil)) rfl) (pss_cons (ps_par (i := 7) (j := 8) rfl sc__law_closing_right.nd rfl rfl (by decide) rfl rfl (pa_cons (pe_callB (k_sum (K := K) rfl rfl) rfl G.f_sum bt_sum (pa_cons (pe_lc (own := [("row", 12)]) (g := (gName 12)) rfl sc__law_closing_right.nd (pi_seqK (K := K) rfl (pv 5)) (blkOk_by (N := N__law_closing_right) (sc := defScope S__law_closing_right) (own := [("row", 12)]) (by decide +kernel)) (fun _ _ _ _ _ => (pg_name (i := 12) sc__law_closing_right.nd rfl (by first | exact Or.inl rfl | exact Or.inr rfl))) (fun _ _ _ _ _ => pts_nil) (fun _ _ _ _ _ => (pe_callB (k_min (K := K) rfl rfl) rfl G.f_min bt_min (pa_cons (pv 12) pa_nil)))) pa_nil)) (pa_cons (pe_cg c__law_least hr (by decide) hgd rfl passL (pa_cons (pv 5) pa_nil)) pa_nil)) rfl) (pss_cons (ps_if (PW.pt (pw_and (pt_cmpR op_lt (pe_callB (k_len (K := K) rfl) rfl G.f_len bt_len (pa_cons (pv 5) pa_nil)) pe_int (by first | exact nomark _ | rfl)) (pw_and (pt_cmpR op_lt (pe_callB (k_len (K := K) rfl) rfl G.f_len bt_len (pa_cons (pv 2) pa_nil)) pe_int (by first | exact nomark _ | rfl)) (pw_and1 (pt_cmpR (k_ne (K := K) rfl hr) (pe_cg c__law_all_least hr (by decide) hgd rfl passL (pa_cons (pv 5) pa_nil)) (pv 8) (by first | exact nomark _ | rfl)))))) (pss_one (ps_ret pe_bl)) pss_nil) (pss_cons (ps_if (pt_not (pt_val (pe_cg c__law_is hr (by decide) hgd rfl passL (pa_cons (pe_cg c_pane_costs hr (by decide) hgd rfl passL (pa_cons (pv 1) (pa_cons (pv 2) (pa_cons (pv 3) (pa_cons (pv 4) pa_nil))))) (pa_cons (pv 5) pa_nil))))) (pss_one (ps_ret pe_bl)) pss_nil) (pss_cons (ps_if (PW.pt (pw_or (pt_not (pt_val (pe_cg c__law_is hr (by decide) hgd rfl passL (pa_cons (pe_cg c_least_own hr (by decide) hgd rfl passL (pa_cons (pv 1) (pa_cons (pv 2) (pa_cons (pv 3) (pa_cons (pv 4) pa_nil))))) (pa_cons (pv 7) pa_nil))))) (pw_or1 (pt_not (pt_val (pe_cg c__law_is hr (by decide) hgd rfl passL (pa_cons (pe_cg c_least_one hr (by decide) hgd rfl passL (pa_cons (pv 1) (pa_cons (pv 2) (pa_cons (pv 3) (pa_cons (pv 4) pa_nil))))) (pa_cons (pv 8) pa_nil)))))))) (pss_one (ps_ret pe_bl)) pss_nil) (pss_cons (ps_if (PW.pt (pw_or (pt_not (pt_chain op_le op_le (pv 7) (pv 8) (pe_op op_mulD (pv 7) (pe_callB (k_len (K := K) rfl) rfl G.f_len bt_len (pa_cons (pv 5) pa_nil))))) (pw_or1 (pt_cmpR (k_ne (K := K) rfl hr) (pe_cmpR (k_eq (K := K) rfl hr) (pv 7) (pv 8) (by first | exact nomark _ | rfl)) (pe_cg c__law_in_order hr (by decide) hgd rfl passL (pa_cons (pv 5) pa_nil)) (by first | exact nomark _ | rfl))))) (pss_one (ps_ret pe_bl)) pss_nil) (pss_cons (ps_set (i := 9) sc__law_closing_right.nd rfl (by first | exact Or.inl rfl | exact Or.inr rfl) (pe_cg c_closings hr (by decide) hgd rfl passL (pa_cons (pv 1) (pa_cons (pv 2) (pa_cons (pv 3) (pa_cons (pv 4) pa_nil)))))) (pss_cons (ps_if (PW.pt (pw_or (pt_not (pt_val (pe_cg c__law_plain hr (by decide) hgd rfl passL (pa_cons (pv 9) pa_nil)))) (pw_or (pt_not (pt_val (pe_callB (k_isi (K := K) rfl) rfl G.f_isinstance bt_isi (pa_cons (pv 9) (pa_cons (pe_bltn (v := .ty "list") rfl G.f_list bt_list rfl) pa_nil))))) (pw_or (pt_cmpR (k_ne (K := K) rfl hr) (pe_callB (k_len (K := K) rfl) rfl G.f_len bt_len (pa_cons (pv 9) pa_nil)) (pe_callB (k_len (K := K) rfl) rfl G.f_len bt_len (pa_cons (pv 5) pa_nil)) (by first | exact nomark _ | rfl)) (pw_or1 (pt_cmpR (k_ne (K := K) rfl hr) (pe_callB (k_sorted (K := K) rfl) rfl G.f_sorted bt_sorted (pa_cons (pv 9) pa_nil)) (pv 9) (by first | exact nomark _ | rfl))))))) (pss_one (ps_ret pe_bl)) pss_nil) (pss_cons (ps_if (pt_cmpR (k_ne (K := K) rfl hr) (pe_lc (own := [("place", 13)]) (g := (gName 13)) rfl sc__law_closing_right.nd (pi_seqK (K := K) rfl (pv 9)) (blkOk_by (N := N__law_closing_right) (sc := defScope S__law_closing_right) (own := [("place", 13)]) (by decide +kernel)) (fun _ _ _ _ _ => (pg_name (i := 13) sc__law_closing_right.nd rfl (by first | exact Or.inl rfl | exact Or.inr rfl))) (fun _ _ _ _ _ => (pts_one (PW.pt (pw_or (pt_not (pt_val (pe_callB (k_isi (K := K) rfl) rfl G.f_isinstance bt_isi (pa_cons (pv 13) (pa_cons (pe_bltn (v := .ty "int") rfl G.f_int bt_int rfl) pa_nil))))) (pw_or (pt_cmpR op_isD (pv 13) pe_bl (by first | exact nomark _ | rfl)) (pw_or (pt_cmpR op_isD (pv 13) pe_bl (by first | exact nomark _ | rfl)) (pw_or1 (pt_not (pt_chain op_le op_le pe_int (pv 13) (pe_callB (k_len (K := K) rfl) rfl G.f_len bt_len (pa_cons (pv 2) pa_nil))))))))))) (fun _ _ _ _ _ => pe_int)) (pe_lst pa_nil) (by first | exact nomark _ | rfl)) (pss_one (ps_ret pe_bl)) pss_nil) (pss_cons (ps_if (PW.pt (pw_or (pt_cmpR (k_ne (K := K) rfl hr) (pe_callB (k_sum (K := K) rfl rfl) rfl G.f_sum bt_sum (pa_cons (pe_lc (own := [("row", 12), ("place", 13)]) (g := (gTup K 2 (gCons (gName 12) (gCons (gName 13) gNil)))) rfl sc__law_closing_right.nd (pi_zipK (K := K) rfl rfl G.f_zip (pa_cons (pv 5) (pa_cons (pv 9) pa_nil))) (blkOk_by (N := N__law_closing_right) (sc := defScope S__law_closing_right) (own := [("row", 12), ("place", 13)]) (by decide +kernel)) (fun _ _ _ _ _ => (pg_tupK (K := K) rfl rfl (pgs_cons (pg_name (i := 12) sc__law_closing_right.nd rfl (by first | exact Or.inl rfl | exact Or.inr rfl)) (pgs_cons (pg_name (i := 13) sc__law_closing_right.nd rfl (by first | exact Or.inl rfl | exact Or.inr rfl)) pgs_nil)))) (fun _ _ _ _ _ => pts_nil) (fun _ _ _ _ _ => (pe_ix (k_ix (K := K) rfl) (pv 12) (pv 13) (fun _ _ => rfl)))) pa_nil)) (pv 8) (by first | exact nomark _ | rfl)) (pw_or1 (pt_not (pt_val (pe_cg c__law_is hr (by decide) hgd rfl passL (pa_cons (pe_cg c_closing_cost hr (by decide) hgd rfl passL (pa_cons (pv 1) (pa_cons (pv 2) (pa_cons (pv 3) (pa_cons (pv 4) (pa_cons (pv 9) pa_nil)))))) (pa_cons (pv 8) pa_nil)))))))) (pss_one (ps_ret pe_bl)) pss_nil) (pss_cons (ps_set (i := 10) sc__law_closing_right.nd rfl (by first | exact Or.inl rfl | exact Or.inr rfl) (pe_callB (k_sorted (K := K) rfl) rfl G.f_sorted bt_sorted (pa_cons (pe_lc (own := [("row", 12)]) (g := (gName 12)) rfl sc__law_closing_right.nd (pi_seqK (K := K) rfl (pv 5)) (blkOk_by (N := N__law_closing_right) (sc := defScope S__law_closing_right) (own := [("row", 12)]) (by decide +kernel)) (fun _ _ _ _ _ => (pg_name (i := 12) sc__law_closing_right.nd rfl (by first | exact Or.inl rfl | exact Or.inr rfl))) (fun _ _ _ _ _ => pts_nil) (fun _ _ _ _ _ => (pe_cg c__law_draw hr (by decide) hgd rfl passL (pa_cons (pv 0) (pa_cons (pe_op (k_add (K := K) rfl) (pe_callB (k_len (K := K) rfl) rfl G.f_len bt_len (pa_cons (pv 2) pa_nil)) pe_int) pa_nil))))) pa_nil))) (pss_cons (ps_set (i := 11) sc__law_closing_right.nd rfl (by first | exact Or.inl rfl | exact Or.inr rfl) (pe_callB (k_sum (K := K) rfl rfl) rfl G.f_sum bt_sum (pa_cons (pe_lc (own := [("row", 12), ("place", 13)]) (g := (gTup K 2 (gCons (gName 12) (gCons (gName 13) gNil)))) rfl sc__law_closing_right.nd (pi_zipK (K := K) rfl rfl G.f_zip (pa_cons (pv 5) (pa_cons (pv 10) pa_nil))) (blkOk_by (N := N__law_closing_right) (sc := defScope S__law_closing_right) (own := [("row", 12), ("place", 13)]) (by decide +kernel)) (fun _ _ _ _ _ => (pg_tupK (K := K) rfl rfl (pgs_cons (pg_name (i := 12) sc__law_closing_right.nd rfl (by first | exact Or.inl rfl | exact Or.inr rfl)) (pgs_cons (pg_name (i := 13) sc__law_closing_right.nd rfl (by first | exact Or.inl rfl | exact Or.inr rfl)) pgs_nil)))) (fun _ _ _ _ _ => pts_nil) (fun _ _ _ _ _ => (pe_ix (k_ix (K := K) rfl) (pv 12) (pv 13) (fun _ _ => rfl)))) pa_nil))) (pss_one (ps_ret (pe_and (pe_cg c__law_is hr (by decide) hgd rfl passL (pa_cons (pe_cg c_closing_cost hr (by decide) hgd rfl passL (pa_cons (pv 1) (pa_cons (pv 2) (pa_cons (pv 3) (pa_cons (pv 4) (pa_cons (pv 10) pa_nil)))))) (pa_cons (pv 11) pa_nil))) (pe_one (pe_cmpR (k_eq (K := K) rfl hr) (pv 2) (pv 6) (by first | exact nomark _ | rfl)))))))))))))))))), fun Fr kx hx => ?_⟩
  exact (drs_seq (drs_par (i := 5) (j := 6) (dra_cons (dr_call XOk.none (dra_cons (dr_var 1) (dra_cons (dr_var 2) (dra_cons (dr_var 3) (dra_cons (dr_var 4) dra_nil))))) (dra_cons (dr_cb ca_list (dra_cons (dr_var 2) dra_nil)) dra_nil))) (drs_seq (drs_par (i := 7) (j := 8) (dra_cons (dr_cb ca_sum (dra_cons (dr_lc (dri_seq (dr_var 5)) drg_name (blk_name (by decide)) (fun F => drt_yes) (fun F => (dr_cb ca_min (dra_cons (dr_var 12) dra_nil)))) dra_nil)) (dra_cons (dr_call XOk.none (dra_cons (dr_var 5) dra_nil)) dra_nil))) (drs_seq (drs_if (drt_and (drt_test (dr_op cm_lt.op (dr_cb ca_len (dra_cons (dr_var 5) dra_nil)) dr_int)) (drt_and (drt_test (dr_op cm_lt.op (dr_cb ca_len (dra_cons (dr_var 2) dra_nil)) dr_int)) (drt_test (dr_op cm_ne.op (dr_call XOk.none (dra_cons (dr_var 5) dra_nil)) (dr_var 8))))) (drs_ret dr_bl) drs_next) (drs_seq (drs_if (drt_not (drt_B (dr_call XOk.none (dra_cons (dr_call XOk.none (dra_cons (dr_var 1) (dra_cons (dr_var 2) (dra_cons (dr_var 3) (dra_cons (dr_var 4) dra_nil))))) (dra_cons (dr_var 5) dra_nil))))) (drs_ret dr_bl) drs_next) (drs_seq (drs_if (drt_or (drt_not (drt_B (dr_call XOk.none (dra_cons (dr_call XOk.none (dra_cons (dr_var 1) (dra_cons (dr_var 2) (dra_cons (dr_var 3) (dra_cons (dr_var 4) dra_nil))))) (dra_cons (dr_var 7) dra_nil))))) (drt_not (drt_B (dr_call XOk.none (dra_cons (dr_call XOk.none (dra_cons (dr_var 1) (dra_cons (dr_var 2) (dra_cons (dr_var 3) (dra_cons (dr_var 4) dra_nil))))) (dra_cons (dr_var 8) dra_nil)))))) (drs_ret dr_bl) drs_next) (drs_seq (drs_if (drt_or (drt_not (drt_test (dr_chain cm_le cm_le (dr_var 7) (dr_var 8) (dr_op od_mul (dr_var 7) (dr_cb ca_len (dra_cons (dr_var 5) dra_nil)))))) (drt_test (dr_op cm_ne.op (dr_op cm_eq.op (dr_var 7) (dr_var 8)) (dr_call XOk.none (dra_cons (dr_var 5) dra_nil))))) (drs_ret dr_bl) drs_next) (drs_seq (drs_set (i := 9) (dr_call XOk.none (dra_cons (dr_var 1) (dra_cons (dr_var 2) (dra_cons (dr_var 3) (dra_cons (dr_var 4) dra_nil)))))) (drs_seq (drs_if (drt_or (drt_not (drt_B (dr_call XOk.none (dra_cons (dr_var 9) dra_nil)))) (drt_or (drt_not (drt_B (dr_isi (T := "list") (by decide) (dr_var 9)))) (drt_or (drt_test (dr_op cm_ne.op (dr_cb ca_len (dra_cons (dr_var 9) dra_nil)) (dr_cb ca_len (dra_cons (dr_var 5) dra_nil)))) (drt_test (dr_op cm_ne.op (dr_cb ca_sorted (dra_cons (dr_var 9) dra_nil)) (dr_var 9)))))) (drs_ret dr_bl) drs_next) (drs_seq (drs_if (drt_test (dr_op cm_ne.op (dr_lc (dri_seq (dr_var 9)) drg_name (blk_name (by decide)) (fun F => (drt_or (drt_not (drt_B (dr_isi (T := "int") (by decide) (dr_var 13)))) (drt_or (drt_test (dr_op cm_is.op (dr_var 13) dr_bl)) (drt_or (drt_test (dr_op cm_is.op (dr_var 13) dr_bl)) (drt_not (drt_test (dr_chain cm_le cm_le dr_int (dr_var 13) (dr_cb ca_len (dra_cons (dr_var 2) dra_nil))))))))) (fun F => dr_int)) (dr_lst dra_nil))) (drs_ret dr_bl) drs_next) (drs_seq (drs_if (drt_or (drt_test (dr_op cm_ne.op (dr_cb ca_sum (dra_cons (dr_lc (dri_zip (dra_cons (dr_var 5) (dra_cons (dr_var 9) dra_nil))) (drg_tup (drgs_cons drg_name (drgs_cons drg_name drgs_nil))) (blk_tup (blkS_name (by decide) (blkS_name (by decide) blkS_nil))) (fun F => drt_yes) (fun F => (dr_op od_ix (dr_var 12) (dr_var 13)))) dra_nil)) (dr_var 8))) (drt_not (drt_B (dr_call XOk.none (dra_cons (dr_call XOk.none (dra_cons (dr_var 1) (dra_cons (dr_var 2) (dra_cons (dr_var 3) (dra_cons (dr_var 4) (dra_cons (dr_var 9) dra_nil)))))) (dra_cons (dr_var 8) dra_nil)))))) (drs_ret dr_bl) drs_next) (drs_seq (drs_set (i := 10) (dr_cb ca_sorted (dra_cons (dr_lc (dri_seq (dr_var 5)) drg_name (blk_name (by decide)) (fun F => drt_yes) (fun F => (dr_callS XOk.none (dra_cons (dr_op od_add (dr_cb ca_len (dra_cons (dr_var 2) dra_nil)) dr_int) dra_nil)))) dra_nil))) (drs_seq (drs_set (i := 11) (dr_cb ca_sum (dra_cons (dr_lc (dri_zip (dra_cons (dr_var 5) (dra_cons (dr_var 10) dra_nil))) (drg_tup (drgs_cons drg_name (drgs_cons drg_name drgs_nil))) (blk_tup (blkS_name (by decide) (blkS_name (by decide) blkS_nil))) (fun F => drt_yes) (fun F => (dr_op od_ix (dr_var 12) (dr_var 13)))) dra_nil))) (drs_ret (dr_andV (dr_call XOk.none (dra_cons (dr_call XOk.none (dra_cons (dr_var 1) (dra_cons (dr_var 2) (dra_cons (dr_var 3) (dra_cons (dr_var 4) (dra_cons (dr_var 10) dra_nil)))))) (dra_cons (dr_var 11) dra_nil))) (dr_op cm_eq.op (dr_var 2) (dr_var 6))))))))))))))))
abbrev S_law : Stmt := top 32
abbrev N_law : List Str := ["script", "state", "turn", "size", "panes", "moments", "way", "wait", "lose", "late", "lap", "k", "at"]
theorem sc_law : FnScope N_law ["script"] (defScope S_law) := ⟨rfl, rfl, rfl, by decide +kernel, rfl, by decide +kernel, by decide +kernel⟩
theorem ok_law (G : Glob K mg cls) (c__law_begun : CalG P w K mg base 1 "_law_begun" ["script"] (spBegun K)) (c__law_draw : CalG P w K mg base 2 "_law_draw" ["state", "room"] (spD K cls true 1 T__law_draw)) (c__law_pick : CalG P w K mg base 3 "_law_pick" ["state", "some"] (spD K cls true 1 T__law_pick)) (c__law_closing_right : CalG P w K mg base 10 "_law_closing_right" ["state", "size", "moments", "wait", "lose"] (spD K cls true 4 T__law_closing_right)) (F : FnP K "law" S_law f fd) : FnG P w K mg base 11 f fd ["script"] (spLaw K) := by
  refine fnG_of F sc_law (fun vs H Q E h => by obtain ⟨a, ns, rfl, _⟩ := h; rfl) fun cdv A outer s H vs Q E hr hgd h => ⟨_, pss_cons (ps_set (i := 1) sc_law.nd rfl (by first | exact Or.inl rfl | exact Or.inr rfl) (pe_cg c__law_begun hr (by decide) hgd rfl passL (pa_cons (pv 0) pa_nil))) (pss_cons (ps_for (passes_of rfl) rfl (pi_range1 rfl G.f_range (pa_cons (pe_op (k_add (K := K) rfl) pe_int (pe_callB (k_min (K := K) rfl rfl) rfl G.f_min bt_min (pa_cons (pe_callB (k_len (K := K) rfl) rfl G.f_len bt_len (pa_cons (pv 0) pa_nil)) (pa_cons pe_int pa_nil)))) pa_nil)) (pg_name (i := 2) sc_law.nd rfl (by first | exact Or.inl rfl | exact Or.inr rfl)) (pss_cons (ps_asg (pe_tup (pa_cons (pe_cg c__law_pick hr (by decide) hgd rfl passL (pa_cons (pv 1) (pa_cons (pe_lst (pa_cons pe_int (pa_cons pe_int (pa_cons pe_int (pa_cons pe_int (pa_cons pe_int pa_nil)))))) pa_nil))) (pa_cons (pe_op (k_add (K := K) rfl) pe_int (pe_cg c__law_draw hr (by decide) hgd rfl passL (pa_cons (pv 1) (pa_cons pe_int pa_nil)))) pa_nil))) (pg_tupK (K := K) rfl rfl (pgs_cons (pg_name (i := 3) sc_law.nd rfl (by first | exact Or.inl rfl | exact Or.inr rfl)) (pgs_cons (pg_name (i := 4) sc_law.nd rfl (by first | exact Or.inl rfl | exact Or.inr rfl)) pgs_nil)))) (pss_cons (ps_setLc (i := 5) (own := [("lap", 10)]) (g := (gName 10)) rfl sc_law.nd rfl rfl (sw_true rfl rfl rfl (by decide +kernel)) (pi_range1 rfl G.f_range (pa_cons (pe_op (k_add (K := K) rfl) pe_int (pe_cg c__law_draw hr (by decide) hgd rfl passL (pa_cons (pv 1) (pa_cons pe_int pa_nil)))) pa_nil)) (blkOk_by (N := N_law) (sc := defScope S_law) (own := [("lap", 10)]) (by decide +kernel)) (fun _ _ _ _ _ => (pg_name (i := 10) sc_law.nd rfl (by first | exact Or.inl rfl | exact Or.inr rfl))) (fun _ _ _ _ _ => pts_nil) (fun _ _ _ _ _ => (pe_cg c__law_draw hr (by decide) hgd rfl passL (pa_cons (pv 1) (pa_cons (pe_op op_mulD (pv 3) (pv 4)) pa_nil))))) (pss_cons (ps_set (i := 6) sc_law.nd rfl (by first | exact Or.inl rfl | exact Or.inr rfl) (pe_cg c__law_draw hr (by decide) hgd rfl passL (pa_cons (pv 1) (pa_cons pe_int pa_nil)))) (pss_cons (ps_if (pt_cmpR op_lt (pv 6) pe_int (by first | exact nomark _ | rfl)) (pss_one (ps_set (i := 5) sc_law.nd rfl (by first | exact Or.inl rfl | exact Or.inr rfl) (pe_callB (k_sorted (K := K) rfl) rfl G.f_sorted bt_sorted (pa_cons (pv 5) pa_nil)))) pss_nil) (pss_cons (ps_if (pt_cmpR (k_eq (K := K) rfl hr) (pv 6) pe_int (by first | exact nomark _ | rfl)) (pss_one (ps_set (i := 5) sc_law.nd rfl (by first | exact Or.inl rfl | exact Or.inr rfl) (pe_op (k_add (K := K) rfl) (pe_op (k_add (K := K) rfl) (pe_slice (k_sl (K := K) rfl) (pv 5) (po_some pe_int) po_none) (pe_slice (k_sl (K := K) rfl) (pv 5) po_none (po_some pe_int))) (pe_lc (own := [("lap", 10)]) (g := (gName 10)) rfl sc_law.nd (pi_range1 rfl G.f_range (pa_cons (pe_cg c__law_draw hr (by decide) hgd rfl passL (pa_cons (pv 1) (pa_cons pe_int pa_nil))) pa_nil)) (blkOk_by (N := N_law) (sc := defScope S_law) (own := [("lap", 10)]) (by decide +kernel)) (fun _ _ _ _ _ => (pg_name (i := 10) sc_law.nd rfl (by first | exact Or.inl rfl | exact Or.inr rfl))) (fun _ _ _ _ _ => pts_nil) (fun _ _ _ _ _ => (pe_cg c__law_draw hr (by decide) hgd rfl passL (pa_cons (pv 1) (pa_cons (pv 3) pa_nil)))))))) pss_nil) (pss_cons (ps_par (i := 7) (j := 8) rfl sc_law.nd rfl rfl (by decide) rfl rfl (pa_cons (pe_cg c__law_pick hr (by decide) hgd rfl passL (pa_cons (pv 1) (pa_cons (pe_lst (pa_cons pe_int (pa_cons pe_int (pa_cons pe_int (pa_cons pe_int (pa_cons (pe_cg c__law_draw hr (by decide) hgd rfl passL (pa_cons (pv 1) (pa_cons pe_int pa_nil))) pa_nil)))))) pa_nil))) (pa_cons (pe_cg c__law_pick hr (by decide) hgd rfl passL (pa_cons (pv 1) (pa_cons (pe_lst (pa_cons pe_int (pa_cons pe_int (pa_cons pe_int (pa_cons pe_int (pa_cons pe_int (pa_cons (pe_cg c__law_draw hr (by decide) hgd rfl passL (pa_cons (pv 1) (pa_cons pe_int pa_nil))) pa_nil))))))) pa_nil))) pa_nil)) rfl) (pss_cons (ps_if (pt_not (pt_val (pe_cg c__law_closing_right hr (by decide) hgd rfl passL (pa_cons (pv 1) (pa_cons (pv 3) (pa_cons (pv 5) (pa_cons (pv 7) (pa_cons (pv 8) pa_nil)))))))) (pss_one (ps_ret pe_bl)) pss_nil) (pss_cons (ps_set (i := 9) sc_law.nd rfl (by first | exact Or.inl rfl | exact Or.inr rfl) (pe_op (k_add (K := K) rfl) (pe_op (k_add (K := K) rfl) (pe_lst (pa_cons (pe_cg c__law_draw hr (by decide) hgd rfl passL (pa_cons (pv 1) (pa_cons (pv 3) pa_nil))) pa_nil)) (pe_lc (own := [("k", 11)]) (g := (gName 11)) rfl sc_law.nd (pi_range1 rfl G.f_range (pa_cons (pe_cg c__law_draw hr (by decide) hgd rfl passL (pa_cons (pv 1) (pa_cons pe_int pa_nil))) pa_nil)) (blkOk_by (N := N_law) (sc := defScope S_law) (own := [("k", 11)]) (by decide +kernel)) (fun _ _ _ _ _ => (pg_name (i := 11) sc_law.nd rfl (by first | exact Or.inl rfl | exact Or.inr rfl))) (fun _ _ _ _ _ => pts_nil) (fun _ _ _ _ _ => (pe_op op_mulD (pv 3) (pe_op (k_add (K := K) rfl) pe_int (pv 11)))))) (pe_lc (own := [("lap", 10)]) (g := (gName 10)) rfl sc_law.nd (pi_range1 rfl G.f_range (pa_cons (pe_op (k_add (K := K) rfl) pe_int (pe_cg c__law_draw hr (by decide) hgd rfl passL (pa_cons (pv 1) (pa_cons pe_int pa_nil)))) pa_nil)) (blkOk_by (N := N_law) (sc := defScope S_law) (own := [("lap", 10)]) (by decide +kernel)) (fun _ _ _ _ _ => (pg_name (i := 10) sc_law.nd rfl (by first | exact Or.inl rfl | exact Or.inr rfl))) (fun _ _ _ _ _ => pts_nil) (fun _ _ _ _ _ => (pe_cg c__law_draw hr (by decide) hgd rfl passL (pa_cons (pv 1) (pa_cons (pv 3) pa_nil))))))) (pss_one (ps_if (pt_not (pt_val (pe_cg c__law_closing_right hr (by decide) hgd rfl passL (pa_cons (pv 1) (pa_cons (pv 3) (pa_cons (pv 9) (pa_cons (pe_cg c__law_pick hr (by decide) hgd rfl passL (pa_cons (pv 1) (pa_cons (pe_lst (pa_cons pe_int (pa_cons pe_int (pa_cons pe_int pa_nil)))) pa_nil))) (pa_cons (pe_cg c__law_pick hr (by decide) hgd rfl passL (pa_cons (pv 1) (pa_cons (pe_lst (pa_cons pe_int (pa_cons pe_int (pa_cons pe_int pa_nil)))) pa_nil))) pa_nil)))))))) (pss_one (ps_ret pe_bl)) pss_nil))))))))))) (pss_cons (ps_set (i := 3) sc_law.nd rfl (by first | exact Or.inl rfl | exact Or.inr rfl) (pe_cg c__law_pick hr (by decide) hgd rfl passL (pa_cons (pv 1) (pa_cons (pe_lst (pa_cons pe_int (pa_cons pe_int (pa_cons pe_int pa_nil)))) pa_nil)))) (pss_cons (ps_setLc (i := 5) (own := [("at", 12)]) (g := (gName 12)) rfl sc_law.nd rfl rfl (sw_true rfl rfl rfl (by decide +kernel)) (pi_range1 rfl G.f_range (pa_cons (pe_op (k_add (K := K) rfl) pe_int (pe_cg c__law_draw hr (by decide) hgd rfl passL (pa_cons (pv 1) (pa_cons pe_int pa_nil)))) pa_nil)) (blkOk_by (N := N_law) (sc := defScope S_law) (own := [("at", 12)]) (by decide +kernel)) (fun _ _ _ _ _ => (pg_name (i := 12) sc_law.nd rfl (by first | exact Or.inl rfl | exact Or.inr rfl))) (fun _ _ _ _ _ => pts_nil) (fun _ _ _ _ _ => (pe_callB (k_min (K := K) rfl rfl) rfl G.f_min bt_min (pa_cons pe_int (pa_cons (pe_op (k_add (K := K) rfl) (pe_op op_mulD (pv 12) pe_int) (pe_cg c__law_draw hr (by decide) hgd rfl passL (pa_cons (pv 1) (pa_cons pe_int pa_nil)))) pa_nil))))) (pss_one (ps_ret (pe_cg c__law_closing_right hr (by decide) hgd rfl passL (pa_cons (pv 1) (pa_cons (pv 3) (pa_cons (pv 5) (pa_cons pe_int (pa_cons (pe_cg c__law_pick hr (by decide) hgd rfl passL (pa_cons (pv 1) (pa_cons (pe_lst (pa_cons pe_int (pa_cons pe_int (pa_cons pe_int (pa_cons pe_int pa_nil))))) pa_nil))) pa_nil))))))))))), law_ok (N := N_law) (E := E0) (U := B_law fun _ => False) (by decide) (fun Fr => ?_) law_true vs H Q E h⟩
  exact (drs_seq (drs_for (dri_rng1 (dra_cons (dr_op od_add dr_int (dr_cb ca_min (dra_cons dr_lenScr (dra_cons dr_int dra_nil)))) dra_nil)) drg_name (drs_seq (drs_asg (dr_tup (dra_cons (dr_callS XOk.none (dra_cons (dr_lst (dra_cons dr_int (dra_cons dr_int (dra_cons dr_int (dra_cons dr_int (dra_cons dr_int dra_nil)))))) dra_nil)) (dra_cons (dr_op od_add dr_int (dr_callS XOk.none (dra_cons dr_int dra_nil))) dra_nil))) (drg_tup (drgs_cons drg_name (drgs_cons drg_name drgs_nil)))) (drs_seq (drs_set (i := 5) (dr_lc (dri_rng1 (dra_cons (dr_op od_add dr_int (dr_callS XOk.none (dra_cons dr_int dra_nil))) dra_nil)) drg_name (blk_name (by decide)) (fun F => drt_yes) (fun F => (dr_callS XOk.none (dra_cons (dr_op od_mul (dr_var 3) (dr_var 4)) dra_nil))))) (drs_seq (drs_set (i := 6) (dr_callS XOk.none (dra_cons dr_int dra_nil))) (drs_seq (drs_if (drt_test (dr_op cm_lt.op (dr_var 6) dr_int)) (drs_set (i := 5) (dr_cb ca_sorted (dra_cons (dr_var 5) dra_nil))) drs_next) (drs_seq (drs_if (drt_test (dr_op cm_eq.op (dr_var 6) dr_int)) (drs_set (i := 5) (dr_op od_add (dr_op od_add (dr_sl (dr_var 5) (dro_some dr_int) dro_none) (dr_sl (dr_var 5) dro_none (dro_some dr_int))) (dr_lc (dri_rng1 (dra_cons (dr_callS XOk.none (dra_cons dr_int dra_nil)) dra_nil)) drg_name (blk_name (by decide)) (fun F => drt_yes) (fun F => (dr_callS XOk.none (dra_cons (dr_var 3) dra_nil)))))) drs_next) (drs_seq (drs_par (i := 7) (j := 8) (dra_cons (dr_callS XOk.none (dra_cons (dr_lst (dra_cons dr_int (dra_cons dr_int (dra_cons dr_int (dra_cons dr_int (dra_cons (dr_callS XOk.none (dra_cons dr_int dra_nil)) dra_nil)))))) dra_nil)) (dra_cons (dr_callS XOk.none (dra_cons (dr_lst (dra_cons dr_int (dra_cons dr_int (dra_cons dr_int (dra_cons dr_int (dra_cons dr_int (dra_cons (dr_callS XOk.none (dra_cons dr_int dra_nil)) dra_nil))))))) dra_nil)) dra_nil))) (drs_seq (drs_if (drt_not (drt_B (dr_callS XOk.none (dra_cons (dr_var 3) (dra_cons (dr_var 5) (dra_cons (dr_var 7) (dra_cons (dr_var 8) dra_nil))))))) (drs_ret dr_bl) drs_next) (drs_seq (drs_set (i := 9) (dr_op od_add (dr_op od_add (dr_lst (dra_cons (dr_callS XOk.none (dra_cons (dr_var 3) dra_nil)) dra_nil)) (dr_lc (dri_rng1 (dra_cons (dr_callS XOk.none (dra_cons dr_int dra_nil)) dra_nil)) drg_name (blk_name (by decide)) (fun F => drt_yes) (fun F => (dr_op od_mul (dr_var 3) (dr_op od_add dr_int (dr_var 11)))))) (dr_lc (dri_rng1 (dra_cons (dr_op od_add dr_int (dr_callS XOk.none (dra_cons dr_int dra_nil))) dra_nil)) drg_name (blk_name (by decide)) (fun F => drt_yes) (fun F => (dr_callS XOk.none (dra_cons (dr_var 3) dra_nil)))))) (drs_if (drt_not (drt_B (dr_callS XOk.none (dra_cons (dr_var 3) (dra_cons (dr_var 9) (dra_cons (dr_callS XOk.none (dra_cons (dr_lst (dra_cons dr_int (dra_cons dr_int (dra_cons dr_int dra_nil)))) dra_nil)) (dra_cons (dr_callS XOk.none (dra_cons (dr_lst (dra_cons dr_int (dra_cons dr_int (dra_cons dr_int dra_nil)))) dra_nil)) dra_nil))))))) (drs_ret dr_bl) drs_next)))))))))) (drs_seq (drs_set (i := 3) (dr_callS XOk.none (dra_cons (dr_lst (dra_cons dr_int (dra_cons dr_int (dra_cons dr_int dra_nil)))) dra_nil))) (drs_seq (drs_set (i := 5) (dr_lc (dri_rng1 (dra_cons (dr_op od_add dr_int (dr_callS XOk.none (dra_cons dr_int dra_nil))) dra_nil)) drg_name (blk_name (by decide)) (fun F => drt_yes) (fun F => (dr_cb ca_min (dra_cons dr_int (dra_cons (dr_op od_add (dr_op od_mul (dr_var 12) dr_int) (dr_callS XOk.none (dra_cons dr_int dra_nil))) dra_nil)))))) (drs_ret (dr_callS XOk.none (dra_cons (dr_var 3) (dra_cons (dr_var 5) (dra_cons dr_int (dra_cons (dr_callS XOk.none (dra_cons (dr_lst (dra_cons dr_int (dra_cons dr_int (dra_cons dr_int (dra_cons dr_int dra_nil))))) dra_nil)) dra_nil)))))))))
end
/-! ### the head -/
def d_is_whole : He.DefD := ⟨("is_whole", none), "is_whole", "is_whole", defArgs S_is_whole, defBody S_is_whole, defScope S_is_whole, [], []⟩
def d_need_number : He.DefD := ⟨("need_number", none), "need_number", "need_number", defArgs S_need_number, defBody S_need_number, defScope S_need_number, [], []⟩
def d_need_moments : He.DefD := ⟨("need_moments", none), "need_moments", "need_moments", defArgs S_need_moments, defBody S_need_moments, defScope S_need_moments, [], []⟩
def d_due_place : He.DefD := ⟨("due_place", none), "due_place", "due_place", defArgs S_due_place, defBody S_due_place, defScope S_due_place, [], []⟩
def d_pane_costs : He.DefD := ⟨("pane_costs", none), "pane_costs", "pane_costs", defArgs S_pane_costs, defBody S_pane_costs, defScope S_pane_costs, [], []⟩
def d_least_own : He.DefD := ⟨("least_own", none), "least_own", "least_own", defArgs S_least_own, defBody S_least_own, defScope S_least_own, [], []⟩
def d_loss_paper : He.DefD := ⟨("loss_paper", none), "loss_paper", "loss_paper", defArgs S_loss_paper, defBody S_loss_paper, defScope S_loss_paper, [], []⟩
def d_least_one : He.DefD := ⟨("least_one", none), "least_one", "least_one", defArgs S_least_one, defBody S_least_one, defScope S_least_one, [], []⟩
def d_closings : He.DefD := ⟨("closings", none), "closings", "closings", defArgs S_closings, defBody S_closings, defScope S_closings, [], []⟩
def d_are_closings : He.DefD := ⟨("are_closings", none), "are_closings", "are_closings", defArgs S_are_closings, defBody S_are_closings, defScope S_are_closings, [], []⟩
def d_closing_cost : He.DefD := ⟨("closing_cost", none), "closing_cost", "closing_cost", defArgs S_closing_cost, defBody S_closing_cost, defScope S_closing_cost, [], []⟩
def d__law_begun : He.DefD := ⟨("_law_begun", none), "_law_begun", "_law_begun", defArgs S__law_begun, defBody S__law_begun, defScope S__law_begun, [], []⟩
def d__law_mixed : He.DefD := ⟨("_law_mixed", none), "_law_mixed", "_law_mixed", defArgs S__law_mixed, defBody S__law_mixed, defScope S__law_mixed, [], []⟩
def d__law_draw : He.DefD := ⟨("_law_draw", none), "_law_draw", "_law_draw", defArgs S__law_draw, defBody S__law_draw, defScope S__law_draw, [], []⟩
def d__law_pick : He.DefD := ⟨("_law_pick", none), "_law_pick", "_law_pick", defArgs S__law_pick, defBody S__law_pick, defScope S__law_pick, [], []⟩
def d__law_plain : He.DefD := ⟨("_law_plain", none), "_law_plain", "_law_plain", defArgs S__law_plain, defBody S__law_plain, defScope S__law_plain, [], []⟩
def d__law_is : He.DefD := ⟨("_law_is", none), "_law_is", "_law_is", defArgs S__law_is, defBody S__law_is, defScope S__law_is, [], []⟩
def d__law_costs : He.DefD := ⟨("_law_costs", none), "_law_costs", "_law_costs", defArgs S__law_costs, defBody S__law_costs, defScope S__law_costs, [], []⟩
def d__law_least : He.DefD := ⟨("_law_least", none), "_law_least", "_law_least", defArgs S__law_least, defBody S__law_least, defScope S__law_least, [], []⟩
def d__law_all_least : He.DefD := ⟨("_law_all_least", none), "_law_all_least", "_law_all_least", defArgs S__law_all_least, defBody S__law_all_least, defScope S__law_all_least, [], []⟩
def d__law_in_order : He.DefD := ⟨("_law_in_order", none), "_law_in_order", "_law_in_order", defArgs S__law_in_order, defBody S__law_in_order, defScope S__law_in_order, [], []⟩
def d__law_closing_right : He.DefD := ⟨("_law_closing_right", none), "_law_closing_right", "_law_closing_right", defArgs S__law_closing_right, defBody S__law_closing_right, defScope S__law_closing_right, [], []⟩
def d_law : He.DefD := ⟨("law", none), "law", "law", defArgs S_law, defBody S_law, defScope S_law, [], []⟩
def fn : List He.DefD := [d_is_whole, d_need_number, d_need_moments, d_due_place, d_pane_costs, d_least_own, d_loss_paper, d_least_one, d_closings, d_are_closings, d_closing_cost, d__law_begun, d__law_mixed, d__law_draw, d__law_pick, d__law_plain, d__law_is, d__law_costs, d__law_least, d__law_all_least, d__law_in_order, d__law_closing_right, d_law]
def fa : List He.Fa := [.glo "is_whole", .glo "need_number", .glo "need_moments", .glo "due_place", .glo "pane_costs", .glo "least_own", .glo "loss_paper", .glo "least_one", .glo "closings", .glo "are_closings", .glo "closing_cost", .glo "_law_begun", .glo "_law_mixed", .glo "_law_draw", .glo "_law_pick", .glo "_law_plain", .glo "_law_is", .glo "_law_costs", .glo "_law_least", .glo "_law_all_least", .glo "_law_in_order", .glo "_law_closing_right", .glo "law", .free "abs", .free "bool", .free "dict", .free "enumerate", .free "int", .free "isinstance", .free "len", .free "list", .free "max", .free "min", .free "range", .free "repr", .free "sorted", .free "str", .free "sum", .free "tuple", .free "zip", .int "MOST_COMING" 40, .int "MOST_COST" 1000, .int "MOST_MOMENT" 200, .int "MOST_SIZE" 20, .exc "NoAsk", .glo "NoAsk"]
abbrev R : PySem.W.OpenRow := PySem.W.OpenLaw.row PySem.Challenge.rw_riverknown_k72_whole_panes_closed_by_one
abbrev hk : PySem.W.Hook := He.hookD 4 fa fn
def ob (s : PySem.W.SharedT) : He.AlD := He.obsDG 4 fa fn (HandSHeadRun.getT s)
theorem ob_eq (s : PySem.W.SharedT) : ob s = hk.obs s.abs := He.obsDG_eq (HandSHeadRun.getT_eq s)
theorem run (w : World) : HandSHeadRun.RunEq R (PySem.W.view R.prog [32]) hk ob 4000 ["RiverError", "NoAsk", "is_whole", "need_number", "MOST_MOMENT", "MOST_COMING", "MOST_SIZE", "MOST_COST", "need_moments", "due_place", "pane_costs", "least_own", "loss_paper", "least_one", "closings", "are_closings", "closing_cost", "_law_begun", "_law_mixed", "_law_draw", "_law_pick", "_law_plain", "_law_is", "_law_costs", "_law_least", "_law_all_least", "_law_in_order", "_law_closing_right"] w := by
  intro os
  kernel_rfl
theorem facts {P : Program} {w : World} {K : PySem.W.Frag} {h : Heap} {mg : Str → Option Value} {f : Addr} (X : K.In h) (G : h.Ns mainGlobals mg) (hfa : mg ("law" : Str) = some (.ref f)) (c : He.SaysD fa fn K) :
    ∃ fd : FuncData, (∀ (s : Shared) (v : Value), BindsTo s fd ⟨[v], []⟩ [("script", v)]) ∧ ∀ base : Heap, K.In base → base.Ns mainGlobals mg → FnG P w K mg base 11 f fd ["script"] (spLaw K) := by
  obtain ⟨fd_is_whole, F_is_whole⟩ := c.def_ 0 (d := d_is_whole) rfl
  have g_is_whole := He.glo_ok X G (c.fact 0 (f := .glo "is_whole") rfl)
  obtain ⟨fd_need_number, F_need_number⟩ := c.def_ 1 (d := d_need_number) rfl
  have g_need_number := He.glo_ok X G (c.fact 1 (f := .glo "need_number") rfl)
  obtain ⟨fd_need_moments, F_need_moments⟩ := c.def_ 2 (d := d_need_moments) rfl
  have g_need_moments := He.glo_ok X G (c.fact 2 (f := .glo "need_moments") rfl)
  obtain ⟨fd_due_place, F_due_place⟩ := c.def_ 3 (d := d_due_place) rfl
  have g_due_place := He.glo_ok X G (c.fact 3 (f := .glo "due_place") rfl)
  obtain ⟨fd_pane_costs, F_pane_costs⟩ := c.def_ 4 (d := d_pane_costs) rfl
  have g_pane_costs := He.glo_ok X G (c.fact 4 (f := .glo "pane_costs") rfl)
  obtain ⟨fd_least_own, F_least_own⟩ := c.def_ 5 (d := d_least_own) rfl
  have g_least_own := He.glo_ok X G (c.fact 5 (f := .glo "least_own") rfl)
  obtain ⟨fd_loss_paper, F_loss_paper⟩ := c.def_ 6 (d := d_loss_paper) rfl
  have g_loss_paper := He.glo_ok X G (c.fact 6 (f := .glo "loss_paper") rfl)
  obtain ⟨fd_least_one, F_least_one⟩ := c.def_ 7 (d := d_least_one) rfl
  have g_least_one := He.glo_ok X G (c.fact 7 (f := .glo "least_one") rfl)
  obtain ⟨fd_closings, F_closings⟩ := c.def_ 8 (d := d_closings) rfl
  have g_closings := He.glo_ok X G (c.fact 8 (f := .glo "closings") rfl)
  obtain ⟨fd_are_closings, F_are_closings⟩ := c.def_ 9 (d := d_are_closings) rfl
  have g_are_closings := He.glo_ok X G (c.fact 9 (f := .glo "are_closings") rfl)
  obtain ⟨fd_closing_cost, F_closing_cost⟩ := c.def_ 10 (d := d_closing_cost) rfl
  have g_closing_cost := He.glo_ok X G (c.fact 10 (f := .glo "closing_cost") rfl)
  obtain ⟨fd__law_begun, F__law_begun⟩ := c.def_ 11 (d := d__law_begun) rfl
  have g__law_begun := He.glo_ok X G (c.fact 11 (f := .glo "_law_begun") rfl)
  obtain ⟨fd__law_mixed, F__law_mixed⟩ := c.def_ 12 (d := d__law_mixed) rfl
  have g__law_mixed := He.glo_ok X G (c.fact 12 (f := .glo "_law_mixed") rfl)
  obtain ⟨fd__law_draw, F__law_draw⟩ := c.def_ 13 (d := d__law_draw) rfl
  have g__law_draw := He.glo_ok X G (c.fact 13 (f := .glo "_law_draw") rfl)
  obtain ⟨fd__law_pick, F__law_pick⟩ := c.def_ 14 (d := d__law_pick) rfl
  have g__law_pick := He.glo_ok X G (c.fact 14 (f := .glo "_law_pick") rfl)
  obtain ⟨fd__law_plain, F__law_plain⟩ := c.def_ 15 (d := d__law_plain) rfl
  have g__law_plain := He.glo_ok X G (c.fact 15 (f := .glo "_law_plain") rfl)
  obtain ⟨fd__law_is, F__law_is⟩ := c.def_ 16 (d := d__law_is) rfl
  have g__law_is := He.glo_ok X G (c.fact 16 (f := .glo "_law_is") rfl)
  obtain ⟨fd__law_costs, F__law_costs⟩ := c.def_ 17 (d := d__law_costs) rfl
  have g__law_costs := He.glo_ok X G (c.fact 17 (f := .glo "_law_costs") rfl)
  obtain ⟨fd__law_least, F__law_least⟩ := c.def_ 18 (d := d__law_least) rfl
  have g__law_least := He.glo_ok X G (c.fact 18 (f := .glo "_law_least") rfl)
  obtain ⟨fd__law_all_least, F__law_all_least⟩ := c.def_ 19 (d := d__law_all_least) rfl
  have g__law_all_least := He.glo_ok X G (c.fact 19 (f := .glo "_law_all_least") rfl)
  obtain ⟨fd__law_in_order, F__law_in_order⟩ := c.def_ 20 (d := d__law_in_order) rfl
  have g__law_in_order := He.glo_ok X G (c.fact 20 (f := .glo "_law_in_order") rfl)
  obtain ⟨fd__law_closing_right, F__law_closing_right⟩ := c.def_ 21 (d := d__law_closing_right) rfl
  have g__law_closing_right := He.glo_ok X G (c.fact 21 (f := .glo "_law_closing_right") rfl)
  obtain ⟨fd, F⟩ := c.def_ 22 (d := d_law) rfl
  have e := hfa.symm.trans (He.glo_ok X G (c.fact 22 (f := .glo "law") rfl))
  cases e
  have GG : Glob K mg (fun x => He.ga K x) := { f_abs := He.free_ok X G (c.fact 23 (f := .free "abs") rfl), f_bool := He.free_ok X G (c.fact 24 (f := .free "bool") rfl), f_dict := He.free_ok X G (c.fact 25 (f := .free "dict") rfl), f_enumerate := He.free_ok X G (c.fact 26 (f := .free "enumerate") rfl), f_int := He.free_ok X G (c.fact 27 (f := .free "int") rfl), f_isinstance := He.free_ok X G (c.fact 28 (f := .free "isinstance") rfl), f_len := He.free_ok X G (c.fact 29 (f := .free "len") rfl), f_list := He.free_ok X G (c.fact 30 (f := .free "list") rfl), f_max := He.free_ok X G (c.fact 31 (f := .free "max") rfl), f_min := He.free_ok X G (c.fact 32 (f := .free "min") rfl), f_range := He.free_ok X G (c.fact 33 (f := .free "range") rfl), f_repr := He.free_ok X G (c.fact 34 (f := .free "repr") rfl), f_sorted := He.free_ok X G (c.fact 35 (f := .free "sorted") rfl), f_str := He.free_ok X G (c.fact 36 (f := .free "str") rfl), f_sum := He.free_ok X G (c.fact 37 (f := .free "sum") rfl), f_tuple := He.free_ok X G (c.fact 38 (f := .free "tuple") rfl), f_zip := He.free_ok X G (c.fact 39 (f := .free "zip") rfl), i_MOST_COMING := (He.int_ok X G (c.fact 40 (f := .int "MOST_COMING" 40) rfl)).elim fun t e => ⟨_, e, ⟨t, rfl⟩⟩, i_MOST_COST := (He.int_ok X G (c.fact 41 (f := .int "MOST_COST" 1000) rfl)).elim fun t e => ⟨_, e, ⟨t, rfl⟩⟩, i_MOST_MOMENT := (He.int_ok X G (c.fact 42 (f := .int "MOST_MOMENT" 200) rfl)).elim fun t e => ⟨_, e, ⟨t, rfl⟩⟩, i_MOST_SIZE := (He.int_ok X G (c.fact 43 (f := .int "MOST_SIZE" 20) rfl)).elim fun t e => ⟨_, e, ⟨t, rfl⟩⟩, x_NoAsk := let z := He.exc_ok (c.fact 44 (f := .exc "NoAsk") rfl); ⟨z.1, He.glo_ok X G (c.fact 45 (f := .glo "NoAsk") rfl), z.2.1, z.2.2.1, z.2.2.2⟩ }
  have b := FunD.bindsA (ps := ["script"]) F fun _ _ _ _ _ _ us hl => match us, hl with | [_], _ => rfl
  refine ⟨fd, fun s v => b s [v] rfl, fun base _ _ => ?_⟩
  have c_is_whole := calG (P := P) (w := w) (base := base) (ok_is_whole GG  F_is_whole) g_is_whole F_is_whole.kp (FunD.bindsN (ps := ["thing"]) F_is_whole fun _ _ _ _ _ _ us hl => match us, hl with | [_], _ => rfl)
  have c_need_number := calG (P := P) (w := w) (base := base) (ok_need_number GG c_is_whole F_need_number) g_need_number F_need_number.kp (FunD.bindsN (ps := ["thing", "low", "high"]) F_need_number fun _ _ _ _ _ _ us hl => match us, hl with | [_, _, _], _ => rfl)
  have c_need_moments := calG (P := P) (w := w) (base := base) (ok_need_moments GG c_need_number F_need_moments) g_need_moments F_need_moments.kp (FunD.bindsN (ps := ["size", "moments", "wait", "lose"]) F_need_moments fun _ _ _ _ _ _ us hl => match us, hl with | [_, _, _, _], _ => rfl)
  have c_due_place := calG (P := P) (w := w) (base := base) (ok_due_place GG  F_due_place) g_due_place F_due_place.kp (FunD.bindsN (ps := ["panes", "pane"]) F_due_place fun _ _ _ _ _ _ us hl => match us, hl with | [_, _], _ => rfl)
  have c_pane_costs := calG (P := P) (w := w) (base := base) (ok_pane_costs GG c_need_moments c_due_place F_pane_costs) g_pane_costs F_pane_costs.kp (FunD.bindsN (ps := ["size", "moments", "wait", "lose"]) F_pane_costs fun _ _ _ _ _ _ us hl => match us, hl with | [_, _, _, _], _ => rfl)
  have c_least_own := calG (P := P) (w := w) (base := base) (ok_least_own GG c_pane_costs F_least_own) g_least_own F_least_own.kp (FunD.bindsN (ps := ["size", "moments", "wait", "lose"]) F_least_own fun _ _ _ _ _ _ us hl => match us, hl with | [_, _, _, _], _ => rfl)
  have c_loss_paper := calG (P := P) (w := w) (base := base) (ok_loss_paper GG c_pane_costs F_loss_paper) g_loss_paper F_loss_paper.kp (FunD.bindsN (ps := ["size", "moments", "wait", "lose"]) F_loss_paper fun _ _ _ _ _ _ us hl => match us, hl with | [_, _, _, _], _ => rfl)
  have c_least_one := calG (P := P) (w := w) (base := base) (ok_least_one GG c_loss_paper F_least_one) g_least_one F_least_one.kp (FunD.bindsN (ps := ["size", "moments", "wait", "lose"]) F_least_one fun _ _ _ _ _ _ us hl => match us, hl with | [_, _, _, _], _ => rfl)
  have c_closings := calG (P := P) (w := w) (base := base) (ok_closings GG c_loss_paper F_closings) g_closings F_closings.kp (FunD.bindsN (ps := ["size", "moments", "wait", "lose"]) F_closings fun _ _ _ _ _ _ us hl => match us, hl with | [_, _, _, _], _ => rfl)
  have c_are_closings := calG (P := P) (w := w) (base := base) (ok_are_closings GG c_is_whole F_are_closings) g_are_closings F_are_closings.kp (FunD.bindsN (ps := ["size", "moments", "thing"]) F_are_closings fun _ _ _ _ _ _ us hl => match us, hl with | [_, _, _], _ => rfl)
  have c_closing_cost := calG (P := P) (w := w) (base := base) (ok_closing_cost GG c_pane_costs c_are_closings F_closing_cost) g_closing_cost F_closing_cost.kp (FunD.bindsN (ps := ["size", "moments", "wait", "lose", "places"]) F_closing_cost fun _ _ _ _ _ _ us hl => match us, hl with | [_, _, _, _, _], _ => rfl)
  have c__law_begun := calG (P := P) (w := w) (base := base) (ok__law_begun GG F__law_begun) g__law_begun F__law_begun.kp (FunD.bindsN (ps := ["script"]) F__law_begun fun _ _ _ _ _ _ us hl => match us, hl with | [_], _ => rfl)
  have c__law_mixed := calG (P := P) (w := w) (base := base) (ok__law_mixed GG  F__law_mixed) g__law_mixed F__law_mixed.kp (FunD.bindsN (ps := ["state"]) F__law_mixed fun _ _ _ _ _ _ us hl => match us, hl with | [_], _ => rfl)
  have c__law_draw := calG (P := P) (w := w) (base := base) (ok__law_draw GG c__law_mixed F__law_draw) g__law_draw F__law_draw.kp (FunD.bindsN (ps := ["state", "room"]) F__law_draw fun _ _ _ _ _ _ us hl => match us, hl with | [_, _], _ => rfl)
  have c__law_pick := calG (P := P) (w := w) (base := base) (ok__law_pick GG c__law_draw F__law_pick) g__law_pick F__law_pick.kp (FunD.bindsN (ps := ["state", "some"]) F__law_pick fun _ _ _ _ _ _ us hl => match us, hl with | [_, _], _ => rfl)
  have c__law_plain := calG (P := P) (w := w) (base := base) (ok__law_plain GG g__law_plain F__law_plain.kp (FunD.bindsN (ps := ["value"]) F__law_plain fun _ _ _ _ _ _ us hl => match us, hl with | [_], _ => rfl) F__law_plain 8) g__law_plain F__law_plain.kp (FunD.bindsN (ps := ["value"]) F__law_plain fun _ _ _ _ _ _ us hl => match us, hl with | [_], _ => rfl)
  have c__law_is := calG (P := P) (w := w) (base := base) (ok__law_is GG c__law_plain F__law_is) g__law_is F__law_is.kp (FunD.bindsN (ps := ["found", "due"]) F__law_is fun _ _ _ _ _ _ us hl => match us, hl with | [_, _], _ => rfl)
  have c__law_costs := calG (P := P) (w := w) (base := base) (ok__law_costs GG  F__law_costs) g__law_costs F__law_costs.kp (FunD.bindsN (ps := ["size", "moments", "wait", "lose"]) F__law_costs fun _ _ _ _ _ _ us hl => match us, hl with | [_, _, _, _], _ => rfl)
  have c__law_least := calG (P := P) (w := w) (base := base) (ok__law_least GG  F__law_least) g__law_least F__law_least.kp (FunD.bindsN (ps := ["rows"]) F__law_least fun _ _ _ _ _ _ us hl => match us, hl with | [_], _ => rfl)
  have c__law_all_least := calG (P := P) (w := w) (base := base) (ok__law_all_least GG  F__law_all_least) g__law_all_least F__law_all_least.kp (FunD.bindsN (ps := ["rows"]) F__law_all_least fun _ _ _ _ _ _ us hl => match us, hl with | [_], _ => rfl)
  have c__law_in_order := calG (P := P) (w := w) (base := base) (ok__law_in_order GG  F__law_in_order) g__law_in_order F__law_in_order.kp (FunD.bindsN (ps := ["rows"]) F__law_in_order fun _ _ _ _ _ _ us hl => match us, hl with | [_], _ => rfl)
  have c__law_closing_right := calG (P := P) (w := w) (base := base) (ok__law_closing_right GG c_pane_costs c_least_own c_least_one c_closings c_closing_cost c__law_draw c__law_plain c__law_is c__law_costs c__law_least c__law_all_least c__law_in_order F__law_closing_right) g__law_closing_right F__law_closing_right.kp (FunD.bindsN (ps := ["state", "size", "moments", "wait", "lose"]) F__law_closing_right fun _ _ _ _ _ _ us hl => match us, hl with | [_, _, _, _, _], _ => rfl)
  exact ok_law GG c__law_begun c__law_draw c__law_pick c__law_closing_right F
theorem holds : PySem.Challenge.rw_riverknown_k72_whole_panes_closed_by_one.Holds := by
  w_on; o_law
  refine HandSHeadRun.head_any (r := PySem.W.OpenLaw.row PySem.Challenge.rw_riverknown_k72_whole_panes_closed_by_one) (q := PySem.W.view (PySem.W.OpenLaw.row PySem.Challenge.rw_riverknown_k72_whole_panes_closed_by_one).prog [32]) (H := hk) (ob := ob) (M := 4000) (loose := ["RiverError", "NoAsk", "is_whole", "need_number", "MOST_MOMENT", "MOST_COMING", "MOST_SIZE", "MOST_COST", "need_moments", "due_place", "pane_costs", "least_own", "loss_paper", "least_one", "closings", "are_closings", "closing_cost", "_law_begun", "_law_mixed", "_law_draw", "_law_pick", "_law_plain", "_law_is", "_law_costs", "_law_least", "_law_all_least", "_law_in_order", "_law_closing_right"]) (d := HandSHeadRun.topDef (PySem.W.OpenLaw.row PySem.Challenge.rw_riverknown_k72_whole_panes_closed_by_one).prog 32) (kwd := []) ob_eq
    (by kernel_rfl) (fun s => by kernel_rfl) run (by kernel_rfl) (by kernel_rfl) (by kernel_rfl) (by rfl) (by first | assumption | decide +kernel) (by decide +kernel) ⟨rfl, rfl, rfl, rfl, rfl, by decide +kernel⟩ ?hw ?hc
  case hw => w_witness2
  case hc =>
    refine DL.walkG (l := PySem.Challenge.rw_riverknown_k72_whole_panes_closed_by_one) (k := 11) (x := "script") rfl (by kernel_rfl) ⟨rfl, by decide, by decide⟩ ?F
    intro w mg fa h Y G hmg0
    obtain ⟨K, KX, c⟩ := Y
    have hmg : mg ("law" : PySem.Str) = some (.ref fa) := by
      have e : (HandSHeadRun.topDef (PySem.W.OpenLaw.row PySem.Challenge.rw_riverknown_k72_whole_panes_closed_by_one).prog 32).name = ("law" : PySem.Str) := by kernel_rfl
      rw [← e]
      exact hmg0
    obtain ⟨fd, hb, hF⟩ := facts (P := (PySem.Challenge.rw_riverknown_k72_whole_panes_closed_by_one).prog) (w := w) KX G hmg c
    exact ⟨K, fd, KX, hb, hF⟩
end k72

theorem PySem.Challenge.cw_riverknown_k72_whole_panes_closed_by_one_holds : PySem.Challenge.rw_riverknown_k72_whole_panes_closed_by_one.Holds := by
  exact k72.holds
