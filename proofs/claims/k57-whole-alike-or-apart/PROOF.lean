import PyProof.Rows.All
import Wide.All
import OpenK.AllK
import Wide.FinOn
import KE.KStateDown
import HandS.Head0
import HandS.Head1
import HandS.Head2
import HandS.HeadHook4
import HandS.Words
import PyProof.EqAt
import PyProof.EqKinds
import PyProof.TupleCall
import HandS.ForMost
import HandS.ForExc
import HandS.Nested
import HandS.NestedK
import HandS.EndTab
import HandS.TupAny
import HandS.Conv
import HandS.IsInst
import HandS.CallLocal
import HandS.HotCalls
import HandS.Flow
import HandS.Small
import HandS.SortKw
import HandS.Wide
import HandS.WideMore
import HandS.WideBits
import KE.SortData
import KE.KMinKey
import KE.SortKeyHeap
import HandS.Walk
import HandS.TupLen
import HandS.Dict
import HandS.WordsDict
import HandS.SetBool
import HandS.Strs
import KE.KDictDisplayH
import KE.DataMinKey
import HandS.Sort
import PyProof.SeqI3
import PyProof.MinMaxWalk
import PyProof.DictValues
import PyProof.DictWalks
import PyProof.WalkInts
import HandS.SortInts
import HandS.SortRule
import HandS.ExcCtx
import HandS.ExcIs
import HandS.Set
import HandS.SetFor
import PyProof.CollectStr
import HandS.HeadWalk
import PySem.Challenge.RW_trunksay_k57_whole_alike_or_apart
set_option linter.all false
/-! Trees, their order, runs of machines, first trees. Plain Lean. -/
namespace Tk

inductive Tree where
  | nil
  | node (l r : Tree) (x : Nat)
  deriving DecidableEq

namespace Tree
def size : Tree → Nat
  | nil => 0
  | node l r _ => 1 + l.size + r.size
/-- all letters below m -/
def ok (m : Nat) : Tree → Prop
  | nil => True
  | node l r x => l.ok m ∧ r.ok m ∧ x < m
end Tree
open Tree

/-- the order: size, left branch, right branch, letter -/
inductive Tlt : Tree → Tree → Prop
  | sz {a b : Tree} : a.size < b.size → Tlt a b
  | lf {l r : Tree} {x : Nat} {l' r' : Tree} {x' : Nat} : (node l r x).size = (node l' r' x').size → Tlt l l' → Tlt (node l r x) (node l' r' x')
  | rt {l r : Tree} {x : Nat} {r' : Tree} {x' : Nat} : r.size = r'.size → Tlt r r' → Tlt (node l r x) (node l r' x')
  | lb {l r : Tree} {x x' : Nat} : x < x' → Tlt (node l r x) (node l r x')

theorem Tlt.size_le {a b : Tree} (h : Tlt a b) : a.size ≤ b.size := by
  induction h with
  | sz h => exact Nat.le_of_lt h
  | lf h _ _ => exact Nat.le_of_eq h
  | rt h _ _ => simp only [size]; omega
  | lb _ => exact Nat.le_refl _

theorem Tlt.tri : ∀ a b : Tree, a = b ∨ Tlt a b ∨ Tlt b a
  | .nil, .nil => .inl rfl
  | .nil, .node l r x => .inr (.inl (.sz (by simp only [size]; omega)))
  | .node l r x, .nil => .inr (.inr (.sz (by simp only [size]; omega)))
  | .node l r x, .node l' r' x' => by
    by_cases h1 : (Tree.node l r x).size < (Tree.node l' r' x').size
    · exact .inr (.inl (.sz h1))
    by_cases h2 : (Tree.node l' r' x').size < (Tree.node l r x).size
    · exact .inr (.inr (.sz h2))
    have hs : (Tree.node l r x).size = (Tree.node l' r' x').size := by omega
    rcases Tlt.tri l l' with e | h | h
    · subst e
      have hr : r.size = r'.size := by simp only [size] at hs; omega
      rcases Tlt.tri r r' with e | h | h
      · subst e
        rcases Nat.lt_trichotomy x x' with h | h | h
        · exact .inr (.inl (.lb h))
        · subst h; exact .inl rfl
        · exact .inr (.inr (.lb h))
      · exact .inr (.inl (.rt hr h))
      · exact .inr (.inr (.rt hr.symm h))
    · exact .inr (.inl (.lf hs h))
    · exact .inr (.inr (.lf hs.symm h))

theorem acc_of_size (n : Nat) (h : ∀ t : Tree, t.size < n → Acc Tlt t) : ∀ t : Tree, t.size = n → Acc Tlt t := by
  intro t ht
  cases t with
  | nil =>
    refine ⟨_, fun y hy => ?_⟩
    cases hy with
    | sz q => simp only [size] at q; omega
  | node l r x =>
    have al : Acc Tlt l := h l (by simp only [size] at ht; omega)
    induction al generalizing r x with
    | intro l _ ihl =>
      have ar : Acc Tlt r := h r (by simp only [size] at ht; omega)
      induction ar generalizing x with
      | intro r _ ihr =>
        induction x using Nat.strongRecOn with
        | ind x ihx =>
          refine ⟨_, fun y hy => ?_⟩
          cases hy with
          | sz q => exact h y (by omega)
          | lf q1 q2 => exact ihl _ q2 _ _ (by omega)
          | rt q1 q2 => exact ihr _ q2 _ (by simp only [size] at ht ⊢; omega)
          | lb q => exact ihx _ q (by simp only [size] at ht ⊢; omega)

theorem Tlt.wf : WellFounded Tlt := by
  refine ⟨fun t => ?_⟩
  have : ∀ n, ∀ t : Tree, t.size = n → Acc Tlt t := by
    intro n
    induction n using Nat.strongRecOn with
    | ind n ih => exact acc_of_size n fun t ht => ih t.size ht t rfl
  exact this _ t rfl

theorem Tlt.asymm {a b : Tree} (h : Tlt a b) : ¬ Tlt b a := by
  have : ∀ x, ∀ y, Tlt y x → ¬ Tlt x y := by
    intro x
    induction x using Tlt.wf.induction with
    | _ x ih => exact fun y hy hx => ih y hy x hx hy
  exact fun h' => this b a h h'
theorem Tlt.irrefl (a : Tree) : ¬ Tlt a a := fun h => h.asymm h

theorem Tlt.trans : ∀ {a b c : Tree}, Tlt a b → Tlt b c → Tlt a c := by
  intro a b c
  induction b generalizing a c with
  | nil =>
    intro h1 h2
    cases h1 with
    | sz q => simp only [size] at q; omega
  | node lb rb xb ihl ihr =>
    intro h1 h2
    have s1 := h1.size_le
    have s2 := h2.size_le
    by_cases q : a.size < c.size
    · exact .sz q
    have e1 : a.size = (Tree.node lb rb xb).size := by omega
    have e2 : (Tree.node lb rb xb).size = c.size := by omega
    cases h1 with
    | sz q => omega
    | lf _ p1 =>
      cases h2 with
      | sz q => omega
      | lf _ p2 => exact .lf (by omega) (ihl p1 p2)
      | rt _ p2 => exact .lf (by omega) p1
      | lb p2 => exact .lf (by omega) p1
    | rt r1 p1 =>
      cases h2 with
      | sz q => omega
      | lf _ p2 => exact .lf (by omega) p2
      | rt r2 p2 => exact .rt (by omega) (ihr p1 p2)
      | lb p2 => exact .rt r1 p1
    | lb p1 =>
      cases h2 with
      | sz q => omega
      | lf _ p2 => exact .lf (by omega) p2
      | rt r2 p2 => exact .rt r2 p2
      | lb p2 => exact .lb (by omega)

/-- the least tree of a set -/
def Least (S : Tree → Prop) (t : Tree) : Prop := S t ∧ ∀ t', S t' → t = t' ∨ Tlt t t'
theorem Least.ex {S : Tree → Prop} {t : Tree} (h : S t) : ∃ u, Least S u := by
  induction t using Tlt.wf.induction with
  | _ t ih =>
    by_cases q : ∃ t', S t' ∧ Tlt t' t
    · obtain ⟨t', h1, h2⟩ := q
      exact ih t' h2 h1
    · refine ⟨t, h, fun t' h' => ?_⟩
      rcases Tlt.tri t t' with e | e | e
      · exact .inl e
      · exact .inr e
      · exact absurd ⟨t', h', e⟩ q
theorem Least.uniq {S : Tree → Prop} {t u : Tree} (h1 : Least S t) (h2 : Least S u) : t = u := by
  rcases h1.2 u h2.1 with e | e
  · exact e
  rcases h2.2 t h1.1 with e' | e'
  · exact e'.symm
  · exact (e.asymm e').elim
theorem Least.congr {S S' : Tree → Prop} {t : Tree} (h : Least S t) (e : ∀ t, S t ↔ S' t) : Least S' t :=
  ⟨(e t).mp h.1, fun t' h' => h.2 t' ((e t').mpr h')⟩

/-- where a tree comes to -/
def run (d : Nat → Nat → Nat → Nat) : Tree → Nat
  | .nil => 0
  | .node l r x => d x (run d l) (run d r)

/-- the first tree of a room -/
def First (d : Nat → Nat → Nat → Nat) (m q : Nat) (t : Tree) : Prop := Least (fun t => t.ok m ∧ run d t = q) t

theorem First.nil (d : Nat → Nat → Nat → Nat) (m : Nat) : First d m 0 .nil :=
  ⟨⟨trivial, rfl⟩, fun t' _ => by
    cases t' with
    | nil => exact .inl rfl
    | node l r x => exact .inr (.sz (by simp only [size]; omega))⟩

/-- a first tree's branches are first trees -/
theorem First.left {d : Nat → Nat → Nat → Nat} {m q : Nat} {l r : Tree} {x : Nat} (h : First d m q (.node l r x)) : First d m (run d l) l := by
  obtain ⟨⟨⟨o1, o2, o3⟩, e⟩, hm⟩ := h
  refine ⟨⟨o1, rfl⟩, fun l' ⟨o', e'⟩ => ?_⟩
  rcases Tlt.tri l l' with z | z | z
  · exact .inl z
  · exact .inr z
  · exfalso
    have hs := z.size_le
    have h2 := hm (.node l' r x) ⟨⟨o', o2, o3⟩, by simp only [run]; rw [e']; exact e⟩
    have h3 : Tlt (.node l' r x) (.node l r x) := by
      by_cases q : l'.size < l.size
      · exact .sz (by simp only [size]; omega)
      · exact .lf (by simp only [size]; omega) z
    rcases h2 with e2 | e2
    · rw [e2] at h3; exact Tlt.irrefl _ h3
    · exact e2.asymm h3
theorem First.right {d : Nat → Nat → Nat → Nat} {m q : Nat} {l r : Tree} {x : Nat} (h : First d m q (.node l r x)) : First d m (run d r) r := by
  obtain ⟨⟨⟨o1, o2, o3⟩, e⟩, hm⟩ := h
  refine ⟨⟨o2, rfl⟩, fun r' ⟨o', e'⟩ => ?_⟩
  rcases Tlt.tri r r' with z | z | z
  · exact .inl z
  · exact .inr z
  · exfalso
    have hs := z.size_le
    have h2 := hm (.node l r' x) ⟨⟨o1, o', o3⟩, by simp only [run]; rw [e']; exact e⟩
    have h3 : Tlt (.node l r' x) (.node l r x) := by
      by_cases q : r'.size < r.size
      · exact .sz (by simp only [size]; omega)
      · exact .rt (by omega) z
    rcases h2 with e2 | e2
    · rw [e2] at h3; exact Tlt.irrefl _ h3
    · exact e2.asymm h3

end Tk
set_option linter.all false
/-! The rows of first trees: rooms taken in the order of their first trees. -/
namespace Tk
open Tree

abbrev Key := Nat × Nat × Nat × Nat
def Klt (a b : Key) : Prop := a.1 < b.1 ∨ (a.1 = b.1 ∧ (a.2.1 < b.2.1 ∨ (a.2.1 = b.2.1 ∧ (a.2.2.1 < b.2.2.1 ∨ (a.2.2.1 = b.2.2.1 ∧ a.2.2.2 < b.2.2.2)))))
instance (a b : Key) : Decidable (Klt a b) := by unfold Klt; infer_instance
theorem Klt.not_trans {a b c : Key} (h1 : ¬ Klt a b) (h2 : ¬ Klt b c) : ¬ Klt a c := by
  unfold Klt at *; omega

def at_ (Ts : List Tree) (i : Nat) : Tree := Ts.getD i .nil
def kt (Ts : List Tree) (i j x : Nat) : Tree := .node (at_ Ts i) (at_ Ts j) x
def key (Ts : List Tree) (i j x : Nat) : Key := (1 + (at_ Ts i).size + (at_ Ts j).size, i, j, x)

theorem at_get {Ts : List Tree} {i : Nat} {T : Tree} (h : Ts[i]? = some T) : at_ Ts i = T := by
  unfold at_; rw [List.getD_eq_getElem?_getD, h]; rfl
theorem at_mem {Ts : List Tree} {i : Nat} (h : i < Ts.length) : at_ Ts i ∈ Ts := by
  have e : Ts[i]? = some Ts[i] := List.getElem?_eq_getElem h
  rw [at_get e]; exact List.getElem_mem h
theorem at_app {Ts : List Tree} {T : Tree} {i : Nat} (h : i < Ts.length) : at_ (Ts ++ [T]) i = at_ Ts i := by
  unfold at_; rw [List.getD_eq_getElem?_getD, List.getD_eq_getElem?_getD, List.getElem?_append_left h]
theorem key_app {Ts : List Tree} {T : Tree} {i j x : Nat} (hi : i < Ts.length) (hj : j < Ts.length) : key (Ts ++ [T]) i j x = key Ts i j x := by
  unfold key; rw [at_app hi, at_app hj]
theorem mem_at {Ts : List Tree} {T : Tree} (h : T ∈ Ts) : ∃ i, i < Ts.length ∧ at_ Ts i = T := by
  obtain ⟨i, hi, e⟩ := List.mem_iff_getElem.mp h
  exact ⟨i, hi, by rw [at_get (T := T) (by rw [List.getElem?_eq_getElem hi, e])]⟩

theorem sorted_lt {Ts : List Tree} (h : Ts.Pairwise Tlt) {i j : Nat} (hij : i < j) (hj : j < Ts.length) : Tlt (at_ Ts i) (at_ Ts j) := by
  have hi : i < Ts.length := by omega
  rw [at_get (List.getElem?_eq_getElem hi), at_get (List.getElem?_eq_getElem hj)]
  exact (List.pairwise_iff_getElem.mp h) i j hi hj hij
theorem sorted_iff {Ts : List Tree} (h : Ts.Pairwise Tlt) {i j : Nat} (hi : i < Ts.length) (hj : j < Ts.length) : Tlt (at_ Ts i) (at_ Ts j) ↔ i < j := by
  constructor
  · intro t
    rcases Nat.lt_trichotomy i j with e | e | e
    · exact e
    · subst e; exact (Tlt.irrefl _ t).elim
    · exact (t.asymm (sorted_lt h e hi)).elim
  · exact fun e => sorted_lt h e hj
theorem sorted_inj {Ts : List Tree} (h : Ts.Pairwise Tlt) {i j : Nat} (hi : i < Ts.length) (hj : j < Ts.length) (e : at_ Ts i = at_ Ts j) : i = j := by
  rcases Nat.lt_trichotomy i j with q | q | q
  · have := sorted_lt h q hj; rw [e] at this; exact (Tlt.irrefl _ this).elim
  · exact q
  · have := sorted_lt h q hi; rw [e] at this; exact (Tlt.irrefl _ this).elim

/-- trees made of rows are as their keys -/
theorem kt_lt {Ts : List Tree} (h : Ts.Pairwise Tlt) {i j x i' j' x' : Nat} (hi : i < Ts.length) (hj : j < Ts.length) (hi' : i' < Ts.length) (hj' : j' < Ts.length) (t : Tlt (kt Ts i j x) (kt Ts i' j' x')) :
    Klt (key Ts i j x) (key Ts i' j' x') := by
  unfold kt at t
  have hsz : (Tree.node (at_ Ts i) (at_ Ts j) x).size ≤ (Tree.node (at_ Ts i') (at_ Ts j') x').size := t.size_le
  unfold Klt key
  simp only [size] at hsz ⊢
  by_cases q : 1 + (at_ Ts i).size + (at_ Ts j).size < 1 + (at_ Ts i').size + (at_ Ts j').size
  · exact .inl q
  refine .inr ⟨by omega, ?_⟩
  generalize ea : at_ Ts i = a at *
  generalize eb : at_ Ts j = b at *
  generalize ea' : at_ Ts i' = a' at *
  generalize eb' : at_ Ts j' = b' at *
  cases t with
  | sz p => simp only [size] at p; omega
  | lf _ p => exact .inl ((sorted_iff h hi hi').mp (by rw [ea, ea']; exact p))
  | rt _ p => exact .inr ⟨sorted_inj h hi hi' (by rw [ea, ea']), .inl ((sorted_iff h hj hj').mp (by rw [eb, eb']; exact p))⟩
  | lb p => exact .inr ⟨sorted_inj h hi hi' (by rw [ea, ea']), .inr ⟨sorted_inj h hj hj' (by rw [eb, eb']), p⟩⟩

section
variable (d : Nat → Nat → Nat → Nat) (m : Nat)
def rm (Ts : List Tree) (i j x : Nat) : Nat := run d (kt Ts i j x)
def rooms (Ts : List Tree) : List Nat := Ts.map (run d)

structure FI (Ts : List Tree) : Prop where
  zero : Ts[0]? = some .nil
  first : ∀ T ∈ Ts, First d m (run d T) T
  sorted : Ts.Pairwise Tlt
  down : ∀ T ∈ Ts, ∀ t, First d m (run d t) t → Tlt t T → t ∈ Ts

structure OffOk (Ts : List Tree) (Pr : Nat → Nat → Nat → Prop) (off : Nat → Option Key) : Prop where
  lim : ∀ i j x, Pr i j x → i < Ts.length ∧ j < Ts.length ∧ x < m
  some_ : ∀ q k, off q = some k → q ∉ rooms d Ts ∧ ∃ i j x, Pr i j x ∧ rm d Ts i j x = q ∧ k = key Ts i j x
  all : ∀ i j x, Pr i j x → rm d Ts i j x ∉ rooms d Ts → ∃ k, off (rm d Ts i j x) = some k ∧ ¬ Klt (key Ts i j x) k

variable {d m}
theorem FI.start : FI d m [.nil] :=
  ⟨rfl, fun T h => by rw [List.mem_singleton.mp h]; exact First.nil d m, List.pairwise_singleton _ _, fun T h t _ l => by
    rw [List.mem_singleton.mp h] at l
    cases l with
    | sz q => simp only [size] at q; omega⟩
theorem FI.pos {Ts : List Tree} (F : FI d m Ts) : 0 < Ts.length := by
  rcases Nat.eq_zero_or_pos Ts.length with e | e
  · have := F.zero; rw [List.length_eq_zero_iff.mp e] at this; simp at this
  · exact e
theorem FI.uniq {Ts : List Tree} (F : FI d m Ts) {t : Tree} (h : First d m (run d t) t) (hr : run d t ∈ rooms d Ts) : t ∈ Ts := by
  obtain ⟨T, hT, e⟩ := List.mem_map.mp hr
  have := F.first T hT
  rw [e] at this
  rw [h.uniq this]; exact hT
/-- the least tree that comes to none of the rooms is made of rows -/
theorem FI.next {Ts : List Tree} (F : FI d m Ts) {u : Tree} (h : Least (fun t => t.ok m ∧ run d t ∉ rooms d Ts) u) :
    ∃ i j x, i < Ts.length ∧ j < Ts.length ∧ x < m ∧ u = kt Ts i j x := by
  obtain ⟨⟨o, hn⟩, hl⟩ := h
  have fu : First d m (run d u) u := ⟨⟨o, rfl⟩, fun t ⟨ot, et⟩ => hl t ⟨ot, by rw [et]; exact hn⟩⟩
  cases u with
  | nil =>
    exfalso
    refine hn (List.mem_map.mpr ⟨.nil, ?_, rfl⟩)
    exact List.mem_of_getElem? F.zero
  | node a b y =>
    have in_ : ∀ t, t.ok m → t.size < (Tree.node a b y).size → run d t ∈ rooms d Ts := fun t ot hs => by
      apply Classical.byContradiction
      intro q
      rcases hl t ⟨ot, q⟩ with e | e
      · rw [← e] at hs; omega
      · have := e.size_le; omega
    have ha := F.uniq fu.left (in_ a o.1 (by simp only [size]; omega))
    have hb := F.uniq fu.right (in_ b o.2.1 (by simp only [size]; omega))
    obtain ⟨i, hi, ei⟩ := mem_at ha
    obtain ⟨j, hj, ej⟩ := mem_at hb
    exact ⟨i, j, y, hi, hj, o.2.2, by unfold kt; rw [ei, ej]⟩

theorem FI.ok_ {Ts : List Tree} (F : FI d m Ts) {T : Tree} (h : T ∈ Ts) : T.ok m := (F.first T h).1.1
theorem FI.kt_ok {Ts : List Tree} (F : FI d m Ts) {i j x : Nat} (hi : i < Ts.length) (hj : j < Ts.length) (hx : x < m) : (kt Ts i j x).ok m :=
  ⟨F.ok_ (at_mem hi), F.ok_ (at_mem hj), hx⟩

/-- the least offer is the next room's first tree -/
theorem FI.step {Ts : List Tree} {Pr : Nat → Nat → Nat → Prop} {off : Nat → Option Key} (F : FI d m Ts) (O : OffOk d m Ts Pr off) (hP : ∀ i j x, i < Ts.length → j < Ts.length → x < m → Pr i j x)
    {q i j x : Nat} {k : Key} (h : off q = some k) (hk : k = key Ts i j x) (hi : i < Ts.length) (hj : j < Ts.length) (hx : x < m) (hq : rm d Ts i j x = q) (hmin : ∀ q' k', off q' = some k' → ¬ Klt k' k) : FI d m (Ts ++ [kt Ts i j x]) := by
  have hn : q ∉ rooms d Ts := (O.some_ q k h).1
  have inS : (kt Ts i j x).ok m ∧ run d (kt Ts i j x) ∉ rooms d Ts := ⟨F.kt_ok hi hj hx, by show rm d Ts i j x ∉ _; rw [hq]; exact hn⟩
  obtain ⟨u, hu⟩ := Least.ex (S := fun t => t.ok m ∧ run d t ∉ rooms d Ts) inS
  obtain ⟨i', j', x', hi', hj', hx', eu⟩ := F.next hu
  have e : u = kt Ts i j x := by
    rcases hu.2 _ inS with e | e
    · exact e
    · exfalso
      rw [eu] at e
      have h1 := kt_lt F.sorted hi' hj' hi hj e
      obtain ⟨k', hk', hle⟩ := O.all i' j' x' (hP i' j' x' hi' hj' hx') (by have := hu.1.2; rw [eu] at this; exact this)
      refine Klt.not_trans hle (hmin _ k' hk') ?_
      rw [hk]; exact h1
  rw [e] at hu
  have fT : First d m (run d (kt Ts i j x)) (kt Ts i j x) := ⟨⟨inS.1, rfl⟩, fun t ⟨ot, et⟩ => hu.2 t ⟨ot, by rw [et]; exact inS.2⟩⟩
  refine ⟨?_, fun T hT => ?_, ?_, fun T hT t ft lt => ?_⟩
  · rw [List.getElem?_append_left F.pos]; exact F.zero
  · rcases List.mem_append.mp hT with hT | hT
    · exact F.first T hT
    · rw [List.mem_singleton.mp hT]; exact fT
  · refine List.pairwise_append.mpr ⟨F.sorted, List.pairwise_singleton _ _, fun T hT T' hT' => ?_⟩
    rw [List.mem_singleton.mp hT']
    rcases Tlt.tri T (kt Ts i j x) with z | z | z
    · exact (inS.2 (List.mem_map.mpr ⟨T, hT, by rw [z]⟩)).elim
    · exact z
    · exact (inS.2 (List.mem_map.mpr ⟨_, F.down T hT _ fT z, rfl⟩)).elim
  · rcases List.mem_append.mp hT with hT | hT
    · exact List.mem_append_left _ (F.down T hT t ft lt)
    · rw [List.mem_singleton.mp hT] at lt
      refine List.mem_append_left _ (F.uniq ft ?_)
      apply Classical.byContradiction
      intro z
      rcases hu.2 t ⟨ft.1.1, z⟩ with e' | e'
      · rw [e'] at lt; exact Tlt.irrefl _ lt
      · exact lt.asymm e'

/-- where nothing is offered all rooms have a row -/
theorem FI.full {Ts : List Tree} {Pr : Nat → Nat → Nat → Prop} {off : Nat → Option Key} (F : FI d m Ts) (O : OffOk d m Ts Pr off) (hP : ∀ i j x, i < Ts.length → j < Ts.length → x < m → Pr i j x)
    (h : ∀ q, off q = none) {t : Tree} (ht : t.ok m) : run d t ∈ rooms d Ts := by
  apply Classical.byContradiction
  intro hn
  obtain ⟨u, hu⟩ := Least.ex (S := fun t => t.ok m ∧ run d t ∉ rooms d Ts) ⟨ht, hn⟩
  obtain ⟨i, j, x, hi, hj, hx, eu⟩ := F.next hu
  obtain ⟨k, hk, _⟩ := O.all i j x (hP i j x hi hj hx) (by have := hu.1.2; rw [eu] at this; exact this)
  rw [h] at hk; cases hk

theorem OffOk.start : OffOk d m [.nil] (fun _ _ _ => False) (fun _ => none) :=
  ⟨fun _ _ _ h => h.elim, (fun _ _ h => nomatch h), fun _ _ _ h => h.elim⟩
/-- one offer looked at -/
theorem OffOk.offer {Ts : List Tree} {Pr : Nat → Nat → Nat → Prop} {off off' : Nat → Option Key} (O : OffOk d m Ts Pr off) {i j x : Nat} (hi : i < Ts.length) (hj : j < Ts.length) (hx : x < m)
    (h : ∀ q, off' q = if q = rm d Ts i j x ∧ q ∉ rooms d Ts ∧ (∀ k, off q = some k → Klt (key Ts i j x) k) then some (key Ts i j x) else off q) :
    OffOk d m Ts (fun a b c => Pr a b c ∨ (a = i ∧ b = j ∧ c = x)) off' := by
  refine ⟨fun a b c hp => ?_, fun q k hq => ?_, fun a b c hp hn => ?_⟩
  · rcases hp with hp | ⟨rfl, rfl, rfl⟩
    · exact O.lim a b c hp
    · exact ⟨hi, hj, hx⟩
  · rw [h] at hq
    by_cases c : q = rm d Ts i j x ∧ q ∉ rooms d Ts ∧ (∀ k, off q = some k → Klt (key Ts i j x) k)
    · rw [if_pos c] at hq
      cases hq
      exact ⟨c.2.1, i, j, x, .inr ⟨rfl, rfl, rfl⟩, c.1.symm, rfl⟩
    · rw [if_neg c] at hq
      obtain ⟨h1, a, b, y, h2, h3⟩ := O.some_ q k hq
      exact ⟨h1, a, b, y, .inl h2, h3⟩
  · rw [h]
    have irr : ∀ k : Key, ¬ Klt k k := fun k => by unfold Klt; omega
    by_cases cc : rm d Ts a b c = rm d Ts i j x ∧ rm d Ts a b c ∉ rooms d Ts ∧ (∀ k, off (rm d Ts a b c) = some k → Klt (key Ts i j x) k)
    · rw [if_pos cc]
      refine ⟨_, rfl, ?_⟩
      rcases hp with hp | ⟨rfl, rfl, rfl⟩
      · obtain ⟨k, hk, hle⟩ := O.all _ _ _ hp hn
        have h2 := cc.2.2 k hk
        intro h3
        revert hle h2 h3
        unfold Klt
        omega
      · exact irr _
    · rw [if_neg cc]
      rcases hp with hp | ⟨rfl, rfl, rfl⟩
      · exact O.all _ _ _ hp hn
      · have cn := cc
        have : ¬ ∀ k, off (rm d Ts a b c) = some k → Klt (key Ts a b c) k := fun z => cn ⟨rfl, hn, z⟩
        cases e : off (rm d Ts a b c) with
        | none => exact absurd (fun k hk => by rw [e] at hk; cases hk) this
        | some k =>
          refine ⟨k, rfl, fun z => this fun k' hk' => ?_⟩
          rw [e] at hk'; cases hk'; exact z
theorem OffOk.weak {Ts : List Tree} {Pr Pr' : Nat → Nat → Nat → Prop} {off : Nat → Option Key} (O : OffOk d m Ts Pr off) (h : ∀ a b c, Pr a b c ↔ Pr' a b c) : OffOk d m Ts Pr' off :=
  ⟨fun a b c p => O.lim a b c ((h a b c).mpr p), fun q k hq => let ⟨h1, a, b, c, p, r⟩ := O.some_ q k hq; ⟨h1, a, b, c, (h a b c).mp p, r⟩, fun a b c p => O.all a b c ((h a b c).mpr p)⟩
/-- a row is added, its offer taken away -/
theorem OffOk.push {Ts : List Tree} {Pr : Nat → Nat → Nat → Prop} {off off' : Nat → Option Key} {T : Tree} (O : OffOk d m Ts Pr off) (h : ∀ q, off' q = if q = run d T then none else off q) : OffOk d m (Ts ++ [T]) Pr off' := by
  have hrm : ∀ a b c, Pr a b c → rm d (Ts ++ [T]) a b c = rm d Ts a b c := fun a b c p => by
    obtain ⟨h1, h2, _⟩ := O.lim a b c p
    unfold rm kt; rw [at_app h1, at_app h2]
  have hro : ∀ q, q ∈ rooms d (Ts ++ [T]) ↔ q ∈ rooms d Ts ∨ q = run d T := fun q => by
    unfold rooms; rw [List.map_append, List.mem_append]; simp
  refine ⟨fun a b c p => ?_, fun q k hq => ?_, fun a b c p hn => ?_⟩
  · obtain ⟨h1, h2, h3⟩ := O.lim a b c p
    rw [List.length_append]; simp only [List.length_singleton]; omega
  · rw [h] at hq
    by_cases c : q = run d T
    · rw [if_pos c] at hq; cases hq
    · rw [if_neg c] at hq
      obtain ⟨h1, a, b, y, p, h2, h3⟩ := O.some_ q k hq
      obtain ⟨l1, l2, _⟩ := O.lim a b y p
      exact ⟨fun z => ((hro q).mp z).elim h1 c, a, b, y, p, by rw [hrm a b y p]; exact h2, by rw [key_app l1 l2]; exact h3⟩
  · rw [hrm a b c p] at hn ⊢
    have n1 : rm d Ts a b c ∉ rooms d Ts := fun z => hn ((hro _).mpr (.inl z))
    have n2 : rm d Ts a b c ≠ run d T := fun z => hn ((hro _).mpr (.inr z))
    obtain ⟨k, hk, hle⟩ := O.all a b c p n1
    obtain ⟨l1, l2, _⟩ := O.lim a b c p
    exact ⟨k, by rw [h, if_neg n2]; exact hk, by rw [key_app l1 l2]; exact hle⟩
end

/-- what the rows are -/
structure Firsts (d : Nat → Nat → Nat → Nat) (m : Nat) (Ts : List Tree) : Prop where
  fi : FI d m Ts
  all : ∀ t : Tree, t.ok m → run d t ∈ rooms d Ts
theorem FI.rooms_nodup {d : Nat → Nat → Nat → Nat} {m : Nat} {Ts : List Tree} (F : FI d m Ts) : (rooms d Ts).Nodup := by
  unfold rooms List.Nodup
  rw [List.pairwise_map]
  refine List.Pairwise.imp_of_mem (fun {a b} ha hb h e => ?_) F.sorted
  have h1 := F.first a ha
  have h2 := F.first b hb
  rw [e] at h1
  rw [h1.uniq h2] at h
  exact Tlt.irrefl _ h

/-- the first row whose room is in G has the least tree that comes into G -/
theorem Firsts.least {d : Nat → Nat → Nat → Nat} {m : Nat} {Ts : List Tree} (F : Firsts d m Ts) (G : Nat → Bool) :
    (∀ T, Ts.find? (fun T => G (run d T)) = some T → Least (fun t => t.ok m ∧ G (run d t) = true) T) ∧
    (Ts.find? (fun T => G (run d T)) = none → ∀ t : Tree, t.ok m → G (run d t) = false) := by
  refine ⟨fun T h => ?_, fun h t ot => ?_⟩
  · have hg : G (run d T) = true := by simpa using List.find?_some h
    have hT := List.mem_of_find?_eq_some h
    refine ⟨⟨F.fi.ok_ hT, hg⟩, fun t ⟨ot, gt⟩ => ?_⟩
    obtain ⟨T', hT', e⟩ := List.mem_map.mp (F.all t ot)
    have f1 := F.fi.first T' hT'
    -- T is not behind T'
    have hle : T = T' ∨ Tlt T T' := by
      rcases Tlt.tri T T' with z | z | z
      · exact .inl z
      · exact .inr z
      · exfalso
        obtain ⟨i, hi, ei⟩ := mem_at hT
        obtain ⟨j, hj, ej⟩ := mem_at hT'
        have hji : j < i := (sorted_iff F.fi.sorted hj hi).mp (by rw [ei, ej]; exact z)
        obtain ⟨_, as, bs, e1, e2⟩ := List.find?_eq_some_iff_append.mp h
        have hlen : as.length = i := by
          refine sorted_inj F.fi.sorted (by rw [e1, List.length_append, List.length_cons]; omega) hi ?_
          rw [ei]
          refine at_get ?_
          rw [e1, List.getElem?_append_right (Nat.le_refl _)]; simp
        have hm : T' ∈ as := by
          have q : at_ Ts j = at_ as j := by
            unfold at_
            rw [List.getD_eq_getElem?_getD, List.getD_eq_getElem?_getD, e1, List.getElem?_append_left (by omega)]
          rw [← ej, q]
          exact at_mem (by omega)
        have := e2 T' hm
        rw [e] at this
        simp [gt] at this
    have hle2 : T' = t ∨ Tlt T' t := f1.2 t ⟨ot, e.symm⟩
    rcases hle with z | z
    · rw [z]; exact hle2
    · rcases hle2 with z2 | z2
      · rw [← z2]; exact .inr z
      · exact .inr (z.trans z2)
  · obtain ⟨T', hT', e⟩ := List.mem_map.mp (F.all t ot)
    have := List.find?_eq_none.mp h T' hT'
    rw [e] at this
    simpa using this
end Tk
set_option linter.all false
/-! Numbers by first appearance, Moore's rounds, the least machine of a language. -/
namespace Tk
open Tree

/-! ### numbers by first appearance -/
inductive FAn : List Nat → Nat → Prop
  | nil : FAn [] 0
  | old {l : List Nat} {n k : Nat} : FAn l n → k < n → FAn (l ++ [k]) n
  | new {l : List Nat} {n : Nat} : FAn l n → FAn (l ++ [n]) (n + 1)
theorem FAn.lt {l : List Nat} {n : Nat} (h : FAn l n) : ∀ x ∈ l, x < n := by
  induction h with
  | nil => intro x hx; cases hx
  | old _ hk ih => intro x hx; rcases List.mem_append.mp hx with q | q; exact ih x q; rw [List.mem_singleton.mp q]; exact hk
  | new _ ih => intro x hx; rcases List.mem_append.mp hx with q | q; exact Nat.lt_succ_of_lt (ih x q); rw [List.mem_singleton.mp q]; exact Nat.lt_succ_self _
theorem FAn.mem {l : List Nat} {n : Nat} (h : FAn l n) : ∀ k, k < n → k ∈ l := by
  induction h with
  | nil => intro k hk; omega
  | old _ _ ih => intro k hk; exact List.mem_append_left _ (ih k hk)
  | @new l n _ ih =>
    intro k hk
    by_cases e : k = n
    · rw [e]; exact List.mem_append_right _ (List.mem_singleton.mpr rfl)
    · exact List.mem_append_left _ (ih k (by omega))
theorem FAn.le {l : List Nat} {n : Nat} (h : FAn l n) : n ≤ l.length := by
  induction h with
  | nil => exact Nat.le_refl _
  | old _ _ ih => rw [List.length_append]; omega
  | new _ ih => rw [List.length_append, List.length_singleton]; omega
theorem snocInd {α : Type} {p : List α → Prop} (h0 : p []) (hs : ∀ l a, p l → p (l ++ [a])) (l : List α) : p l := by
  have : ∀ r : List α, p r.reverse := by
    intro r
    induction r with
    | nil => exact h0
    | cons a r ih => rw [List.reverse_cons]; exact hs _ a ih
  have := this l.reverse
  rwa [List.reverse_reverse] at this
theorem FAn.early {l : List Nat} {n : Nat} (h : FAn l n) : ∀ (i v : Nat), l[i]? = some v → ∀ j : Nat, j < v → ∃ i' : Nat, i' < i ∧ l[i']? = some j := by
  induction h with
  | nil => intro i v hv; simp at hv
  | @old l n k hl hk ih =>
    intro i v hv j hj
    by_cases hi : i < l.length
    · rw [List.getElem?_append_left hi] at hv
      obtain ⟨i', h1, h2⟩ := ih i v hv j hj
      exact ⟨i', h1, by rw [List.getElem?_append_left (by omega)]; exact h2⟩
    · rw [List.getElem?_append_right (by omega)] at hv
      have ei : i = l.length := by
        have := (List.getElem?_eq_some_iff.mp hv).1
        simp only [List.length_singleton] at this; omega
      subst ei
      simp at hv
      subst hv
      obtain ⟨i', h1⟩ := List.mem_iff_getElem?.mp (hl.mem j (by omega))
      have := (List.getElem?_eq_some_iff.mp h1).1
      exact ⟨i', this, by rw [List.getElem?_append_left this]; exact h1⟩
  | @new l n hl ih =>
    intro i v hv j hj
    by_cases hi : i < l.length
    · rw [List.getElem?_append_left hi] at hv
      obtain ⟨i', h1, h2⟩ := ih i v hv j hj
      exact ⟨i', h1, by rw [List.getElem?_append_left (by omega)]; exact h2⟩
    · rw [List.getElem?_append_right (by omega)] at hv
      have ei : i = l.length := by
        have := (List.getElem?_eq_some_iff.mp hv).1
        simp only [List.length_singleton] at this; omega
      subst ei
      simp at hv
      subst hv
      obtain ⟨i', h1⟩ := List.mem_iff_getElem?.mp (hl.mem j hj)
      have := (List.getElem?_eq_some_iff.mp h1).1
      exact ⟨i', this, by rw [List.getElem?_append_left this]; exact h1⟩

/-- a finer numbering has as many numbers at least; as many only where it is the same -/
theorem FAn.finer {f : List Nat} {a : Nat} (hf : FAn f a) : ∀ {s : List Nat} {b : Nat}, FAn s b → f.length = s.length →
    (∀ (i j : Nat) p q, f[i]? = some p → f[j]? = some p → s[i]? = some q → s[j]? = some q) → b ≤ a ∧ (a = b → f = s) := by
  induction hf with
  | nil =>
    intro s b hs hl _
    have : s = [] := List.length_eq_zero_iff.mp hl.symm
    subst this
    have := hs.le
    exact ⟨by simpa using this, fun _ => rfl⟩
  | @old f a p hf hp ih =>
    intro s b hs hl hr
    have go : ∀ (s : List Nat) (q b' : Nat), FAn s b' → f.length = s.length → (∀ (i j : Nat) p' q', (f ++ [p])[i]? = some p' → (f ++ [p])[j]? = some p' → (s ++ [q])[i]? = some q' → (s ++ [q])[j]? = some q') → b' ≤ a ∧ (a = b' → f = s) ∧ ∃ i : Nat, f[i]? = some p ∧ s[i]? = some q := by
      intro s q b' hs' hl' hr'
      obtain ⟨h1, h2⟩ := ih hs' hl' fun i j p' q' e1 e2 e3 => by
        have l1 := (List.getElem?_eq_some_iff.mp e1).1
        have l2 := (List.getElem?_eq_some_iff.mp e2).1
        have := hr' i j p' q' (by rw [List.getElem?_append_left l1]; exact e1) (by rw [List.getElem?_append_left l2]; exact e2) (by rw [List.getElem?_append_left (by omega)]; exact e3)
        rwa [List.getElem?_append_left (by omega)] at this
      refine ⟨h1, h2, ?_⟩
      obtain ⟨i, hi⟩ := List.mem_iff_getElem?.mp (hf.mem p hp)
      have l1 := (List.getElem?_eq_some_iff.mp hi).1
      refine ⟨i, hi, ?_⟩
      have := hr' f.length i p q (by simp) (by rw [List.getElem?_append_left l1]; exact hi) (by rw [hl']; simp)
      rwa [List.getElem?_append_left (by omega)] at this
    cases hs with
    | nil => simp at hl
    | @old s b q hs' hq =>
      obtain ⟨h1, h2, i, e1, e2⟩ := go s q b hs' (by simpa using hl) hr
      refine ⟨h1, fun e => ?_⟩
      have e0 := h2 e
      subst e0
      rw [e1] at e2; cases e2; rfl
    | @new s b hs' =>
      obtain ⟨h1, h2, i, e1, e2⟩ := go s b b hs' (by simpa using hl) hr
      have := hs'.lt b (List.mem_of_getElem? e2)
      omega
  | @new f a hf ih =>
    intro s b hs hl hr
    have go : ∀ (s : List Nat) (q b' : Nat), FAn s b' → f.length = s.length → (∀ (i j : Nat) p' q', (f ++ [a])[i]? = some p' → (f ++ [a])[j]? = some p' → (s ++ [q])[i]? = some q' → (s ++ [q])[j]? = some q') → b' ≤ a ∧ (a = b' → f = s) := by
      intro s q b' hs' hl' hr'
      exact ih hs' hl' fun i j p' q' e1 e2 e3 => by
        have l1 := (List.getElem?_eq_some_iff.mp e1).1
        have l2 := (List.getElem?_eq_some_iff.mp e2).1
        have := hr' i j p' q' (by rw [List.getElem?_append_left l1]; exact e1) (by rw [List.getElem?_append_left l2]; exact e2) (by rw [List.getElem?_append_left (by omega)]; exact e3)
        rwa [List.getElem?_append_left (by omega)] at this
    cases hs with
    | nil => simp at hl
    | @old s b q hs' hq =>
      obtain ⟨h1, h2⟩ := go s q b hs' (by simpa using hl) hr
      exact ⟨by omega, fun e => by omega⟩
    | @new s b hs' =>
      obtain ⟨h1, h2⟩ := go s b b hs' (by simpa using hl) hr
      refine ⟨by omega, fun e => ?_⟩
      have e0 : a = b := by omega
      rw [h2 e0, e0]

/-! ### the first of each kind, in their order; what is numbered by it -/
section
variable {α : Type} [DecidableEq α]
def metS (ks : List α) (a : α) : List α := if a ∈ ks then ks else ks ++ [a]
def met1 (l : List α) : List α := l.foldl metS []
theorem met1_snoc (l : List α) (a : α) : met1 (l ++ [a]) = metS (met1 l) a := by unfold met1; rw [List.foldl_append]; rfl
theorem mem_met1 (l : List α) : ∀ a, a ∈ met1 l ↔ a ∈ l := by
  induction l using snocInd with
  | h0 => intro a; rfl
  | hs l b ih =>
    intro a
    rw [met1_snoc, List.mem_append, List.mem_singleton]
    unfold metS
    by_cases h : b ∈ met1 l
    · rw [if_pos h, ih a]
      constructor
      · exact .inl
      · rintro (q | q)
        · exact q
        · rw [q]; exact (ih b).mp h
    · rw [if_neg h, List.mem_append, List.mem_singleton, ih a]
theorem met1_nodup (l : List α) : (met1 l).Nodup := by
  induction l using snocInd with
  | h0 => exact List.nodup_nil
  | hs l b ih =>
    rw [met1_snoc]
    unfold metS
    by_cases h : b ∈ met1 l
    · rw [if_pos h]; exact ih
    · rw [if_neg h]
      exact List.nodup_append.mpr ⟨ih, by simp, fun a ha c hc => by rw [List.mem_singleton.mp hc]; rintro rfl; exact h ha⟩
end
/-- where a thing stands -/
def place {α : Type} [DecidableEq α] (a : α) : List α → Nat
  | [] => 0
  | b :: r => if a = b then 0 else place a r + 1
theorem place_lt {α : Type} [DecidableEq α] {a : α} : ∀ {l : List α}, a ∈ l → place a l < l.length
  | b :: r, h => by
    unfold place
    by_cases e : a = b
    · rw [if_pos e]; simp
    · rw [if_neg e]
      rcases List.mem_cons.mp h with q | q
      · exact (e q).elim
      · have := place_lt q; simp only [List.length_cons]; omega
theorem place_get {α : Type} [DecidableEq α] {a : α} : ∀ {l : List α}, a ∈ l → l[place a l]? = some a
  | b :: r, h => by
    unfold place
    by_cases e : a = b
    · rw [if_pos e, e]; rfl
    · rw [if_neg e]
      rcases List.mem_cons.mp h with q | q
      · exact (e q).elim
      · rw [List.getElem?_cons_succ]; exact place_get q
theorem place_app {α : Type} [DecidableEq α] {a : α} {r : List α} : ∀ {l : List α}, a ∈ l → place a (l ++ r) = place a l
  | b :: l, h => by
    show place a (b :: (l ++ r)) = place a (b :: l)
    unfold place
    by_cases e : a = b
    · rw [if_pos e, if_pos e]
    · rw [if_neg e, if_neg e]
      rcases List.mem_cons.mp h with q | q
      · exact (e q).elim
      · rw [place_app q]
theorem place_new {α : Type} [DecidableEq α] {a : α} : ∀ {l : List α}, a ∉ l → place a (l ++ [a]) = l.length
  | [], _ => by show (if a = a then 0 else _) = 0; rw [if_pos rfl]
  | b :: l, h => by
    show place a (b :: (l ++ [a])) = _
    unfold place
    rw [if_neg fun e => h (by rw [e]; exact List.mem_cons_self), place_new fun z => h (List.mem_cons_of_mem _ z)]
    rfl
theorem place_inj {α : Type} [DecidableEq α] {a b : α} {l : List α} (ha : a ∈ l) (hb : b ∈ l) (e : place a l = place b l) : a = b := by
  have h1 := place_get ha
  rw [e, place_get hb] at h1
  exact (Option.some.inj h1).symm
theorem metS_place {α : Type} [DecidableEq α] {ks : List α} {a b : α} (h : a ∈ ks) : place a (metS ks b) = place a ks := by
  unfold metS
  by_cases q : b ∈ ks
  · rw [if_pos q]
  · rw [if_neg q, place_app h]

/-- looks numbered as they are met -/
def nums {α : Type} [DecidableEq α] (l : List α) : List Nat := l.map fun a => place a (met1 l)
theorem nums_snoc {α : Type} [DecidableEq α] (l : List α) (b : α) : nums (l ++ [b]) = nums l ++ [place b (metS (met1 l) b)] := by
  unfold nums
  rw [List.map_append, met1_snoc]
  congr 1
  exact List.map_congr_left fun a ha => metS_place ((mem_met1 l a).mpr ha)
theorem nums_fa {α : Type} [DecidableEq α] (l : List α) : FAn (nums l) (met1 l).length := by
  induction l using snocInd with
  | h0 => exact .nil
  | hs l b ih =>
    rw [nums_snoc, met1_snoc]
    unfold metS
    by_cases h : b ∈ met1 l
    · rw [if_pos h]; exact .old ih (place_lt h)
    · rw [if_neg h, place_new h, List.length_append]; exact .new ih
theorem nums_get {α : Type} [DecidableEq α] {l : List α} {i : Nat} {a : α} (h : l[i]? = some a) : (nums l)[i]? = some (place a (met1 l)) := by
  unfold nums; rw [List.getElem?_map, h]; rfl

/-! ### rounds -/
section
variable (d : Nat → Nat → Nat → Nat) (m : Nat) (good : Nat → Bool) (met : List Nat)
abbrev Ctx := List (Bool × Nat × Nat)
def st1 (a : Nat) (c : Bool × Nat × Nat) : Nat := if c.1 then d c.2.1 c.2.2 a else d c.2.1 a c.2.2
def CtxOk (C : Ctx) : Prop := ∀ c ∈ C, c.2.1 < m ∧ c.2.2 ∈ met
def SameR (a b : Nat) : Prop := ∀ C : Ctx, CtxOk m met C → good (C.foldl (st1 d) a) = good (C.foldl (st1 d) b)
structure MetOk : Prop where
  nd : met.Nodup
  shut : ∀ x a b, x < m → a ∈ met → b ∈ met → d x a b ∈ met
structure RI (sh : Nat → Nat) (K : Nat) : Prop where
  fa : FAn (met.map sh) K
  gd : ∀ a b, a ∈ met → b ∈ met → sh a = sh b → good a = good b
  coarse : ∀ a b, a ∈ met → b ∈ met → SameR d m good met a b → sh a = sh b
def Stable (sh : Nat → Nat) : Prop := ∀ a b, a ∈ met → b ∈ met → sh a = sh b → ∀ x c, x < m → c ∈ met → sh (d x a c) = sh (d x b c) ∧ sh (d x c a) = sh (d x c b)
def look (sh : Nat → Nat) (a : Nat) : List Nat := sh a :: (List.range m).flatMap fun x => met.flatMap fun c => [sh (d x a c), sh (d x c a)]
end
theorem flatMap_inj {α β : Type} {f g : α → List β} (hl : ∀ x, (f x).length = (g x).length) : ∀ {l : List α}, l.flatMap f = l.flatMap g → ∀ x ∈ l, f x = g x
  | [], _, x, h => by cases h
  | a :: l, e, x, h => by
    rw [List.flatMap_cons, List.flatMap_cons] at e
    obtain ⟨e1, e2⟩ := List.append_inj e (hl a)
    rcases List.mem_cons.mp h with q | q
    · rw [q]; exact e1
    · exact flatMap_inj hl e2 x q
section
variable {d : Nat → Nat → Nat → Nat} {m : Nat} {good : Nat → Bool} {met : List Nat} {sh sh' : Nat → Nat} {K K' : Nat}
theorem look_len (x : Nat) (a b : Nat) : (met.flatMap fun c => [sh (d x a c), sh (d x c a)]).length = (met.flatMap fun c => [sh (d x b c), sh (d x c b)]).length := by
  simp [List.length_flatMap]
theorem look_iff {a b : Nat} : look d m met sh a = look d m met sh b ↔ sh a = sh b ∧ ∀ x c, x < m → c ∈ met → sh (d x a c) = sh (d x b c) ∧ sh (d x c a) = sh (d x c b) := by
  unfold look
  constructor
  · intro h
    obtain ⟨h1, h2⟩ := List.cons.inj h
    refine ⟨h1, fun x c hx hc => ?_⟩
    have h3 := flatMap_inj (fun x => look_len x a b) h2 x (List.mem_range.mpr hx)
    have h4 := flatMap_inj (fun c => by rfl) h3 c hc
    simp at h4
    exact h4
  · rintro ⟨h1, h2⟩
    rw [h1]
    congr 1
    have : ∀ x ∈ List.range m, (met.flatMap fun c => [sh (d x a c), sh (d x c a)]) = (met.flatMap fun c => [sh (d x b c), sh (d x c b)]) := fun x hx => by
      have : ∀ c ∈ met, [sh (d x a c), sh (d x c a)] = [sh (d x b c), sh (d x c b)] := fun c hc => by
        obtain ⟨q1, q2⟩ := h2 x c (List.mem_range.mp hx) hc
        rw [q1, q2]
      rw [List.flatMap_def, List.flatMap_def, List.map_congr_left this]
    rw [List.flatMap_def, List.flatMap_def, List.map_congr_left this]

theorem SameR.step {a b : Nat} (h : SameR d m good met a b) {s : Bool} {x c : Nat} (hx : x < m) (hc : c ∈ met) : SameR d m good met (st1 d a (s, x, c)) (st1 d b (s, x, c)) := fun C hC =>
  h ((s, x, c) :: C) fun c' hc' => by
    rcases List.mem_cons.mp hc' with e | e
    · rw [e]; exact ⟨hx, hc⟩
    · exact hC c' e

/-- the numbering as a function of rooms: the looks' numbers at the rooms -/
def Nums (met : List Nat) {α : Type} [DecidableEq α] (lk : Nat → α) (sh : Nat → Nat) : Prop := ∀ a ∈ met, sh a = place (lk a) (met1 (met.map lk))
theorem Nums.eq {α : Type} [DecidableEq α] {lk : Nat → α} (N : Nums met lk sh) : met.map sh = nums (met.map lk) := by
  unfold nums; rw [List.map_map]; exact List.map_congr_left fun a ha => N a ha
theorem Nums.iff {α : Type} [DecidableEq α] {lk : Nat → α} (N : Nums met lk sh) {a b : Nat} (ha : a ∈ met) (hb : b ∈ met) : sh a = sh b ↔ lk a = lk b := by
  rw [N a ha, N b hb]
  constructor
  · exact place_inj ((mem_met1 _ _).mpr (List.mem_map_of_mem ha)) ((mem_met1 _ _).mpr (List.mem_map_of_mem hb))
  · intro e; rw [e]

theorem RI.start (N : Nums met good sh) : RI d m good met sh (met1 (met.map good)).length :=
  ⟨by rw [N.eq]; exact nums_fa _, fun a b ha hb e => (N.iff ha hb).mp e, fun a b ha hb h => (N.iff ha hb).mpr (h [] (fun c hc => by cases hc))⟩
theorem RI.next (R : RI d m good met sh K) (M : MetOk d m met) (N : Nums met (look d m met sh) sh') : RI d m good met sh' (met1 (met.map (look d m met sh))).length :=
  ⟨by rw [N.eq]; exact nums_fa _, fun a b ha hb e => R.gd a b ha hb (look_iff.mp ((N.iff ha hb).mp e)).1, fun a b ha hb h => by
    refine (N.iff ha hb).mpr (look_iff.mpr ⟨R.coarse a b ha hb h, fun x c hx hc => ⟨?_, ?_⟩⟩)
    · exact R.coarse _ _ (M.shut x a c hx ha hc) (M.shut x b c hx hb hc) (h.step (s := false) hx hc)
    · exact R.coarse _ _ (M.shut x c a hx hc ha) (M.shut x c b hx hc hb) (h.step (s := true) hx hc)⟩
theorem RI.more (R : RI d m good met sh K) (N : Nums met (look d m met sh) sh') (hK : K' = (met1 (met.map (look d m met sh))).length) : K ≤ K' ∧ (K' = K → Stable d m met sh) := by
  have fa' : FAn (met.map sh') K' := by rw [N.eq, hK]; exact nums_fa _
  obtain ⟨h1, h2⟩ := fa'.finer R.fa (by simp) fun i j p q e1 e2 e3 => by
    rw [List.getElem?_map] at e1 e2 e3 ⊢
    cases ei : met[i]? with
    | none => rw [ei] at e1; cases e1
    | some a =>
      cases ej : met[j]? with
      | none => rw [ej] at e2; cases e2
      | some b =>
        rw [ei] at e1 e3; rw [ej] at e2
        have ha := List.mem_of_getElem? ei
        have hb := List.mem_of_getElem? ej
        simp only [Option.map_some, Option.some.injEq] at e1 e2 e3 ⊢
        rw [← e3]
        exact ((look_iff.mp ((N.iff ha hb).mp (e1.trans e2.symm))).1).symm
  refine ⟨h1, fun e a b ha hb hs => ?_⟩
  have e0 := h2 e
  have key : ∀ a ∈ met, sh' a = sh a := fun a ha => by
    obtain ⟨i, hi⟩ := List.mem_iff_getElem?.mp ha
    have := congrArg (fun l : List Nat => l[i]?) e0
    simp only [List.getElem?_map, hi, Option.map_some, Option.some.injEq] at this
    exact this
  exact (look_iff.mp ((N.iff ha hb).mp (by rw [key a ha, key b hb]; exact hs))).2
theorem RI.bound (R : RI d m good met sh K) : K ≤ met.length := by
  have := R.fa.le
  simpa using this
end

/-! ### the least machine of a language -/
structure Mach where
  names : List Nat
  good : List Bool
  table : List (List (List Nat))
  deriving DecidableEq
namespace Mach
def rooms (M : Mach) : Nat := M.good.length
def letters (M : Mach) : Nat := 2 ^ M.names.length
def d (M : Mach) (x l r : Nat) : Nat := ((M.table.getD x []).getD l []).getD r 0
def g (M : Mach) (q : Nat) : Bool := M.good.getD q false
def L (M : Mach) (t : Tree) : Bool := M.g (run M.d t)
structure Ok (M : Mach) : Prop where
  pos : 0 < M.rooms
  tl : M.table.length = M.letters
  rl : ∀ (x : Nat) rows, M.table[x]? = some rows → rows.length = M.rooms ∧ ∀ (l : Nat) row, rows[l]? = some row → row.length = M.rooms ∧ ∀ v ∈ row, v < M.rooms
theorem Ok.rows {M : Mach} (h : M.Ok) {x : Nat} (hx : x < M.letters) : ∃ rows, M.table[x]? = some rows ∧ rows.length = M.rooms := by
  have hl : x < M.table.length := by rw [h.tl]; exact hx
  exact ⟨_, List.getElem?_eq_getElem hl, (h.rl x _ (List.getElem?_eq_getElem hl)).1⟩
theorem Ok.entry {M : Mach} (h : M.Ok) {x l r : Nat} (hx : x < M.letters) (hl : l < M.rooms) (hr : r < M.rooms) :
    ∃ rows row, M.table[x]? = some rows ∧ rows[l]? = some row ∧ row[r]? = some (M.d x l r) ∧ M.d x l r < M.rooms := by
  obtain ⟨rows, e1, h1⟩ := h.rows hx
  have hl' : l < rows.length := by omega
  have e2 := List.getElem?_eq_getElem hl'
  obtain ⟨h2, h3⟩ := (h.rl x rows e1).2 l _ e2
  have hr' : r < (rows[l]).length := by omega
  have e3 := List.getElem?_eq_getElem hr'
  have ed : M.d x l r = (rows[l])[r] := by
    unfold d
    simp only [List.getD_eq_getElem?_getD, e1, Option.getD_some, e2, e3]
  refine ⟨rows, rows[l], e1, e2, by rw [ed]; exact e3, ?_⟩
  rw [ed]; exact h3 _ (List.getElem_mem hr')
theorem Ok.run {M : Mach} (h : M.Ok) : ∀ {t : Tree}, t.ok M.letters → Tk.run M.d t < M.rooms
  | .nil, _ => h.pos
  | .node l r x, o => by
    obtain ⟨_, _, _, _, _, q⟩ := h.entry o.2.2 (Ok.run h o.1) (Ok.run h o.2.1)
    exact q
end Mach

abbrev TCtx := List (Bool × Nat × Tree)
def plug1 (t : Tree) (c : Bool × Nat × Tree) : Tree := if c.1 then .node c.2.2 t c.2.1 else .node t c.2.2 c.2.1
def TCtxOk (m : Nat) (C : TCtx) : Prop := ∀ c ∈ C, c.2.1 < m ∧ c.2.2.ok m
def SameL (m : Nat) (L : Tree → Bool) (t u : Tree) : Prop := ∀ C : TCtx, TCtxOk m C → L (C.foldl plug1 t) = L (C.foldl plug1 u)
/-- R is the least machine of the language L of trees over m letters -/
structure IsLeast (m : Nat) (L : Tree → Bool) (R : Mach) (c : Tree → Nat) : Prop where
  kern : ∀ t u : Tree, t.ok m → u.ok m → (c t = c u ↔ SameL m L t u)
  fa : ∀ t : Tree, t.ok m → ∀ j, j < c t → ∃ u : Tree, u.ok m ∧ Tlt u t ∧ c u = j
  goodL : ∀ t : Tree, t.ok m → R.good[c t]? = some (L t)
  onto : ∀ k, k < R.good.length → ∃ t : Tree, t.ok m ∧ c t = k
  tl : R.table.length = m
  rl : ∀ (x : Nat) (rows : List (List Nat)), R.table[x]? = some rows → rows.length = R.good.length ∧ ∀ (a : Nat) (row : List Nat), rows[a]? = some row → row.length = R.good.length
  tab : ∀ (x : Nat) (l r : Tree), x < m → l.ok m → r.ok m → ((R.table[x]?.bind fun rows => rows[c l]?).bind fun row => row[c r]?) = some (c (.node l r x))

theorem SameL.congr {m : Nat} {L L' : Tree → Bool} (e : ∀ t : Tree, t.ok m → L t = L' t) {t u : Tree} (ht : t.ok m) (hu : u.ok m) : SameL m L t u ↔ SameL m L' t u := by
  have okp : ∀ (C : TCtx) (t : Tree), TCtxOk m C → t.ok m → (C.foldl plug1 t).ok m := by
    intro C
    induction C with
    | nil => intro t _ ht; exact ht
    | cons c C ih =>
      intro t hC ht
      obtain ⟨h1, h2⟩ := hC c List.mem_cons_self
      refine ih _ (fun c' hc' => hC c' (List.mem_cons_of_mem _ hc')) ?_
      unfold plug1
      cases c.1
      · exact ⟨ht, h2, h1⟩
      · exact ⟨h2, ht, h1⟩
  constructor
  · intro h C hC; rw [← e _ (okp C t hC ht), ← e _ (okp C u hC hu)]; exact h C hC
  · intro h C hC; rw [e _ (okp C t hC ht), e _ (okp C u hC hu)]; exact h C hC

section
variable {m : Nat} {L L' : Tree → Bool} {R R' : Mach} {c c' : Tree → Nat}
theorem IsLeast.same (h : IsLeast m L R c) (h' : IsLeast m L' R' c') (e : ∀ t : Tree, t.ok m → L t = L' t) : ∀ t : Tree, t.ok m → c t = c' t := by
  intro t
  induction t using Tlt.wf.induction with
  | _ t ih =>
    intro ot
    rcases Nat.lt_trichotomy (c t) (c' t) with q | q | q
    · obtain ⟨u, ou, lu, eu⟩ := h'.fa t ot (c t) q
      have e1 : c u = c t := (ih u lu ou).trans eu
      have e2 := (h'.kern u t ou ot).mpr ((SameL.congr e ou ot).mp ((h.kern u t ou ot).mp e1))
      omega
    · exact q
    · obtain ⟨u, ou, lu, eu⟩ := h.fa t ot (c' t) q
      have e1 : c' u = c' t := (ih u lu ou).symm.trans eu
      have e2 := (h.kern u t ou ot).mpr ((SameL.congr e ou ot).mpr ((h'.kern u t ou ot).mp e1))
      omega
theorem IsLeast.good_eq (h : IsLeast m L R c) (h' : IsLeast m L' R' c') (e : ∀ t : Tree, t.ok m → L t = L' t) : R.good = R'.good := by
  have ec := h.same h' e
  have hl : ∀ {R R' : Mach} {c c' : Tree → Nat} {L L' : Tree → Bool}, IsLeast m L R c → IsLeast m L' R' c' → (∀ t : Tree, t.ok m → c t = c' t) → R.good.length ≤ R'.good.length := by
    intro R R' c c' L L' h h' ec
    refine Nat.le_of_not_lt fun q => ?_
    obtain ⟨t, ot, et⟩ := h.onto _ q
    have := (List.getElem?_eq_some_iff.mp (h'.goodL t ot)).1
    rw [← ec t ot, et] at this
    omega
  refine List.ext_getElem? fun k => ?_
  by_cases hk : k < R.good.length
  · obtain ⟨t, ot, et⟩ := h.onto k hk
    have g1 := h.goodL t ot
    have g2 := h'.goodL t ot
    rw [← ec t ot, et] at g2
    rw [et] at g1
    rw [g1, g2, e t ot]
  · have := hl h' h fun t ot => (ec t ot).symm
    rw [List.getElem?_eq_none (by omega), List.getElem?_eq_none (by omega)]
theorem IsLeast.uniq (h : IsLeast m L R c) (h' : IsLeast m L' R' c') (e : ∀ t : Tree, t.ok m → L t = L' t) : R.good = R'.good ∧ R.table = R'.table := by
  have ec := h.same h' e
  have eg := h.good_eq h' e
  refine ⟨eg, List.ext_getElem (h.tl.trans h'.tl.symm) fun x h1 h2 => ?_⟩
  have x1 := List.getElem?_eq_getElem h1
  have x2 := List.getElem?_eq_getElem h2
  obtain ⟨l1, r1⟩ := h.rl x _ x1
  obtain ⟨l2, r2⟩ := h'.rl x _ x2
  refine List.ext_getElem (by rw [l1, l2, eg]) fun a h3 h4 => ?_
  have x3 := List.getElem?_eq_getElem h3
  have x4 := List.getElem?_eq_getElem h4
  have l3 := r1 a _ x3
  have l4 := r2 a _ x4
  refine List.ext_getElem (by rw [l3, l4, eg]) fun b h5 h6 => ?_
  obtain ⟨t, ot, et⟩ := h.onto a (by omega)
  obtain ⟨u, ou, eu⟩ := h.onto b (by omega)
  have hx : x < m := by rw [← h.tl]; exact h1
  have t1 := h.tab x t u hx ot ou
  have t2 := h'.tab x t u hx ot ou
  rw [← ec t ot, ← ec u ou, et, eu, x2] at t2
  rw [et, eu, x1] at t1
  simp only [Option.bind_some, x3, x4, List.getElem?_eq_getElem h5, List.getElem?_eq_getElem h6] at t1 t2
  have := ec (.node t u x) ⟨ot, ou, hx⟩
  injection t1 with t1
  injection t2 with t2
  rw [t1, t2, this]
theorem IsLeast.zero (h : IsLeast m L R c) : c .nil = 0 := by
  rcases Nat.eq_zero_or_pos (c .nil) with e | e
  · exact e
  · obtain ⟨u, _, lu, _⟩ := h.fa .nil trivial 0 e
    cases lu with
    | sz q => simp only [size] at q; omega
theorem IsLeast.run (h : IsLeast m L R c) : ∀ {t : Tree}, t.ok m → Tk.run R.d t = c t
  | .nil, _ => h.zero.symm
  | .node l r x, o => by
    have h1 := IsLeast.run h o.1
    have h2 := IsLeast.run h o.2.1
    have t1 := h.tab x l r o.2.2 o.1 o.2.1
    show R.d x (Tk.run R.d l) (Tk.run R.d r) = _
    rw [h1, h2]
    unfold Mach.d
    cases e1 : R.table[x]? with
    | none => rw [e1] at t1; simp at t1
    | some rows =>
      cases e2 : rows[c l]? with
      | none => rw [e1] at t1; simp [e2] at t1
      | some row =>
        rw [e1] at t1
        simp only [Option.bind_some, e2] at t1
        simp only [List.getD_eq_getElem?_getD, e1, Option.getD_some, e2, t1]
/-- the least machine lets by the language -/
theorem IsLeast.lang (h : IsLeast m L R c) {t : Tree} (ot : t.ok m) : R.L t = L t := by
  unfold Mach.L Mach.g
  rw [h.run ot, List.getD_eq_getElem?_getD, h.goodL t ot]; rfl
theorem IsLeast.ok (h : IsLeast m L R c) (hm : m = R.letters) : R.Ok := by
  refine ⟨?_, by rw [h.tl, hm], fun x rows e => ?_⟩
  · have := (List.getElem?_eq_some_iff.mp (h.goodL .nil trivial)).1
    unfold Mach.rooms; omega
  · obtain ⟨l1, r1⟩ := h.rl x rows e
    refine ⟨l1, fun l row e2 => ⟨r1 l row e2, fun v hv => ?_⟩⟩
    obtain ⟨j, hj⟩ := List.mem_iff_getElem?.mp hv
    have hl : l < R.good.length := by rw [← l1]; exact (List.getElem?_eq_some_iff.mp e2).1
    have hj' : j < R.good.length := by rw [← r1 l row e2]; exact (List.getElem?_eq_some_iff.mp hj).1
    have hx : x < m := by rw [← h.tl]; exact (List.getElem?_eq_some_iff.mp e).1
    obtain ⟨t, ot, et⟩ := h.onto l hl
    obtain ⟨u, ou, eu⟩ := h.onto j hj'
    have t1 := h.tab x t u hx ot ou
    rw [et, eu, e] at t1
    simp only [Option.bind_some, e2, hj] at t1
    injection t1 with t1
    rw [t1]
    exact (List.getElem?_eq_some_iff.mp (h.goodL (.node t u x) ⟨ot, ou, hx⟩)).1
end

/-! ### the least machine made of first trees and shades -/
section
variable {M : Mach} {Ts : List Tree} {sh own : Nat → Nat} {K : Nat}
theorem Firsts.metOk {d : Nat → Nat → Nat → Nat} {m : Nat} {Ts : List Tree} (F : Firsts d m Ts) : MetOk d m (rooms d Ts) := by
  refine ⟨F.fi.rooms_nodup, fun x a b hx ha hb => ?_⟩
  obtain ⟨A, hA, rfl⟩ := List.mem_map.mp ha
  obtain ⟨B, hB, rfl⟩ := List.mem_map.mp hb
  exact F.all (.node A B x) ⟨F.fi.ok_ hA, F.fi.ok_ hB, hx⟩
theorem run_plug {d : Nat → Nat → Nat → Nat} : ∀ (C : TCtx) (t : Tree), run d (C.foldl plug1 t) = (C.map fun c => (c.1, c.2.1, run d c.2.2)).foldl (st1 d) (run d t)
  | [], _ => rfl
  | c :: C, t => by
    show run d (C.foldl plug1 (plug1 t c)) = _
    rw [run_plug C]
    show _ = ((C.map fun c => (c.1, c.2.1, run d c.2.2))).foldl (st1 d) (st1 d (run d t) (c.1, c.2.1, run d c.2.2))
    congr 1
    unfold plug1 st1
    cases c.1 <;> rfl
theorem isLeast_of {d : Nat → Nat → Nat → Nat} {m : Nat} {good : Nat → Bool} {Ts : List Tree} {R : Mach} (F : Firsts d m Ts) (RR : RI d m good (rooms d Ts) sh K) (S : Stable d m (rooms d Ts) sh)
    (ho : ∀ k, k < K → own k ∈ rooms d Ts ∧ sh (own k) = k) (hg : R.good = (List.range K).map fun k => good (own k))
    (ht : R.table = (List.range m).map fun x => (List.range K).map fun a => (List.range K).map fun b => sh (d x (own a) (own b))) :
    IsLeast m (fun t => good (run d t)) R (fun t => sh (run d t)) := by
  have shK : ∀ a ∈ rooms d Ts, sh a < K := fun a ha => RR.fa.lt _ (List.mem_map_of_mem ha)
  have glen : R.good.length = K := by rw [hg]; simp
  refine ⟨fun t u ot ou => ?_, fun t ot j hj => ?_, fun t ot => ?_, fun k hk => ?_, by rw [ht]; simp, fun x rows e => ?_, fun x l r hx ol or_ => ?_⟩
  · have mt := F.all t ot
    have mu := F.all u ou
    constructor
    · intro e
      have key : ∀ (C : Ctx) a b, CtxOk m (rooms d Ts) C → a ∈ rooms d Ts → b ∈ rooms d Ts → sh a = sh b → good (C.foldl (st1 d) a) = good (C.foldl (st1 d) b) := by
        intro C
        induction C with
        | nil => intro a b _ ha hb e; exact RR.gd a b ha hb e
        | cons c C ih =>
          intro a b hC ha hb e
          obtain ⟨h1, h2⟩ := hC c List.mem_cons_self
          obtain ⟨s1, s2⟩ := S a b ha hb e c.2.1 c.2.2 h1 h2
          have mo := F.metOk
          refine ih _ _ (fun c' hc' => hC c' (List.mem_cons_of_mem _ hc')) ?_ ?_ ?_
          · unfold st1; cases c.1; exact mo.shut _ _ _ h1 ha h2; exact mo.shut _ _ _ h1 h2 ha
          · unfold st1; cases c.1; exact mo.shut _ _ _ h1 hb h2; exact mo.shut _ _ _ h1 h2 hb
          · unfold st1; cases c.1; exact s1; exact s2
      intro C hC
      show good (run d _) = good (run d _)
      rw [run_plug, run_plug]
      refine key _ _ _ (fun c hc => ?_) mt mu e
      obtain ⟨c0, h0, rfl⟩ := List.mem_map.mp hc
      exact ⟨(hC c0 h0).1, F.all _ (hC c0 h0).2⟩
    · intro h
      refine RR.coarse _ _ mt mu fun C hC => ?_
      -- each third room is a tree's
      have : ∃ C' : TCtx, TCtxOk m C' ∧ C'.map (fun c => (c.1, c.2.1, run d c.2.2)) = C := by
        clear h
        induction C with
        | nil => exact ⟨[], fun c hc => (by cases hc), rfl⟩
        | cons c C ih =>
          obtain ⟨C', h1, h2⟩ := ih fun c' hc' => hC c' (List.mem_cons_of_mem _ hc')
          obtain ⟨q1, q2⟩ := hC c List.mem_cons_self
          obtain ⟨T, hT, eT⟩ := List.mem_map.mp q2
          refine ⟨(c.1, c.2.1, T) :: C', fun c' hc' => ?_, ?_⟩
          · rcases List.mem_cons.mp hc' with e | e
            · rw [e]; exact ⟨q1, F.fi.ok_ hT⟩
            · exact h1 c' e
          · rw [List.map_cons, h2, eT]
      obtain ⟨C', h1, h2⟩ := this
      have := h C' h1
      have this : good (run d (C'.foldl plug1 t)) = good (run d (C'.foldl plug1 u)) := this
      rw [run_plug, run_plug, h2] at this
      exact this
  · obtain ⟨T, hT, eT⟩ := List.mem_map.mp (F.all t ot)
    obtain ⟨i, hi, ei⟩ := mem_at hT
    have e1 : ((rooms d Ts).map sh)[i]? = some (sh (run d t)) := by
      unfold rooms
      rw [List.getElem?_map, List.getElem?_map, List.getElem?_eq_getElem hi]
      rw [at_get (List.getElem?_eq_getElem hi)] at ei
      simp [ei, eT]
    obtain ⟨i', hi', e2⟩ := RR.fa.early i _ e1 j hj
    have hl : i' < Ts.length := by omega
    refine ⟨at_ Ts i', F.fi.ok_ (at_mem hl), ?_, ?_⟩
    · have h1 := sorted_lt F.fi.sorted hi' hi
      rw [ei] at h1
      rcases (F.fi.first T hT).2 t ⟨ot, eT.symm⟩ with z | z
      · rw [← z]; exact h1
      · exact h1.trans z
    · unfold rooms at e2
      rw [List.getElem?_map, List.getElem?_map, List.getElem?_eq_getElem hl] at e2
      rw [at_get (List.getElem?_eq_getElem hl)]
      simpa using e2
  · have h1 := shK _ (F.all t ot)
    rw [hg, List.getElem?_map, List.getElem?_range h1]
    show some _ = some _
    congr 1
    exact RR.gd _ _ (ho _ h1).1 (F.all t ot) (ho _ h1).2
  · rw [glen] at hk
    obtain ⟨T, hT, eT⟩ := List.mem_map.mp (ho k hk).1
    exact ⟨T, F.fi.ok_ hT, by show sh (run d T) = k; rw [eT]; exact (ho k hk).2⟩
  · rw [ht, List.getElem?_map] at e
    cases q : (List.range m)[x]? with
    | none => rw [q] at e; cases e
    | some y =>
      rw [q] at e
      injection e with e
      subst e
      refine ⟨by rw [glen]; simp, fun a row e2 => ?_⟩
      rw [List.getElem?_map] at e2
      cases q2 : (List.range K)[a]? with
      | none => rw [q2] at e2; cases e2
      | some y2 => rw [q2] at e2; injection e2 with e2; subst e2; rw [glen]; simp
  · have m1 := F.all l ol
    have m2 := F.all r or_
    have k1 := shK _ m1
    have k2 := shK _ m2
    rw [ht, List.getElem?_map, List.getElem?_range hx]
    simp only [Option.map_some, Option.bind_some]
    rw [List.getElem?_map, List.getElem?_range k1]
    simp only [Option.map_some, Option.bind_some]
    rw [List.getElem?_map, List.getElem?_range k2]
    show some _ = some _
    congr 1
    have o1 := ho _ k1
    have o2 := ho _ k2
    show sh (d x (own (sh (run d l))) (own (sh (run d r)))) = sh (d x (run d l) (run d r))
    rw [(S _ _ o1.1 m1 o1.2 x _ hx o2.1).1, (S _ _ o2.1 m2 o2.2 x _ hx m1).2]
end
end Tk
set_option linter.all false
/-! Names and letters, machines of pairs, what is told of two machines. -/
namespace Tk
open Tree

/-! ### lists -/
theorem nodup_le {l : List Nat} {n : Nat} (hn : l.Nodup) (h : ∀ x ∈ l, x < n) : l.length ≤ n := by
  induction n generalizing l with
  | zero =>
    cases l with
    | nil => exact Nat.le_refl _
    | cons a r => exact absurd (h a List.mem_cons_self) (Nat.not_lt_zero _)
  | succ n ih =>
    have h1 : (l.filter fun x => decide (x ≠ n)).length ≤ n := ih (hn.sublist List.filter_sublist) fun x hx => by
      obtain ⟨q1, q2⟩ := List.mem_filter.mp hx
      have := h x q1
      have := of_decide_eq_true q2
      omega
    have h2 : l.length ≤ (l.filter fun x => decide (x ≠ n)).length + 1 := by
      clear ih h h1
      induction l with
      | nil => simp
      | cons a r ih =>
        obtain ⟨na, nr⟩ := List.nodup_cons.mp hn
        have := ih nr
        by_cases e : a = n
        · rw [List.filter_cons, if_neg (by simp [e])]
          have : r.filter (fun x => decide (x ≠ n)) = r := List.filter_eq_self.mpr fun x hx => decide_eq_true (by rintro rfl; rw [e] at na; exact na hx)
          rw [this]; simp
        · rw [List.filter_cons, if_pos (by simp [e])]
          simp only [List.length_cons]; omega
    omega
theorem nodup_map {α β : Type} {f : α → β} {l : List α} (hn : l.Nodup) (hi : ∀ x ∈ l, ∀ y ∈ l, f x = f y → x = y) : (l.map f).Nodup := by
  unfold List.Nodup
  rw [List.pairwise_map]
  exact List.Pairwise.imp_of_mem (fun {a b} ha hb h e => h (hi a ha b hb e)) hn
/-- rising lists with the same members are one -/
theorem sorted_ext {α : Type} {R : α → α → Prop} (irr : ∀ a, ¬ R a a) (tr : ∀ a b c, R a b → R b c → R a c) : ∀ {l k : List α}, l.Pairwise R → k.Pairwise R → (∀ x, x ∈ l ↔ x ∈ k) → l = k
  | [], [], _, _, _ => rfl
  | [], b :: k, _, _, h => by have := (h b).mpr List.mem_cons_self; cases this
  | a :: l, [], _, _, h => by have := (h a).mp List.mem_cons_self; cases this
  | a :: l, b :: k, hl, hk, h => by
    obtain ⟨l1, l2⟩ := List.pairwise_cons.mp hl
    obtain ⟨k1, k2⟩ := List.pairwise_cons.mp hk
    have e : a = b := by
      rcases List.mem_cons.mp ((h a).mp List.mem_cons_self) with q | q
      · exact q
      · rcases List.mem_cons.mp ((h b).mpr List.mem_cons_self) with q' | q'
        · exact q'.symm
        · exact (irr a (tr a b a (l1 b q') (k1 a q))).elim
    subst e
    congr 1
    refine sorted_ext irr tr l2 k2 fun x => ?_
    constructor
    · intro hx
      rcases List.mem_cons.mp ((h x).mp (List.mem_cons_of_mem _ hx)) with q | q
      · rw [q] at hx; exact (irr a (l1 a hx)).elim
      · exact q
    · intro hx
      rcases List.mem_cons.mp ((h x).mpr (List.mem_cons_of_mem _ hx)) with q | q
      · rw [q] at hx; exact (irr a (k1 a hx)).elim
      · exact q

/-! ### letters -/
def great : List Nat := (List.range 26).map (· + 65)
def small : List Nat := (List.range 26).map (· + 97)
def letters : List Nat := great ++ small
theorem letters_sorted : letters.Pairwise (· < ·) := by decide
def inOrder (s : List Nat) : List Nat := letters.filter fun c => decide (c ∈ s)
theorem inOrder_sorted (s : List Nat) : (inOrder s).Pairwise (· < ·) := letters_sorted.sublist List.filter_sublist
theorem sorted_nodup {l : List Nat} (h : l.Pairwise (· < ·)) : l.Nodup := h.imp fun h e => by omega
theorem mem_inOrder {s : List Nat} {c : Nat} : c ∈ inOrder s ↔ c ∈ letters ∧ c ∈ s := by
  unfold inOrder; rw [List.mem_filter]; simp
theorem inOrder_congr {s t : List Nat} (h : ∀ c, c ∈ s ↔ c ∈ t) : inOrder s = inOrder t := by
  unfold inOrder
  exact List.filter_congr fun c _ => by rw [decide_eq_decide]; exact h c
theorem inOrder_comm (a b : List Nat) : inOrder (a ++ b) = inOrder (b ++ a) := inOrder_congr fun c => by
  rw [List.mem_append, List.mem_append]; exact Or.comm
theorem inOrder_twice (a : List Nat) : inOrder (inOrder a ++ inOrder a) = inOrder a := by
  refine sorted_ext (fun a => Nat.lt_irrefl a) (fun a b c => Nat.lt_trans) (inOrder_sorted _) (inOrder_sorted _) fun c => ?_
  rw [mem_inOrder, List.mem_append, mem_inOrder]
  constructor
  · rintro ⟨h, q | q⟩ <;> exact q
  · rintro ⟨h, q⟩; exact ⟨h, .inl ⟨h, q⟩⟩

def marksOf : List Nat → Nat → List Nat
  | [], _ => []
  | c :: r, n => if 2 ^ r.length ≤ n then c :: marksOf r (n - 2 ^ r.length) else marksOf r n
theorem marks_cons (c : Nat) (r : List Nat) (n : Nat) : marksOf (c :: r) n = if 2 ^ r.length ≤ n then c :: marksOf r (n - 2 ^ r.length) else marksOf r n := rfl
def letterOf (names marks : List Nat) : Nat := names.foldl (fun n c => 2 * n + (if c ∈ marks then 1 else 0)) 0
theorem letter_fold (marks : List Nat) : ∀ (names : List Nat) (k : Nat), names.foldl (fun n c => 2 * n + (if c ∈ marks then 1 else 0)) k = k * 2 ^ names.length + letterOf names marks
  | [], k => by simp [letterOf]
  | c :: r, k => by
    show r.foldl _ (2 * k + _) = _ + r.foldl _ (2 * 0 + _)
    rw [letter_fold marks r, letter_fold marks r (2 * 0 + _)]
    rw [List.length_cons, Nat.pow_succ, Nat.add_mul, Nat.mul_zero, Nat.zero_add]
    generalize 2 ^ r.length = p
    generalize letterOf r marks = q
    have : 2 * k * p = k * (p * 2) := by rw [Nat.mul_comm 2 k, Nat.mul_assoc, Nat.mul_comm 2 p]
    omega
theorem letter_cons (c : Nat) (r marks : List Nat) : letterOf (c :: r) marks = (if c ∈ marks then 1 else 0) * 2 ^ r.length + letterOf r marks := by
  show r.foldl _ (2 * 0 + _) = _
  rw [letter_fold]; simp
theorem letter_lt (marks : List Nat) : ∀ names : List Nat, letterOf names marks < 2 ^ names.length
  | [] => by simp [letterOf]
  | c :: r => by
    have := letter_lt marks r
    rw [letter_cons, List.length_cons, Nat.pow_succ]
    by_cases h : c ∈ marks
    · rw [if_pos h]; omega
    · rw [if_neg h]; omega
theorem marks_sub : ∀ (names : List Nat) (n : Nat), ∀ c ∈ marksOf names n, c ∈ names
  | [], _, c, h => h
  | a :: r, n, c, h => by
    unfold marksOf at h
    by_cases q : 2 ^ r.length ≤ n
    · rw [if_pos q] at h
      rcases List.mem_cons.mp h with e | e
      · rw [e]; exact List.mem_cons_self
      · exact List.mem_cons_of_mem _ (marks_sub r _ c e)
    · rw [if_neg q] at h
      exact List.mem_cons_of_mem _ (marks_sub r _ c h)
theorem letter_skip {c : Nat} {ms : List Nat} : ∀ {r : List Nat}, c ∉ r → letterOf r (c :: ms) = letterOf r ms
  | [], _ => rfl
  | a :: r, h => by
    rw [letter_cons, letter_cons, letter_skip fun z => h (List.mem_cons_of_mem _ z)]
    have : a ≠ c := fun e => h (by rw [e]; exact List.mem_cons_self)
    congr 2
    simp [this]
theorem letter_marks : ∀ (names : List Nat) (n : Nat), names.Nodup → n < 2 ^ names.length → letterOf names (marksOf names n) = n
  | [], n, _, h => by simp at h; simp [letterOf, h]
  | c :: r, n, hn, h => by
    obtain ⟨h1, h2⟩ := List.nodup_cons.mp hn
    rw [List.length_cons, Nat.pow_succ] at h
    unfold marksOf
    by_cases q : 2 ^ r.length ≤ n
    · rw [if_pos q, letter_cons, if_pos List.mem_cons_self, letter_skip h1, letter_marks r _ h2 (by omega)]; omega
    · rw [if_neg q, letter_cons, if_neg fun z => h1 (marks_sub r n c z), letter_marks r _ h2 (by omega)]; omega
/-- for each letter over the wide names its letter over the names -/
def thin (names wide : List Nat) (x : Nat) : Nat := letterOf names (marksOf wide x)
theorem thin_lt (names wide : List Nat) (x : Nat) : thin names wide x < 2 ^ names.length := letter_lt _ _
theorem thin_self {N : List Nat} (h : N.Nodup) {x : Nat} (hx : x < 2 ^ N.length) : thin N N x = x := letter_marks N x h hx

/-- a tree with its letters turned -/
def mapT (f : Nat → Nat) : Tree → Tree
  | .nil => .nil
  | .node l r x => .node (mapT f l) (mapT f r) (f x)
theorem run_mapT (d : Nat → Nat → Nat → Nat) (f : Nat → Nat) : ∀ t : Tree, run d (mapT f t) = run (fun x => d (f x)) t
  | .nil => rfl
  | .node l r x => by show d (f x) (run d (mapT f l)) (run d (mapT f r)) = _; rw [run_mapT d f l, run_mapT d f r]; rfl
theorem ok_mapT {f : Nat → Nat} {m : Nat} (h : ∀ x, f x < m) : ∀ t : Tree, (mapT f t).ok m
  | .nil => trivial
  | .node l r x => ⟨ok_mapT h l, ok_mapT h r, h x⟩
theorem mapT_id {f : Nat → Nat} {m : Nat} (h : ∀ x, x < m → f x = x) : ∀ t : Tree, t.ok m → mapT f t = t
  | .nil, _ => rfl
  | .node l r x, o => by show Tree.node (mapT f l) (mapT f r) (f x) = _; rw [mapT_id h l o.1, mapT_id h r o.2.1, h x o.2.2]

/-! ### machines made of states -/
abbrev Pr := Nat × Nat
abbrev Led := Nat → Pr → Pr → Pr
def runG (led : Led) : Tree → Pr
  | .nil => (0, 0)
  | .node l r x => led x (runG led l) (runG led r)
/-- no more states than B are come to -/
def Bd (led : Led) (m B : Nat) : Prop := ∃ code : Tree → Nat, ∀ t : Tree, t.ok m → code t < B ∧ ∀ u : Tree, u.ok m → code t = code u → runG led t = runG led u
def Reach (led : Led) (m : Nat) (p : Pr) : Prop := ∃ t : Tree, t.ok m ∧ runG led t = p
theorem Bd.le {led : Led} {m B : Nat} (h : Bd led m B) {sts : List Pr} (hn : sts.Nodup) (hr : ∀ p ∈ sts, Reach led m p) : sts.length ≤ B := by
  obtain ⟨code, hc⟩ := h
  have : ∃ tr : Pr → Tree, ∀ p ∈ sts, (tr p).ok m ∧ runG led (tr p) = p := by
    haveI : Nonempty Tree := ⟨.nil⟩
    refine ⟨fun p => (Classical.epsilon fun t : Tree => t.ok m ∧ runG led t = p), fun p hp => ?_⟩
    have hp := hr p hp
    exact Classical.epsilon_spec (p := fun t : Tree => t.ok m ∧ runG led t = p) hp
  obtain ⟨tr, ht⟩ := this
  have h1 := nodup_le (l := sts.map fun p => code (tr p)) (n := B) (nodup_map hn fun p hp q hq e => ?_) fun k hk => ?_
  · simpa using h1
  · have := (hc (tr p) (ht p hp).1).2 (tr q) (ht q hq).1 e
    rw [(ht p hp).2, (ht q hq).2] at this
    exact this
  · obtain ⟨p, hp, rfl⟩ := List.mem_map.mp hk
    exact (hc (tr p) (ht p hp).1).1

structure Made (names : List Nat) (led : Led) (gd : Pr → Bool) (W : Mach) (sts : List Pr) : Prop where
  names_ : W.names = names
  nd : sts.Nodup
  zero : sts[0]? = some (0, 0)
  good_ : W.good = sts.map gd
  table_ : W.table = (List.range (2 ^ names.length)).map fun x => sts.map fun p => sts.map fun q => place (led x p q) sts
  shut : ∀ x p q, x < 2 ^ names.length → p ∈ sts → q ∈ sts → led x p q ∈ sts
  reach : ∀ p ∈ sts, Reach led (2 ^ names.length) p
section
variable {names : List Nat} {led : Led} {gd : Pr → Bool} {W : Mach} {sts : List Pr}
theorem Made.letters_ (h : Made names led gd W sts) : W.letters = 2 ^ names.length := by unfold Mach.letters; rw [h.names_]
theorem Made.mem (h : Made names led gd W sts) : ∀ {t : Tree}, t.ok (2 ^ names.length) → runG led t ∈ sts
  | .nil, _ => List.mem_of_getElem? h.zero
  | .node l r x, o => h.shut x _ _ o.2.2 (Made.mem h o.1) (Made.mem h o.2.1)
theorem Made.d_eq (h : Made names led gd W sts) {x i j : Nat} {p q : Pr} (hx : x < 2 ^ names.length) (hi : sts[i]? = some p) (hj : sts[j]? = some q) : W.d x i j = place (led x p q) sts := by
  unfold Mach.d
  rw [h.table_]
  simp only [List.getD_eq_getElem?_getD, List.getElem?_map, List.getElem?_range hx, Option.map_some, Option.getD_some, hi, hj]
theorem Made.run (h : Made names led gd W sts) : ∀ {t : Tree}, t.ok (2 ^ names.length) → Tk.run W.d t = place (runG led t) sts
  | .nil, _ => by
    show 0 = place (0, 0) sts
    cases e : sts with
    | nil => have := h.zero; rw [e] at this; cases this
    | cons a r =>
      have := h.zero
      rw [e] at this
      cases this
      unfold place
      rw [if_pos rfl]
  | .node l r x, o => by
    show W.d x (Tk.run W.d l) (Tk.run W.d r) = _
    rw [Made.run h o.1, Made.run h o.2.1]
    exact h.d_eq o.2.2 (place_get (h.mem o.1)) (place_get (h.mem o.2.1))
theorem Made.lang (h : Made names led gd W sts) {t : Tree} (o : t.ok (2 ^ names.length)) : W.L t = gd (runG led t) := by
  unfold Mach.L Mach.g
  rw [h.run o, h.good_, List.getD_eq_getElem?_getD, List.getElem?_map, place_get (h.mem o)]; rfl
theorem Made.ok (h : Made names led gd W sts) : W.Ok := by
  have hr : W.rooms = sts.length := by unfold Mach.rooms; rw [h.good_]; simp
  refine ⟨?_, by rw [h.table_, h.letters_]; simp, fun x rows e => ?_⟩
  · rw [hr]; exact (List.getElem?_eq_some_iff.mp h.zero).1
  · rw [h.table_, List.getElem?_map] at e
    cases q : (List.range (2 ^ names.length))[x]? with
    | none => rw [q] at e; cases e
    | some y =>
      rw [q] at e
      have hx : x < 2 ^ names.length := by
        have := (List.getElem?_eq_some_iff.mp q).1
        simpa using this
      rw [List.getElem?_range hx] at q
      injection q with q
      subst q
      injection e with e
      subst e
      refine ⟨by rw [hr]; simp, fun l row e2 => ?_⟩
      rw [List.getElem?_map] at e2
      cases q2 : sts[l]? with
      | none => rw [q2] at e2; cases e2
      | some p =>
        rw [q2] at e2
        injection e2 with e2
        subst e2
        refine ⟨by rw [hr]; simp, fun v hv => ?_⟩
        obtain ⟨p2, hp2, rfl⟩ := List.mem_map.mp hv
        rw [hr]
        exact place_lt (h.shut x p p2 hx (List.mem_of_getElem? q2) hp2)
theorem Made.any (h : Made names led gd W sts) : W.good.any id = true ↔ ∃ t : Tree, t.ok (2 ^ names.length) ∧ W.L t = true := by
  rw [h.good_]
  simp only [List.any_eq_true, List.mem_map, id]
  constructor
  · rintro ⟨b, ⟨p, hp, rfl⟩, hb⟩
    obtain ⟨t, o, e⟩ := h.reach p hp
    exact ⟨t, o, by rw [h.lang o, e]; exact hb⟩
  · rintro ⟨t, o, e⟩
    exact ⟨_, ⟨_, h.mem o, rfl⟩, by rw [h.lang o] at e; exact e⟩
end

/-! ### pairs of two machines -/
def dThin (A : Mach) (N : List Nat) (x l r : Nat) : Nat := A.d (thin A.names N x) l r
def ledP (A B : Mach) (N : List Nat) : Led := fun x p q => (dThin A N x p.1 q.1, dThin B N x p.2 q.2)
def both_ (A B : Mach) : List Nat := inOrder (A.names ++ B.names)
/-- a machine's language read over more names -/
def LN (A : Mach) (N : List Nat) (t : Tree) : Bool := A.g (run (dThin A N) t)
theorem runG_pair (A B : Mach) (N : List Nat) : ∀ t : Tree, runG (ledP A B N) t = (run (dThin A N) t, run (dThin B N) t)
  | .nil => rfl
  | .node l r x => by
    show ledP A B N x (runG _ l) (runG _ r) = _
    rw [runG_pair A B N l, runG_pair A B N r]; rfl
theorem LN_eq (A : Mach) (N : List Nat) (t : Tree) : LN A N t = A.L (mapT (thin A.names N) t) := by
  unfold LN Mach.L; rw [run_mapT]; rfl
theorem okN {A : Mach} (h : A.Ok) (N : List Nat) (t : Tree) : run (dThin A N) t < A.rooms := by
  have := h.run (ok_mapT (fun x => thin_lt A.names N x) t)
  rw [run_mapT] at this
  exact this
theorem Bd.pair {A B : Mach} (hA : A.Ok) (hB : B.Ok) (N : List Nat) (m : Nat) : Bd (ledP A B N) m (A.rooms * B.rooms) := by
  refine ⟨fun t => run (dThin A N) t * B.rooms + run (dThin B N) t, fun t _ => ⟨?_, fun u _ e => ?_⟩⟩
  · show run (dThin A N) t * B.rooms + run (dThin B N) t < A.rooms * B.rooms
    have h1 := okN hA N t
    have h2 := okN hB N t
    calc run (dThin A N) t * B.rooms + run (dThin B N) t < run (dThin A N) t * B.rooms + B.rooms := by omega
      _ = (run (dThin A N) t + 1) * B.rooms := by rw [Nat.add_mul, Nat.one_mul]
      _ ≤ A.rooms * B.rooms := Nat.mul_le_mul_right _ h1
  · have e : run (dThin A N) t * B.rooms + run (dThin B N) t = run (dThin A N) u * B.rooms + run (dThin B N) u := e
    have h2 := okN hB N t
    have h4 := okN hB N u
    rw [runG_pair, runG_pair]
    have e1 : run (dThin A N) t = run (dThin A N) u := by
      have q1 : (run (dThin A N) t * B.rooms + run (dThin B N) t) / B.rooms = run (dThin A N) t := by
        rw [Nat.mul_comm, Nat.mul_add_div (by omega), Nat.div_eq_of_lt h2, Nat.add_zero]
      have q2 : (run (dThin A N) u * B.rooms + run (dThin B N) u) / B.rooms = run (dThin A N) u := by
        rw [Nat.mul_comm, Nat.mul_add_div (by omega), Nat.div_eq_of_lt h4, Nat.add_zero]
      rw [← q1, ← q2, e]
    rw [e1] at e ⊢
    rw [show run (dThin B N) t = run (dThin B N) u by omega]
theorem Bd.self {A : Mach} (hA : A.Ok) (N : List Nat) (m : Nat) : Bd (ledP A A N) m A.rooms :=
  ⟨fun t => run (dThin A N) t, fun t _ => ⟨okN hA N t, fun u _ e => by rw [runG_pair, runG_pair, show run (dThin A N) t = run (dThin A N) u from e]⟩⟩
theorem Bd.mono {led : Led} {m B B' : Nat} (h : Bd led m B) (q : B ≤ B') : Bd led m B' := by
  obtain ⟨code, hc⟩ := h
  exact ⟨code, fun t o => ⟨Nat.lt_of_lt_of_le (hc t o).1 q, (hc t o).2⟩⟩

/-! ### what is told -/
/-- a tree as places: (branches, marks) -/
def enc (names : List Nat) : Tree → List (Nat × List Nat)
  | .nil => []
  | .node l r x => enc names l ++ enc names r ++ [((if l.size > 0 then 1 else 0) + (if r.size > 0 then 2 else 0), marksOf names x)]
theorem enc_len (names : List Nat) : ∀ t : Tree, (enc names t).length = t.size
  | .nil => rfl
  | .node l r x => by simp only [enc, List.length_append, enc_len names l, enc_len names r, List.length_singleton, size]; omega
inductive Out where
  | none
  | told (t : List (Nat × List Nat))
  | refused
/-- the first tree of a language -/
def OutR (names : List Nat) (L : Tree → Bool) (o : Out) : Prop :=
  (o = .none ∧ ∀ t : Tree, t.ok (2 ^ names.length) → L t = false) ∨
    ∃ T, Least (fun t => t.ok (2 ^ names.length) ∧ L t = true) T ∧ ((T.size ≤ 100 ∧ o = .told (enc names T)) ∨ (100 < T.size ∧ o = .refused))
theorem OutR.uniq {names : List Nat} {L L' : Tree → Bool} {o o' : Out} (h : OutR names L o) (h' : OutR names L' o') (e : ∀ t : Tree, t.ok (2 ^ names.length) → L t = L' t) : o = o' := by
  have e2 : ∀ t : Tree, (t.ok (2 ^ names.length) ∧ L t = true) ↔ (t.ok (2 ^ names.length) ∧ L' t = true) := fun t => by
    constructor
    · rintro ⟨q1, q2⟩; exact ⟨q1, by rw [← e t q1]; exact q2⟩
    · rintro ⟨q1, q2⟩; exact ⟨q1, by rw [e t q1]; exact q2⟩
  rcases h with ⟨h1, h2⟩ | ⟨T, h1, h2⟩
  · rcases h' with ⟨h3, h4⟩ | ⟨T', h3, h4⟩
    · rw [h1, h3]
    · have := h2 T' h3.1.1
      rw [e T' h3.1.1, h3.1.2] at this
      cases this
  · rcases h' with ⟨h3, h4⟩ | ⟨T', h3, h4⟩
    · have := h4 T h1.1.1
      rw [← e T h1.1.1, h1.1.2] at this
      cases this
    · have : T = T' := (h1.congr e2).uniq h3
      subst this
      rcases h2 with ⟨q1, q2⟩ | ⟨q1, q2⟩
      · rcases h4 with ⟨q3, q4⟩ | ⟨q3, q4⟩
        · rw [q2, q4]
        · omega
      · rcases h4 with ⟨q3, q4⟩ | ⟨q3, q4⟩
        · omega
        · rw [q2, q4]
theorem OutR.none_iff {names : List Nat} {L : Tree → Bool} {o : Out} (h : OutR names L o) : o = .none ↔ ∀ t : Tree, t.ok (2 ^ names.length) → L t = false := by
  rcases h with ⟨h1, h2⟩ | ⟨T, h1, h2⟩
  · exact ⟨fun _ => h2, fun _ => h1⟩
  · constructor
    · intro e
      rcases h2 with ⟨_, q⟩ | ⟨_, q⟩ <;> rw [q] at e <;> cases e
    · intro q
      have := q T h1.1.1
      rw [h1.1.2] at this
      cases this
end Tk
set_option linter.all false
/-! The plain law: languages of machines made of machines, pairs turned about. -/
namespace Tk
open Tree

/-! ### languages of the made machines -/
section
variable {m : Nat} {L L' : Tree → Bool} {R : Mach} {c : Tree → Nat}
theorem IsLeast.congr (h : IsLeast m L R c) (e : ∀ t : Tree, t.ok m → L t = L' t) : IsLeast m L' R c :=
  ⟨fun t u ot ou => (h.kern t u ot ou).trans (SameL.congr e ot ou), h.fa, fun t ot => by rw [← e t ot]; exact h.goodL t ot, h.onto, h.tl, h.rl, h.tab⟩
end
theorem d_flip (M : Mach) : (⟨M.names, M.good.map not, M.table⟩ : Mach).d = M.d := rfl
theorem L_flip {M : Mach} (h : M.Ok) {t : Tree} (o : t.ok M.letters) : (⟨M.names, M.good.map not, M.table⟩ : Mach).L t = !M.L t := by
  unfold Mach.L
  rw [d_flip]
  have hq := h.run o
  unfold Mach.rooms at hq
  unfold Mach.g
  simp only [List.getD_eq_getElem?_getD, List.getElem?_map, List.getElem?_eq_getElem hq, Option.map_some, Option.getD_some]
/-- the least machine of what M does not let by, read over more names -/
theorem LN_flip {M R : Mach} {c : Tree → Nat} (h : M.Ok) (hR : IsLeast M.letters (⟨M.names, M.good.map not, M.table⟩ : Mach).L R c) (hn : R.names = M.names) (N : List Nat) (t : Tree) : LN R N t = !LN M N t := by
  rw [LN_eq, LN_eq, hn]
  have o := ok_mapT (fun x => thin_lt M.names N x) t
  rw [hR.lang o]
  exact L_flip h o

/-! ### trees put into contexts: two trees of one room in both machines are not told apart -/
theorem run_plug_eq {d : Nat → Nat → Nat → Nat} {t u : Tree} (h : run d t = run d u) (C : TCtx) : run d (C.foldl plug1 t) = run d (C.foldl plug1 u) := by
  rw [run_plug, run_plug, h]
theorem sameL_of {A B : Mach} {N : List Nat} {op : Bool → Bool → Bool} {t u : Tree} (ha : run (dThin A N) t = run (dThin A N) u) (hb : run (dThin B N) t = run (dThin B N) u) : SameL (2 ^ N.length) (fun t => op (LN A N t) (LN B N t)) t u := fun C _ => by
  show op (LN A N _) (LN B N _) = op (LN A N _) (LN B N _)
  unfold LN
  rw [run_plug_eq ha, run_plug_eq hb]
theorem dThin_self {X : Mach} (hn : X.names.Nodup) {t : Tree} (o : t.ok (2 ^ X.names.length)) : run (dThin X X.names) t = run X.d t := by
  have : run (dThin X X.names) t = run X.d (mapT (thin X.names X.names) t) := (run_mapT X.d _ t).symm
  rw [this, mapT_id (fun x hx => thin_self hn hx) t o]
theorem LN_self {X : Mach} (hn : X.names.Nodup) {t : Tree} (o : t.ok (2 ^ X.names.length)) : LN X X.names t = X.L t := by
  unfold LN Mach.L; rw [dThin_self hn o]
theorem both_nodup (A B : Mach) : (both_ A B).Nodup := sorted_nodup (inOrder_sorted _)
/-- pairs of two machines, each the least one of a language told by A and B, over both's names: no more than pairs of rooms of A and B -/
theorem Bd.made {A B X Y : Mach} {opX opY : Bool → Bool → Bool} {cX cY : Tree → Nat} (hA : A.Ok) (hB : B.Ok) (nX : X.names = both_ A B) (nY : Y.names = both_ A B)
    (hX : IsLeast (2 ^ (both_ A B).length) (fun t => opX (LN A (both_ A B) t) (LN B (both_ A B) t)) X cX) (hY : IsLeast (2 ^ (both_ A B).length) (fun t => opY (LN A (both_ A B) t) (LN B (both_ A B) t)) Y cY) :
    Bd (ledP X Y (both_ A B)) (2 ^ (both_ A B).length) (A.rooms * B.rooms) := by
  obtain ⟨code, hc⟩ := Bd.pair hA hB (both_ A B) (2 ^ (both_ A B).length)
  refine ⟨code, fun t ot => ⟨(hc t ot).1, fun u ou e => ?_⟩⟩
  have h := (hc t ot).2 u ou e
  rw [runG_pair, runG_pair] at h ⊢
  obtain ⟨h1, h2⟩ := Prod.mk.inj h
  have one : ∀ {Z : Mach} {op : Bool → Bool → Bool} {cZ : Tree → Nat}, Z.names = both_ A B → IsLeast (2 ^ (both_ A B).length) (fun t => op (LN A (both_ A B) t) (LN B (both_ A B) t)) Z cZ → run (dThin Z (both_ A B)) t = run (dThin Z (both_ A B)) u := by
    intro Z op cZ nZ hZ
    have nd : Z.names.Nodup := by rw [nZ]; exact both_nodup A B
    have e1 := dThin_self (t := t) nd (by rw [nZ]; exact ot)
    have e2 := dThin_self (t := u) nd (by rw [nZ]; exact ou)
    rw [nZ] at e1 e2
    rw [e1, e2, hZ.run ot, hZ.run ou]
    exact (hZ.kern t u ot ou).mpr (sameL_of h1 h2)
  rw [one nX hX, one nY hY]
theorem both_self {X Y : Mach} {A B : Mach} (hx : X.names = both_ A B) (hy : Y.names = both_ A B) : both_ X Y = both_ A B := by
  unfold both_ at *
  rw [hx, hy]
  exact inOrder_twice _

/-! ### widened machines -/
theorem wid_ok {M : Mach} (h : M.Ok) (N : List Nat) : (⟨N, M.good, (List.range (2 ^ N.length)).map fun x => M.table.getD (thin M.names N x) []⟩ : Mach).Ok := by
  refine ⟨h.pos, by simp [Mach.letters], fun x rows e => ?_⟩
  show rows.length = M.rooms ∧ ∀ (l : Nat) row, rows[l]? = some row → row.length = M.rooms ∧ ∀ v ∈ row, v < M.rooms
  simp only [List.getElem?_map] at e
  by_cases hx : x < 2 ^ N.length
  · rw [List.getElem?_range hx] at e
    obtain ⟨rows', e1, _⟩ := h.rows (x := thin M.names N x) (thin_lt _ _ _)
    simp only [Option.map_some, List.getD_eq_getElem?_getD, e1, Option.getD_some] at e
    cases e
    exact h.rl _ _ e1
  · rw [List.getElem?_eq_none (by simpa using hx)] at e
    cases e
theorem wid_run {M : Mach} {N : List Nat} : ∀ {t : Tree}, t.ok (2 ^ N.length) → run (⟨N, M.good, (List.range (2 ^ N.length)).map fun x => M.table.getD (thin M.names N x) []⟩ : Mach).d t = run (dThin M N) t
  | .nil, _ => rfl
  | .node l r x, o => by
    show Mach.d _ x (run _ l) (run _ r) = dThin M N x (run _ l) (run _ r)
    rw [wid_run o.1, wid_run o.2.1]
    unfold Mach.d dThin Mach.d
    simp only [List.getD_eq_getElem?_getD, List.getElem?_map, List.getElem?_range o.2.2, Option.map_some, Option.getD_some]
theorem wid_lang {M : Mach} {N : List Nat} {t : Tree} (o : t.ok (2 ^ N.length)) : (⟨N, M.good, (List.range (2 ^ N.length)).map fun x => M.table.getD (thin M.names N x) []⟩ : Mach).L t = LN M N t := by
  unfold Mach.L LN
  rw [wid_run o]
  rfl

/-! ### rows turned about -/
theorem runG_swap (A B : Mach) (N : List Nat) (t : Tree) : runG (ledP B A N) t = ((runG (ledP A B N) t).2, (runG (ledP A B N) t).1) := by
  rw [runG_pair, runG_pair]
section
variable {N : List Nat} {A B : Mach} {gd gd' : Pr → Bool} {W W' : Mach} {sts sts' : List Pr}
theorem Made.mem_iff (h : Made N (ledP A B N) gd W sts) (p : Pr) : p ∈ sts ↔ ∃ t : Tree, t.ok (2 ^ N.length) ∧ runG (ledP A B N) t = p := by
  constructor
  · exact h.reach p
  · rintro ⟨t, o, rfl⟩; exact h.mem o
theorem made_swap (h : Made N (ledP A B N) gd W sts) (h' : Made N (ledP B A N) gd' W' sts') (a b : Nat) : (a, b) ∈ sts ↔ (b, a) ∈ sts' := by
  rw [h.mem_iff, h'.mem_iff]
  constructor
  · rintro ⟨t, o, e⟩
    exact ⟨t, o, by rw [runG_swap, e]⟩
  · rintro ⟨t, o, e⟩
    exact ⟨t, o, by rw [runG_swap, e]⟩
end
end Tk
set_option Elab.async false
set_option linter.all false
set_option maxRecDepth 100000
/-! What is asked of the head; the head's run (first, where the memory is still free). -/
namespace Tk
open PySem PySem.Spec PyProof.Rows L2
open He (Fa ga)
def topS (i : Nat) : Stmt := PySem.Challenge.pw_trunksay_k57_whole_alike_or_apart.main.body.getD i (.Pass ⟨0, 0, 0, 0⟩)
abbrev tx (l : List Nat) : Str := ⟨l.toArray⟩
def ddOf (x : Str) (i : Nat) : He.DefD := ⟨(x, none), x, x, defArgs (topS i), defBody (topS i), defScope (topS i), [], []⟩
def defsL : List He.DefD := [ddOf "in_order" 14, ddOf "letter_of" 15, ddOf "marks_of" 16, ddOf "within_most" 20, ddOf "thin_numbers" 21, ddOf "table_of" 22, ddOf "made_from" 23, ddOf "paired_machine" 24, ddOf "branches_by" 27, ddOf "joined" 28, ddOf "offer_newest" 31, ddOf "firsts_of" 32, ddOf "first_tree" 33, ddOf "first_room" 35, ddOf "first_let" 36, ddOf "differing_pairs" 38, ddOf "alike_rows" 39, ddOf "apart_tree" 40, ddOf "numbered_looks" 42, ddOf "look_of" 43, ddOf "class_rounds" 44, ddOf "least_of" 46, ddOf "flipped" 48, ddOf "least_pairs" 49, ddOf "both" 50, ddOf "either" 51, ddOf "widened" 54, ddOf "_law_cell" 56, ddOf "_law_mixed" 57, ddOf "_law_draws" 58, ddOf "_law_same" 59, ddOf "_law_pool" 60, ddOf "_law_marks" 61, ddOf "_law_machine" 62, ddOf "_law_letter" 63, ddOf "_law_some_marks" 64, ddOf "_law_wide" 65, ddOf "_law_changed" 66, ddOf "_law_doubled" 67, ddOf "_law_two" 68, ddOf "_law_kinds" 69, ddOf "_law_due_refusal" 70, ddOf "_law_apart" 71, ddOf "_law_first" 72, ddOf "law" 73]
def factsL : List Fa := [.glo "in_order", .glo "letter_of", .glo "marks_of", .glo "within_most", .glo "thin_numbers", .glo "table_of", .glo "made_from", .glo "paired_machine", .glo "branches_by", .glo "joined", .glo "offer_newest", .glo "firsts_of", .glo "first_tree", .glo "first_room", .glo "first_let", .glo "differing_pairs", .glo "alike_rows", .glo "apart_tree", .glo "numbered_looks", .glo "look_of", .glo "class_rounds", .glo "least_of", .glo "flipped", .glo "least_pairs", .glo "both", .glo "either", .glo "widened", .glo "_law_cell", .glo "_law_mixed", .glo "_law_draws", .glo "_law_same", .glo "_law_pool", .glo "_law_marks", .glo "_law_machine", .glo "_law_letter", .glo "_law_some_marks", .glo "_law_wide", .glo "_law_changed", .glo "_law_doubled", .glo "_law_two", .glo "_law_kinds", .glo "_law_due_refusal", .glo "_law_apart", .glo "_law_first", .glo "law", .free "len", .free "range", .free "tuple", .free "list", .free "any", .free "max", .free "min", .free "sorted", .free "set", .free "int", .free "isinstance", .free "bool", .free "str", .free "ValueError", .str "GREAT_LETTERS" (tx great), .str "SMALL_LETTERS" (tx small), .int "MOST_ENTRIES_making" 10000, .int "MOST_NAMES" 13, .int "MOST_PLACES_trees" 100, .int "MOST_PLACES_firsts" 100, .int "MOST_ENTRIES_machines" 10000, .glo "NoTree", .glo "NoStatement", .glo "NoPlace", .glo "NoNumber", .glo "TooGreat", .glo "NoName", .glo "NoLine", .glo "NothingDone", .glo "NothingHeld", .glo "TrunkError", .exc "TooGreat", .exm "TooGreat" "TrunkError" true]
def tabsL : List He.Defn := [("paired_machine", none), ("firsts_of", none), ("differing_pairs", none), ("both", none), ("either", none)]
def tabP (K : PySem.W.Frag) (x : Str) : Addr := (He.cT K (x, none)).2
def moreB (K : PySem.W.Frag) : Bool :=
  decide ((tabsL.map fun p => (He.cT K p).2).Nodup) && (
  He.eqO (PySem.W.findIn K (.ref (ga K "TooGreat")) "__getattribute__") (some (some (.builtin "BaseException.__getattribute__"))) && (
  He.eqO (PySem.W.findIn K (.ref (ga K "TooGreat")) "__getattr__") (some none) && (
  PySem.W.hasDictIn K (ga K "TooGreat") && (
  He.eqO (PySem.W.findIn K (.ref (ga K "TooGreat")) "__class__") (some (some (.builtin "object.__class__"))) && (
  He.eqO (PySem.W.specialIn K (.builtin "object.__class__") "__get__") (some (some (.builtin "getset_descriptor.__get__"))) && (
  decide (PySem.W.takesIn K (.builtin "object.__class__") = some true) && (
  decide (PySem.W.mroIn K (ga K "TooGreat") (.type "object") = some true) && (
  decide (PySem.W.kitOne K (.ref (ga K "TooGreat")) (.type "ValueError") = some true) && (
  decide (PySem.W.kitOne K (.ref (ga K "TooGreat")) (.ref (ga K "NoTree")) = some false) && (
  decide (PySem.W.kitOne K (.ref (ga K "TooGreat")) (.ref (ga K "NoStatement")) = some false) && (
  decide (PySem.W.kitOne K (.ref (ga K "TooGreat")) (.ref (ga K "NoPlace")) = some false) && (
  decide (PySem.W.kitOne K (.ref (ga K "TooGreat")) (.ref (ga K "NoNumber")) = some false) && (
  decide (PySem.W.kitOne K (.ref (ga K "TooGreat")) (.ref (ga K "TooGreat")) = some true) && (
  decide (PySem.W.kitOne K (.ref (ga K "TooGreat")) (.ref (ga K "NoName")) = some false) && (
  decide (PySem.W.kitOne K (.ref (ga K "TooGreat")) (.ref (ga K "NoLine")) = some false) && (
  decide (PySem.W.kitOne K (.ref (ga K "TooGreat")) (.ref (ga K "NothingDone")) = some false) && (
  decide (PySem.W.kitOne K (.ref (ga K "TooGreat")) (.ref (ga K "NothingHeld")) = some false) && (
  true))))))))))))))))))
abbrev RR : PySem.W.OpenRow := PySem.W.OpenLaw.row PySem.Challenge.rw_trunksay_k57_whole_alike_or_apart
abbrev hkX : PySem.W.Hook := He.hookX 4 factsL defsL [] tabsL moreB
def obX (s : PySem.W.SharedT) : He.AlX := He.obsX 4 factsL defsL [] tabsL moreB (HandSHeadRun.getT s)
theorem obX_eq (s : PySem.W.SharedT) : obX s = hkX.obs s.abs := He.obsX_eq (HandSHeadRun.getT_eq s)
def lo1 : List PySem.Str := ["TrunkError", "NoTree", "NoStatement", "NoPlace", "NoNumber", "TooGreat", "NoName", "NoLine", "NothingDone", "NothingHeld", "GREAT_LETTERS", "SMALL_LETTERS", "MOST_ENTRIES_making", "MOST_NAMES", "MOST_PLACES_trees", "MOST_PLACES_firsts", "MOST_ENTRIES_machines", "in_order", "letter_of", "marks_of", "within_most", "thin_numbers", "table_of", "made_from", "paired_machine"]
def lo2 : List PySem.Str := ["branches_by", "joined", "offer_newest", "firsts_of", "first_tree", "first_room", "first_let", "differing_pairs", "alike_rows", "apart_tree", "numbered_looks", "look_of", "class_rounds", "least_of", "flipped", "least_pairs", "both", "either", "widened", "_law_cell", "_law_mixed", "_law_draws", "_law_same", "_law_pool", "_law_marks"]
def lo3 : List PySem.Str := ["_law_machine", "_law_letter", "_law_some_marks", "_law_wide", "_law_changed", "_law_doubled", "_law_two", "_law_kinds", "_law_due_refusal", "_law_apart", "_law_first"]
def loX : List PySem.Str := lo1 ++ lo2 ++ lo3
set_option maxHeartbeats 0 in
theorem runX (w : World) : HandSHeadRun.RunEq RR (PySem.W.view RR.prog [73]) hkX obX 4000 loX w := by
  intro os
  kernel_rfl
end Tk
set_option Elab.async false
set_option linter.all false
set_option maxRecDepth 100000
/-! An own thin layer over HandS: pure data, extensions, judgements as weakest preconditions. -/
namespace Tk
open PySem PySem.Spec PyProof.Rows L2 LamX NdefX

/-! ### data -/
inductive D where
  | non
  | bl (b : Bool)
  | int (i : Int)
  | str (x : Str)
  | tup (ds : List D)
  /-- the object at a, whatever it is -/
  | ref (a : Addr)

mutual
inductive Is (H : Hp) : D → V → Prop
  | non : Is H .non .non
  | bl (b : Bool) : Is H (.bl b) (.bl b)
  | int (i : Int) : Is H (.int i) (.int i)
  | str (x : Str) : Is H (.str x) (.str x)
  | tup {a : Addr} {xs : List V} {ds : List D} : H a = some (.tup xs) → IsAll H ds xs → Is H (.tup ds) (.ref a)
  | ref (a : Addr) : Is H (.ref a) (.ref a)
inductive IsAll (H : Hp) : List D → List V → Prop
  | nil : IsAll H [] []
  | cons {d : D} {v : V} {ds : List D} {vs : List V} : Is H d v → IsAll H ds vs → IsAll H (d :: ds) (v :: vs)
end
/-- the tuples stay -/
def Ti (H H' : Hp) : Prop := ∀ b xs, H b = some (.tup xs) → H' b = some (.tup xs)
theorem Ti.refl (H : Hp) : Ti H H := fun _ _ h => h
theorem Ti.trans {H H1 H2 : Hp} (a : Ti H H1) (b : Ti H1 H2) : Ti H H2 := fun c xs h => b c xs (a c xs h)
mutual
theorem Is.mono {H H' : Hp} (t : Ti H H') : ∀ {d : D} {v : V}, Is H d v → Is H' d v
  | _, _, .non => .non
  | _, _, .bl b => .bl b
  | _, _, .int i => .int i
  | _, _, .str x => .str x
  | _, _, .tup h r => .tup (t _ _ h) (IsAll.mono t r)
  | _, _, .ref a => .ref a
theorem IsAll.mono {H H' : Hp} (t : Ti H H') : ∀ {ds : List D} {vs : List V}, IsAll H ds vs → IsAll H' ds vs
  | _, _, .nil => .nil
  | _, _, .cons h r => .cons (Is.mono t h) (IsAll.mono t r)
end
theorem IsAll.length {H : Hp} : ∀ {ds : List D} {vs : List V}, IsAll H ds vs → ds.length = vs.length
  | _, _, .nil => rfl
  | _, _, .cons _ r => by rw [List.length_cons, List.length_cons, r.length]
theorem IsAll.get {H : Hp} : ∀ {ds : List D} {vs : List V} {i : Nat} {d : D}, IsAll H ds vs → ds[i]? = some d → ∃ v, vs[i]? = some v ∧ Is H d v
  | _, _, _, _, .nil, e => by simp at e
  | _, _, 0, _, .cons h r, e => by simp at e; subst e; exact ⟨_, rfl, h⟩
  | _, _, i + 1, d, .cons h r, e => by
    obtain ⟨v, h1, h2⟩ := IsAll.get (i := i) (d := d) r (by simpa using e)
    exact ⟨v, by simpa using h1, h2⟩
theorem IsAll.get' {H : Hp} : ∀ {ds : List D} {vs : List V} {i : Nat} {v : V}, IsAll H ds vs → vs[i]? = some v → ∃ d, ds[i]? = some d ∧ Is H d v
  | _, _, _, _, .nil, e => by simp at e
  | _, _, 0, _, .cons h r, e => by simp at e; subst e; exact ⟨_, rfl, h⟩
  | _, _, i + 1, d, .cons h r, e => by
    obtain ⟨v, h1, h2⟩ := IsAll.get' (i := i) (v := d) r (by simpa using e)
    exact ⟨v, by simpa using h1, h2⟩
theorem IsAll.append {H : Hp} : ∀ {ds es : List D} {vs ws : List V}, IsAll H ds vs → IsAll H es ws → IsAll H (ds ++ es) (vs ++ ws)
  | _, _, _, _, .nil, s => s
  | _, _, _, _, .cons h r, s => .cons h (r.append s)
theorem IsAll.take {H : Hp} : ∀ {ds : List D} {vs : List V} (n : Nat), IsAll H ds vs → IsAll H (ds.take n) (vs.take n)
  | _, _, 0, _ => .nil
  | _, _, _ + 1, .nil => .nil
  | _, _, n + 1, .cons h r => .cons h (r.take n)
theorem IsAll.drop {H : Hp} : ∀ {ds : List D} {vs : List V} (n : Nat), IsAll H ds vs → IsAll H (ds.drop n) (vs.drop n)
  | _, _, 0, r => r
  | _, _, _ + 1, .nil => .nil
  | _, _, n + 1, .cons h r => r.drop n
theorem IsAll.snoc {H : Hp} {ds : List D} {vs : List V} {d : D} {v : V} (h : IsAll H ds vs) (h' : Is H d v) : IsAll H (ds ++ [d]) (vs ++ [v]) := h.append (.cons h' .nil)
theorem isAll_ints {H : Hp} : ∀ (ns : List Int), IsAll H (ns.map .int) (ns.map V.int)
  | [] => .nil
  | n :: r => .cons (.int n) (isAll_ints r)
theorem Is.int_eq {H : Hp} {i : Int} {v : V} (h : Is H (.int i) v) : v = .int i := by cases h; rfl
theorem Is.bl_eq {H : Hp} {i : Bool} {v : V} (h : Is H (.bl i) v) : v = .bl i := by cases h; rfl
theorem Is.str_eq {H : Hp} {i : Str} {v : V} (h : Is H (.str i) v) : v = .str i := by cases h; rfl
theorem Is.ref_eq {H : Hp} {i : Addr} {v : V} (h : Is H (.ref i) v) : v = .ref i := by cases h; rfl
theorem Is.non_eq {H : Hp} {v : V} (h : Is H .non v) : v = .non := by cases h; rfl
theorem IsAll.ints_eq {H : Hp} : ∀ {ns : List Int} {vs : List V}, IsAll H (ns.map .int) vs → vs = ns.map V.int
  | [], _, .nil => rfl
  | n :: r, _, .cons h t => by rw [h.int_eq, IsAll.ints_eq t]; rfl
theorem IsAll.bls_eq {H : Hp} : ∀ {ns : List Bool} {vs : List V}, IsAll H (ns.map .bl) vs → vs = ns.map V.bl
  | [], _, .nil => rfl
  | n :: r, _, .cons h t => by rw [h.bl_eq, IsAll.bls_eq t]; rfl
theorem IsAll.strs_eq {H : Hp} : ∀ {ns : List Str} {vs : List V}, IsAll H (ns.map .str) vs → vs = ns.map V.str
  | [], _, .nil => rfl
  | n :: r, _, .cons h t => by rw [h.str_eq, IsAll.strs_eq t]; rfl

/-! ### extensions -/
/-- all that is tracked stays but the code tables; and these stay well -/
structure Gx (T : List NTab) (H H' : Hp) : Prop where
  ext : ExtN H H'
  low : ∀ b, H' b = none → H b = none
  tab : TabsN T H → TabsN T H'
section
variable {T : List NTab} {H H1 H2 : Hp}
theorem Gx.refl (H : Hp) : Gx T H H := ⟨ExtN.refl H, fun _ h => h, id⟩
theorem Gx.trans (a : Gx T H H1) (b : Gx T H1 H2) : Gx T H H2 := ⟨a.ext.trans b.ext, fun c h => a.low c (b.low c h), fun t => b.tab (a.tab t)⟩
theorem Gx.ti (a : Gx T H H1) : Ti H H1 := fun b xs h => a.ext b _ h fun ps e => by cases e
theorem low_of (e : ∀ b o, H b = some o → H1 b = some o) : ∀ b, H1 b = none → H b = none := fun b h => by
  cases q : H b with
  | none => rfl
  | some o => rw [e b o q] at h; cases h
theorem Gx.of (e : ∀ b o, H b = some o → H1 b = some o) : Gx T H H1 := ⟨.of e, low_of e, fun t => t.ext e⟩
theorem Gx.new {p : Addr} {o : HO} (h : H p = none) : Gx T H (upd H p o) := .of fun b u e => by rw [upd_ne (ne_of_none e h)]; exact e
theorem Gx.lst (a : Gx T H H1) {p : Addr} {xs : List V} (h : H p = some (.lst xs)) : H1 p = some (.lst xs) := a.ext p _ h fun ps e => by cases e
theorem Gx.tup (a : Gx T H H1) {p : Addr} {xs : List V} (h : H p = some (.tup xs)) : H1 p = some (.tup xs) := a.ext p _ h fun ps e => by cases e
theorem Gx.dK (a : Gx T H H1) {p : Addr} {xs : List (L2.Key × V)} (h : H p = some (.dK xs)) : H1 p = some (.dK xs) := a.ext p _ h fun ps e => by cases e
theorem Gx.dT (a : Gx T H H1) {p : Addr} {xs : List (List L2.Key × V)} (h : H p = some (.dT xs)) : H1 p = some (.dT xs) := a.ext p _ h fun ps e => by cases e
theorem Gx.frz (a : Gx T H H1) {p : Addr} {ob : Obj} {u : HO} (h : H p = some (.frz ob u)) : H1 p = some (.frz ob u) := a.ext p _ h fun ps e => by cases e
theorem Gx.any (a : Gx T H H1) {p : Addr} {o : HO} (h : H p = some o) (hn : ∀ ps, o ≠ .tbl ps) : H1 p = some o := a.ext p _ h hn
end
theorem Ti.upd {H : Hp} {p : Addr} {o : HO} (h : ∀ xs, H p ≠ some (.tup xs)) : Ti H (upd H p o) := fun b xs e => by
  by_cases q : b = p
  · subst q; exact (h xs e).elim
  · rw [upd_ne q]; exact e
theorem Ti.upd_of {H : Hp} {p : Addr} {o u : HO} (h : H p = some u) (hn : ∀ xs, u ≠ .tup xs) : Ti H (L2.upd H p o) := Ti.upd fun xs e => hn xs (by rw [h] at e; exact Option.some.inj e)
theorem Ti.lst {H : Hp} {p : Addr} {o : HO} {xs : List V} (h : H p = some (.lst xs)) : Ti H (L2.upd H p o) := Ti.upd_of h fun _ e => by cases e
theorem Ti.dK {H : Hp} {p : Addr} {o : HO} {xs : List (L2.Key × V)} (h : H p = some (.dK xs)) : Ti H (L2.upd H p o) := Ti.upd_of h fun _ e => by cases e
theorem Ti.dT {H : Hp} {p : Addr} {o : HO} {xs : List (List L2.Key × V)} (h : H p = some (.dT xs)) : Ti H (L2.upd H p o) := Ti.upd_of h fun _ e => by cases e

/-! ### judgements as weakest preconditions -/
section
variable {X : Cx}
def wE (X : Cx) (e : Expr) : TE := fun σ H Q => ∀ (pins : List (Addr × Obj)) (s : Shared), Inv X pins σ H s → wpAny (model X.prog X.w) X.A (eval e X.env) (EP X pins σ Q) X.xe s
def wT (X : Cx) (e : Expr) : TT := fun σ H Q => ∀ (pins : List (Addr × Obj)) (s : Shared), Inv X pins σ H s → wpAny (model X.prog X.w) X.A (isTrue e X.env (eval e X.env)) (TP X pins σ Q) X.xe s
def wA (X : Cx) (es : List Expr) : TA := fun σ H Q => ∀ (pos : Pos) (pins : List (Addr × Obj)) (s : Shared), Inv X pins σ H s → wpAny (model X.prog X.w) X.A (spliced (backTo pos (starEach es X.env))) (AP X pins σ Q) X.xe s
def wS (X : Cx) (st : Stmt) : TS := fun D σ H => ∀ (pins : List (Addr × Obj)) (s : Shared), Inv X pins σ H s → wpAny (model X.prog X.w) X.A (exec st X.env) (SP X pins D) X.xe s
def wB (X : Cx) (st : List Stmt) : TS := fun D σ H => ∀ (pins : List (Addr × Obj)) (s : Shared), Inv X pins σ H s → wpAny (model X.prog X.w) X.A (execs st X.env) (SP X pins D) X.xe s
theorem wE_pe {e : Expr} : PE X e (wE X e) := ⟨fun pins s σ H Q I h => h pins s I⟩
theorem wT_pt {e : Expr} : PT X e (wT X e) := ⟨fun pins s σ H Q I h => h pins s I⟩
theorem wA_pa {es : List Expr} : PA X es (wA X es) := ⟨fun pos pins s σ H Q I h => h pos pins s I⟩
theorem wS_ps {st : Stmt} : PS X st (wS X st) := ⟨fun pins s σ H D I h => h pins s I⟩
theorem wB_pss {st : List Stmt} : PSs X st (wB X st) := ⟨fun pins s σ H D I h => h pins s I⟩
theorem PE_to {e : Expr} {t : TE} (p : PE X e t) {σ : L2.St} {H : Hp} {Q : VK} (h : t σ H Q) : wE X e σ H Q := fun pins s I => p.run pins s σ H Q I h
theorem PT_to {e : Expr} {t : TT} (p : PT X e t) {σ : L2.St} {H : Hp} {Q : Bool → Hp → Prop} (h : t σ H Q) : wT X e σ H Q := fun pins s I => p.run pins s σ H Q I h
theorem PA_to {es : List Expr} {t : TA} (p : PA X es t) {σ : L2.St} {H : Hp} {Q : List V → Hp → Prop} (h : t σ H Q) : wA X es σ H Q := fun pos pins s I => p.run pos pins s σ H Q I h
theorem PS_to {st : Stmt} {t : TS} (p : PS X st t) {D : Ends} {σ : L2.St} {H : Hp} (h : t D σ H) : wS X st D σ H := fun pins s I => p.run pins s σ H D I h
theorem PSs_to {st : List Stmt} {t : TS} (p : PSs X st t) {D : Ends} {σ : L2.St} {H : Hp} (h : t D σ H) : wB X st D σ H := fun pins s I => p.run pins s σ H D I h
theorem wE_imp {e : Expr} {σ : L2.St} {H : Hp} {Q Q' : VK} (h : wE X e σ H Q) (q : ∀ v H1, Q v H1 → Q' v H1) : wE X e σ H Q' := fun pins s I =>
  thn (h pins s I) fun u s' ⟨v, H', I', r, z⟩ => ⟨v, H', I', r, q v H' z⟩
theorem wT_imp {e : Expr} {σ : L2.St} {H : Hp} {Q Q' : Bool → Hp → Prop} (h : wT X e σ H Q) (q : ∀ v H1, Q v H1 → Q' v H1) : wT X e σ H Q' := fun pins s I =>
  thn (h pins s I) fun u s' ⟨H', I', z⟩ => ⟨H', I', q u H' z⟩
theorem wA_imp {e : List Expr} {σ : L2.St} {H : Hp} {Q Q' : List V → Hp → Prop} (h : wA X e σ H Q) (q : ∀ v H1, Q v H1 → Q' v H1) : wA X e σ H Q' := fun pos pins s I =>
  thn (h pos pins s I) fun u s' ⟨v, H', I', r, z⟩ => ⟨v, H', I', r, q v H' z⟩
end

/-! ### tables stay well where a list, a dict is written -/
theorem tabs_upd {T : List NTab} {H : Hp} {p : Addr} {o u : HO} (t : TabsN T H) (h : H p = some u) (h1 : ∀ ps, u ≠ .tbl ps) (h2 : ∀ φ, u ≠ .ext φ) : TabsN T (L2.upd H p o) := fun q hq => by
  obtain ⟨ps, a1, a2, a3⟩ := t q hq
  refine ⟨ps, ?_, a2, fun pos cv hc => ?_⟩
  · rw [upd_ne fun e => ?_]; exact a1
    rw [e, h] at a1; exact h1 _ (Option.some.inj a1)
  · obtain ⟨c, e1, e2⟩ := a3 pos cv hc
    refine ⟨c, e1, ?_⟩
    rw [upd_ne fun e => ?_]; exact e2
    rw [e, h] at e2; exact h2 _ (Option.some.inj e2)
theorem tabs_lst {T : List NTab} {H : Hp} {p : Addr} {o : HO} {xs : List V} (t : TabsN T H) (h : H p = some (.lst xs)) : TabsN T (L2.upd H p o) := tabs_upd t h (fun _ e => by cases e) fun _ e => by cases e
theorem tabs_dK {T : List NTab} {H : Hp} {p : Addr} {o : HO} {xs : List (L2.Key × V)} (t : TabsN T H) (h : H p = some (.dK xs)) : TabsN T (L2.upd H p o) := tabs_upd t h (fun _ e => by cases e) fun _ e => by cases e
theorem tabs_dT {T : List NTab} {H : Hp} {p : Addr} {o : HO} {xs : List (List L2.Key × V)} (t : TabsN T H) (h : H p = some (.dT xs)) : TabsN T (L2.upd H p o) := tabs_upd t h (fun _ e => by cases e) fun _ e => by cases e
/-- an object that H does not know may change -/
theorem Gx.mut {T : List NTab} {H H' : Hp} {p : Addr} {o u : HO} (g : Gx T H H') (hp : H p = none) (h : H' p = some u) (h1 : ∀ ps, u ≠ .tbl ps) (h2 : ∀ φ, u ≠ .ext φ) : Gx T H (L2.upd H' p o) :=
  ⟨fun b ob e n => by rw [upd_ne (ne_of_none e hp)]; exact g.ext b ob e n, fun b e => g.low b (NdefX.upd_none e), fun t => tabs_upd (g.tab t) h h1 h2⟩
theorem Gx.mutL {T : List NTab} {H H' : Hp} {p : Addr} {o : HO} {xs : List V} (g : Gx T H H') (hp : H p = none) (h : H' p = some (.lst xs)) : Gx T H (L2.upd H' p o) := g.mut hp h (fun _ e => by cases e) fun _ e => by cases e
theorem Gx.mutK {T : List NTab} {H H' : Hp} {p : Addr} {o : HO} {xs : List (L2.Key × V)} (g : Gx T H H') (hp : H p = none) (h : H' p = some (.dK xs)) : Gx T H (L2.upd H' p o) := g.mut hp h (fun _ e => by cases e) fun _ e => by cases e
theorem Gx.mutT {T : List NTab} {H H' : Hp} {p : Addr} {o : HO} {xs : List (List L2.Key × V)} (g : Gx T H H') (hp : H p = none) (h : H' p = some (.dT xs)) : Gx T H (L2.upd H' p o) := g.mut hp h (fun _ e => by cases e) fun _ e => by cases e

/-! ### what evaluates to what -/
/-- e comes to a value of which P is true, in an extension -/
def EX (T : List NTab) (X : Cx) (σ : L2.St) (H : Hp) (e : Expr) (P : Hp → V → Hp → Prop) : Prop := ∀ H1, Gx T H H1 → TabsN T H1 → wE X e σ H1 fun v H2 => Gx T H1 H2 ∧ P H1 v H2
/-- e comes to the data d -/
abbrev EE (T : List NTab) (X : Cx) (σ : L2.St) (H : Hp) (e : Expr) (d : D) : Prop := EX T X σ H e fun _ v H2 => Is H2 d v
/-- e comes to data of which R is true -/
abbrev ER (T : List NTab) (X : Cx) (σ : L2.St) (H : Hp) (e : Expr) (R : D → Prop) : Prop := EX T X σ H e fun _ v H2 => ∃ d, R d ∧ Is H2 d v
/-- e comes to a new list of the data ds -/
abbrev EL (T : List NTab) (X : Cx) (σ : L2.St) (H : Hp) (e : Expr) (ds : List D) : Prop := EX T X σ H e fun H1 v H2 => ∃ p xs, v = .ref p ∧ H1 p = none ∧ H2 p = some (.lst xs) ∧ IsAll H2 ds xs
def ET (T : List NTab) (X : Cx) (σ : L2.St) (H : Hp) (e : Expr) (b : Bool) : Prop := ∀ H1, Gx T H H1 → TabsN T H1 → wT X e σ H1 fun c H2 => Gx T H1 H2 ∧ c = b
/-- the arguments come to data -/
def EA (T : List NTab) (X : Cx) (σ : L2.St) (H : Hp) (es : List Expr) (ds : List D) : Prop := ∀ H1, Gx T H H1 → TabsN T H1 → wA X es σ H1 fun vs H2 => Gx T H1 H2 ∧ IsAll H2 ds vs
/-- a promise by data: R tells of the heap and the arguments' data what is true of the answer -/
def spF (T : List NTab) (R : Hp → List D → (Hp → V → Prop) → Prop) : Sp := fun vs H Q _ => TabsN T H ∧ ∃ ds post, IsAll H ds vs ∧ R H ds post ∧ ∀ v H', Gx T H H' → post H' v → Q v H'
/-- the answer is data -/
abbrev isD (R : D → Prop) : Hp → V → Prop := fun H v => ∃ d, R d ∧ Is H d v
section
variable {T : List NTab} {X : Cx} {σ : L2.St} {H H' : Hp} {e a b : Expr} {d x y : D} {pos : Pos}
theorem EX.mono {P : Hp → V → Hp → Prop} (g : Gx T H H') (h : EX T X σ H e P) : EX T X σ H' e P := fun H1 g1 t => h H1 (g.trans g1) t
theorem ET.mono {c : Bool} (g : Gx T H H') (h : ET T X σ H e c) : ET T X σ H' e c := fun H1 g1 t => h H1 (g.trans g1) t
theorem EX.imp {P P' : Hp → V → Hp → Prop} (h : EX T X σ H e P) (q : ∀ H1 v H2, Gx T H H1 → Gx T H1 H2 → P H1 v H2 → P' H1 v H2) : EX T X σ H e P' := fun H1 g t =>
  wE_imp (h H1 g t) fun v H2 ⟨g2, p⟩ => ⟨g2, q H1 v H2 g g2 p⟩
theorem EE.is {d' : D} (h : EE T X σ H e d) (q : d = d') : EE T X σ H e d' := q ▸ h
theorem ET.is {c c' : Bool} (h : ET T X σ H e c) (q : c = c') : ET T X σ H e c' := q ▸ h
theorem EE.er {R : D → Prop} (h : EE T X σ H e d) (q : R d) : ER T X σ H e R := h.imp fun _ _ _ _ _ p => ⟨d, q, p⟩

/-! names, constants -/
theorem ee_v {i : Nat} {v : V} (p : PE X e (tVar i)) (h : σ[i]? = some (some v)) (hd : Is H d v) : EE T X σ H e d := fun H1 g _ =>
  PE_to p ⟨v, h, Gx.refl H1, hd.mono g.ti⟩
theorem ee_c {v : V} (p : PE X e (tC v)) (hd : Is H d v) : EE T X σ H e d := fun H1 g _ => PE_to p ⟨Gx.refl H1, hd.mono g.ti⟩
theorem ee_int {i : Int} {j : Nat} : EE T X σ H (.Constant (.int i) j pos) (.int i) := ee_c pe_int (.int i)
theorem ee_bl {c : Bool} {j : Nat} : EE T X σ H (.Constant (.bool c) j pos) (.bl c) := ee_c pe_bl (.bl c)
theorem ee_non {j : Nat} : EE T X σ H (.Constant .none j pos) .non := ee_c pe_non .non
theorem ee_str {s : Str} {j : Nat} : EE T X σ H (.Constant (.str s) j pos) (.str s) := ee_c pe_str (.str s)

/-! two-place operations -/
/-- what is asked of a rule by values: from extensions of H in which P holds -/
abbrev Go (T : List NTab) (H : Hp) (P : V → Hp → Prop) (k : VK → Prop) : Prop := ∀ Q : VK, (∀ z H3, Gx T H H3 → P z H3 → Q z H3) → k Q
theorem ex_op2 {r : R2} {P : Hp → V → Hp → Prop} (p : PE X e (tOp r (wE X a) (wE X b))) (ha : EE T X σ H a x) (hb : EE T X σ H b y)
    (hr : ∀ H1 H2 u v, Gx T H H1 → Gx T H1 H2 → TabsN T H2 → Is H2 x u → Is H2 y v → Go T H2 (P H1) (r u v H2)) : EX T X σ H e P := fun H1 g t =>
  PE_to p (wE_imp (ha H1 g t) fun u H2 ⟨g2, i2⟩ => wE_imp (hb H2 (g.trans g2) (g2.tab t)) fun v H3 ⟨g3, i3⟩ =>
    hr H1 H3 u v g (g2.trans g3) ((g2.trans g3).tab t) (i2.mono g3.ti) i3 _ fun z H4 g4 q => ⟨(g2.trans g3).trans g4, q⟩)
theorem ee_int2 {g : Int → Int → Int} {C : Int → Int → Prop} {i j : Int} (p : PE X e (tOp (rI C fun i j => .int (g i j)) (wE X a) (wE X b))) (ha : EE T X σ H a (.int i)) (hb : EE T X σ H b (.int j)) (hc : C i j) : EE T X σ H e (.int (g i j)) :=
  ex_op2 p ha hb fun H1 H2 u v _ _ _ iu iv Q q => ⟨i, j, iu.int_eq, iv.int_eq, hc, q _ _ (Gx.refl _) (.int _)⟩
theorem ee_int20 {g : Int → Int → Int} {i j : Int} (p : PE X e (tOp (rI0 fun i j => .int (g i j)) (wE X a) (wE X b))) (ha : EE T X σ H a (.int i)) (hb : EE T X σ H b (.int j)) : EE T X σ H e (.int (g i j)) :=
  ex_op2 p ha hb fun H1 H2 u v _ _ _ iu iv Q q => ⟨i, j, iu.int_eq, iv.int_eq, q _ _ (Gx.refl _) (.int _)⟩
theorem ee_cmp20 {g : Int → Int → Bool} {i j : Int} (p : PE X e (tOp (rI0 fun i j => .bl (g i j)) (wE X a) (wE X b))) (ha : EE T X σ H a (.int i)) (hb : EE T X σ H b (.int j)) : EE T X σ H e (.bl (g i j)) :=
  ex_op2 p ha hb fun H1 H2 u v _ _ _ iu iv Q q => ⟨i, j, iu.int_eq, iv.int_eq, q _ _ (Gx.refl _) (.bl _)⟩
theorem ee_add {i j : Int} (ha : EE T X σ H a (.int i)) (hb : EE T X σ H b (.int j)) : EE T X σ H (.BinOp a .Add b pos) (.int (i + j)) := ee_int20 (pe_op op_add wE_pe wE_pe) ha hb
theorem ee_sub {i j : Int} (ha : EE T X σ H a (.int i)) (hb : EE T X σ H b (.int j)) : EE T X σ H (.BinOp a .Sub b pos) (.int (i - j)) := ee_int20 (pe_op op_sub wE_pe wE_pe) ha hb
theorem ee_mul {i j : Int} (ha : EE T X σ H a (.int i)) (hb : EE T X σ H b (.int j)) (hc : CMul i j) : EE T X σ H (.BinOp a .Mult b pos) (.int (i * j)) := ee_int2 (pe_op op_mul wE_pe wE_pe) ha hb hc
theorem ee_mod {i j : Int} (ha : EE T X σ H a (.int i)) (hb : EE T X σ H b (.int j)) (hc : 0 < j) : EE T X σ H (.BinOp a .Mod b pos) (.int (i % j)) := ee_int2 (pe_op op_mod wE_pe wE_pe) ha hb hc
theorem ee_fdiv {i j : Int} (ha : EE T X σ H a (.int i)) (hb : EE T X σ H b (.int j)) (hc : CDiv i j) : EE T X σ H (.BinOp a .FloorDiv b pos) (.int (i / j)) := ee_int2 (pe_op op_fdiv wE_pe wE_pe) ha hb hc
theorem ee_shl {i j : Int} (ha : EE T X σ H a (.int i)) (hb : EE T X σ H b (.int j)) (hc : CPow i j) : EE T X σ H (.BinOp a .LShift b pos) (.int (i * 2 ^ j.toNat)) := ee_int2 (g := fun i j => i * 2 ^ j.toNat) (pe_op op_shl wE_pe wE_pe) ha hb hc
theorem ee_shr {i j : Int} (ha : EE T X σ H a (.int i)) (hb : EE T X σ H b (.int j)) (hc : 0 ≤ j) : EE T X σ H (.BinOp a .RShift b pos) (.int (i / 2 ^ j.toNat)) := ee_int2 (g := fun i j => i / 2 ^ j.toNat) (pe_op op_shr wE_pe wE_pe) ha hb hc
theorem ee_and {i j : Int} (ha : EE T X σ H a (.int i)) (hb : EE T X σ H b (.int j)) : EE T X σ H (.BinOp a .BitAnd b pos) (.int (Builtin.bitAnd i j)) := ee_int20 (pe_op op_and wE_pe wE_pe) ha hb
theorem ee_pow {i j : Int} (ha : EE T X σ H a (.int i)) (hb : EE T X σ H b (.int j)) (hc : CPow i j) : EE T X σ H (.BinOp a .Pow b pos) (.int (i ^ j.toNat)) := ee_int2 (g := fun i j => i ^ j.toNat) (pe_op op_pow wE_pe wE_pe) ha hb hc
theorem ee_lt {i j : Int} (ha : EE T X σ H a (.int i)) (hb : EE T X σ H b (.int j)) : EE T X σ H (.Compare a [.Lt] [b] pos) (.bl (decide (i < j))) := ee_cmp20 (pe_cmpR op_lt wE_pe wE_pe (nomark _)) ha hb
theorem ee_le {i j : Int} (ha : EE T X σ H a (.int i)) (hb : EE T X σ H b (.int j)) : EE T X σ H (.Compare a [.LtE] [b] pos) (.bl (decide (i ≤ j))) := ee_cmp20 (pe_cmpR op_le wE_pe wE_pe (nomark _)) ha hb
theorem ee_gt {i j : Int} (ha : EE T X σ H a (.int i)) (hb : EE T X σ H b (.int j)) : EE T X σ H (.Compare a [.Gt] [b] pos) (.bl (decide (j < i))) := ee_cmp20 (pe_cmpR op_gt wE_pe wE_pe (nomark _)) ha hb
theorem ee_ge {i j : Int} (ha : EE T X σ H a (.int i)) (hb : EE T X σ H b (.int j)) : EE T X σ H (.Compare a [.GtE] [b] pos) (.bl (decide (j ≤ i))) := ee_cmp20 (pe_cmpR op_ge wE_pe wE_pe (nomark _)) ha hb
/-- the value an atom has -/
def atomV : D → Option V
  | .non => some .non
  | .bl b => some (.bl b)
  | .int i => some (.int i)
  | .str s => some (.str s)
  | .ref a => some (.ref a)
  | .tup _ => none
theorem Is.atom {H : Hp} {d : D} {v u : V} (h : Is H d v) (e : atomV d = some u) : v = u := by
  cases h <;> simp [atomV] at e <;> first | exact e | skip
theorem ee_eq {u v : V} (ha : EE T X σ H a x) (hb : EE T X σ H b y) (hu : atomV x = some u) (hv : atomV y = some v) (hs : scal u v = true) : EE T X σ H (.Compare a [.Eq] [b] pos) (.bl (decide (u = v))) :=
  ex_op2 (pe_cmpR op_eq wE_pe wE_pe (nomark _)) ha hb fun H1 H2 u' v' _ _ _ iu iv Q q => by
    rw [iu.atom hu, iv.atom hv]; exact ⟨hs, q _ _ (Gx.refl _) (.bl _)⟩
theorem ee_ne {u v : V} (ha : EE T X σ H a x) (hb : EE T X σ H b y) (hu : atomV x = some u) (hv : atomV y = some v) (hs : scal u v = true) : EE T X σ H (.Compare a [.NotEq] [b] pos) (.bl (!decide (u = v))) :=
  ex_op2 (pe_cmpR op_ne wE_pe wE_pe (nomark _)) ha hb fun H1 H2 u' v' _ _ _ iu iv Q q => by
    rw [iu.atom hu, iv.atom hv]; exact ⟨hs, q _ _ (Gx.refl _) (.bl _)⟩
theorem ee_eqI {i j : Int} (ha : EE T X σ H a (.int i)) (hb : EE T X σ H b (.int j)) : EE T X σ H (.Compare a [.Eq] [b] pos) (.bl (decide (i = j))) :=
  (ee_eq ha hb rfl rfl rfl).is (by congr 1; rw [decide_eq_decide]; exact ⟨fun e => V.int.inj e, fun e => by rw [e]⟩)
theorem ee_eqB {i j : Bool} (ha : EE T X σ H a (.bl i)) (hb : EE T X σ H b (.bl j)) : EE T X σ H (.Compare a [.Eq] [b] pos) (.bl (decide (i = j))) :=
  (ee_eq ha hb rfl rfl rfl).is (by congr 1; rw [decide_eq_decide]; exact ⟨fun e => V.bl.inj e, fun e => by rw [e]⟩)
theorem ee_eqS {i j : Str} (ha : EE T X σ H a (.str i)) (hb : EE T X σ H b (.str j)) : EE T X σ H (.Compare a [.Eq] [b] pos) (.bl (decide (i = j))) :=
  (ee_eq ha hb rfl rfl rfl).is (by congr 1; rw [decide_eq_decide]; exact ⟨fun e => V.str.inj e, fun e => by rw [e]⟩)
theorem ee_catS {i j : Str} (ha : EE T X σ H a (.str i)) (hb : EE T X σ H b (.str j)) (hz : i.length + j.length ≤ sizeLine) : EE T X σ H (.BinOp a .Add b pos) (.str (i ++ j)) :=
  ex_op2 (pe_op op_add_str wE_pe wE_pe) ha hb fun H1 H2 u v _ _ _ iu iv Q q => ⟨i, j, iu.str_eq, iv.str_eq, hz, q _ _ (Gx.refl _) (.str _)⟩
theorem ee_inS {c : Nat} {z : Str} (ha : EE T X σ H a (.str ⟨#[c]⟩)) (hb : EE T X σ H b (.str z)) (hm : behindInMarks .In b = false) : EE T X σ H (.Compare a [.In] [b] pos) (.bl (decide (c ∈ z.cps.toList))) :=
  ex_op2 (pe_cmpR op_in_sign wE_pe wE_pe hm) ha hb fun H1 H2 u v _ _ _ iu iv Q q => ⟨c, z, iu.str_eq, iv.str_eq, q _ _ (Gx.refl _) (.bl _)⟩
/-- an item of a tuple -/
theorem ee_ixT {ds : List D} {i : Nat} (ha : EE T X σ H a (.tup ds)) (hb : EE T X σ H b (.int i)) (hi : ds[i]? = some d) (hs : PlainIx b := by exact fun _ _ => rfl) : EE T X σ H (.Subscript a b pos) d :=
  ex_op2 (pe_ix ix_tup wE_pe wE_pe hs) ha hb fun H1 H2 u v _ _ _ iu iv Q q => by
    cases iu with
    | tup ht hr =>
      obtain ⟨w, e, hw⟩ := hr.get hi
      rw [iv.int_eq]
      exact ⟨_, _, _, w, rfl, rfl, SqT.of ht, atI_nat e, q _ _ (Gx.refl _) hw⟩
/-- an item of a list -/
theorem ee_ixL {p : Addr} {xs : List V} {i : Int} {v : V} (ha : EE T X σ H a (.ref p)) (hp : H p = some (.lst xs)) (hb : EE T X σ H b (.int i)) (hi : atI xs i = some v) (hd : Is H d v) (hs : PlainIx b := by exact fun _ _ => rfl) : EE T X σ H (.Subscript a b pos) d :=
  ex_op2 (pe_ix ix_list wE_pe wE_pe hs) ha hb fun H1 H2 u w g1 g2 _ iu iv Q q => by
    rw [iu.ref_eq, iv.int_eq]
    exact ⟨_, _, _, v, rfl, rfl, SqL.of ((g1.trans g2).lst hp), hi, q _ _ (Gx.refl _) (hd.mono (g1.trans g2).ti)⟩
theorem ee_ixS {z : Str} {i : Nat} {c : Nat} (ha : EE T X σ H a (.str z)) (hb : EE T X σ H b (.int i)) (hz : z.length ≤ sizeLine) (hi : z.cps.toList[i]? = some c) (hs : PlainIx b := by exact fun _ _ => rfl) : EE T X σ H (.Subscript a b pos) (.str ⟨#[c]⟩) :=
  ex_op2 (pe_ix ix_str wE_pe wE_pe hs) ha hb fun H1 H2 u v _ _ _ iu iv Q q => by
    rw [iu.str_eq, iv.int_eq]
    exact ⟨z, _, c, rfl, rfl, hz, atI_nat hi, q _ _ (Gx.refl _) (.str _)⟩
/-- t + u, tuples -/
theorem ee_catT {ds es : List D} (ha : EE T X σ H a (.tup ds)) (hb : EE T X σ H b (.tup es)) (hz : ds.length + es.length ≤ sizeLine) : EE T X σ H (.BinOp a .Add b pos) (.tup (ds ++ es)) :=
  ex_op2 (pe_op op_catA wE_pe wE_pe) ha hb fun H1 H2 u v _ _ _ iu iv Q q => by
    cases iu with
    | tup h1 r1 =>
      cases iv with
      | tup h2 r2 =>
        refine ⟨_, _, _, _, rfl, rfl, SqT.of h1, SqT.of h2, by rw [← r1.length, ← r2.length]; exact hz, fun e => ?_, fun _ e => ?_, fun _ _ p hp => ?_⟩
        · subst e; cases r1; exact q _ _ (Gx.refl _) (.tup h2 r2)
        · subst e; cases r2; exact q _ _ (Gx.refl _) (by rw [List.append_nil]; exact .tup h1 r1)
        · exact q _ _ (Gx.new hp) (.tup upd_same ((r1.append r2).mono (Gx.new (T := T) hp).ti))
/-- xs + ys, lists: a new one -/
theorem el_cat {p q : Addr} {xs ys : List V} {ds es : List D} (ha : EE T X σ H a (.ref p)) (hb : EE T X σ H b (.ref q)) (h1 : H p = some (.lst xs)) (h2 : H q = some (.lst ys)) (r1 : IsAll H ds xs) (r2 : IsAll H es ys) (hz : xs.length + ys.length ≤ sizeLine) :
    EL T X σ H (.BinOp a .Add b pos) (ds ++ es) :=
  ex_op2 (pe_op op_cat wE_pe wE_pe) ha hb fun H1 H2 u v g1 g2 t2 iu iv Q k => by
    rw [iu.ref_eq, iv.ref_eq]
    refine ⟨_, _, _, _, rfl, rfl, (g1.trans g2).lst h1, (g1.trans g2).lst h2, hz, fun l hl => k _ _ (Gx.new hl) ⟨l, _, rfl, ?_, upd_same, ?_⟩⟩
    · exact g2.low l hl
    · exact (r1.append r2).mono ((g1.trans g2).ti.trans (Gx.new (T := T) hl).ti)
end
end Tk
set_option Elab.async false
set_option linter.all false
set_option maxRecDepth 100000
/-! Statements, tests, calls, comprehensions over pure data. -/
namespace Tk
open PySem PySem.Spec PyProof.Rows L2 LamX NdefX
section
variable {T : List NTab} {X : Cx} {σ : L2.St} {H H' : Hp} {e a b : Expr} {es : List Expr} {d x y : D} {ds : List D} {pos : Pos}

/-! ### arguments, displays -/
theorem ea_nil : EA T X σ H [] [] := fun H1 g t => PA_to pa_nil ⟨Gx.refl H1, .nil⟩
theorem ea_cons (ha : EE T X σ H e d) (hr : EA T X σ H es ds) (hs : starEach (e :: es) X.env = (false, eval e X.env) :: starEach es X.env := by rfl) : EA T X σ H (e :: es) (d :: ds) := fun H1 g t =>
  PA_to (pa_cons wE_pe wA_pa hs) (wE_imp (ha H1 g t) fun u H2 ⟨g2, i2⟩ => wA_imp (hr H2 (g.trans g2) (g2.tab t)) fun vs H3 ⟨g3, i3⟩ => ⟨g2.trans g3, .cons (i2.mono g3.ti) i3⟩)
theorem EA.mono (g : Gx T H H') (h : EA T X σ H es ds) : EA T X σ H' es ds := fun H1 g1 t => h H1 (g.trans g1) t
theorem ee_tup {k : Nat} (h : EA T X σ H es ds) (hz : ds.length ≤ sizeLine) : EE T X σ H (.Tuple es k pos) (.tup ds) := fun H1 g t =>
  PE_to (pe_tup wA_pa) (wA_imp (h H1 g t) fun vs H2 ⟨g2, i2⟩ => ⟨by rw [← i2.length]; exact hz, fun p hp => ⟨g2.trans (Gx.new hp), .tup upd_same (i2.mono (Gx.new (T := T) hp).ti)⟩⟩)
theorem el_lst (h : EA T X σ H es ds) (hz : ds.length ≤ sizeLine) : EL T X σ H (.List es pos) ds := fun H1 g t =>
  PE_to (pe_lst wA_pa) (wA_imp (h H1 g t) fun vs H2 ⟨g2, i2⟩ => ⟨by rw [← i2.length]; exact hz, fun p hp => ⟨g2.trans (Gx.new hp), p, vs, rfl, g2.low p hp, upd_same, i2.mono (Gx.new (T := T) hp).ti⟩⟩)
/-- tuple(list): new -/
theorem ee_tupL {p1 : Pos} (hg : Gl X "tuple") (hm : X.mg "tuple" = none) (h : EL T X σ H e ds) (na : starEach [e] X.env = (false, eval e X.env) :: starEach [] X.env := by rfl) : EE T X σ H (.Call (.Name "tuple" p1) [e] [] pos) (.tup ds) := fun H1 g t =>
  PE_to (pe_tupleOf hg hm wE_pe na) (wE_imp (h H1 g t) fun v H2 ⟨g2, p, xs, e1, _, h2, i2⟩ => .inl ⟨p, xs, e1, SqL.of h2, fun q hq => ⟨g2.trans (Gx.new hq), .tup upd_same (i2.mono (Gx.new (T := T) hq).ti)⟩⟩)
/-- tuple(a list that stands) -/
theorem ee_tupP {p1 : Pos} {p : Addr} {xs : List V} (hg : Gl X "tuple") (hm : X.mg "tuple" = none) (h : EE T X σ H e (.ref p)) (hp : H p = some (.lst xs)) (hx : IsAll H ds xs) (na : starEach [e] X.env = (false, eval e X.env) :: starEach [] X.env := by rfl) :
    EE T X σ H (.Call (.Name "tuple" p1) [e] [] pos) (.tup ds) := fun H1 g t =>
  PE_to (pe_tupleOf hg hm wE_pe na) (wE_imp (h H1 g t) fun v H2 ⟨g2, i2⟩ => .inl ⟨p, xs, i2.ref_eq, SqL.of ((g.trans g2).lst hp), fun q hq => ⟨g2.trans (Gx.new hq), .tup upd_same ((hx.mono (g.trans g2).ti).mono (Gx.new (T := T) hq).ti)⟩⟩)

/-! ### built-in calls -/
theorem ex_blt {x1 : Str} {p1 : Pos} {id : String} {r : List V → Hp → VK → Prop} {P : Hp → V → Hp → Prop} (hc : CallR X (.builtin id) r) (hg : Gl X x1) (hm : X.mg x1 = none) (hv : bootBuiltins x1 = some (.builtin id)) (ha : EA T X σ H (e :: es) ds)
    (hr : ∀ H1 H2 vs, Gx T H H1 → Gx T H1 H2 → TabsN T H2 → IsAll H2 ds vs → Go T H2 (P H1) (r vs H2)) (hn : x1 ≠ "__name__" := by decide) (hdb : (x1 == ("__debug__" : Str)) = false := by decide)
    (he : starEach (e :: es) X.env = (false, eval e X.env) :: starEach es X.env := by rfl) (hpl : (backTo pos (starEach es X.env)).any (·.1) = false := by rfl) : EX T X σ H (.Call (.Name x1 p1) (e :: es) [] pos) P := fun H1 g t =>
  PE_to (pe_callB hc hg hm hv wA_pa hn hdb he hpl) (wA_imp (ha H1 g t) fun vs H2 ⟨g2, i2⟩ => hr H1 H2 vs g g2 (g2.tab t) i2 _ fun z H3 g3 q => ⟨g2.trans g3, q⟩)
theorem ex_ty {x1 : Str} {p1 : Pos} {id : String} {r : List V → Hp → VK → Prop} {P : Hp → V → Hp → Prop} (hc : CallR X (.type id) r) (hg : Gl X x1) (hm : X.mg x1 = none) (hv : bootBuiltins x1 = some (.type id)) (ha : EA T X σ H (e :: es) ds)
    (hr : ∀ H1 H2 vs, Gx T H H1 → Gx T H1 H2 → TabsN T H2 → IsAll H2 ds vs → Go T H2 (P H1) (r vs H2)) (hn : x1 ≠ "__name__" := by decide) (hdb : (x1 == ("__debug__" : Str)) = false := by decide)
    (he : starEach (e :: es) X.env = (false, eval e X.env) :: starEach es X.env := by rfl) (hpl : (backTo pos (starEach es X.env)).any (·.1) = false := by rfl) : EX T X σ H (.Call (.Name x1 p1) (e :: es) [] pos) P := fun H1 g t =>
  PE_to (pe_callTy hc hg hm hv wA_pa hn hdb he hpl) (wA_imp (ha H1 g t) fun vs H2 ⟨g2, i2⟩ => hr H1 H2 vs g g2 (g2.tab t) i2 _ fun z H3 g3 q => ⟨g2.trans g3, q⟩)
/-- len -/
theorem ee_lenT {p1 : Pos} (hg : Gl X "len") (hm : X.mg "len" = none) (h : EE T X σ H e (.tup ds)) (he : starEach (e :: []) X.env = (false, eval e X.env) :: starEach [] X.env := by rfl) (hpl : (backTo pos (starEach [] X.env)).any (·.1) = false := by rfl) :
    EE T X σ H (.Call (.Name "len" p1) [e] [] pos) (.int (ds.length : Nat)) :=
  ex_blt call_len hg hm PySem.boot_len (ea_cons h ea_nil he) (fun H1 H2 vs _ _ _ i Q q => by
    cases i with
    | cons i1 i2 =>
      cases i2
      cases i1 with
      | tup ht hr => exact ⟨_, ds.length, rfl, .inr ⟨_, SqT.of ht, hr.length⟩, q _ _ (Gx.refl _) (.int _)⟩) (by decide) (by decide) he hpl
theorem ee_lenS {p1 : Pos} {z : Str} (hg : Gl X "len") (hm : X.mg "len" = none) (h : EE T X σ H e (.str z)) (hz : z.length ≤ sizeLine) (he : starEach (e :: []) X.env = (false, eval e X.env) :: starEach [] X.env := by rfl) (hpl : (backTo pos (starEach [] X.env)).any (·.1) = false := by rfl) :
    EE T X σ H (.Call (.Name "len" p1) [e] [] pos) (.int (z.length : Nat)) :=
  ex_blt call_len hg hm PySem.boot_len (ea_cons h ea_nil he) (fun H1 H2 vs _ _ _ i Q q => by
    cases i with
    | cons i1 i2 =>
      cases i2
      cases i1
      exact ⟨_, z.length, rfl, ⟨hz, rfl⟩, q _ _ (Gx.refl _) (.int _)⟩) (by decide) (by decide) he hpl
theorem ee_lenL {p1 : Pos} {p : Addr} {xs : List V} (hg : Gl X "len") (hm : X.mg "len" = none) (h : EE T X σ H e (.ref p)) (hp : H p = some (.lst xs)) (he : starEach (e :: []) X.env = (false, eval e X.env) :: starEach [] X.env := by rfl) (hpl : (backTo pos (starEach [] X.env)).any (·.1) = false := by rfl) :
    EE T X σ H (.Call (.Name "len" p1) [e] [] pos) (.int (xs.length : Nat)) :=
  ex_blt call_len hg hm PySem.boot_len (ea_cons h ea_nil he) (fun H1 H2 vs g1 g2 _ i Q q => by
    cases i with
    | cons i1 i2 =>
      cases i2
      cases i1
      exact ⟨_, xs.length, rfl, .inl ⟨_, SqL.of ((g1.trans g2).lst hp), rfl⟩, q _ _ (Gx.refl _) (.int _)⟩) (by decide) (by decide) he hpl
/-- len of a list known to the layer in any way -/
theorem ee_lenQ {p1 : Pos} {p : Addr} {xs : List V} (hg : Gl X "len") (hm : X.mg "len" = none) (h : EE T X σ H e (.ref p)) (hp : ∀ H1, Gx T H H1 → SqL X.K H1 p xs) (he : starEach (e :: []) X.env = (false, eval e X.env) :: starEach [] X.env := by rfl) (hpl : (backTo pos (starEach [] X.env)).any (·.1) = false := by rfl) :
    EE T X σ H (.Call (.Name "len" p1) [e] [] pos) (.int (xs.length : Nat)) :=
  ex_blt call_len hg hm PySem.boot_len (ea_cons h ea_nil he) (fun H1 H2 vs g1 g2 _ i Q q => by
    cases i with
    | cons i1 i2 =>
      cases i2
      cases i1
      exact ⟨_, xs.length, rfl, .inl ⟨_, hp _ (g1.trans g2), rfl⟩, q _ _ (Gx.refl _) (.int _)⟩) (by decide) (by decide) he hpl

/-! ### calls of defs -/
/-- a def of the text keeps a promise by data -/
def DefOk (P : Program) (w : World) (K : PySem.W.Frag) (mg : Str → Option Value) (base : Heap) (T : List NTab) (k : Nat) (x : Str) (ps : List Str) (R : Hp → List D → (Hp → V → Prop) → Prop) : Prop :=
  ∃ f fd, mg x = some (.ref f) ∧ PySem.W.keepIn K (.ref f) = true ∧ Binds K fd ps [] ∧ FnOk P w K mg base CX0 k f fd ps (spF T R)
theorem ex_call {k j : Nat} {x1 : Str} {p1 : Pos} {ps : List Str} {R : Hp → List D → (Hp → V → Prop) → Prop} {P : Hp → V → Hp → Prop} (F : DefOk X.prog X.w X.K X.mg X.base T k x1 ps R) (hr : Room j X.A) (hk : k ≤ j) (hg : Gl X x1) (ha : EA T X σ H (e :: es) ds)
    (hR : ∀ H1 H2, Gx T H H1 → Gx T H1 H2 → ∃ post, R H2 ds post ∧ ∀ v H3, Gx T H2 H3 → post H3 v → P H1 v H3) (hdb : (x1 == ("__debug__" : Str)) = false := by decide)
    (he : starEach (e :: es) X.env = (false, eval e X.env) :: starEach es X.env := by rfl) (hpl : (backTo pos (starEach es X.env)).any (·.1) = false := by rfl) : EX T X σ H (.Call (.Name x1 p1) (e :: es) [] pos) P := fun H1 g t => by
  obtain ⟨f, fd, hm, hkp, hb, F⟩ := F
  refine PE_to (pe_call (E := E0) F (hr.mono hk) hg hm hkp hb .nil pass0 wA_pa hdb he hpl) (wA_imp (ha H1 g t) fun vs H2 ⟨g2, i2⟩ => ?_)
  obtain ⟨post, h1, h2⟩ := hR H1 H2 g g2
  exact ⟨g2.tab t, ds, post, by rw [List.append_nil]; exact i2, h1, fun v H' g' q => ⟨g2.trans g', h2 v H' g' q⟩⟩
/-- .. whose answer is data told by the arguments' data alone -/
def rD (R : List D → D → Prop) (C : List D → Prop) : Hp → List D → (Hp → V → Prop) → Prop := fun _ ds post => C ds ∧ post = isD (R ds)
theorem er_call {k j : Nat} {x1 : Str} {p1 : Pos} {ps : List Str} {R : List D → D → Prop} {C : List D → Prop} (F : DefOk X.prog X.w X.K X.mg X.base T k x1 ps (rD R C)) (hr : Room j X.A) (hk : k ≤ j) (hg : Gl X x1) (ha : EA T X σ H (e :: es) ds) (hC : C ds) (hdb : (x1 == ("__debug__" : Str)) = false := by decide)
    (he : starEach (e :: es) X.env = (false, eval e X.env) :: starEach es X.env := by rfl) (hpl : (backTo pos (starEach es X.env)).any (·.1) = false := by rfl) : ER T X σ H (.Call (.Name x1 p1) (e :: es) [] pos) (R ds) :=
  ex_call F hr hk hg ha (fun H1 H2 _ _ => ⟨_, ⟨hC, rfl⟩, fun v H3 _ q => q⟩) hdb he hpl
theorem ER.ee {R : D → Prop} {d : D} (h : ER T X σ H e R) (q : ∀ d', R d' → d' = d) : EE T X σ H e d := h.imp fun _ v _ _ _ ⟨d', r, i⟩ => q d' r ▸ i

/-! ### tests -/
theorem et_val {c : Bool} (h : EE T X σ H e (.bl c)) (he : ∀ whole, isTrue e X.env whole = (do let v ← whole; standAt e.pos; holding [v] (truthy v)) := by intro _; rfl) : ET T X σ H e c := fun H1 g t =>
  PT_to (pt_val wE_pe he) (wE_imp (h H1 g t) fun v H2 ⟨g2, i2⟩ => ⟨c, i2.bl_eq, g2, rfl⟩)
theorem et_cmpV {c : Bool} {op : CmpOp} {r : R2} (ho : OpR X (compareOp op) r) (ha : EE T X σ H a x) (hb : EE T X σ H b y) (hm : behindInMarks op b = false)
    (hr : ∀ H1 H2 u v, Gx T H H1 → Gx T H1 H2 → TabsN T H2 → Is H2 x u → Is H2 y v → Go T H2 (fun z _ => z = .bl c) (r u v H2)) : ET T X σ H (.Compare a [op] [b] pos) c := fun H1 g t =>
  PT_to (pt_cmpR ho wE_pe wE_pe hm) (wE_imp (ha H1 g t) fun u H2 ⟨g2, i2⟩ => wE_imp (hb H2 (g.trans g2) (g2.tab t)) fun v H3 ⟨g3, i3⟩ =>
    hr H1 H3 u v g (g2.trans g3) ((g2.trans g3).tab t) (i2.mono g3.ti) i3 _ fun z H4 g4 q => ⟨c, q, (g2.trans g3).trans g4, rfl⟩)
theorem et_cmp20 {op : CmpOp} {g : Int → Int → Bool} {i j : Int} (ho : OpR X (compareOp op) (rI0 fun i j => .bl (g i j))) (ha : EE T X σ H a (.int i)) (hb : EE T X σ H b (.int j)) (hm : behindInMarks op b = false) : ET T X σ H (.Compare a [op] [b] pos) (g i j) :=
  et_cmpV ho ha hb hm fun _ _ u v _ _ _ iu iv Q q => ⟨i, j, iu.int_eq, iv.int_eq, q _ _ (Gx.refl _) rfl⟩
theorem et_lt {i j : Int} (ha : EE T X σ H a (.int i)) (hb : EE T X σ H b (.int j)) : ET T X σ H (.Compare a [.Lt] [b] pos) (decide (i < j)) := et_cmp20 op_lt ha hb (nomark _)
theorem et_le {i j : Int} (ha : EE T X σ H a (.int i)) (hb : EE T X σ H b (.int j)) : ET T X σ H (.Compare a [.LtE] [b] pos) (decide (i ≤ j)) := et_cmp20 op_le ha hb (nomark _)
theorem et_gt {i j : Int} (ha : EE T X σ H a (.int i)) (hb : EE T X σ H b (.int j)) : ET T X σ H (.Compare a [.Gt] [b] pos) (decide (j < i)) := et_cmp20 op_gt ha hb (nomark _)
theorem et_ge {i j : Int} (ha : EE T X σ H a (.int i)) (hb : EE T X σ H b (.int j)) : ET T X σ H (.Compare a [.GtE] [b] pos) (decide (j ≤ i)) := et_cmp20 op_ge ha hb (nomark _)
theorem et_eq {u v : V} (ha : EE T X σ H a x) (hb : EE T X σ H b y) (hu : atomV x = some u) (hv : atomV y = some v) (hs : scal u v = true) : ET T X σ H (.Compare a [.Eq] [b] pos) (decide (u = v)) :=
  et_cmpV op_eq ha hb (nomark _) fun _ _ _ _ _ _ _ iu iv Q q => by rw [iu.atom hu, iv.atom hv]; exact ⟨hs, q _ _ (Gx.refl _) rfl⟩
theorem et_ne {u v : V} (ha : EE T X σ H a x) (hb : EE T X σ H b y) (hu : atomV x = some u) (hv : atomV y = some v) (hs : scal u v = true) : ET T X σ H (.Compare a [.NotEq] [b] pos) (!decide (u = v)) :=
  et_cmpV op_ne ha hb (nomark _) fun _ _ _ _ _ _ _ iu iv Q q => by rw [iu.atom hu, iv.atom hv]; exact ⟨hs, q _ _ (Gx.refl _) rfl⟩
theorem et_eqI {i j : Int} (ha : EE T X σ H a (.int i)) (hb : EE T X σ H b (.int j)) : ET T X σ H (.Compare a [.Eq] [b] pos) (decide (i = j)) :=
  (et_eq ha hb rfl rfl rfl).is (by rw [decide_eq_decide]; exact ⟨fun e => V.int.inj e, fun e => by rw [e]⟩)
theorem et_neI {i j : Int} (ha : EE T X σ H a (.int i)) (hb : EE T X σ H b (.int j)) : ET T X σ H (.Compare a [.NotEq] [b] pos) (!decide (i = j)) :=
  (et_ne ha hb rfl rfl rfl).is (by congr 1; rw [decide_eq_decide]; exact ⟨fun e => V.int.inj e, fun e => by rw [e]⟩)
theorem et_eqB {i j : Bool} (ha : EE T X σ H a (.bl i)) (hb : EE T X σ H b (.bl j)) : ET T X σ H (.Compare a [.Eq] [b] pos) (decide (i = j)) :=
  (et_eq ha hb rfl rfl rfl).is (by rw [decide_eq_decide]; exact ⟨fun e => V.bl.inj e, fun e => by rw [e]⟩)
theorem et_inS {c : Nat} {z : Str} (ha : EE T X σ H a (.str ⟨#[c]⟩)) (hb : EE T X σ H b (.str z)) (hm : behindInMarks .In b = false) : ET T X σ H (.Compare a [.In] [b] pos) (decide (c ∈ z.cps.toList)) :=
  et_cmpV op_in_sign ha hb hm fun _ _ u v _ _ _ iu iv Q q => ⟨c, z, iu.str_eq, iv.str_eq, q _ _ (Gx.refl _) rfl⟩
/-- is None -/
theorem et_isN {u : V} {j : Nat} {p1 : Pos} (ha : EX T X σ H a (fun _ v _ => v = u)) : ET T X σ H (.Compare a [.Is] [.Constant .none j p1] pos) (decide (u = .non)) := fun H1 g t =>
  PT_to (pt_cmpR op_isN wE_pe pe_non (nomark _)) (wE_imp (ha H1 g t) fun v H2 ⟨g2, e2⟩ => ⟨rfl, _, by rw [e2], g2, rfl⟩)
theorem et_notN {u : V} {j : Nat} {p1 : Pos} (ha : EX T X σ H a (fun _ v _ => v = u)) : ET T X σ H (.Compare a [.IsNot] [.Constant .none j p1] pos) (!decide (u = .non)) := fun H1 g t =>
  PT_to (pt_cmpR op_notN wE_pe pe_non (nomark _)) (wE_imp (ha H1 g t) fun v H2 ⟨g2, e2⟩ => ⟨rfl, _, by rw [e2], g2, rfl⟩)
theorem ee_isN {u : V} {j : Nat} {p1 : Pos} (ha : EX T X σ H a (fun _ v _ => v = u)) : EE T X σ H (.Compare a [.Is] [.Constant .none j p1] pos) (.bl (decide (u = .non))) := fun H1 g t =>
  PE_to (pe_cmpR op_isN wE_pe pe_non (nomark _)) (wE_imp (ha H1 g t) fun v H2 ⟨g2, e2⟩ => ⟨rfl, g2, by rw [e2]; exact .bl _⟩)
theorem ee_notN {u : V} {j : Nat} {p1 : Pos} (ha : EX T X σ H a (fun _ v _ => v = u)) : EE T X σ H (.Compare a [.IsNot] [.Constant .none j p1] pos) (.bl (!decide (u = .non))) := fun H1 g t =>
  PE_to (pe_cmpR op_notN wE_pe pe_non (nomark _)) (wE_imp (ha H1 g t) fun v H2 ⟨g2, e2⟩ => ⟨rfl, g2, by rw [e2]; exact .bl _⟩)
theorem ev_v {i : Nat} {v : V} (p : PE X e (tVar i)) (h : σ[i]? = some (some v)) : EX T X σ H e (fun _ v' _ => v' = v) := fun H1 g _ => PE_to p ⟨v, h, Gx.refl H1, rfl⟩
theorem et_not {c : Bool} (h : ET T X σ H e c) : ET T X σ H (.UnaryOp .Not e pos) (!c) := fun H1 g t =>
  PT_to (pt_not wT_pt) (wT_imp (h H1 g t) fun b H2 ⟨g2, e2⟩ => ⟨g2, by rw [e2]⟩)
/-- and, or as tests: two, three -/
def wW (X : Cx) (e : Expr) : TT := fun σ H Q => ∀ (whole : Sem Value) (pins : List (Addr × Obj)) (s : Shared), Inv X pins σ H s → wpAny (model X.prog X.w) X.A (isTrue e X.env whole) (TP X pins σ Q) X.xe s
theorem wW_pw : PW X e (wW X e) := ⟨fun wh pins s σ H Q I h => h wh pins s I⟩
theorem PW_to {t : TT} (p : PW X e t) {Q : Bool → Hp → Prop} (h : t σ H Q) : wW X e σ H Q := fun wh pins s I => p.run wh pins s σ H Q I h
def EW (T : List NTab) (X : Cx) (σ : L2.St) (H : Hp) (e : Expr) (b : Bool) : Prop := ∀ H1, Gx T H H1 → TabsN T H1 → wW X e σ H1 fun c H2 => Gx T H1 H2 ∧ c = b
theorem EW.et {c : Bool} (h : EW T X σ H e c) : ET T X σ H e c := fun H1 g t => PT_to (PW.pt wW_pw) (h H1 g t)
theorem ew_and1 {c : Bool} (h : ET T X σ H a c) : EW T X σ H (.BoolOp .And [a] pos) c := fun H1 g t => PW_to (pw_and1 wT_pt) (h H1 g t)
theorem ew_or1 {c : Bool} (h : ET T X σ H a c) : EW T X σ H (.BoolOp .Or [a] pos) c := fun H1 g t => PW_to (pw_or1 wT_pt) (h H1 g t)
theorem wW_imp {Q Q' : Bool → Hp → Prop} (h : wW X e σ H Q) (q : ∀ v H1, Q v H1 → Q' v H1) : wW X e σ H Q' := fun wh pins s I =>
  thn (h wh pins s I) fun u s' ⟨H', I', z⟩ => ⟨H', I', q u H' z⟩
theorem ew_and {c1 c2 : Bool} {rest : List Expr} (h1 : ET T X σ H a c1) (h2 : c1 = true → EW T X σ H (.BoolOp .And (b :: rest) pos) c2) : EW T X σ H (.BoolOp .And (a :: b :: rest) pos) (c1 && c2) := fun H1 g t =>
  PW_to (pw_and wT_pt wW_pw) (wT_imp (h1 H1 g t) fun c H2 ⟨g2, e2⟩ => by
    subst e2
    cases c with
    | true => exact wW_imp (h2 rfl H2 (g.trans g2) (g2.tab t)) fun c' H3 ⟨g3, e3⟩ => ⟨g2.trans g3, e3⟩
    | false => exact ⟨g2, rfl⟩)
theorem ew_or {c1 c2 : Bool} {rest : List Expr} (h1 : ET T X σ H a c1) (h2 : c1 = false → EW T X σ H (.BoolOp .Or (b :: rest) pos) c2) : EW T X σ H (.BoolOp .Or (a :: b :: rest) pos) (c1 || c2) := fun H1 g t =>
  PW_to (pw_or wT_pt wW_pw) (wT_imp (h1 H1 g t) fun c H2 ⟨g2, e2⟩ => by
    subst e2
    cases c with
    | false => exact wW_imp (h2 rfl H2 (g.trans g2) (g2.tab t)) fun c' H3 ⟨g3, e3⟩ => ⟨g2.trans g3, e3⟩
    | true => exact ⟨g2, rfl⟩)
/-- and, or as values of truths -/
theorem ee_and2 {c1 c2 : Bool} (h1 : EE T X σ H a (.bl c1)) (h2 : c1 = true → EE T X σ H b (.bl c2)) : EE T X σ H (.BoolOp .And [a, b] pos) (.bl (c1 && c2)) := fun H1 g t =>
  PE_to (pe_and wE_pe (pe_one wE_pe)) (wE_imp (h1 H1 g t) fun v H2 ⟨g2, i2⟩ => ⟨c1, i2.bl_eq, by
    cases c1 with
    | true => exact wE_imp (h2 rfl H2 (g.trans g2) (g2.tab t)) fun v' H3 ⟨g3, e3⟩ => ⟨g2.trans g3, e3⟩
    | false => exact ⟨g2, .bl _⟩⟩)
theorem ee_and3 {c : Expr} {c1 c2 c3 : Bool} (h1 : EE T X σ H a (.bl c1)) (h2 : c1 = true → EE T X σ H b (.bl c2)) (h3 : c1 = true → c2 = true → EE T X σ H c (.bl c3)) : EE T X σ H (.BoolOp .And [a, b, c] pos) (.bl (c1 && (c2 && c3))) := fun H1 g t =>
  PE_to (pe_and wE_pe (pe_and wE_pe (pe_one wE_pe))) (wE_imp (h1 H1 g t) fun v H2 ⟨g2, i2⟩ => ⟨c1, i2.bl_eq, by
    cases c1 with
    | true =>
      refine wE_imp (h2 rfl H2 (g.trans g2) (g2.tab t)) fun v' H3 ⟨g3, i3⟩ => ⟨c2, i3.bl_eq, ?_⟩
      cases c2 with
      | true => exact wE_imp (h3 rfl rfl H3 (g.trans (g2.trans g3)) ((g2.trans g3).tab t)) fun v' H4 ⟨g4, e4⟩ => ⟨(g2.trans g3).trans g4, e4⟩
      | false => exact ⟨g2.trans g3, .bl _⟩
    | false => exact ⟨g2, .bl _⟩⟩)
theorem ee_or2 {c1 c2 : Bool} (h1 : EE T X σ H a (.bl c1)) (h2 : c1 = false → EE T X σ H b (.bl c2)) : EE T X σ H (.BoolOp .Or [a, b] pos) (.bl (c1 || c2)) := fun H1 g t =>
  PE_to (pe_or wE_pe (pe_one wE_pe)) (wE_imp (h1 H1 g t) fun v H2 ⟨g2, i2⟩ => ⟨c1, i2.bl_eq, by
    cases c1 with
    | false => exact wE_imp (h2 rfl H2 (g.trans g2) (g2.tab t)) fun v' H3 ⟨g3, e3⟩ => ⟨g2.trans g3, e3⟩
    | true => exact ⟨g2, .bl _⟩⟩)
theorem ee_not {c : Bool} (h : EE T X σ H a (.bl c)) : EE T X σ H (.UnaryOp .Not a pos) (.bl (!c)) := fun H1 g t =>
  PE_to (pe_not wE_pe) (wE_imp (h H1 g t) fun v H2 ⟨g2, i2⟩ => ⟨c, i2.bl_eq, g2, .bl _⟩)
end

/-! ### statements -/
section
variable {T : List NTab} {X : Cx} {σ : L2.St} {H H' : Hp} {e a b l : Expr} {es : List Expr} {st : Stmt} {rest body : List Stmt} {D' : Ends} {d x y : D} {ds : List D} {pos : Pos} {P : Hp → V → Hp → Prop}
theorem b_cons (h : wS X st { D' with nx := wB X rest D' } σ H) : wB X (st :: rest) D' σ H := PSs_to (pss_cons wS_ps wB_pss) h
theorem b_nil (h : D'.nx σ H) : wB X [] D' σ H := PSs_to pss_nil h
/-- any rule for a statement -/
theorem b_ps {t : TS} (p : PS X st t) (h : t { D' with nx := wB X rest D' } σ H) : wB X (st :: rest) D' σ H := b_cons (PS_to p h)
theorem b_asg {i : Nat} (p : PS X st (tAsg (wE X e) (gName i))) (hT : TabsN T H) (he : EX T X σ H e P) (k : ∀ v H1, Gx T H H1 → TabsN T H1 → P H v H1 → wB X rest D' (σ.set i (some v)) H1) : wB X (st :: rest) D' σ H :=
  b_ps p (wE_imp (he H (Gx.refl H) hT) fun v H1 ⟨g, q⟩ => k v H1 g (g.tab hT) q)
/-- .. of an atom -/
theorem b_asgA {i : Nat} {u : V} (p : PS X st (tAsg (wE X e) (gName i))) (hT : TabsN T H) (he : EE T X σ H e d) (hu : atomV d = some u) (k : ∀ H1, Gx T H H1 → TabsN T H1 → wB X rest D' (σ.set i (some u)) H1) : wB X (st :: rest) D' σ H :=
  b_asg p hT he fun v H1 g t i => by rw [i.atom hu]; exact k H1 g t
theorem b_drop (p : PS X st (tDrop (wE X e))) (hT : TabsN T H) (he : EX T X σ H e P) (k : ∀ v H1, Gx T H H1 → TabsN T H1 → P H v H1 → wB X rest D' σ H1) : wB X (st :: rest) D' σ H :=
  b_ps p (wE_imp (he H (Gx.refl H) hT) fun v H1 ⟨g, q⟩ => k v H1 g (g.tab hT) q)
theorem b_ret (hT : TabsN T H) (he : EX T X σ H e P) (k : ∀ v H1, Gx T H H1 → TabsN T H1 → P H v H1 → D'.rt v H1) : wB X (.Return (some e) pos :: rest) D' σ H :=
  b_ps (ps_ret wE_pe) (wE_imp (he H (Gx.refl H) hT) fun v H1 ⟨g, q⟩ => k v H1 g (g.tab hT) q)
theorem b_if {c : Bool} (hT : TabsN T H) (hc : ET T X σ H e c) (k1 : c = true → ∀ H1, Gx T H H1 → TabsN T H1 → wB X body { D' with nx := wB X rest D' } σ H1) {body2 : List Stmt} (k2 : c = false → ∀ H1, Gx T H H1 → TabsN T H1 → wB X body2 { D' with nx := wB X rest D' } σ H1) :
    wB X (.If e body body2 pos :: rest) D' σ H :=
  b_ps (ps_if wT_pt wB_pss wB_pss) (wT_imp (hc H (Gx.refl H) hT) fun b H1 ⟨g, q⟩ => by
    subst q
    cases b with
    | true => exact k1 rfl H1 g (g.tab hT)
    | false => exact k2 rfl H1 g (g.tab hT))
/-- an if without else -/
theorem b_when {c : Bool} (hT : TabsN T H) (hc : ET T X σ H e c) (k1 : c = true → ∀ H1, Gx T H H1 → TabsN T H1 → wB X body { D' with nx := wB X rest D' } σ H1) (k2 : c = false → ∀ H1, Gx T H H1 → TabsN T H1 → wB X rest D' σ H1) :
    wB X (.If e body [] pos :: rest) D' σ H := b_if hT hc k1 fun h H1 g t => b_nil (k2 h H1 g t)
/-- xs.append(e) -/
theorem b_app {p : Addr} {xs : List V} (s : PS X st (tDrop (tBM X.K "list" rAppend (wE X l) (tCons (wE X e) tNil)))) (hT : TabsN T H) (hl : EE T X σ H l (.ref p)) (hp : H p = some (.lst xs)) (hz : xs.length < sizeLine) (he : EX T X σ H e P)
    (k : ∀ v H1, Gx T H H1 → TabsN T H1 → P H v H1 → H1 p = some (.lst xs) → wB X rest D' σ (upd H1 p (.lst (xs ++ [v])))) (hP : ∀ H1 H2 v, Gx T H H1 → P H1 v H2 → P H v H2) : wB X (st :: rest) D' σ H :=
  b_ps s (wE_imp (hl H (Gx.refl H) hT) fun v H1 ⟨g, i⟩ => by
    rw [i.ref_eq]
    refine ⟨.inl ⟨rfl, _, SqL.of (g.lst hp)⟩, wE_imp (he H1 g (g.tab hT)) fun v2 H2 ⟨g2, q2⟩ => ?_⟩
    exact ⟨p, xs, v2, rfl, rfl, (g.trans g2).lst hp, hz, k v2 H2 (g.trans g2) ((g.trans g2).tab hT) (hP _ _ _ g q2) ((g.trans g2).lst hp)⟩)
theorem b_appD {p : Addr} {xs : List V} (s : PS X st (tDrop (tBM X.K "list" rAppend (wE X l) (tCons (wE X e) tNil)))) (hT : TabsN T H) (hl : EE T X σ H l (.ref p)) (hp : H p = some (.lst xs)) (hz : xs.length < sizeLine) (he : EE T X σ H e d)
    (k : ∀ v H1, Gx T H H1 → TabsN T H1 → Is H1 d v → H1 p = some (.lst xs) → wB X rest D' σ (upd H1 p (.lst (xs ++ [v])))) : wB X (st :: rest) D' σ H :=
  b_app s hT hl hp hz he k fun _ _ _ _ q => q

/-! loops -/
theorem b_forR {j : Nat} {n : Int} {tg iter : Expr} (p : PS X (.For tg iter body [] pos) (tFor (iRng1 (wA X [a])) (gName j) (wB X body))) (hT : TabsN T H) (ha : EE T X σ H a (.int n)) (hn : 0 ≤ n ∧ n < 2 ^ 62) (Pv : Nat → L2.St → Hp → Prop) (h0 : ∀ H1, Gx T H H1 → TabsN T H1 → Pv 0 σ H1)
    (hs : ∀ (i : Nat) σ' H', i < n.toNat → Pv i σ' H' → wB X body { D' with nx := Pv (i + 1), ct := Pv (i + 1), bk := wB X rest D' } (σ'.set j (some (.int (i : Nat)))) H') (hd : ∀ σ' H', Pv n.toNat σ' H' → wB X rest D' σ' H') (hst : starEach (a :: []) X.env = (false, eval a X.env) :: starEach [] X.env := by rfl) :
    wB X (.For tg iter body [] pos :: rest) D' σ H :=
  b_ps p (wA_imp (ea_cons ha ea_nil hst H (Gx.refl H) hT) fun vs H1 ⟨g, i⟩ => by
    cases i with
    | cons i1 i2 =>
      cases i2
      refine ⟨n, by rw [i1.int_eq], by omega, hn.2, for_range (lo := 0) (n := n.toNat) Pv (h0 H1 g (g.tab hT)) (fun i σ' H' hi q => ?_) hd⟩
      show wB X body _ (σ'.set j (some (.int (0 + (i : Int))))) H'
      rw [Int.zero_add]
      exact hs i σ' H' hi q)
theorem b_forL {tg : Expr} {gT : TG} {p : Addr} {xs : List V} (s : PS X (.For tg e body [] pos) (tFor (iList X.K (wE X e)) gT (wB X body))) (hT : TabsN T H) (he : EE T X σ H e (.ref p)) (hp : SqL X.K H p xs) (hk : ∀ H1, Gx T H H1 → SqL X.K H1 p xs) (Pv : Nat → L2.St → Hp → Prop) (h0 : ∀ H1, Gx T H H1 → TabsN T H1 → Pv 0 σ H1)
    (hl : ∀ i σ' H', i ≤ xs.length → Pv i σ' H' → SqL X.K H' p xs)
    (hs : ∀ (i : Nat) v σ' H', xs[i]? = some v → Pv i σ' H' → gT v σ' H' fun σ2 H2 => wB X body { D' with nx := Pv (i + 1), ct := Pv (i + 1), bk := wB X rest D' } σ2 H2) (hd : ∀ σ' H', Pv xs.length σ' H' → wB X rest D' σ' H') :
    wB X (.For tg e body [] pos :: rest) D' σ H :=
  b_ps s (wE_imp (he H (Gx.refl H) hT) fun v H1 ⟨g, i⟩ => by
    rw [i.ref_eq]
    exact ⟨p, rfl, ⟨xs, hk H1 g⟩, for_list (K := X.K) (a := p) (xs := xs) Pv (h0 H1 g (g.tab hT)) hl hs hd⟩)
/-- over a tuple: told by what is true of the value -/
theorem b_forTG {tg : Expr} {gT : TG} (s : PS X (.For tg e body [] pos) (tFor (iTup X.K (wE X e)) gT (wB X body))) (hT : TabsN T H) (he : EX T X σ H e P)
    (k : ∀ v H1, Gx T H H1 → TabsN T H1 → P H v H1 → ∃ (ds : List D) (Pv : Nat → L2.St → Hp → Prop), Is H1 (.tup ds) v ∧ Pv 0 σ H1 ∧ (∀ i σ' H', Pv i σ' H' → Ti H1 H') ∧
      (∀ (i : Nat) di v σ' H', ds[i]? = some di → Is H' di v → Pv i σ' H' → gT v σ' H' fun σ2 H2 => wB X body { D' with nx := Pv (i + 1), ct := Pv (i + 1), bk := wB X rest D' } σ2 H2) ∧ (∀ σ' H', Pv ds.length σ' H' → wB X rest D' σ' H')) :
    wB X (.For tg e body [] pos :: rest) D' σ H :=
  b_ps s (wE_imp (he H (Gx.refl H) hT) fun v H1 ⟨g, q⟩ => by
    obtain ⟨ds, Pv, i, h0, hti, hs, hd⟩ := k v H1 g (g.tab hT) q
    cases i with
    | @tup p xs _ ht hr =>
      refine ⟨p, rfl, ⟨xs, SqT.of ht⟩, for_tup (K := X.K) (a := p) (xs := xs) Pv h0 (fun i σ' H' _ q => SqT.of (hti i σ' H' q _ _ ht)) (fun i v σ' H' hi q => ?_) (fun σ' H' q => hd σ' H' (by rw [hr.length]; exact q))⟩
      obtain ⟨di, e1, e2⟩ := hr.get' hi
      exact hs i di v σ' H' e1 (e2.mono (hti i σ' H' q)) q)
theorem b_forT {tg : Expr} {gT : TG} (s : PS X (.For tg e body [] pos) (tFor (iTup X.K (wE X e)) gT (wB X body))) (hT : TabsN T H) (he : EE T X σ H e (.tup ds))
    (k : ∀ H1, Gx T H H1 → TabsN T H1 → ∃ (Pv : Nat → L2.St → Hp → Prop), Pv 0 σ H1 ∧ (∀ i σ' H', Pv i σ' H' → Ti H1 H') ∧
      (∀ (i : Nat) di v σ' H', ds[i]? = some di → Is H' di v → Pv i σ' H' → gT v σ' H' fun σ2 H2 => wB X body { D' with nx := Pv (i + 1), ct := Pv (i + 1), bk := wB X rest D' } σ2 H2) ∧ (∀ σ' H', Pv ds.length σ' H' → wB X rest D' σ' H')) :
    wB X (.For tg e body [] pos :: rest) D' σ H :=
  b_forTG s hT he fun v H1 g t i => by
    obtain ⟨Pv, h⟩ := k H1 g t
    exact ⟨ds, Pv, i, h⟩
theorem b_forS {tg : Expr} {j : Nat} {z : Str} (s : PS X (.For tg e body [] pos) (tFor (iStr (wE X e)) (gName j) (wB X body))) (hT : TabsN T H) (he : EE T X σ H e (.str z)) (Pv : Nat → L2.St → Hp → Prop) (h0 : ∀ H1, Gx T H H1 → TabsN T H1 → Pv 0 σ H1)
    (hs : ∀ (i : Nat) c σ' H', z.cps.toList[i]? = some c → Pv i σ' H' → wB X body { D' with nx := Pv (i + 1), ct := Pv (i + 1), bk := wB X rest D' } (σ'.set j (some (.str ⟨#[c]⟩))) H') (hd : ∀ σ' H', Pv z.cps.size σ' H' → wB X rest D' σ' H') :
    wB X (.For tg e body [] pos :: rest) D' σ H :=
  b_ps s (wE_imp (he H (Gx.refl H) hT) fun v H1 ⟨g, i⟩ => by
    rw [i.str_eq]
    refine ⟨z, rfl, fun i m σ' H' => m = z.cps.size - i ∧ i ≤ z.cps.size ∧ Pv i σ' H', ⟨z.cps.size, by simp, Nat.zero_le _, h0 H1 g (g.tab hT)⟩, ?_⟩
    rintro i m σ' H' ⟨rfl, hi, q⟩
    by_cases hlt : i < z.cps.size
    · refine .inr ⟨hlt, Pv (i + 1), fun σ2 H2 q2 => ⟨z.cps.size - (i + 1), by omega, rfl, hlt, q2⟩, fun v' H2 ⟨e1, c, hc, e2⟩ => ?_⟩
      subst e1 e2
      exact hs i c σ' _ (by rw [Array.getElem?_toList]; exact hc) q
    · have e1 : i = z.cps.size := by omega
      subst e1
      exact .inl ⟨Nat.le_refl _, hd σ' H' q⟩)
/-- while -/
theorem b_while (hp : PassesOwn (model X.prog X.w) X.A X.env X.xe) (Pv : L2.St → Hp → Prop) (μ : L2.St → Hp → Nat) (h0 : Pv σ H) (hT : ∀ σ' H', Pv σ' H' → TabsN T H') (c : L2.St → Hp → Bool) (hc : ∀ σ' H', Pv σ' H' → ET T X σ' H' e (c σ' H'))
    (hs : ∀ σ' H' H1, Pv σ' H' → c σ' H' = true → Gx T H' H1 → TabsN T H1 → wB X body { D' with nx := fun σ2 H2 => Pv σ2 H2 ∧ μ σ2 H2 < μ σ' H', ct := fun σ2 H2 => Pv σ2 H2 ∧ μ σ2 H2 < μ σ' H', bk := wB X rest D' } σ' H1)
    (hd : ∀ σ' H' H1, Pv σ' H' → c σ' H' = false → Gx T H' H1 → TabsN T H1 → wB X rest D' σ' H1) : wB X (.While e body [] pos :: rest) D' σ H :=
  b_ps (ps_while hp wT_pt wB_pss) (by
    refine ⟨fun m σ H => m = μ σ H ∧ Pv σ H, ⟨_, rfl, h0⟩, ?_⟩
    rintro m σ' H' ⟨rfl, p⟩
    refine wT_imp (hc σ' H' p H' (Gx.refl _) (hT σ' H' p)) fun b H1 ⟨g, q⟩ => ?_
    cases b with
    | true => exact ⟨_, fun σ2 H2 ⟨p', l⟩ => ⟨_, l, rfl, p'⟩, hs σ' H' H1 p q.symm g (g.tab (hT σ' H' p))⟩
    | false => exact hd σ' H' H1 p q.symm g (g.tab (hT σ' H' p)))
end
end Tk
set_option Elab.async false
set_option linter.all false
set_option maxRecDepth 100000
/-! Comprehensions, unpacking, dicts, sorted, any, join. -/
namespace Tk
open PySem PySem.Spec PyProof.Rows L2 LamX NdefX

theorem isAll0 {H : Hp} {vs : List V} (h : IsAll H [] vs) : vs = [] := by cases h; rfl
theorem isAll1 {H : Hp} {d1 : D} {vs : List V} (h : IsAll H [d1] vs) : ∃ v1, vs = [v1] ∧ Is H d1 v1 := by
  cases h with
  | cons h1 r => cases r; exact ⟨_, rfl, h1⟩
theorem isAll2 {H : Hp} {d1 d2 : D} {vs : List V} (h : IsAll H [d1, d2] vs) : ∃ v1 v2, vs = [v1, v2] ∧ Is H d1 v1 ∧ Is H d2 v2 := by
  cases h with
  | cons h1 r => obtain ⟨v2, rfl, h2⟩ := isAll1 r; exact ⟨_, _, rfl, h1, h2⟩
theorem isAll3 {H : Hp} {d1 d2 d3 : D} {vs : List V} (h : IsAll H [d1, d2, d3] vs) : ∃ v1 v2 v3, vs = [v1, v2, v3] ∧ Is H d1 v1 ∧ Is H d2 v2 ∧ Is H d3 v3 := by
  cases h with
  | cons h1 r => obtain ⟨v2, v3, rfl, h2, h3⟩ := isAll2 r; exact ⟨_, _, _, rfl, h1, h2, h3⟩
theorem isAll4 {H : Hp} {d1 d2 d3 d4 : D} {vs : List V} (h : IsAll H [d1, d2, d3, d4] vs) : ∃ v1 v2 v3 v4, vs = [v1, v2, v3, v4] ∧ Is H d1 v1 ∧ Is H d2 v2 ∧ Is H d3 v3 ∧ Is H d4 v4 := by
  cases h with
  | cons h1 r => obtain ⟨v2, v3, v4, rfl, h2, h3, h4⟩ := isAll3 r; exact ⟨_, _, _, _, rfl, h1, h2, h3, h4⟩
theorem isAll5 {H : Hp} {d1 d2 d3 d4 d5 : D} {vs : List V} (h : IsAll H [d1, d2, d3, d4, d5] vs) : ∃ v1 v2 v3 v4 v5, vs = [v1, v2, v3, v4, v5] ∧ Is H d1 v1 ∧ Is H d2 v2 ∧ Is H d3 v3 ∧ Is H d4 v4 ∧ Is H d5 v5 := by
  cases h with
  | cons h1 r => obtain ⟨v2, v3, v4, v5, rfl, h2, h3, h4, h5⟩ := isAll4 r; exact ⟨_, _, _, _, _, rfl, h1, h2, h3, h4, h5⟩

/-! ### what is walked -/
def wI (X : Cx) (tg iter : Expr) : TI := fun σ H R => ∀ (pins : List (Addr × Obj)) (s : Shared), Inv X pins σ H s →
  wpAny (model X.prog X.w) X.A (eval iter X.env) (fun v s1 => wpAny (model X.prog X.w) X.A (pyIter v) (PIE X pins σ tg R) X.xe s1) X.xe s
theorem wI_pi {X : Cx} {tg iter : Expr} : PI X tg iter (wI X tg iter) := ⟨fun pins s σ H R I h => h pins s I⟩
theorem PI_to {X : Cx} {tg iter : Expr} {t : TI} (p : PI X tg iter t) {σ : L2.St} {H : Hp} {R : It → Hp → Prop} (h : t σ H R) : wI X tg iter σ H R := fun pins s I => p.run pins s σ H R I h
/-- the walked thing yields the data ds, one after another, while the heap only grows -/
def EI (T : List NTab) (X : Cx) (σ : L2.St) (H : Hp) (tg iter : Expr) (ds : List D) : Prop := ∀ H1, Gx T H H1 → TabsN T H1 → wI X tg iter σ H1 fun J H2 => Gx T H1 H2 ∧ Walk J ds.length (Gx T H2) fun i H x H' => H' = H ∧ ∃ d, ds[i]? = some d ∧ Is H d x
section
variable {T : List NTab} {X : Cx} {σ : L2.St} {H H' : Hp} {e a b tg iter : Expr} {es : List Expr} {d x y : D} {ds : List D} {pos : Pos}
theorem ei_list {p : Addr} {xs : List V} (he : EE T X σ H e (.ref p)) (hp : H p = some (.lst xs)) (hx : IsAll H ds xs) : EI T X σ H tg e ds := fun H1 g t =>
  PI_to (pi_list wE_pe) (wE_imp (he H1 g t) fun v H2 ⟨g2, i⟩ => by
    have g02 := g.trans g2
    refine ⟨p, i.ref_eq, ⟨xs, SqL.of (g02.lst hp)⟩, g2, ?_⟩
    rw [hx.length]
    exact (walk_list (K := X.K) (a := p) (xs := xs)).mono (fun H3 g3 => SqL.of ((g02.trans g3).lst hp)) fun i H3 x H4 hi g3 y => ⟨y.1, by
      obtain ⟨dd, e1, e2⟩ := hx.get' y.2
      exact ⟨dd, e1, e2.mono (g02.trans g3).ti⟩⟩)
/-- a new list -/
theorem ei_new (he : EL T X σ H e ds) : EI T X σ H tg e ds := fun H1 g t =>
  PI_to (pi_list wE_pe) (wE_imp (he H1 g t) fun v H2 ⟨g2, p, xs, e1, _, hp, hx⟩ => by
    refine ⟨p, e1, ⟨xs, SqL.of hp⟩, g2, ?_⟩
    rw [hx.length]
    exact (walk_list (K := X.K) (a := p) (xs := xs)).mono (fun H3 g3 => SqL.of (g3.lst hp)) fun i H3 x H4 hi g3 y => ⟨y.1, by
      obtain ⟨dd, e1, e2⟩ := hx.get' y.2
      exact ⟨dd, e1, e2.mono g3.ti⟩⟩)
theorem ei_tup (he : EE T X σ H e (.tup ds)) : EI T X σ H tg e ds := fun H1 g t =>
  PI_to (pi_tup wE_pe) (wE_imp (he H1 g t) fun v H2 ⟨g2, i⟩ => by
    cases i with
    | @tup p xs _ hp hx =>
      refine ⟨p, rfl, ⟨xs, SqT.of hp⟩, g2, ?_⟩
      rw [hx.length]
      exact (walk_tup (K := X.K) (a := p) (xs := xs)).mono (fun H3 g3 => SqT.of (g3.tup hp)) fun i H3 x H4 hi g3 y => ⟨y.1, by
        obtain ⟨dd, e1, e2⟩ := hx.get' y.2
        exact ⟨dd, e1, e2.mono g3.ti⟩⟩)
def rangeD (n : Nat) : List D := (List.range n).map fun i => .int (i : Nat)
theorem rangeD_len (n : Nat) : (rangeD n).length = n := by simp [rangeD]
theorem rangeD_get {n i : Nat} {d : D} (h : (rangeD n)[i]? = some d) : i < n ∧ d = .int (i : Nat) := by
  have hi : i < n := by have := (List.getElem?_eq_some_iff.mp h).1; rwa [rangeD_len] at this
  refine ⟨hi, ?_⟩
  simp [rangeD, hi] at h
  exact h.symm
def natsD (l : List Nat) : List D := l.map fun n => .int (n : Nat)
def natsV (l : List Nat) : List V := l.map fun n => .int (n : Nat)
theorem IsAll.nats {H : Hp} {l : List Nat} {vs : List V} (h : IsAll H (natsD l) vs) : vs = natsV l := by
  have := IsAll.ints_eq (H := H) (ns := l.map fun n => ((n : Nat) : Int)) (vs := vs) (by rw [List.map_map]; exact h)
  rw [this, List.map_map]; rfl
theorem isAll_nats {H : Hp} : ∀ l : List Nat, IsAll H (natsD l) (natsV l)
  | [] => .nil
  | n :: r => .cons (.int _) (isAll_nats r)
theorem ei_range {n : Nat} {p1 : Pos} (hg : Gl X "range") (hm : X.mg "range" = none) (ha : EE T X σ H a (.int n)) (hn : n < 2 ^ 62) (hs : starEach [a] X.env = [(false, eval a X.env)] := by rfl) : EI T X σ H tg (.Call (.Name "range" p1) [a] [] pos) (rangeD n) := fun H1 g t =>
  PI_to (pi_range1 hg hm wA_pa hs) (wA_imp (ea_cons ha ea_nil hs H1 g t) fun vs H2 ⟨g2, i⟩ => by
    cases i with
    | cons i1 i2 =>
      cases i2
      refine ⟨n, by rw [i1.int_eq], by omega, by omega, g2, ?_⟩
      rw [Int.toNat_natCast]
      rw [show (rangeD n).length = n by simp [rangeD]]
      exact (walk_range (lo := 0) (n := n)).mono (fun _ _ => trivial) fun i H3 x H4 hi g3 y => ⟨y.1, .int (i : Nat), by simp [rangeD, hi], by
        rw [y.2]
        show Is H3 _ (.int (0 + (i : Int)))
        rw [Int.zero_add]
        exact .int _⟩)
def signsD (z : List Nat) : List D := z.map fun c => .str ⟨#[c]⟩
theorem ei_str {z : Str} (he : EE T X σ H e (.str z)) : EI T X σ H tg e (signsD z.cps.toList) := fun H1 g t =>
  PI_to (pi_str wE_pe) (wE_imp (he H1 g t) fun v H2 ⟨g2, i⟩ => by
    refine ⟨z, i.str_eq, g2, ?_⟩
    rw [show (signsD z.cps.toList).length = z.cps.size by simp [signsD]]
    exact (walk_str (z := z)).mono (fun _ _ => trivial) fun i H3 x H4 hi g3 y => ⟨y.1, by
      obtain ⟨c, hc, e2⟩ := y.2
      exact ⟨.str ⟨#[c]⟩, by simp [signsD, hc], by rw [e2]; exact .str _⟩⟩)

/-! ### comprehensions -/
/-- what is chosen -/
def sel (n : Nat) (c : Nat → Bool) (f : Nat → D) : List D := ((List.range n).filter c).map f
theorem sel_yes {n : Nat} {c : Nat → Bool} {f : Nat → D} (h : c n = true) : sel (n + 1) c f = sel n c f ++ [f n] := by
  unfold sel; rw [List.range_succ, List.filter_append, List.map_append, List.filter_cons, if_pos h]; rfl
theorem sel_no {n : Nat} {c : Nat → Bool} {f : Nat → D} (h : c n = false) : sel (n + 1) c f = sel n c f := by
  unfold sel; rw [List.range_succ, List.filter_append, List.map_append, List.filter_cons, if_neg (by rw [h]; decide)]; simp
theorem sel_len (n : Nat) (c : Nat → Bool) (f : Nat → D) : (sel n c f).length ≤ n := by
  unfold sel; rw [List.length_map]
  have := List.length_filter_le c (List.range n)
  rwa [List.length_range] at this
theorem sel_all (n : Nat) (f : Nat → D) : sel n (fun _ => true) f = (List.range n).map f := by unfold sel; rw [List.filter_eq_self.mpr fun _ _ => rfl]
/-- in every block of the comprehension -/
def tB (X : Cx) (scope : Scope) (elt : Expr) : TE := fun σ H Q => ∀ (s0 : Shared) (H0 : Hp) (C : Addr) (cl : List (Str × Addr)) (fp : List Addr), wE (X.blk s0 H0 scope (compEnvC scope cl C X.env) fp) elt σ H Q
def ttB (X : Cx) (scope : Scope) (c : Expr) : TT := fun σ H Q => ∀ (s0 : Shared) (H0 : Hp) (C : Addr) (cl : List (Str × Addr)) (fp : List Addr), wT (X.blk s0 H0 scope (compEnvC scope cl C X.env) fp) c σ H Q
theorem tB_pe {scope : Scope} {elt : Expr} (s0 : Shared) (H0 : Hp) (C : Addr) (cl : List (Str × Addr)) (fp : List Addr) : PE (X.blk s0 H0 scope (compEnvC scope cl C X.env) fp) elt (tB X scope elt) := ⟨fun pins s σ H Q I h => h s0 H0 C cl fp pins s I⟩
theorem ttB_pt {scope : Scope} {elt : Expr} (s0 : Shared) (H0 : Hp) (C : Addr) (cl : List (Str × Addr)) (fp : List Addr) : PT (X.blk s0 H0 scope (compEnvC scope cl C X.env) fp) elt (ttB X scope elt) := ⟨fun pins s σ H Q I h => h s0 H0 C cl fp pins s I⟩
def EB (T : List NTab) (X : Cx) (scope : Scope) (σ : L2.St) (H : Hp) (e : Expr) (d : D) : Prop := ∀ (s0 : Shared) (H0 : Hp) (C : Addr) (cl : List (Str × Addr)) (fp : List Addr), EE T (X.blk s0 H0 scope (compEnvC scope cl C X.env) fp) σ H e d
def EBT (T : List NTab) (X : Cx) (scope : Scope) (σ : L2.St) (H : Hp) (e : Expr) (c : Bool) : Prop := ∀ (s0 : Shared) (H0 : Hp) (C : Addr) (cl : List (Str × Addr)) (fp : List Addr), ET T (X.blk s0 H0 scope (compEnvC scope cl C X.env) fp) σ H e c
theorem wI_imp {R R' : It → Hp → Prop} (h : wI X tg iter σ H R) (q : ∀ J H1, R J H1 → R' J H1) : wI X tg iter σ H R' := fun pins s I =>
  thn (h pins s I) fun v s1 h1 => thn h1 fun itv s2 ⟨it, fp, tn, J, H2, e, I2, T, st2, f2, r⟩ => ⟨it, fp, tn, J, H2, e, I2, T, st2, f2, q J H2 r⟩
/-- a target's way: from v it comes to slots of which out is true, the heap as it was -/
def Tgt (gT : TG) (σ : L2.St) (H : Hp) (v : V) (out : L2.St → Prop) : Prop := ∀ Q : L2.St → Hp → Prop, (∀ σ2, out σ2 → Q σ2 H) → gT v σ H Q
theorem tgt_name {j : Nat} {v : V} : Tgt (gName j) σ H v (fun σ2 => σ2 = σ.set j (some v)) := fun Q q => q _ rfl
def gNs : List Nat → TGs
  | [] => gNil
  | j :: r => gCons (gName j) (gNs r)
def setAll : L2.St → List Nat → List V → L2.St
  | σ, j :: js, v :: vs => setAll (σ.set j (some v)) js vs
  | σ, _, _ => σ
theorem gNs_to : ∀ {js : List Nat} {vs : List V} {σ : L2.St} {Q : L2.St → Hp → Prop}, vs.length = js.length → Q (setAll σ js vs) H → gNs js vs σ H Q
  | [], [], _, _, _, q => ⟨rfl, q⟩
  | j :: js, v :: vs, σ, Q, h, q => ⟨v, vs, rfl, gNs_to (by simpa using h) q⟩
theorem tgt_tup {n : Nat} {js : List Nat} {v : V} (hd : Is H (.tup ds) v) (hn : ds.length = n) (hj : js.length = n) : Tgt (gTup X.K n (gNs js)) σ H v (fun σ2 => ∃ vs, IsAll H ds vs ∧ σ2 = setAll σ js vs) := fun Q q => by
  cases hd with
  | @tup p xs _ hp hx =>
    exact ⟨p, xs, rfl, SqT.of hp, by rw [← hx.length]; exact hn, gNs_to (by rw [← hx.length, hn, hj]) (q _ ⟨xs, hx, rfl⟩)⟩
theorem el_comp {gT : TG} {tt : TT} {te : TE} {vs : List Nat} (p : PE X e (tLc (wI X tg iter) gT tt te vs)) (hi : EI T X σ H tg iter ds) (hz : ds.length < sizeLine) (c : Nat → Bool) (f : Nat → D)
    (turn : ∀ (i : Nat) di v H1, ds[i]? = some di → Is H1 di v → Gx T H H1 → TabsN T H1 → ∃ out, Tgt gT (wipe σ vs) H1 v out ∧ ∀ σ2, out σ2 → wipe σ2 vs = wipe σ vs ∧
      (∀ Q1 : Bool → Hp → Prop, (∀ H3, Gx T H1 H3 → Q1 (c i) H3) → tt σ2 H1 Q1) ∧ (c i = true → ∀ H3, Gx T H1 H3 → ∀ Q2 : VK, (∀ y H4, Gx T H3 H4 → Is H4 (f i) y → Q2 y H4) → te σ2 H3 Q2)) :
    EL T X σ H e (sel ds.length c f) := by
  intro H1 g t
  refine PE_to p (wI_imp (hi H1 g t) fun J H2 ⟨g2, w⟩ Dl hD => ?_)
  refine lc_it w (fun i H' => Gx T H2 H' ∧ ∃ acc, H' Dl = some (.lst acc) ∧ IsAll H' (sel i c f) acc) ⟨Gx.new hD, [], upd_same, .nil⟩ (fun i H' _ q => q.1) (fun i x H3 H4 hlt q y => ?_) (fun H3 ⟨q, acc, q1, q2⟩ => ⟨g2.trans q, Dl, acc, rfl, g2.low _ hD, q1, q2⟩)
  obtain ⟨y1, di, y2, y3⟩ := y
  subst y1
  obtain ⟨q, acc, q1, q2⟩ := q
  have g03 := g.trans (g2.trans q)
  obtain ⟨out, h1, h2⟩ := turn i di x _ y2 y3 g03 ((g2.trans q).tab t)
  refine h1 _ fun σ2 ho => ?_
  obtain ⟨w1, w2, w3⟩ := h2 σ2 ho
  refine ⟨w1, w2 _ fun H5 g5 => ?_⟩
  by_cases hc : c i = true
  · rw [if_pos hc]
    refine w3 hc H5 g5 _ fun y H6 g6 iy => ⟨acc, (g5.trans g6).lst q1, ?_, ?_, acc ++ [y], upd_same, ?_⟩
    · have := q2.length
      have := sel_len i c f
      omega
    · exact ((q.trans g5).trans g6).mutL hD ((g5.trans g6).lst q1)
    · rw [sel_yes hc]
      have tm := Ti.lst (o := .lst (acc ++ [y])) ((g5.trans g6).lst q1)
      exact (q2.mono ((g5.trans g6).ti.trans tm)).snoc (iy.mono tm)
  · have hc' : c i = false := by simpa using hc
    rw [if_neg hc]
    exact ⟨q.trans g5, acc, g5.lst q1, by rw [sel_no hc']; exact q2.mono g5.ti⟩
/-- one name, no test -/
theorem el_map {es : List D} {scope : Scope} {elt : Expr} {j : Nat} {vs : List Nat} (p : PE X e (tLc (wI X tg iter) (gName j) tYes (tB X scope elt) vs)) (hi : EI T X σ H tg iter ds) (hz : ds.length < sizeLine) (f : Nat → D) (hw : ∀ v, wipe ((wipe σ vs).set j (some v)) vs = wipe σ vs)
    (turn : ∀ (i : Nat) di v H1, ds[i]? = some di → Is H1 di v → Gx T H H1 → EB T X scope ((wipe σ vs).set j (some v)) H1 elt (f i)) (q : es = (List.range ds.length).map f := by rfl) : EL T X σ H e es := by
  subst q
  have := el_comp p hi hz (fun _ => true) f fun i di v H1 h1 h2 g t => ⟨_, tgt_name, fun σ2 e2 => by
    subst e2
    exact ⟨hw v, fun Q1 q => q H1 (Gx.refl _), fun _ H3 g3 Q2 q s0 H0 C cl fp => wE_imp (turn i di v H1 h1 h2 g s0 H0 C cl fp H3 g3 (g3.tab t)) fun y H4 ⟨g4, i4⟩ => q y H4 g4 i4⟩⟩
  rwa [sel_all] at this
/-- one name, one test -/
theorem el_filter {es : List D} {scope : Scope} {elt tst : Expr} {j : Nat} {vs : List Nat} (p : PE X e (tLc (wI X tg iter) (gName j) (ttB X scope tst) (tB X scope elt) vs)) (hi : EI T X σ H tg iter ds) (hz : ds.length < sizeLine) (c : Nat → Bool) (f : Nat → D) (hw : ∀ v, wipe ((wipe σ vs).set j (some v)) vs = wipe σ vs)
    (turn : ∀ (i : Nat) di v H1, ds[i]? = some di → Is H1 di v → Gx T H H1 → EBT T X scope ((wipe σ vs).set j (some v)) H1 tst (c i) ∧ (c i = true → EB T X scope ((wipe σ vs).set j (some v)) H1 elt (f i))) (q : es = sel ds.length c f := by rfl) : EL T X σ H e es := by
  subst q
  exact el_comp p hi hz c f fun i di v H1 h1 h2 g t => ⟨_, tgt_name, fun σ2 e2 => by
    subst e2
    obtain ⟨t1, t2⟩ := turn i di v H1 h1 h2 g
    exact ⟨hw v, fun Q1 q s0 H0 C cl fp => wT_imp (t1 s0 H0 C cl fp H1 (Gx.refl _) t) fun b H3 ⟨g3, e3⟩ => by rw [e3]; exact q H3 g3,
      fun hc H3 g3 Q2 q s0 H0 C cl fp => wE_imp (t2 hc s0 H0 C cl fp H3 g3 (g3.tab t)) fun y H4 ⟨g4, i4⟩ => q y H4 g4 i4⟩⟩
/-- a tuple of names, no test -/
theorem el_mapT {es : List D} {scope : Scope} {elt : Expr} {n : Nat} {js : List Nat} {vs : List Nat} (p : PE X e (tLc (wI X tg iter) (gTup X.K n (gNs js)) tYes (tB X scope elt) vs)) (hi : EI T X σ H tg iter ds) (hz : ds.length < sizeLine) (f : Nat → D) (hj : js.length = n)
    (hw : ∀ us, us.length = n → wipe (setAll (wipe σ vs) js us) vs = wipe σ vs)
    (turn : ∀ (i : Nat) di H1, ds[i]? = some di → Gx T H H1 → ∃ es, di = .tup es ∧ es.length = n ∧ ∀ us, IsAll H1 es us → EB T X scope (setAll (wipe σ vs) js us) H1 elt (f i)) (q : es = (List.range ds.length).map f := by rfl) : EL T X σ H e es := by
  subst q
  have := el_comp p hi hz (fun _ => true) f fun i di v H1 h1 h2 g t => by
    obtain ⟨es, e1, e2, h3⟩ := turn i di H1 h1 g
    subst e1
    refine ⟨_, tgt_tup h2 e2 hj, fun σ2 ⟨us, hu, e3⟩ => ?_⟩
    subst e3
    exact ⟨hw us (by rw [← hu.length, e2]), fun Q1 q => q H1 (Gx.refl _), fun _ H3 g3 Q2 q s0 H0 C cl fp => wE_imp (h3 us hu s0 H0 C cl fp H3 g3 (g3.tab t)) fun y H4 ⟨g4, i4⟩ => q y H4 g4 i4⟩
  rwa [sel_all] at this
/-- a, b, .. = e -/
theorem b_unpack {rest : List Stmt} {st : Stmt} {D' : Ends} {n : Nat} {js : List Nat} {P : Hp → V → Hp → Prop} (p : PS X st (tAsg (wE X e) (gTup X.K n (gNs js)))) (hT : TabsN T H) (he : EX T X σ H e P) (hj : js.length = n)
    (k : ∀ v H1, Gx T H H1 → TabsN T H1 → P H v H1 → ∃ a us, v = .ref a ∧ H1 a = some (.tup us) ∧ us.length = n ∧ wB X rest D' (setAll σ js us) H1) : wB X (st :: rest) D' σ H :=
  b_ps p (wE_imp (he H (Gx.refl H) hT) fun v H1 ⟨g, q⟩ => by
    obtain ⟨a, us, e1, h1, h2, h3⟩ := k v H1 g (g.tab hT) q
    exact ⟨a, us, e1, SqT.of h1, h2, gNs_to (by rw [h2, hj]) h3⟩)
theorem b_unpackD {rest : List Stmt} {st : Stmt} {D' : Ends} {n : Nat} {js : List Nat} (p : PS X st (tAsg (wE X e) (gTup X.K n (gNs js)))) (hT : TabsN T H) (he : EE T X σ H e (.tup ds)) (hj : js.length = n) (hn : ds.length = n)
    (k : ∀ us H1, Gx T H H1 → TabsN T H1 → IsAll H1 ds us → wB X rest D' (setAll σ js us) H1) : wB X (st :: rest) D' σ H :=
  b_unpack p hT he hj fun v H1 g t i => by
    cases i with
    | @tup a us _ ha hu => exact ⟨a, us, rfl, ha, by rw [← hu.length]; exact hn, k us H1 g t hu⟩
end
end Tk
set_option Elab.async false
set_option linter.all false
set_option maxRecDepth 100000
/-! Letters: the small defs of names. -/
namespace Tk
open PySem PySem.Spec PyProof.Rows L2 LamX NdefX

/-! ### a def by its body -/
theorem wB_imp {X : Cx} {st : List Stmt} {D1 D2 : Ends} {σ : L2.St} {H : Hp} (h : wB X st D1 σ H) (q1 : ∀ σ H, D1.nx σ H → D2.nx σ H) (q2 : ∀ v H, D1.rt v H → D2.rt v H) (q3 : ∀ σ H, D1.bk σ H → D2.bk σ H) (q4 : ∀ σ H, D1.ct σ H → D2.ct σ H) : wB X st D2 σ H := fun pins s I =>
  thn (h pins s I) fun f s' q => by
    cases f with
    | next => obtain ⟨σ', H', I', z⟩ := q; exact ⟨σ', H', I', q1 _ _ z⟩
    | brk => obtain ⟨σ', H', I', z⟩ := q; exact ⟨σ', H', I', q3 _ _ z⟩
    | cont => obtain ⟨σ', H', I', z⟩ := q; exact ⟨σ', H', I', q4 _ _ z⟩
    | ret u => obtain ⟨v, σ', H', I', r, z⟩ := q; exact ⟨v, σ', H', I', r, q2 _ _ z⟩
/-- what a body is to come to -/
abbrev Dn (T : List NTab) (H : Hp) (post : Hp → V → Prop) : Ends := { nx := fun _ H' => Gx T H H' ∧ post H' .non, rt := fun v H' => Gx T H H' ∧ post H' v }
abbrev cx0 (P : Program) (w : World) (K : PySem.W.Frag) (mg : Str → Option Value) (base : Heap) (N : List Str) (x : Str) (st : Stmt) (f : Addr) (cdv : Value) (A : Around) (outer : List Env) (s : Shared) (H : Hp) (E : XK) : Cx := (cxOf CX0 P w K mg base N x (defScope st) f cdv A outer s H E).nox
section
variable {P : Program} {w : World} {K : PySem.W.Frag} {mg : Str → Option Value} {base : Heap} {T : List NTab}
theorem def_ok {x : Str} {st : Stmt} {f : Addr} {fd : FuncData} {N ps : List Str} {k : Nat} {R : Hp → List D → (Hp → V → Prop) → Prop} (F : Fun K x x st f fd) (hm : mg x = some (.ref f)) (S : FnScope N ps (defScope st))
    (hb : ∀ (kV doc pm : Value) (an : Option Addr) (cdv ct : Value) (us : List Value), us.length = ps.length → bindArgs (PySem.W.fnOf x x (defArgs st) (defBody st) (defScope st) .none kV doc pm an cdv ct) ⟨us, []⟩ = pure (ps.zip us))
    (len : ∀ H ds post, R H ds post → ds.length = ps.length)
    (body : ∀ (cdv : Value) (A : Around) (outer : List Env) (s : Shared) (H : Hp) (E : XK) (vs : List V) (ds : List D) (post : Hp → V → Prop), Room k (A.deeper (envOfC x (defScope st) s.heap.objs.size f cdv)) → TabsN T H → IsAll H ds vs → R H ds post →
      wB (cx0 P w K mg base N x st f cdv A outer s H E) (defBody st) (Dn T H post) (start N vs) H) : DefOk P w K mg base T (k + 1) x ps R := by
  refine ⟨f, fd, hm, F.kp, F.binds hb, F.ok S (fun vs H Q E ⟨_, ds, post, h1, h2, _⟩ => by rw [← h1.length]; exact len H ds post h2) fun cdv A outer s H vs Q E hr ⟨hT, ds, post, h1, h2, h3⟩ => ⟨_, wB_pss, ?_⟩⟩
  exact wB_imp (body cdv A outer s H E vs ds post hr hT h1 h2) (fun _ H' q => h3 _ _ q.1 q.2) (fun v H' q => h3 _ _ q.1 q.2) (fun _ _ z => z) (fun _ _ z => z)
end

/-! ### the text -/
theorem tx_len (l : List Nat) : (tx l).length = l.length := by show l.toArray.size = _; simp
theorem tx_app (a b : List Nat) : tx a ++ tx b = tx (a ++ b) := by
  show (⟨a.toArray ++ b.toArray⟩ : Str) = _
  simp
/-- what the module's names hold -/
structure Glo (mg : Str → Option Value) : Prop where
  len : mg "len" = none
  range : mg "range" = none
  tuple : mg "tuple" = none
  list : mg "list" = none
  any : mg "any" = none
  max : mg "max" = none
  min : mg "min" = none
  sorted : mg "sorted" = none
  set : mg "set" = none
  int : mg "int" = none
  isinstance : mg "isinstance" = none
  boolT : mg "bool" = none
  strT : mg "str" = none
  great : ∃ t, mg "GREAT_LETTERS" = some (.str (tx great) t)
  small : ∃ t, mg "SMALL_LETTERS" = some (.str (tx small) t)
  entries : ∃ t, mg "MOST_ENTRIES_making" = some (.int 10000 t)
  namesM : ∃ t, mg "MOST_NAMES" = some (.int 13 t)
  places1 : ∃ t, mg "MOST_PLACES_trees" = some (.int 100 t)
  places2 : ∃ t, mg "MOST_PLACES_firsts" = some (.int 100 t)
  entriesW : ∃ t, mg "MOST_ENTRIES_machines" = some (.int 10000 t)
theorem ee_g {T : List NTab} {X : Cx} {σ : L2.St} {H : Hp} {x : Str} {pos : Pos} {d : D} {v : V} {u : Value} (hg : Gl X x) (hm : X.mg x = some u) (hr : RelV v u) (hd : Is H d v) (hdb : (x == ("__debug__" : Str)) = false := by decide) : EE T X σ H (.Name x pos) d := ee_c (pe_glob hg hm hr hdb) hd
theorem ee_gI {T : List NTab} {X : Cx} {σ : L2.St} {H : Hp} {x : Str} {pos : Pos} {i : Int} (hg : Gl X x) (hm : ∃ t, X.mg x = some (.int i t)) (hdb : (x == ("__debug__" : Str)) = false := by decide) : EE T X σ H (.Name x pos) (.int i) := by
  obtain ⟨t, hm⟩ := hm
  exact ee_g (v := .int i) hg hm ⟨t, rfl⟩ (.int i) hdb
theorem ee_gS {T : List NTab} {X : Cx} {σ : L2.St} {H : Hp} {x : Str} {pos : Pos} {i : Str} (hg : Gl X x) (hm : ∃ t, X.mg x = some (.str i t)) (hdb : (x == ("__debug__" : Str)) = false := by decide) : EE T X σ H (.Name x pos) (.str i) := by
  obtain ⟨t, hm⟩ := hm
  exact ee_g (v := .str i) hg hm ⟨t, rfl⟩ (.str i) hdb
theorem sz_ok {n : Nat} (h : n ≤ 1000000) : n ≤ sizeLine := by rw [sizeLine_eq]; omega
theorem sz_lt {n : Nat} (h : n < 1000000) : n < sizeLine := by rw [sizeLine_eq]; omega
theorem take_succ {α : Type} {l : List α} {i : Nat} {c : α} (h : l[i]? = some c) : l.take (i + 1) = l.take i ++ [c] := by
  rw [List.take_add_one, h]; rfl
theorem drop_eq {α : Type} {l : List α} {i : Nat} {c : α} (h : l[i]? = some c) : l.drop i = c :: l.drop (i + 1) := by
  obtain ⟨hl, e⟩ := List.getElem?_eq_some_iff.mp h
  rw [List.drop_eq_getElem_cons hl, e]

/-- an answer that is data, told by data -/
def rV (C : List D → (V → Prop) → Prop) : Hp → List D → (Hp → V → Prop) → Prop := fun _ ds post => ∃ p, C ds p ∧ post = fun _ v => p v
section
variable {P : Program} {w : World} {K : PySem.W.Frag} {mg : Str → Option Value} {base : Heap} {T : List NTab} {f : Addr} {fd : FuncData}
/-- a call whose answer is an atom -/
theorem ee_callA {X : Cx} {σ : L2.St} {H : Hp} {e : Expr} {es : List Expr} {pos : Pos} {d : D} {ds : List D} {u : V} {k j : Nat} {x1 : Str} {p1 : Pos} {ps : List Str} {R : Hp → List D → (Hp → V → Prop) → Prop} (F : DefOk X.prog X.w X.K X.mg X.base T k x1 ps R) (hr : Room j X.A) (hk : k ≤ j) (hg : Gl X x1) (ha : EA T X σ H (e :: es) ds)
    (hR : ∀ H2, R H2 ds (fun _ v => v = u)) (hu : atomV d = some u) (hdb : (x1 == ("__debug__" : Str)) = false := by decide)
    (he : starEach (e :: es) X.env = (false, eval e X.env) :: starEach es X.env := by rfl) (hpl : (backTo pos (starEach es X.env)).any (·.1) = false := by rfl) : EE T X σ H (.Call (.Name x1 p1) (e :: es) [] pos) d :=
  ex_call F hr hk hg ha (fun H1 H2 _ _ => ⟨_, hR H2, fun v H3 _ q => by
    rw [q]
    cases d <;> simp [atomV] at hu <;> subst hu
    · exact .non
    · exact .bl _
    · exact .int _
    · exact .str _
    · exact .ref _⟩) hdb he hpl

/-! letter_of -/
abbrev sLetterOf : Stmt := topS 15
theorem sc_letter_of : FnScope ["names", "marks", "number", "name"] ["names", "marks"] (defScope sLetterOf) := ⟨rfl, rfl, rfl, by decide +kernel, rfl, by decide +kernel, by decide +kernel⟩
def R_letter_of : Hp → List D → (Hp → V → Prop) → Prop := fun _ ds post => ∃ names marks : List Nat, ds = [.str (tx names), .str (tx marks)] ∧ post = fun _ v => v = .int (letterOf names marks : Nat)
theorem letter_step {names marks : List Nat} {i c : Nat} (h : names[i]? = some c) : letterOf (names.take (i + 1)) marks = 2 * letterOf (names.take i) marks + (if c ∈ marks then 1 else 0) := by
  unfold letterOf
  rw [take_succ h, List.foldl_append]; rfl
theorem ok_letter_of (F : Fun K "letter_of" "letter_of" sLetterOf f fd) (hm : mg "letter_of" = some (.ref f)) : DefOk P w K mg base T 1 "letter_of" ["names", "marks"] R_letter_of := by
  refine def_ok F hm sc_letter_of (fun _ _ _ _ _ _ us hl => match us, hl with | [_, _], _ => rfl) (fun H ds post ⟨_, _, e, _⟩ => by rw [e]; rfl) fun cdv A outer s H E vs ds post hr hT hi ⟨names, marks, e1, e2⟩ => ?_
  subst e1 e2
  obtain ⟨_, _, rfl, i1, i2⟩ := isAll2 hi
  cases i1; cases i2
  refine b_asgA (ps_set (i := 2) sc_letter_of.nd rfl (.inl rfl) wE_pe) hT ee_int rfl fun H1 g1 t1 => ?_
  refine b_forS (ps_for PassesOwn.never rfl (pi_str wE_pe) (pg_name (i := 3) sc_letter_of.nd rfl (.inl rfl)) wB_pss) t1 (ee_v (pv 0) rfl (.str _))
    (fun i σ' H' => ∃ v : Option V, σ' = [some (.str (tx names)), some (.str (tx marks)), some (.int (letterOf (names.take i) marks : Nat)), v] ∧ Gx T H H') (fun H2 g2 t2 => ⟨none, rfl, g1.trans g2⟩) ?_ ?_
  · rintro i c σ' H' hc ⟨v, rfl, g⟩
    have t := g.tab hT
    have hs := letter_step (marks := marks) (show names[i]? = some c by simpa using hc)
    refine b_asgA (ps_set (i := 2) sc_letter_of.nd rfl (.inl rfl) wE_pe) t (ee_mul ee_int (ee_v (pv 2) rfl (.int _)) (.inl ⟨by decide, by decide⟩)) rfl fun H2 g2 t2 => ?_
    refine b_when t2 (et_inS (ee_v (pv 3) rfl (.str _)) (ee_v (pv 1) rfl (.str _)) (by rfl)) (fun hcm H3 g3 t3 => ?_) (fun hcm H3 g3 t3 => ?_)
    · refine b_asgA (ps_set (i := 2) sc_letter_of.nd rfl (.inl rfl) wE_pe) t3 (ee_add (ee_v (pv 2) rfl (.int _)) ee_int) rfl fun H4 g4 t4 => b_nil (b_nil ⟨some (.str ⟨#[c]⟩), ?_, ((g.trans g2).trans g3).trans g4⟩)
      have hcm : c ∈ marks := by simpa using hcm
      rw [hs, if_pos hcm]
      rfl
    · refine b_nil ⟨some (.str ⟨#[c]⟩), ?_, (g.trans g2).trans g3⟩
      have hcm : c ∉ marks := by simpa using hcm
      rw [hs, if_neg hcm]
      rfl
  · rintro σ' H' ⟨v, rfl, g⟩
    refine b_ret (g.tab hT) (ee_v (pv 2) rfl (.int _)) fun v H1 g1 t1 i => ⟨g.trans g1, ?_⟩
    rw [i.int_eq]
    show V.int _ = V.int _
    rw [show (tx names).cps.size = names.length by simp, List.take_length]

/-! marks_of -/
abbrev sMarksOf : Stmt := topS 16
theorem sc_marks_of : FnScope ["names", "number", "found", "weight", "name"] ["names", "number"] (defScope sMarksOf) := ⟨rfl, rfl, rfl, by decide +kernel, rfl, by decide +kernel, by decide +kernel⟩
def R_marks_of : Hp → List D → (Hp → V → Prop) → Prop := fun _ ds post => ∃ (names : List Nat) (n : Nat), names.length ≤ 1000 ∧ ds = [.str (tx names), .int n] ∧ post = fun _ v => v = .str (tx (marksOf names n))
theorem ok_marks_of (F : Fun K "marks_of" "marks_of" sMarksOf f fd) (hm : mg "marks_of" = some (.ref f)) (G : Glo mg) : DefOk P w K mg base T 1 "marks_of" ["names", "number"] R_marks_of := by
  refine def_ok F hm sc_marks_of (fun _ _ _ _ _ _ us hl => match us, hl with | [_, _], _ => rfl) (fun H ds post ⟨_, _, _, e, _⟩ => by rw [e]; rfl) fun cdv A outer s H E vs ds post hr hT hi ⟨names, n, hl, e1, e2⟩ => ?_
  subst e1 e2
  obtain ⟨_, _, rfl, i1, i2⟩ := isAll2 hi
  cases i1; cases i2
  refine b_asgA (ps_set (i := 2) sc_marks_of.nd rfl (.inl rfl) wE_pe) hT ee_str rfl fun H1 g1 t1 => ?_
  refine b_asgA (ps_set (i := 3) sc_marks_of.nd rfl (.inl rfl) wE_pe) t1 (ee_shl ee_int (ee_lenS rfl G.len (ee_v (pv 0) rfl (.str _)) (by rw [tx_len]; exact sz_ok (by omega))) ⟨by omega, by rw [tx_len]; omega, by decide⟩) rfl fun H2 g2 t2 => ?_
  refine b_forS (ps_for PassesOwn.never rfl (pi_str wE_pe) (pg_name (i := 4) sc_marks_of.nd rfl (.inl rfl)) wB_pss) t2 (ee_v (pv 0) rfl (.str _))
    (fun i σ' H' => ∃ (v : Option V) (found : List Nat) (k : Nat), σ' = [some (.str (tx names)), some (.int (k : Nat)), some (.str (tx found)), some (.int ((2 ^ (names.length - i) : Nat) : Int)), v] ∧ found.length ≤ i ∧ i ≤ names.length ∧ marksOf names n = found ++ marksOf (names.drop i) k ∧ Gx T H H')
    (fun H3 g3 t3 => ⟨none, [], n, ?_, Nat.le_refl _, Nat.zero_le _, rfl, (g1.trans g2).trans g3⟩) ?_ ?_
  · show [_, _, _, _, _] = [_, _, _, _, _]
    rw [tx_len, show Str.ofString "" = tx [] from rfl]
    simp
  · rintro i c σ' H' hc ⟨v, found, k, rfl, h1, h2, h3, g⟩
    have t := g.tab hT
    have hc' : names[i]? = some c := by simpa using hc
    have hil : i < names.length := (List.getElem?_eq_some_iff.mp hc').1
    have hp : (2 ^ (names.length - i) : Nat) = 2 * 2 ^ (names.length - (i + 1)) := by
      rw [show names.length - i = names.length - (i + 1) + 1 by omega, Nat.pow_succ]; omega
    refine b_asgA (d := .int ((2 ^ (names.length - (i + 1)) : Nat) : Int)) (ps_set (i := 3) sc_marks_of.nd rfl (.inl rfl) wE_pe) t (EE.is (ee_fdiv (ee_v (pv 3) rfl (.int _)) ee_int ⟨by decide, by decide⟩) (by rw [hp]; congr 1; omega)) rfl fun H3 g3 t3 => ?_
    rw [drop_eq hc', marks_cons, List.length_drop] at h3
    refine b_when t3 (et_ge (ee_v (pv 1) rfl (.int _)) (ee_v (pv 3) rfl (.int _))) (fun hcm H4 g4 t4 => ?_) (fun hcm H4 g4 t4 => ?_)
    · have hcm : 2 ^ (names.length - (i + 1)) ≤ k := by
        have := of_decide_eq_true hcm
        omega
      rw [if_pos hcm] at h3
      refine b_asgA (d := .str (tx (found ++ [c]))) (ps_set (i := 2) sc_marks_of.nd rfl (.inl rfl) wE_pe) t4 (EE.is (ee_catS (ee_v (pv 2) rfl (.str _)) (ee_v (pv 4) rfl (.str _)) (by rw [tx_len]; exact sz_ok (by show found.length + 1 ≤ _; omega))) (by congr 1; exact tx_app found [c])) rfl fun H5 g5 t5 => ?_
      refine b_asgA (d := .int ((k - 2 ^ (names.length - (i + 1)) : Nat) : Int)) (ps_set (i := 1) sc_marks_of.nd rfl (.inl rfl) wE_pe) t5 (EE.is (ee_sub (ee_v (pv 1) rfl (.int _)) (ee_v (pv 3) rfl (.int _))) (by congr 1; omega)) rfl fun H6 g6 t6 => b_nil (b_nil ?_)
      exact ⟨some (.str ⟨#[c]⟩), found ++ [c], _, rfl, by simp; omega, hil, by rw [h3]; simp, (((g.trans g3).trans g4).trans g5).trans g6⟩
    · have hcm : ¬ 2 ^ (names.length - (i + 1)) ≤ k := by
        have := of_decide_eq_false hcm
        omega
      rw [if_neg hcm] at h3
      exact b_nil ⟨some (.str ⟨#[c]⟩), found, _, rfl, by omega, hil, h3, (g.trans g3).trans g4⟩
  · rintro σ' H' ⟨v, found, k, rfl, h1, h2, h3, g⟩
    refine b_ret (g.tab hT) (ee_v (pv 2) rfl (.str _)) fun v H1 g1 t1 i => ⟨g.trans g1, ?_⟩
    rw [i.str_eq, h3]
    show V.str _ = V.str _
    rw [show (tx names).cps.size = names.length by simp, List.drop_length]
    simp [marksOf]

/-! within_most -/
abbrev sWithin : Stmt := topS 20
theorem sc_within : FnScope ["count", "names"] ["count", "names"] (defScope sWithin) := ⟨rfl, rfl, rfl, by decide +kernel, rfl, by decide +kernel, by decide +kernel⟩
def within (n k : Nat) : Bool := decide (k ≤ 13) && decide (n * n * 2 ^ k ≤ 10000)
def R_within : Hp → List D → (Hp → V → Prop) → Prop := fun _ ds post => ∃ (n : Nat) (names : List Nat), names.length ≤ 1000 ∧ n ≤ 100000 ∧ ds = [.int n, .str (tx names)] ∧ post = fun _ v => v = .bl (within n names.length)
theorem ok_within (F : Fun K "within_most" "within_most" sWithin f fd) (hm : mg "within_most" = some (.ref f)) (G : Glo mg) : DefOk P w K mg base T 1 "within_most" ["count", "names"] R_within := by
  refine def_ok F hm sc_within (fun _ _ _ _ _ _ us hl => match us, hl with | [_, _], _ => rfl) (fun H ds post ⟨_, _, _, _, e, _⟩ => by rw [e]; rfl) fun cdv A outer s H E vs ds post hr hT hi ⟨n, names, hl, hn, e1, e2⟩ => ?_
  subst e1 e2
  obtain ⟨_, _, rfl, i1, i2⟩ := isAll2 hi
  cases i1; cases i2
  have hlen : ∀ {H' : Hp} {pp p3 p4 : Pos}, EE T (cx0 P w K mg base ["count", "names"] "within_most" sWithin f cdv A outer s H E) (start ["count", "names"] [V.int n, V.str (tx names)]) H' (.Call (.Name "len" pp) [.Name "names" p3] [] p4) (.int (names.length : Nat)) := fun {H' pp p3 p4} =>
    EE.is (ee_lenS rfl G.len (ee_v (pv 1) rfl (.str _)) (by rw [tx_len]; exact sz_ok (by omega))) (by rw [tx_len])
  have hnn : (n : Int) * n < 2 ^ 64 := by
    have : (n : Int) * n ≤ 100000 * 100000 := Int.mul_le_mul (by omega) (by omega) (by omega) (by omega)
    omega
  refine b_ret hT (ee_and2 (ee_le hlen (ee_gI rfl G.namesM)) fun hc => ee_le (ee_mul (ee_mul (ee_v (pv 0) rfl (.int _)) (ee_v (pv 0) rfl (.int _)) (.inl ⟨by omega, by omega⟩)) (ee_shl ee_int hlen ⟨by omega, by omega, by decide⟩) (.inl ⟨?_, hnn⟩)) (ee_gI rfl G.entries)) fun v H1 g1 t1 i => ⟨g1, ?_⟩
  · have : (0 : Int) ≤ (n : Int) * n := Int.mul_nonneg (by omega) (by omega)
    omega
  · rw [i.bl_eq]
    unfold within
    show V.bl _ = V.bl _
    congr 2
    · rw [decide_eq_decide]; omega
    · rw [decide_eq_decide, Int.toNat_natCast, Int.one_mul]
      have : ((n * n * 2 ^ names.length : Nat) : Int) = (n : Int) * n * 2 ^ names.length := by
        rw [Int.natCast_mul, Int.natCast_mul, Int.natCast_pow]; rfl
      rw [← this]
      omega

/-! thin_numbers -/
abbrev sThin : Stmt := topS 21
theorem sc_thin : FnScope ["names", "wide", "number"] ["names", "wide"] (defScope sThin) := ⟨rfl, rfl, rfl, by decide +kernel, rfl, by decide +kernel, by decide +kernel⟩
def thins (names wide : List Nat) : List Nat := (List.range (2 ^ wide.length)).map fun x => thin names wide x
def R_thin : Hp → List D → (Hp → V → Prop) → Prop := fun H ds post => ∃ names wide : List Nat, names.length ≤ 1000 ∧ wide.length ≤ 13 ∧ ds = [.str (tx names), .str (tx wide)] ∧ post = fun H' v => ∃ p, v = .ref p ∧ H p = none ∧ H' p = some (.lst (natsV (thins names wide)))
theorem pow13 {k : Nat} (h : k ≤ 13) : 2 ^ k ≤ 8192 := by
  have : 2 ^ k ≤ 2 ^ 13 := Nat.pow_le_pow_right (by decide) h
  omega
theorem ok_thin (F : Fun K "thin_numbers" "thin_numbers" sThin f fd) (hm : mg "thin_numbers" = some (.ref f)) (G : Glo mg) (L : DefOk P w K mg base T 1 "letter_of" ["names", "marks"] R_letter_of) (M : DefOk P w K mg base T 1 "marks_of" ["names", "number"] R_marks_of) :
    DefOk P w K mg base T 2 "thin_numbers" ["names", "wide"] R_thin := by
  refine def_ok F hm sc_thin (fun _ _ _ _ _ _ us hl => match us, hl with | [_, _], _ => rfl) (fun H ds post ⟨_, _, _, _, e, _⟩ => by rw [e]; rfl) fun cdv A outer s H E vs ds post hr hT hi ⟨names, wide, hn, hw, e1, e2⟩ => ?_
  subst e1 e2
  obtain ⟨_, _, rfl, i1, i2⟩ := isAll2 hi
  cases i1; cases i2
  have hp := pow13 hw
  refine b_ret hT (el_map (es := natsD (thins names wide)) (pe_lc (own := [("number", 2)]) (g := gName 2) (tt := tYes) rfl sc_thin.nd wI_pi (blkOk_by (N := ["names", "wide", "number"]) (sc := defScope sThin) (by decide +kernel)) (fun _ _ _ _ _ => pg_name (i := 2) sc_thin.nd rfl (Or.inl rfl)) (fun _ _ _ _ _ => pts_nil) (fun _ _ _ _ _ => tB_pe _ _ _ _ _))
    (ei_range (n := 2 ^ wide.length) rfl G.range (EE.is (ee_shl ee_int (ee_lenS rfl G.len (ee_v (pv 1) rfl (.str _)) (by rw [tx_len]; exact sz_ok (by omega))) ⟨by omega, by rw [tx_len]; omega, by decide⟩) (by rw [tx_len, Int.toNat_natCast, Int.one_mul, Int.natCast_pow]; rfl)) (by omega))
    (by rw [rangeD_len]; exact sz_lt (by omega)) (fun x => .int (thin names wide x : Nat)) (fun _ => rfl) ?_ (by rw [rangeD_len]; simp [natsD, thins])) fun v H1 g1 t1 ⟨p, xs, e1, h1, h2, h3⟩ => ⟨g1, p, e1, h1, by rw [h2, h3.nats]⟩
  intro i di v H1 h1 h2 g1 s0 H0 C cl fp
  obtain ⟨hil, rfl⟩ := rangeD_get h1
  cases h2
  exact ee_callA (u := .int (thin names wide i : Nat)) L hr (by decide) rfl (ea_cons (ee_v (pv 0) rfl (.str _)) (ea_cons (ee_callA (d := .str (tx (marksOf wide i))) M hr (by decide) rfl (ea_cons (ee_v (pv 1) rfl (.str _)) (ea_cons (ee_v (pv 2) rfl (.int _)) ea_nil)) (fun H2 => ⟨wide, i, by omega, rfl, rfl⟩) rfl) ea_nil)) (fun H2 => ⟨names, marksOf wide i, rfl, rfl⟩) rfl
end
end Tk
set_option Elab.async false
set_option linter.all false
set_option maxRecDepth 100000
/-! Dicts, built-in calls over pure data. -/
namespace Tk
open PySem PySem.Spec PyProof.Rows L2 LamX NdefX

/-- a row of numbers as a key -/
def kN (l : List Nat) : List L2.Key := l.map fun n : Nat => (Sum.inl (n : Int) : L2.Key)
theorem kN_v (l : List Nat) : (kN l).map kV = natsV l := by unfold kN natsV; rw [List.map_map]; rfl
theorem kN_inj {a b : List Nat} (h : kN a = kN b) : a = b := by
  unfold kN at h
  refine List.map_inj_right (f := fun n : Nat => (Sum.inl (n : Int) : L2.Key)) (fun x y e => ?_) |>.mp h
  have := Sum.inl.inj e
  omega
theorem is_natsT {H : Hp} {l : List Nat} {v : V} (h : Is H (.tup (natsD l)) v) : ∃ b, v = .ref b ∧ H b = some (.tup ((kN l).map kV)) := by
  cases h with
  | tup h1 h2 => exact ⟨_, rfl, by rw [kN_v, ← h2.nats]; exact h1⟩
section
variable {T : List NTab} {X : Cx} {σ : L2.St} {H H' : Hp} {e a b o i : Expr} {es : List Expr} {d x y : D} {ds : List D} {pos apos : Pos} {n : Nat} {p : Addr} {kvs : List (L2.Key × V)} {kvt : List (List L2.Key × V)} {v : V}

/-! ### d[k] -/
theorem ee_dgetK (hu : X.A.units + 1 < cLine) (ho : EE T X σ H o (.ref p)) (hp : H p = some (.dK kvs)) (hi : EE T X σ H i (.int (n : Nat))) (hv : valV kvs (.inl (n : Int)) = some v) (hd : Is H d v) (hs : NoSl i := by exact fun _ _ => rfl) : EE T X σ H (.Subscript o i pos) d := fun H1 g t =>
  PE_to (pe_dget hu wE_pe wE_pe hs) (wE_imp (ho H1 g t) fun u H2 ⟨g2, i2⟩ => wE_imp (hi H2 (g.trans g2) (g2.tab t)) fun w H3 ⟨g3, i3⟩ => by
    rw [i2.ref_eq, i3.int_eq]
    refine ⟨p, v, rfl, ?_, g2.trans g3, hd.mono ((g.trans g2).trans g3).ti⟩
    have := DGet.k (k := .inl (n : Int)) (((g.trans g2).trans g3).dK hp)
    rwa [hv] at this)
theorem ee_dgetT {l : List Nat} (hu : X.A.units + 1 < cLine) (ho : EE T X σ H o (.ref p)) (hp : H p = some (.dT kvt)) (hi : EE T X σ H i (.tup (natsD l))) (hv : valV kvt (kN l) = some v) (hd : Is H d v) (hs : NoSl i := by exact fun _ _ => rfl) : EE T X σ H (.Subscript o i pos) d := fun H1 g t =>
  PE_to (pe_dget hu wE_pe wE_pe hs) (wE_imp (ho H1 g t) fun u H2 ⟨g2, i2⟩ => wE_imp (hi H2 (g.trans g2) (g2.tab t)) fun w H3 ⟨g3, i3⟩ => by
    obtain ⟨b, rfl, hb⟩ := is_natsT i3
    rw [i2.ref_eq]
    refine ⟨p, v, rfl, ?_, g2.trans g3, hd.mono ((g.trans g2).trans g3).ti⟩
    have := DGet.t (((g.trans g2).trans g3).dT hp) hb
    rwa [hv] at this)
/-! ### k in d, k not in d -/
theorem et_dnot (hu : X.A.units + 1 < cLine) (hi : EE T X σ H i (.int (n : Nat))) (ho : EE T X σ H o (.ref p)) (hp : H p = some (.dK kvs)) (hm : behindInMarks .NotIn o = false := by rfl) : ET T X σ H (.Compare i [.NotIn] [o] pos) (!(valV kvs (.inl (n : Int))).isSome) := fun H1 g t =>
  PT_to (pt_cmp (pc_dnotin hu wE_pe wE_pe) hm) (wE_imp (hi H1 g t) fun w H2 ⟨g2, i2⟩ => wE_imp (ho H2 (g.trans g2) (g2.tab t)) fun u H3 ⟨g3, i3⟩ => by
    rw [i2.int_eq, i3.ref_eq]
    exact ⟨p, _, rfl, DGet.k (k := .inl (n : Int)) (((g.trans g2).trans g3).dK hp), _, rfl, g2.trans g3, rfl⟩)
theorem et_dnotT {l : List Nat} (hu : X.A.units + 1 < cLine) (hi : EE T X σ H i (.tup (natsD l))) (ho : EE T X σ H o (.ref p)) (hp : H p = some (.dT kvt)) (hm : behindInMarks .NotIn o = false := by rfl) : ET T X σ H (.Compare i [.NotIn] [o] pos) (!(valV kvt (kN l)).isSome) := fun H1 g t =>
  PT_to (pt_cmp (pc_dnotin hu wE_pe wE_pe) hm) (wE_imp (hi H1 g t) fun w H2 ⟨g2, i2⟩ => wE_imp (ho H2 (g.trans g2) (g2.tab t)) fun u H3 ⟨g3, i3⟩ => by
    obtain ⟨b, rfl, hb⟩ := is_natsT (i2.mono g3.ti)
    rw [i3.ref_eq]
    exact ⟨p, _, rfl, DGet.t (((g.trans g2).trans g3).dT hp) hb, _, rfl, g2.trans g3, rfl⟩)
/-! ### d[k] = e -/
theorem b_dputK {st : Stmt} {rest : List Stmt} {D' : Ends} {P : Hp → V → Hp → Prop} (s : PS X st (sDPut (wE X o) (wE X i) (wE X e))) (hT : TabsN T H) (he : EX T X σ H e P) (ho : EE T X σ H o (.ref p)) (hp : H p = some (.dK kvs)) (hz : kvs.length < sizeLine) (hi : EE T X σ H i (.int (n : Nat)))
    (k : ∀ v H1 H2, Gx T H H1 → Gx T H1 H2 → TabsN T H2 → P H v H1 → H2 p = some (.dK kvs) → wB X rest D' σ (upd H2 p (.dK (putK kvs (.inl (n : Int)) v)))) : wB X (st :: rest) D' σ H :=
  b_ps s (wE_imp (he H (Gx.refl H) hT) fun v H1 ⟨g, q⟩ => wE_imp (ho H1 g (g.tab hT)) fun u H2 ⟨g2, i2⟩ => wE_imp (hi H2 (g.trans g2) ((g.trans g2).tab hT)) fun w H3 ⟨g3, i3⟩ => by
    rw [i2.ref_eq, i3.int_eq]
    have h3 := ((g.trans g2).trans g3).dK hp
    exact ⟨p, _, rfl, DPut.k (k := .inl (n : Int)) h3 hz, k v H1 H3 g (g2.trans g3) (((g.trans g2).trans g3).tab hT) q h3⟩)
theorem b_dputT {st : Stmt} {rest : List Stmt} {D' : Ends} {P : Hp → V → Hp → Prop} {l : List Nat} (s : PS X st (sDPut (wE X o) (wE X i) (wE X e))) (hT : TabsN T H) (he : EX T X σ H e P) (ho : EE T X σ H o (.ref p)) (hp : H p = some (.dT kvt)) (hz : kvt.length < sizeLine) (hi : EE T X σ H i (.tup (natsD l)))
    (k : ∀ v H1 H2, Gx T H H1 → Gx T H1 H2 → TabsN T H2 → P H v H1 → H2 p = some (.dT kvt) → wB X rest D' σ (upd H2 p (.dT (putK kvt (kN l) v)))) : wB X (st :: rest) D' σ H :=
  b_ps s (wE_imp (he H (Gx.refl H) hT) fun v H1 ⟨g, q⟩ => wE_imp (ho H1 g (g.tab hT)) fun u H2 ⟨g2, i2⟩ => wE_imp (hi H2 (g.trans g2) ((g.trans g2).tab hT)) fun w H3 ⟨g3, i3⟩ => by
    obtain ⟨b, rfl, hb⟩ := is_natsT i3
    rw [i2.ref_eq]
    have h3 := ((g.trans g2).trans g3).dT hp
    exact ⟨p, _, rfl, DPut.t h3 hb hz, k v H1 H3 g (g2.trans g3) (((g.trans g2).trans g3).tab hT) q h3⟩)
/-! ### new dicts -/
theorem ex_newK : EX T X σ H (.Dict [] [] pos) (fun H1 v H2 => ∃ p, v = .ref p ∧ H1 p = none ∧ H2 p = some (.dK [])) := fun H1 g t => PE_to pe_dnewK fun p hp => ⟨Gx.new hp, p, rfl, hp, upd_same⟩
theorem ex_newT : EX T X σ H (.Dict [] [] pos) (fun H1 v H2 => ∃ p, v = .ref p ∧ H1 p = none ∧ H2 p = some (.dT [])) := fun H1 g t => PE_to pe_dnewT fun p hp => ⟨Gx.new hp, p, rfl, hp, upd_same⟩
/-- {0: 0}: one pair, the key an int -/
theorem ex_disp1 {m : Nat} (ha : EE T X σ H a (.int (m : Nat))) (hb : EE T X σ H b (.int (n : Nat))) : EX T X σ H (.Dict [some a] [b] pos) (fun H1 v H2 => ∃ p, v = .ref p ∧ H1 p = none ∧ H2 p = some (.dK [(.inl (m : Int), .int (n : Nat))])) := fun H1 g t =>
  PE_to (pe_disp (pps_cons wE_pe wE_pe pps_nil) rfl rfl (by simp) (by simp)) fun p hp => by
    have gp : Gx T H1 (upd H1 p (.dK [])) := Gx.new hp
    refine wE_imp (ha _ (g.trans gp) (gp.tab t)) fun u H2 ⟨g2, i2⟩ => wE_imp (hb H2 ((g.trans gp).trans g2) ((gp.trans g2).tab t)) fun w H3 ⟨g3, i3⟩ => ?_
    have h3 := (g2.trans g3).dK (p := p) upd_same
    exact ⟨h3, [(.inl (m : Int), .int (n : Nat))], by rw [i2.int_eq, i3.int_eq]; rfl, by simp, ((gp.trans g2).trans g3).mutK hp h3, p, rfl, hp, upd_same⟩
/-! ### len -/
theorem ee_lenK {p1 : Pos} (hg : Gl X "len") (hm : X.mg "len" = none) (h : EE T X σ H e (.ref p)) (hp : H p = some (.dK kvs)) (he : starEach (e :: []) X.env = (false, eval e X.env) :: starEach [] X.env := by rfl) (hpl : (backTo pos (starEach [] X.env)).any (·.1) = false := by rfl) :
    EE T X σ H (.Call (.Name "len" p1) [e] [] pos) (.int (kvs.length : Nat)) :=
  ex_blt call_lenD hg hm PySem.boot_len (ea_cons h ea_nil he) (fun H1 H2 vs g1 g2 _ i Q q => by
    obtain ⟨_, rfl, i1⟩ := isAll1 i
    cases i1
    exact ⟨p, kvs, rfl, (g1.trans g2).dK hp, q _ _ (Gx.refl _) (.int _)⟩) (by decide) (by decide) he hpl
theorem ee_lenDT {p1 : Pos} (hg : Gl X "len") (hm : X.mg "len" = none) (h : EE T X σ H e (.ref p)) (hp : H p = some (.dT kvt)) (he : starEach (e :: []) X.env = (false, eval e X.env) :: starEach [] X.env := by rfl) (hpl : (backTo pos (starEach [] X.env)).any (·.1) = false := by rfl) :
    EE T X σ H (.Call (.Name "len" p1) [e] [] pos) (.int (kvt.length : Nat)) :=
  ex_blt call_len_dT hg hm PySem.boot_len (ea_cons h ea_nil he) (fun H1 H2 vs g1 g2 _ i Q q => by
    obtain ⟨_, rfl, i1⟩ := isAll1 i
    cases i1
    exact ⟨p, kvt, rfl, (g1.trans g2).dT hp, q _ _ (Gx.refl _) (.int _)⟩) (by decide) (by decide) he hpl
/-! ### d.get(k), d.pop(k) -/
theorem ee_get1 {cpos : Pos} (hu : X.A.units + 1 < cLine) (ho : EE T X σ H o (.ref p)) (hp : H p = some (.dK kvs)) (hi : EE T X σ H i (.int (n : Nat))) (hd : Is H d ((valV kvs (.inl (n : Int))).getD .non)) (m : M1 X o "get" apos i cpos) : EE T X σ H (.Call (.Attribute o "get" apos) [i] [] cpos) d := fun H1 g t =>
  PE_to (pe_dget1 hu wE_pe wE_pe m) (wE_imp (ho H1 g t) fun u H2 ⟨g2, i2⟩ => by
    rw [i2.ref_eq]
    refine ⟨p, rfl, .inl ⟨kvs, .inl ((g.trans g2).dK hp)⟩, wE_imp (hi H2 (g.trans g2) (g2.tab t)) fun w H3 ⟨g3, i3⟩ => ?_⟩
    rw [i3.int_eq]
    exact ⟨_, DGet.k (k := .inl (n : Int)) (((g.trans g2).trans g3).dK hp), g2.trans g3, hd.mono ((g.trans g2).trans g3).ti⟩)

/-! ### dicts with truths as keys -/
def dB (P : Program) (w : World) (p : Addr) (kvs : List (Bool × V)) : HO := .ext fun h => kvs.length ≤ sizeLine ∧ (p == sysModules) = false ∧ ∃ vs, KV kvs vs ∧ h.DictOf (PpSet.boolK P w) p vs
theorem dB_ok {P : Program} {w : World} {H : Hp} {h : Heap} {kb : List (Bool × V)} {vs : List (Bool × Value)} (z : kb.length ≤ sizeLine) (hd : (p == sysModules) = false) (rel : KV kb vs) (dd : h.DictOf (PpSet.boolK P w) p vs) : ObjOk P w H h p (dB P w p kb) := by
  obtain ⟨o, es, ep, h1, h2⟩ := id dd
  exact ⟨⟨z, hd, vs, rel, dd⟩, ⟨o, h1⟩, fun h1 h2 ⟨z, hd, vs, rel, dd⟩ k => ⟨z, hd, vs, rel, dd.at k⟩⟩
theorem dB_at {pins : List (Addr × Obj)} {s : Shared} {kb : List (Bool × V)} (I : Inv X pins σ H s) (h : H p = some (dB X.prog X.w p kb)) : kb.length ≤ sizeLine ∧ (p == sysModules) = false ∧ ∃ vs, KV kb vs ∧ s.heap.DictOf (PpSet.boolK X.prog X.w) p vs :=
  (show ObjOk X.prog X.w H s.heap p (dB X.prog X.w p kb) from I.hok p _ h).1
variable {kb : List (Bool × V)} {c : Bool}
theorem ex_newB : EX T X σ H (.Dict [] [] pos) (fun H1 v H2 => ∃ p, v = .ref p ∧ H1 p = none ∧ H2 p = some (dB X.prog X.w p [])) := fun H1 g t =>
  PE_to (t := fun σ H Q => ∀ p, H p = none → Q (.ref p) (upd H p (dB X.prog X.w p []))) ⟨fun pins s σ H Q I h =>
    wpAny_Dict_empty ⟨.ref s.heap.objs.size, _, I.laid (a := s.heap.objs.size) (o := dB X.prog X.w s.heap.objs.size []) (t' := s.toks) (fun _ _ q => Heap.get?_push_of_some _ q) (Nat.le_refl _) (dB_ok (Nat.zero_le _) (beq_eq_false_iff_ne.mpr (Ne.symm (Nat.ne_of_lt I.big))) .nil (Heap.DictOf.new s.heap)), rfl, h _ (I.hok.fresh (Nat.le_refl _))⟩⟩
    fun p hp => ⟨Gx.new hp, p, rfl, hp, upd_same⟩
theorem Gx.dB {P : Program} {w : World} (g : Gx T H H') (h : H p = some (dB P w p kb)) : H' p = some (Tk.dB P w p kb) := g.any h fun ps e => by cases e
theorem ee_dgetB (ho : EE T X σ H o (.ref p)) (hp : H p = some (dB X.prog X.w p kb)) (hi : EE T X σ H i (.bl c)) (hv : valV kb c = some v) (hd : Is H d v) (hs : NoSl i := by exact fun _ _ => rfl) : EE T X σ H (.Subscript o i pos) d := fun H1 g t =>
  PE_to (t := fun σ H Q => wE X o σ H fun x H1 => wE X i σ H1 fun y H2 => x = .ref p ∧ y = .bl c ∧ H2 p = some (dB X.prog X.w p kb) ∧ Q v H2) ⟨fun pins s σ H Q I h => by
    refine subD_of PySem.F.slot_dict_getitem.lookup hs (thn (h pins s I) fun u s1 ⟨x, H1, I1, rx, q1⟩ => thn (q1 pins s1 I1) fun iv s2 ⟨y, H2, I2, ry, ex, ey, hp2, q2⟩ => ?_)
    subst ex ey
    cases rx
    cases ry
    obtain ⟨z, hd, vs, rel, dd⟩ := dB_at I2 hp2
    obtain ⟨w', hw, rw'⟩ := RelO.some_of (v := v) (o := valueAt vs c) (by rw [← hv]; exact rel.val c)
    exact ⟨dd.typeIs, wpAny_getItem_of (PpSet.boolK_is _ _ c) dd.mapOf hw ⟨v, H2, I2.tok _, rw', q2⟩⟩⟩
    (wE_imp (ho H1 g t) fun u H2 ⟨g2, i2⟩ => wE_imp (hi H2 (g.trans g2) (g2.tab t)) fun w H3 ⟨g3, i3⟩ => ⟨i2.ref_eq, i3.bl_eq, ((g.trans g2).trans g3).dB hp, g2.trans g3, hd.mono ((g.trans g2).trans g3).ti⟩)
theorem et_dnotB (hi : EE T X σ H i (.bl c)) (ho : EE T X σ H o (.ref p)) (hp : H p = some (dB X.prog X.w p kb)) (hm : behindInMarks .NotIn o = false := by rfl) : ET T X σ H (.Compare i [.NotIn] [o] pos) (!(valV kb c).isSome) := fun H1 g t =>
  PT_to (pt_cmp (t := fun σ H Q => wE X i σ H fun y H1 => wE X o σ H1 fun x H2 => x = .ref p ∧ y = .bl c ∧ H2 p = some (dB X.prog X.w p kb) ∧ Q (.bl (!(valV kb c).isSome)) H2) ⟨fun pins s σ H Q I h => by
    refine thn (h pins s I) fun iv s1 ⟨y, H1, I1, ry, q1⟩ => thn (q1 pins s1 I1) fun u s2 ⟨x, H2, I2, rx, ex, ey, hp2, q2⟩ => ?_
    subst ex ey
    cases rx
    cases ry
    obtain ⟨z, hd, vs, rel, dd⟩ := dB_at I2 hp2
    refine wpAny_notIn_of (PpSet.boolK_is _ _ c) hd dd.mapOf ?_
    rw [← (rel.val c).isSome_eq]
    exact ⟨.bl _, H2, I2.tok _, rfl, q2⟩⟩ hm)
    (wE_imp (hi H1 g t) fun w H2 ⟨g2, i2⟩ => wE_imp (ho H2 (g.trans g2) (g2.tab t)) fun u H3 ⟨g3, i3⟩ => ⟨i3.ref_eq, i2.bl_eq, ((g.trans g2).trans g3).dB hp, _, rfl, g2.trans g3, rfl⟩)
theorem ee_lenB {p1 : Pos} (hg : Gl X "len") (hm : X.mg "len" = none) (h : EE T X σ H e (.ref p)) (hp : H p = some (dB X.prog X.w p kb)) (he : starEach (e :: []) X.env = (false, eval e X.env) :: starEach [] X.env := by rfl) (hpl : (backTo pos (starEach [] X.env)).any (·.1) = false := by rfl) :
    EE T X σ H (.Call (.Name "len" p1) [e] [] pos) (.int (kb.length : Nat)) :=
  ex_blt (r := fun xs H Q => ∃ a kb, xs = [V.ref a] ∧ H a = some (dB X.prog X.w a kb) ∧ Q (.int (kb.length : Nat)) H) (fun pins s σ H xs us Q I r h => by
    obtain ⟨a, kb, rfl, ha, q⟩ := h
    obtain ⟨u, rfl, ru⟩ := vals1 r
    cases ru
    obtain ⟨z, hd, vs, rel, dd⟩ := dB_at I ha
    refine call_len_dict hd dd (by rw [← rel.length]; rw [sizeLine_eq] at z; omega) ?_
    rw [← rel.length]
    exact ⟨.int _, H, I.tok _, ⟨_, rfl⟩, q⟩) hg hm PySem.boot_len (ea_cons h ea_nil he) (fun H1 H2 vs g1 g2 _ i Q q => by
    obtain ⟨_, rfl, i1⟩ := isAll1 i
    cases i1
    exact ⟨p, kb, rfl, (g1.trans g2).dB hp, q _ _ (Gx.refl _) (.int _)⟩) (by decide) (by decide) he hpl
/-- what the rule tells of the tables -/
def TabKeep (H1 H2 : Hp) : Prop := ∀ T, TabsN T H1 → TabsN T H2
theorem b_dputB {rest : List Stmt} {D' : Ends} {P : Hp → V → Hp → Prop} {pos' : Pos} (hT : TabsN T H) (he : EX T X σ H e P) (ho : EE T X σ H o (.ref p)) (hp : H p = some (dB X.prog X.w p kb)) (hz : kb.length < sizeLine) (hi : EE T X σ H i (.bl c)) (hsw : swapsWith e (some (.Subscript o i pos')) pos.line X.env = pure false := by rfl)
    (k : ∀ v H1 H2, Gx T H H1 → Gx T H1 H2 → TabsN T H2 → P H v H1 → H2 p = some (dB X.prog X.w p kb) → TabKeep H2 (upd H2 p (dB X.prog X.w p (putK kb c v))) → wB X rest D' σ (upd H2 p (dB X.prog X.w p (putK kb c v)))) : wB X (.Assign [.Subscript o i pos'] e pos :: rest) D' σ H :=
  b_ps (t := fun D σ H => wE X e σ H fun v H1 => wE X o σ H1 fun x H2 => wE X i σ H2 fun y H3 => x = .ref p ∧ y = .bl c ∧ H3 p = some (dB X.prog X.w p kb) ∧ (TabKeep H3 (upd H3 p (dB X.prog X.w p (putK kb c v))) → D.nx σ (upd H3 p (dB X.prog X.w p (putK kb c v)))))
    ⟨fun pins s σ H D I h => by
      refine wpAny_Assign_Subscript (thn (h pins s I) fun r s1 ⟨v, H1, I1, rv, q1⟩ => thn (q1 pins s1 I1) fun u s2 ⟨x, H2, I2, rx, q2⟩ => thn (q2 pins s2 I2) fun iv s3 ⟨y, H3, I3, ry, ex, ey, hp3, q3⟩ => ?_) hsw
      subst ex ey
      cases rx
      cases ry
      obtain ⟨z, hd, vs, rel, dd⟩ := dB_at I3 hp3
      have hzz : vs.length ≤ sizeLine := by rw [← rel.length]; exact z
      have hl : (putK kb c v).length ≤ sizeLine := by have := length_putK kb c v; omega
      refine wpAny_setItem_pairs (hsz := hzz) (PpSet.boolK_is _ _ c) dd fun h' dd' hs => ⟨σ, _, ?_, q3 fun T t q hq => ?_⟩
      · have he : ∃ q, h'.get? p = some q := let ⟨q, _, _, hq, _⟩ := dd'; ⟨q, hq⟩
        exact d_write I3 (by rw [hp3]; exact True.intro) hs he (dB_ok hl hd (rel.put c rv) dd')
      · obtain ⟨ps, a1, a2, a3⟩ := t q hq
        refine ⟨ps, ?_, a2, fun pos cv hc => ?_⟩
        · rw [upd_ne fun e => ?_]; exact a1
          rw [e, hp3] at a1; cases a1
        · obtain ⟨c1, e1, e2⟩ := a3 pos cv hc
          refine ⟨c1, e1, ?_⟩
          rw [upd_ne fun e => ?_]; exact e2
          have hh := I3.hok c1 _ e2
          obtain ⟨⟨oc, us, t, b1, b2, b3⟩, _, _⟩ := hh
          obtain ⟨o', es, ep, f1, f2, f3, _⟩ := dd
          rw [e, f1] at b1
          cases b1
          rw [f3] at b2
          cases b2⟩
    (wE_imp (he H (Gx.refl H) hT) fun v H1 ⟨g, q⟩ => wE_imp (ho H1 g (g.tab hT)) fun u H2 ⟨g2, i2⟩ => wE_imp (hi H2 (g.trans g2) ((g.trans g2).tab hT)) fun w H3 ⟨g3, i3⟩ =>
      ⟨i2.ref_eq, i3.bl_eq, ((g.trans g2).trans g3).dB hp, fun tk => k v H1 H3 g (g2.trans g3) (((g.trans g2).trans g3).tab hT) q (((g.trans g2).trans g3).dB hp) tk⟩)
/-- an object that H does not know may change, the tables kept -/
theorem Gx.mutX {u u' : HO} (g : Gx T H H') (hp : H p = none) (tk : TabKeep H' (upd H' p u)) : Gx T H (upd H' p u) :=
  ⟨fun b ob e n => by rw [upd_ne (ne_of_none e hp)]; exact g.ext b ob e n, fun b e => g.low b (NdefX.upd_none e), fun t => tk T (g.tab t)⟩
end
end Tk
set_option Elab.async false
set_option linter.all false
set_option maxRecDepth 100000
/-! Functions as values: cells frozen while another def calls what captured them. -/
namespace Tk
open PySem PySem.Spec PyProof.Rows L2 LamX NdefX

/-! ### frozen objects -/
abbrev Fz := Addr → Option Obj
abbrev fzO (ob : Obj) : HO := .frz ob (.own 0)
def frz (C : Fz) (H : Hp) : Hp := fun b => match C b with
  | some ob => some (fzO ob)
  | none => H b
def unf (C : Fz) (H : Hp) : Hp := fun b => match C b with
  | some _ => none
  | none => H b
theorem frz_at {C : Fz} {H : Hp} {b : Addr} {ob : Obj} (h : C b = some ob) : frz C H b = some (fzO ob) := by unfold frz; rw [h]
theorem frz_ne {C : Fz} {H : Hp} {b : Addr} (h : C b = none) : frz C H b = H b := by unfold frz; rw [h]
theorem unf_at {C : Fz} {H : Hp} {b : Addr} {ob : Obj} (h : C b = some ob) : unf C H b = none := by unfold unf; rw [h]
theorem unf_ne {C : Fz} {H : Hp} {b : Addr} (h : C b = none) : unf C H b = H b := by unfold unf; rw [h]
/-- where C stands H knows nothing -/
def Fresh (C : Fz) (H : Hp) : Prop := ∀ b ob, C b = some ob → H b = none
/-- where C stands H has it frozen -/
def Frozen (C : Fz) (H : Hp) : Prop := ∀ b ob, C b = some ob → H b = some (fzO ob)
theorem frozen_frz (C : Fz) (H : Hp) : Frozen C (frz C H) := fun b ob h => frz_at h
theorem fresh_unf (C : Fz) (H : Hp) : Fresh C (unf C H) := fun b ob h => unf_at h
section
variable {C : Fz} {H H1 H2 H' : Hp} {T : List NTab} {b : Addr} {o : HO}
theorem Fresh.not (f : Fresh C H) (h : H b = some o) : C b = none := by
  cases e : C b with
  | none => rfl
  | some ob => rw [f b ob e] at h; cases h
theorem Frozen.not (f : Frozen C H) (h : H b = some o) (hn : ∀ ob, o ≠ fzO ob) : C b = none := by
  cases e : C b with
  | none => rfl
  | some ob => rw [f b ob e] at h; exact absurd (Option.some.inj h).symm (hn ob)
theorem Frozen.ext (f : Frozen C H) (g : Gx T H H1) : Frozen C H1 := fun b ob h => g.frz (f b ob h)
theorem Fresh.frz_of (f : Fresh C H) (h : H b = some o) : frz C H b = some o := by rw [frz_ne (f.not h)]; exact h
theorem Fresh.gx (f : Fresh C H) : Gx T H (frz C H) := Gx.of fun b o e => f.frz_of e
/-- tables in the heap without -/
theorem tabs_unf (f : Frozen C H) (t : TabsN T H) : TabsN T (unf C H) := fun q hq => by
  obtain ⟨ps, a1, a2, a3⟩ := t q hq
  refine ⟨ps, by rw [unf_ne (f.not a1 fun ob e => by cases e)]; exact a1, a2, fun pos cv hc => ?_⟩
  obtain ⟨c, e1, e2⟩ := a3 pos cv hc
  exact ⟨c, e1, by rw [unf_ne (f.not e2 fun ob e => by cases e)]; exact e2⟩
theorem Gx.unf_of (f : Fresh C H) (g : Gx T (Tk.frz C H) H1) : Gx T H (unf C H1) :=
  ⟨fun b o e n => by rw [unf_ne (f.not e)]; exact g.ext b o (f.frz_of e) n,
    fun b e => by
      cases q : C b with
      | some ob => exact f b ob q
      | none =>
        rw [unf_ne q] at e
        have := g.low b e
        rwa [frz_ne q] at this,
    fun t => tabs_unf ((frozen_frz C H).ext g) (g.tab (f.gx.tab t))⟩
/-- back -/
theorem Gx.frz_of (f : Frozen C H1) (f2 : Fresh C H2) (g : Gx T (unf C H1) H2) : Gx T H1 (Tk.frz C H2) :=
  ⟨fun b o e n => by
      cases q : C b with
      | some ob => rw [f b ob q] at e; cases e; exact frz_at q
      | none => rw [frz_ne q]; exact g.ext b o (by rw [unf_ne q]; exact e) n,
    fun b e => by
      cases q : C b with
      | some ob => rw [frz_at q] at e; cases e
      | none =>
        rw [frz_ne q] at e
        have := g.low b e
        rwa [unf_ne q] at this,
    fun t => f2.gx.tab (g.tab (tabs_unf f t))⟩
theorem Frozen.ti (f : Frozen C H) : Ti H (unf C H) := fun b xs e => by rw [unf_ne (f.not e fun ob e => by cases e)]; exact e
theorem Fresh.ti (f : Fresh C H) : Ti H (frz C H) := fun b xs e => f.frz_of e
theorem Frozen.lst (f : Frozen C H) {xs : List V} (h : H b = some (.lst xs)) : unf C H b = some (.lst xs) := by rw [unf_ne (f.not h fun ob e => by cases e)]; exact h
variable {P : Program} {w : World} {h h' : Heap}
theorem hok_frz (f : Fresh C H) (hC : ∀ b ob, C b = some ob → h.get? b = some ob) (ok : HOk P w H h) : HOk P w (frz C H) h := fun b o e => by
  cases q : C b with
  | some ob =>
    rw [frz_at q] at e
    cases e
    exact ⟨hC b ob q, ob, hC b ob q⟩
  | none =>
    rw [frz_ne q] at e
    exact (ok b o e).stay (fun _ _ _ x => x) (fun d x => f.frz_of x) fun d xs x => f.frz_of x
theorem hok_unf (f : Frozen C H) (ok : HOk P w H h) : HOk P w (unf C H) h := fun b o e => by
  cases q : C b with
  | some ob => rw [unf_at q] at e; cases e
  | none =>
    rw [unf_ne q] at e
    exact (ok b o e).stay (fun _ _ _ x => x) (fun d x => by rw [unf_ne (f.not x fun ob z => by cases z)]; exact x) fun d xs x => by rw [unf_ne (f.not x fun ob z => by cases z)]; exact x
theorem Frozen.obj (f : Frozen C H) (ok : HOk P w H h) {ob : Obj} (q : C b = some ob) : h.get? b = some ob := (show ObjOk P w H h b (fzO ob) from ok b _ (f b ob q)).1
end

/-! ### what a call of a function value promises -/
structure FvOk (P : Program) (w : World) (K : PySem.W.Frag) (mg : Str → Option Value) (base : Heap) (T : List NTab) (k : Nat) (H : Hp) (f : Addr) (Cd : List D → D → Prop) : Prop where
  fn : ∀ (H1 : Hp) (h : Heap), Gx T H H1 → HOk P w H1 h → PySem.W.FnAt f h
  run : ∀ (A : Around) (outer : List Env) (s : Shared) (H1 : Hp) (us : List Value) (vs : List V) (ds : List D) (d : D), Gx T H H1 → TabsN T H1 → Room k A → Env0 P w K mg base A outer s H1 → Vals vs us → IsAll H1 ds vs → Cd ds d →
    codeAny (model P w) A (.call (.ref f) ⟨us, []⟩) (CR CX0 outer P w H1 s (fun v H2 => Gx T H1 H2 ∧ Is H2 d v) E0) s
section
variable {P : Program} {w : World} {K : PySem.W.Frag} {mg : Str → Option Value} {base : Heap} {T : List NTab} {k j : Nat} {H H' : Hp} {f : Addr} {Cd Cd' : List D → D → Prop}
theorem FvOk.ext (F : FvOk P w K mg base T k H f Cd) (e : Gx T H H') : FvOk P w K mg base T k H' f Cd :=
  ⟨fun H1 h x => F.fn H1 h (e.trans x), fun A outer s H1 us vs ds d x => F.run A outer s H1 us vs ds d (e.trans x)⟩
theorem FvOk.mono (F : FvOk P w K mg base T k H f Cd) (h : k ≤ j) : FvOk P w K mg base T j H f Cd :=
  ⟨F.fn, fun A outer s H1 us vs ds d x t r => F.run A outer s H1 us vs ds d x t (r.mono h)⟩
theorem FvOk.imp (F : FvOk P w K mg base T k H f Cd) (h : ∀ ds d, Cd' ds d → Cd ds d) : FvOk P w K mg base T k H f Cd' :=
  ⟨F.fn, fun A outer s H1 us vs ds d x t r e v i c => F.run A outer s H1 us vs ds d x t r e v i (h ds d c)⟩
/-- x(..), x a name that holds the function -/
theorem ee_callF {X : Cx} {σ : L2.St} {H : Hp} {e : Expr} {es : List Expr} {p1 pos : Pos} {x : Str} {i : Nat} {ds : List D} {d : D} (F : FvOk X.prog X.w X.K X.mg X.base T k H f Cd) (hr : Room j X.A) (hk : k ≤ j) (hs : σ[i]? = some (some (.ref f))) (ha : EA T X σ H (e :: es) ds) (hC : Cd ds d)
    (hN : X.N[i]? = some x := by rfl) (hv : Vis X.env.scope x := by first | exact Or.inl rfl | exact Or.inr (Or.inl rfl) | exact Or.inr (Or.inr rfl)) (hd : (x == ("__debug__" : Str)) = false := by decide) (hcd : (x == ("__classdict__" : Str)) = false := by decide)
    (he : starEach (e :: es) X.env = (false, eval e X.env) :: starEach es X.env := by rfl) (hpl : (backTo pos (starEach es X.env)).any (·.1) = false := by rfl) : EE T X σ H (.Call (.Name x p1) (e :: es) [] pos) d := fun H1 g1 t pins s I => by
  refine wpAny_Call_Name_kw (thn ((pe_var (pos := p1) hN hv hd hcd).run pins s σ H1 (fun v H2 => v = .ref f ∧ H2 = H1) I ⟨.ref f, hs, rfl, rfl⟩) fun u s1 ⟨v, H2, I1, r1, q1⟩ => ?_)
  obtain ⟨ev, eH⟩ := q1
  subst ev
  rw [eH] at I1
  obtain rfl : u = Value.ref f := r1
  refine PySem.W.callWith_F (first := []) (F.fn H1 _ g1 I1.hok) (thn (ha H1 g1 t pos pins s1 I1) fun us s2 ⟨vs, H3, I2, r, g3, i3⟩ => ⟨F.fn H3 _ (g1.trans g3) I2.hok, ?_⟩) he hpl
  show wpAny _ _ (call (.ref f) us) _ _ _
  refine wpAny_call (codeAny_mono (F.run X.A X.stack s2 H3 us vs ds d (g1.trans g3) (g3.tab t) (hr.mono hk) I2.env0 r i3 hC) fun r s' hq => ?_)
  cases r with
  | error e => exact hq.elim
  | ok fl =>
    cases fl with
    | ret u =>
      refine I2.after ?_
      obtain ⟨v, H4, a1, a2, a3, a4, a5, a6⟩ := hq
      exact ⟨v, H4, a1, a2, a3, a4, a5, g3.trans a6.1, a6.2⟩
    | next => exact False.elim hq
    | brk => exact False.elim hq
    | cont => exact False.elim hq

/-! ### a nested def as such a value -/
theorem fv_nested {F : NF} {N ps fr : List Str} (S : NScope N ps fr F.scope) (hb : ∀ (doc pm ctv : Value) (us : List Value), us.length = ps.length → bindArgs (F.fd doc pm ctv) ⟨us, []⟩ = pure (ps.zip us))
    {C : Fz} {ws : List V} {Hm : Hp} (hws : ws.length = fr.length) (hcl : ∀ y c, F.cl.lookup y = some c → ∃ ob v, C c = some ob ∧ ob.data = .cell v) (inj : ∀ x y c, F.cl.lookup x = some c → F.cl.lookup y = some c → x = y)
    (hin : ∀ (i : Nat) (y : Str) (v : V), fr[i]? = some y → ws[i]? = some v → ∃ c ob u, F.cl.lookup y = some c ∧ C c = some ob ∧ ob.data = .cell (some u) ∧ L2.RelV v u)
    (fresh : Fresh C Hm) (hf : Hm f = some (FnO f F)) (hc : Hm F.c = some (CodeO F.c F.qual)) (len : ∀ ds d, Cd ds d → ds.length = ps.length)
    (body : ∀ (A : Around) (outer : List Env) (s : Shared) (H : Hp) (vs : List V) (ds : List D) (d : D), Room k (A.deeper (envF F f s.heap.objs.size)) → Gx T Hm H → TabsN T H → IsAll H ds vs → Cd ds d →
      wB (ncx CX0 P w K mg base N F f A outer s H E0).nox F.body { nx := fun _ H' => False, rt := fun v H' => Gx T H H' ∧ Is H' d v } (startF N vs (ws.map some)) H) : FvOk P w K mg base T (k + 1) (frz C Hm) f Cd := by
  have hno : ∀ o, Hm f = some o → C f = none := fun o e => fresh.not e
  refine ⟨fun H1 h x ok => ?_, fun A outer s H1 us vs ds d x t hr e0 r i cd => ?_⟩
  · have e := x.any (fresh.frz_of hf) fun ps => fnO_ne ps
    obtain ⟨od, sl, doc, pm, ctv, ho⟩ := fnO_at ok e
    exact ⟨_, od, _, sl, ho⟩
  · have fz : Frozen C H1 := (frozen_frz C Hm).ext x
    have gm : Gx T Hm (unf C H1) := x.unf_of fresh
    have hf1 : unf C H1 f = some (FnO f F) := gm.any hf fun ps => fnO_ne ps
    have hc1 : unf C H1 F.c = some (CodeO F.c F.qual) := gm.any hc fun ps => codeO_ne ps
    have obj : ∀ {c ob}, C c = some ob → s.heap.get? c = some ob := fun {c ob} q => fz.obj e0.hok q
    have nfr : ∀ {c ob}, C c = some ob → c ∉ frs outer := fun {c ob} q hm => by
      have := e0.frf c hm
      rw [fz c ob q] at this
      cases this
    have e1 : Env0 P w K mg base A outer s (unf C H1) := ⟨e0.frames, e0.mod, fun b o e => ⟨(e0.bs b o e).1, by
        cases q : C b with
        | some ob => exact unf_at q
        | none => rw [unf_ne q]; exact (e0.bs b o e).2⟩, e0.bsz, e0.funs, fun b hb => by
        cases q : C b with
        | some ob => exact unf_at q
        | none => rw [unf_ne q]; exact e0.frf b hb, hok_unf fz e0.hok, e0.bare⟩
    have ca : CellsAt F.cl fr (ws.map some) s.heap (unf C H1) := ⟨by rw [List.length_map]; exact hws, fun y c e => by
        obtain ⟨ob, v, h1, h2⟩ := hcl y c e
        exact ⟨unf_at h1, v, ob, obj h1, h2⟩, inj, fun n y e => by
        have hn : n < ws.length := by rw [hws]; exact (List.getElem?_eq_some_iff.mp e).1
        obtain ⟨c, ob, u, h1, h2, h3, h4⟩ := hin n y ws[n] e (List.getElem?_eq_getElem hn)
        refine ⟨c, h1, fun v hv => ⟨u, ?_, ob, obj h2, h3⟩⟩
        rw [List.getElem?_map, List.getElem?_eq_getElem hn] at hv
        cases hv
        exact h4⟩
    have nok : NOk P w K mg base CX0 (k + 1) f F ps fr (fun ws' vs' H' Q E => E = E0 ∧ ws' = ws.map some ∧ vs' = vs ∧ H' = unf C H1 ∧ vs'.length = ps.length ∧ Q = fun v H2 => Gx T (unf C H1) H2 ∧ Is H2 d v) :=
      nok_of S hb (fun _ _ _ _ _ q => q.2.2.2.2.1) fun A' outer' s' H' vs' ws' Q E hr' _ _ _ ⟨q0, q1, q2, q3, q4, q5⟩ => by
        subst q0 q1 q2 q3 q5
        exact ⟨_, wB_pss.nox, wB_imp (body A' outer' s' _ vs' ds d hr' gm (tabs_unf fz t) (i.mono fz.ti) cd) (fun _ _ z => z.elim) (fun v H' z => z) (fun _ _ z => z) (fun _ _ z => z)⟩
    refine codeAny_mono (nok.run A outer s (unf C H1) us vs (ws.map some) _ E0 hr e1 hf1 hc1 ca r ⟨rfl, rfl, rfl, rfl, by rw [← i.length]; exact len ds d cd, rfl⟩) fun rr s' hq => ?_
    cases rr with
    | error e => exact hq.elim
    | ok fl =>
      cases fl with
      | next => exact False.elim hq
      | brk => exact False.elim hq
      | cont => exact False.elim hq
      | ret u =>
        obtain ⟨v, H2, a1, a2, a3, a4, a5, a6, a7⟩ := hq
        have fr2 : Fresh C H2 := fun b ob q => a3.free b ob (obj q) (unf_at q) (by simp)
        have nb : ∀ {b o}, H1 b = some o → (∀ ob, o ≠ fzO ob) → C b = none := fun e n => fz.not e n
        refine ⟨v, frz C H2, a1, a2, ⟨fun b o e n hb hx => ?_, fun b o e n hb hx => ?_, fun b o e n hx => ?_, fun b o e hx => a3.there b o e hx, fun b xs e => ?_, fun b o u' e => ?_, fun b ps' e => ?_⟩, hok_frz fr2 (fun b ob q => a3.keep b ob (obj q) (unf_at q) (nfr q) (by simp)) a4, a5, a6.frz_of fz fr2, a7.mono fr2.ti⟩
        · have q : C b = none := by
            cases q : C b with
            | none => rfl
            | some ob => rw [fz b ob q] at n; cases n
          exact a3.keep b o e (by rw [unf_ne q]; exact n) hb hx
        · have q : C b = none := by
            cases q : C b with
            | none => rfl
            | some ob => rw [fz b ob q] at n; cases n
          exact a3.slot b o e (by rw [unf_ne q]; exact n) hb hx
        · have q : C b = none := by
            cases q : C b with
            | none => rfl
            | some ob => rw [fz b ob q] at n; cases n
          rw [frz_ne q]
          exact a3.free b o e (by rw [unf_ne q]; exact n) hx
        · have q := nb e (fun ob z => by cases z)
          rw [frz_ne q]
          exact a3.tups b xs (by rw [unf_ne q]; exact e)
        · cases q : C b with
          | some ob => rw [fz b ob q] at e; rw [← e]; exact frz_at q
          | none => rw [frz_ne q]; exact a3.frzs b o u' (by rw [unf_ne q]; exact e)
        · have q := nb e (fun ob z => by cases z)
          obtain ⟨more, h⟩ := a3.tbls b ps' (by rw [unf_ne q]; exact e)
          exact ⟨more, by rw [frz_ne q]; exact h⟩

/-! ### a call with the cells frozen -/
/-- C is what the running def's cells hold -/
structure Cells (X : Cx) (σ : L2.St) (H : Hp) (C : Fz) : Prop where
  fresh : Fresh C H
  cell : ∀ b ob, C b = some ob → ∃ v, ob.data = .cell v
  all : ∀ y c, X.env.cells.lookup y = some c → ∃ ob, C c = some ob ∧ ∀ (i : Nat) (v : V), X.N[i]? = some y → σ[i]? = some (some v) → (X.env.scope.names.lookup y = some .cell ∨ X.env.scope.names.lookup y = some .free) → ∃ u, L2.RelV v u ∧ ob.data = .cell (some u)
theorem cells_mk {X : Cx} {pins : List (Addr × Obj)} {σ : L2.St} {H : Hp} {s : Shared} (I : Inv X pins σ H s) (hfn : ∀ y, X.fn y = true) : ∃ C, Cells X σ H C ∧ (∀ b ob, C b = some ob → s.heap.get? b = some ob ∧ b ∉ frs X.stack ∧ X.base.get? b = none) := by
  classical
  refine ⟨fun b => if ∃ y, X.env.cells.lookup y = some b then s.heap.get? b else none, ⟨fun b ob h => ?_, fun b ob h => ?_, fun y c e => ?_⟩, fun b ob h => ?_⟩
  · by_cases hy : ∃ y, X.env.cells.lookup y = some b
    · obtain ⟨y, hy⟩ := hy; exact I.freeC y b hy
    · simp only [if_neg hy] at h; cases h
  · by_cases hy : ∃ y, X.env.cells.lookup y = some b
    · simp only [if_pos hy] at h
      obtain ⟨y, hy⟩ := hy
      obtain ⟨v, o, h1, h2⟩ := I.cell y b hy
      rw [h] at h1; cases h1
      exact ⟨v, h2⟩
    · simp only [if_neg hy] at h; cases h
  · obtain ⟨v, o, h1, h2⟩ := I.cell y c e
    refine ⟨o, by simp only [if_pos (⟨y, e⟩ : ∃ y, X.env.cells.lookup y = some c)]; exact h1, fun i v' hN hs hk => ?_⟩
    obtain ⟨m, hn, hl⟩ := I.loc
    obtain ⟨u, r, l⟩ := hl i y v' hN hs (hk.elim (fun z => .inr (.inl z)) fun z => .inr (.inr z))
    rcases l with ⟨z, _⟩ | ⟨_, a', ha', o', ho', hd'⟩
    · have z' : X.env.scope.names.lookup y = some .local := z
      rcases hk with k | k <;> rw [k] at z' <;> cases z'
    · rw [e] at ha'; cases ha'
      rw [h1] at ho'; cases ho'
      exact ⟨u, r, hd'⟩
  · by_cases hy : ∃ y, X.env.cells.lookup y = some b
    · simp only [if_pos hy] at h
      obtain ⟨y, hy⟩ := hy
      have hb := I.ok.cab y b (hfn y) hy
      refine ⟨h, fun hm => ?_, ?_⟩
      · rcases List.mem_cons.mp (I.stkSub _ hm) with e | e
        · obtain ⟨m, ⟨ol, es, ep, ho, hd⟩, _⟩ := I.loc
          obtain ⟨v, o, h1, h2⟩ := I.cell y b hy
          rw [e, ho] at h1
          cases h1
          rw [hd.1] at h2
          cases h2
        · obtain ⟨_, o, ho, _⟩ := I.ok.funs.mem e
          exact absurd (Heap.lt_size ho) (Nat.not_lt.mpr hb)
      · cases q : X.base.get? b with
        | none => rfl
        | some o => exact absurd (Nat.lt_of_lt_of_le (Heap.lt_size q) I.ok.bsz) (Nat.not_lt.mpr hb)
    · simp only [if_neg hy] at h; cases h
theorem ex_callFz {X : Cx} {σ : L2.St} {H : Hp} {e : Expr} {es : List Expr} {p1 pos : Pos} {ds : List D} {k j : Nat} {x1 : Str} {ps : List Str} {R : Hp → List D → (Hp → V → Prop) → Prop} {Po : Hp → V → Hp → Prop} (F : DefOk X.prog X.w X.K X.mg X.base T k x1 ps R) (hr : Room j X.A) (hk : k ≤ j) (hg : Gl X x1) (hfn : ∀ y, X.fn y = true) (ha : EA T X σ H (e :: es) ds)
    (hR : ∀ H1 H2 C, X.Ok → Gx T H H1 → Gx T H1 H2 → TabsN T H2 → Cells X σ H2 C → ∃ post, R (frz C H2) ds post ∧ ∀ v H3, Gx T (frz C H2) H3 → post H3 v → Po H1 v (unf C H3)) (hdb : (x1 == ("__debug__" : Str)) = false := by decide)
    (he : starEach (e :: es) X.env = (false, eval e X.env) :: starEach es X.env := by rfl) (hpl : (backTo pos (starEach es X.env)).any (·.1) = false := by rfl) : EX T X σ H (.Call (.Name x1 p1) (e :: es) [] pos) Po := fun H1 g1 t pins s I => by
  obtain ⟨f, fd, hm, hkp, hb, F⟩ := F
  refine wpAny_Call_Name_kw (ld_glob I hg hm ?_ hdb)
  refine PySem.W.callWith_K (h₀ := X.base) I.ok.mod.kin hkp (thn (ha H1 g1 t pos pins s I) fun us s1 ⟨vs, H2, I1, r, g2, i2⟩ => ⟨I1.kIn, ?_⟩) he hpl
  obtain ⟨C, hC, hat⟩ := cells_mk I1 hfn
  obtain ⟨post, hp, hq⟩ := hR H1 H2 C I1.ok g1 g2 (g2.tab t) hC
  have fz := frozen_frz C H2
  have e0 := I1.env0
  have e1 : Env0 X.prog X.w X.K X.mg X.base X.A X.stack s1 (frz C H2) := ⟨e0.frames, e0.mod, fun b o e => ⟨(e0.bs b o e).1, by
      cases q : C b with
      | some ob => rw [(hat b ob q).2.2] at e; cases e
      | none => rw [frz_ne q]; exact (e0.bs b o e).2⟩, e0.bsz, e0.funs, fun b hb => by
      cases q : C b with
      | some ob => exact absurd hb (hat b ob q).2.1
      | none => rw [frz_ne q]; exact e0.frf b hb, hok_frz hC.fresh (fun b ob q => (hat b ob q).1) e0.hok, e0.bare⟩
  have sp : spF T R (vs ++ []) (frz C H2) (fun v H3 => Gx T (frz C H2) H3 ∧ post H3 v) E0 := ⟨hC.fresh.gx.tab (g2.tab t), ds, post, by rw [List.append_nil]; exact i2.mono hC.fresh.ti, hp, fun v H' a b => ⟨a, b⟩⟩
  have hl : (us ++ []).length = ps.length := by rw [← (r.append .nil).length]; exact F.len _ _ _ _ sp
  refine wpAny_call (codeAny_mono (F.run X.A X.stack s1 (frz C H2) ⟨us, []⟩ (us ++ []) (vs ++ []) _ E0 (hr.mono hk) e1 (hb s1 us I1.kIn hl) (r.append .nil) sp) fun rr s' hqq => ?_)
  cases rr with
  | error e => exact hqq.elim
  | ok fl =>
    cases fl with
    | next => exact False.elim hqq
    | brk => exact False.elim hqq
    | cont => exact False.elim hqq
    | ret u =>
      obtain ⟨v, H3, a1, a2, a3, a4, a5, a6, a7⟩ := hqq
      have fz3 : Frozen C H3 := fz.ext a6
      refine I1.after ⟨v, unf C H3, a1, a2, ⟨fun b o e n hb hx => ?_, fun b o e n hb hx => ?_, fun b o e n hx => ?_, fun b o e hx => a3.there b o e hx, fun b xs e => ?_, fun b o u' e => ?_, fun b ps' e => ?_⟩, hok_unf fz3 a4, a5, g2.trans (a6.unf_of hC.fresh), hq v H3 a6 a7⟩
      · cases q : C b with
        | none => exact a3.keep b o e (by rw [frz_ne q]; exact n) hb hx
        | some ob =>
          have h1 := (hat b ob q).1
          rw [e] at h1; cases h1
          exact (show ObjOk X.prog X.w H3 s'.heap b (fzO o) from a4 b _ (fz3 b o q)).1
      · cases q : C b with
        | none => exact a3.slot b o e (by rw [frz_ne q]; exact n) hb hx
        | some ob => exact absurd hb (hat b ob q).2.1
      · cases q : C b with
        | none => rw [unf_ne q]; exact a3.free b o e (by rw [frz_ne q]; exact n) hx
        | some ob => exact unf_at q
      · have q := hC.fresh.not e
        rw [unf_ne q]
        exact a3.tups b xs (by rw [frz_ne q]; exact e)
      · have q := hC.fresh.not e
        rw [unf_ne q]
        exact a3.frzs b o u' (by rw [frz_ne q]; exact e)
      · have q := hC.fresh.not e
        obtain ⟨more, h⟩ := a3.tbls b ps' (by rw [frz_ne q]; exact e)
        exact ⟨more, by rw [unf_ne q]; exact h⟩
end
end Tk
set_option Elab.async false
set_option linter.all false
set_option maxRecDepth 100000
/-! Lambdas, nested defs: made, called. -/
namespace Tk
open PySem PySem.Spec PyProof.Rows L2 LamX NdefX

/-! ### a def whose code object is known -/
structure FunC (K : PySem.W.Frag) (x : Str) (st : Stmt) (f : Addr) (fd : FuncData) (c : Addr) : Prop where
  ex : ∃ (oc : Value) (od : Option Addr) (kV doc pm : Value) (an : Option Addr) (ct : Value) (osl : Array (Option Value)),
    fd = PySem.W.fnOf x x (defArgs st) (defBody st) (defScope st) .none kV doc pm an (.ref c) ct ∧ K.lookup f = some ⟨oc, od, .func fd, osl⟩ ∧ PySem.W.codeIn K (.ref c) x = true
  kp : PySem.W.keepIn K (.ref f) = true
theorem FunC.fun {K : PySem.W.Frag} {x : Str} {st : Stmt} {f : Addr} {fd : FuncData} {c : Addr} (F : FunC K x st f fd c) : Fun K x x st f fd := by
  obtain ⟨oc, od, kV, doc, pm, an, ct, osl, h⟩ := F.ex
  exact ⟨⟨oc, od, kV, doc, pm, an, .ref c, ct, osl, h⟩, F.kp⟩
section
variable {P : Program} {w : World} {K : PySem.W.Frag} {mg : Str → Option Value} {base : Heap} {T : List NTab}
theorem def_okC {x : Str} {st : Stmt} {f c : Addr} {fd : FuncData} {N ps : List Str} {k : Nat} {R : Hp → List D → (Hp → V → Prop) → Prop} (F : FunC K x st f fd c) (hm : mg x = some (.ref f)) (S : FnScope N ps (defScope st))
    (hb : ∀ (kV doc pm : Value) (an : Option Addr) (cdv ct : Value) (us : List Value), us.length = ps.length → bindArgs (PySem.W.fnOf x x (defArgs st) (defBody st) (defScope st) .none kV doc pm an cdv ct) ⟨us, []⟩ = pure (ps.zip us))
    (len : ∀ H ds post, R H ds post → ds.length = ps.length)
    (body : ∀ (A : Around) (outer : List Env) (s : Shared) (H : Hp) (E : XK) (vs : List V) (ds : List D) (post : Hp → V → Prop), Room k (A.deeper (envOfC x (defScope st) s.heap.objs.size f (.ref c))) → TabsN T H → IsAll H ds vs → R H ds post →
      wB (cx0 P w K mg base N x st f (.ref c) A outer s H E) (defBody st) (Dn T H post) (start N vs) H) : DefOk P w K mg base T (k + 1) x ps R := by
  refine ⟨f, fd, hm, F.kp, F.fun.binds hb, ?_⟩
  obtain ⟨oc, od, kV, doc, pm, an, ct, osl, rfl, lk, hcd⟩ := F.ex
  refine fn_of lk hcd S (fun vs H Q E ⟨_, ds, post, h1, h2, _⟩ => by rw [← h1.length]; exact len H ds post h2) fun A outer s H vs Q E hr ⟨hT, ds, post, h1, h2, h3⟩ => ?_
  exact ⟨_, wB_pss.nox, wB_imp (body A outer s H E vs ds post hr hT h1 h2) (fun _ H' q => h3 _ _ q.1 q.2) (fun v H' q => h3 _ _ q.1 q.2) (fun _ _ z => z) (fun _ _ z => z)⟩
end

/-! ### lambdas -/
/-- the object at f is the lambda with the words of F and the body e -/
def LmO (f : Addr) (F : NF) (e : Expr) : HO := .ext fun h => ∃ (pm ctv : Value), h.get? f = some (PySem.W.kla_obj "<lambda>" F.qual F.params e F.scope F.cl pm F.c ctv)
theorem lmO_ne {f : Addr} {F : NF} {e : Expr} (ps : Array Value) : LmO f F e ≠ .tbl ps := fun z => by cases z
theorem lmO_at {P : Program} {w : World} {H : Hp} {h : Heap} {f : Addr} {F : NF} {e : Expr} (hok : HOk P w H h) (q : H f = some (LmO f F e)) : ∃ (pm ctv : Value), h.get? f = some (PySem.W.kla_obj "<lambda>" F.qual F.params e F.scope F.cl pm F.c ctv) := by
  obtain ⟨z, _, _⟩ := hok f _ q
  exact z
abbrev lamNF (X : Cx) (params : Arguments) (scope : Scope) (c' : Addr) : NF := ⟨"<lambda>", X.env.qual ++ "<lambda>", params, [], scope, cloFrom X.env.cells scope.names [], c'⟩
section
variable {X : Cx} {pins : List (Addr × Obj)} {σ : L2.St} {H : Hp} {s : Shared}
theorem inv_lm {F : NF} {e : Expr} {o : Obj} {t' : Nat} {pm ctv : Value} (I : Inv X pins σ H s) (ho : o = PySem.W.kla_obj "<lambda>" F.qual F.params e F.scope F.cl pm F.c ctv) :
    Inv X pins σ (upd H s.heap.objs.size (LmO s.heap.objs.size F e)) { s with heap := s.heap.push o, toks := t' } := by
  subst ho
  refine I.laid (a := s.heap.objs.size) (fun b u e => Heap.get?_push_of_some _ e) (Nat.le_refl _) ?_
  have q : (s.heap.push (PySem.W.kla_obj "<lambda>" F.qual F.params e F.scope F.cl pm F.c ctv)).get? s.heap.objs.size = some (PySem.W.kla_obj "<lambda>" F.qual F.params e F.scope F.cl pm F.c ctv) := Heap.get?_push_size _ rfl
  exact ⟨⟨pm, ctv, q⟩, ⟨_, q⟩, fun h1 h2 ⟨p, t, z⟩ st => ⟨p, t, st _ z⟩⟩
theorem ex_lambda {T : List NTab} {nm : Nat → Nat → Str} {c P : Addr} {params : Arguments} {body : Expr} {scope : Scope} {pos : Pos} (TB : TabB X.base X.mg c P) (hcode : X.env.code = .ref c) (hm : (P, nm) ∈ T) (hn : nm pos.line pos.col = X.env.qual ++ "<lambda>") (hu : ∀ p ∈ T, p.1 = P → p.2 = nm)
    (hdef : defaultsOf params X.env = ([], [])) (hfree : ∀ y ∈ scope.names, y.2 = .free → X.env.scope.names.lookup y.1 = some .cell ∨ X.env.scope.names.lookup y.1 = some .free) :
    EX T X σ H (.Lambda params body scope pos) (fun H1 v H2 => ∃ f c', v = .ref f ∧ H1 f = none ∧ H2 f = some (LmO f (lamNF X params scope c') body) ∧ H2 c' = some (CodeO c' (X.env.qual ++ "<lambda>"))) := by
  intro H g1 hT pins s I
  have hfr : ∀ y ∈ scope.names, y.2 = .free → ∃ c, X.env.cells.lookup y.1 = some c := fun y hy e => (hfree y hy e).elim (fun z => I.ok.has _ (.inl z)) fun z => I.ok.has _ (.inr z)
  obtain ⟨ps, hP, ht, ha⟩ := (show TabN H P nm from hT _ hm)
  refine PySem.W.kla_eval hdef ?_
  have bP : s.heap.BuiltinsAt X.mg P := TB.bm.keeps I.bk
  have hP' : s.heap.get? P = some { cls := .none, data := .fields ps } := I.hok P _ hP
  cases hc : codeAmong pos ps.toList with
  | none =>
    refine PySem.W.kla_makeFunction (mg := X.mg) (c := c) (P := P) (ps := ps) (closure_ok hfr) I.ok.glob (I.mod.glob.keeps I.bk) hcode (TB.code.keeps I.bk) hP' ht hc TB.gP bP fun c' ctv h' tk hx hge hlt hrec htb => ?_
    obtain ⟨c2, oc, vs, t, e2, hoc, hd, hv⟩ := hrec
    cases e2
    have nC : H c' = none := I.hok.fresh hge
    have I1 := inv_table (t' := tk) (more := #[rawInt pos.line, rawInt pos.col, .ref c']) (h' := h') I hP (fun b o hb e => hx b o hb e) htb hge ⟨oc, vs, t, hoc, hd, hv⟩
    have hE : ExtN H (upd (upd H P (.tbl (ps ++ #[rawInt pos.line, rawInt pos.col, .ref c']))) c' (CodeO c' (X.env.qual ++ "<lambda>"))) := fun b o e n => by
      rw [upd_ne (ne_of_none e nC), upd_ne (fun z => n ps (Option.some.inj (e.symm.trans (by rw [z]; exact hP))))]
      exact e
    have eL : (ps ++ #[rawInt pos.line, rawInt pos.col, .ref c']).toList = ps.toList ++ [rawInt pos.line, rawInt pos.col, .ref c'] := by simp
    have T1 : TabsN T (upd (upd H P (.tbl (ps ++ #[rawInt pos.line, rawInt pos.col, .ref c']))) c' (CodeO c' (X.env.qual ++ "<lambda>"))) := fun p hp => by
      by_cases hb : p.1 = P
      · rw [hu p hp hb, hb]
        refine ⟨_, by rw [upd_ne (ne_of_none hP nC), upd_same], by rw [eL]; exact PySem.TriplesOk_snoc _ _ _ _ ht, fun p' cv hcv => ?_⟩
        rw [eL] at hcv
        rcases among_app2 _ ht hcv with z | ⟨z, z1, z2⟩
        · obtain ⟨c0, e1, e2⟩ := ha p' cv z
          exact ⟨c0, e1, hE _ _ e2 codeO_ne⟩
        · refine ⟨c', z, ?_⟩
          rw [← z1, ← z2, hn]
          exact upd_same
      · obtain ⟨ps', a1, a2, a3⟩ := hT p hp
        refine ⟨ps', by rw [upd_ne (ne_of_none a1 nC), upd_ne hb]; exact a1, a2, fun p' cv hcv => ?_⟩
        obtain ⟨c0, e1, e2⟩ := a3 p' cv hcv
        exact ⟨c0, e1, hE _ _ e2 codeO_ne⟩
    have nF := I1.hok.fresh (Nat.le_refl _)
    have I2 := inv_lm (F := lamNF X params scope c') (e := body) (t' := tk) (pm := (X.mg "__name__").getD .none) (ctv := ctv) I1 rfl
    refine ⟨.ref h'.objs.size, _, I2, rfl, ⟨fun b o e n => ?_, fun b e => upd_none (upd_none (upd_none e)), fun _ => T1.ext fun b o e => ?_⟩, h'.objs.size, c', rfl, I.hok.fresh (Nat.le_trans hge (Nat.le_of_lt hlt)), upd_same, ?_⟩
    · have e1 := hE b o e n
      exact (upd_ne (ne_of_none e1 nF)).trans e1
    · exact (upd_ne (ne_of_none e nF)).trans e
    · exact (upd_ne (Nat.ne_of_lt hlt)).trans upd_same
  | some cv =>
    obtain ⟨c', e, hco⟩ := ha pos cv hc
    subst e
    rw [hn] at hco
    refine PySem.W.kla_makeFunctionHit (mg := X.mg) (c := c) (P := P) (ps := ps) (closure_ok hfr) I.ok.glob (I.mod.glob.keeps I.bk) hcode (TB.code.keeps I.bk) hP' ht hc bP fun ctv h' tk hx hsz => ?_
    have I1 : Inv X pins σ H { s with heap := h', toks := tk } := I.kept hx
    have nF : H h'.objs.size = none := I1.hok.fresh (Nat.le_refl _)
    have I2 := inv_lm (F := lamNF X params scope c') (e := body) (t' := tk) (pm := (X.mg "__name__").getD .none) (ctv := ctv) I1 rfl
    refine ⟨.ref h'.objs.size, _, I2, rfl, ⟨fun b o e n => ?_, fun b e => upd_none e, fun t => t.ext fun b o e => ?_⟩, h'.objs.size, c', rfl, nF, upd_same, ?_⟩
    · exact (upd_ne (ne_of_none e nF)).trans e
    · exact (upd_ne (ne_of_none e nF)).trans e
    · exact (upd_ne (ne_of_none hco nF)).trans hco
end
section
variable {P : Program} {w : World} {K : PySem.W.Frag} {mg : Str → Option Value} {base : Heap} {T : List NTab} {k : Nat}
/-- a call of the lambda at f, its cells at hand -/
theorem lam_run {F : NF} {e : Expr} {f : Addr} {N ps fr : List Str} (S : NScope N ps fr F.scope) {A : Around} {outer : List Env} {s : Shared} {H : Hp} {us : List Value} {vs : List V} {ws : List (Option V)} {Q : VK}
    (hb : ∀ (pm ctv : Value), bindArgs (PySem.W.kla_fn "<lambda>" F.qual F.params e F.scope F.cl pm (.ref F.c) ctv) ⟨us, []⟩ = pure (ps.zip us)) (hr : Room (k + 1) A) (e0 : Env0 P w K mg base A outer s H) (hf : H f = some (LmO f F e)) (hc : H F.c = some (CodeO F.c F.qual))
    (C : CellsAt F.cl fr ws s.heap H) (r : Vals vs us) (hl : vs.length = ps.length) (body : Room k (A.deeper (envF F f s.heap.objs.size)) → wE (ncx CX0 P w K mg base N F f A outer s H E0).nox e (startF N vs ws) H Q) :
    codeAny (model P w) A (.call (.ref f) ⟨us, []⟩) (CR CX0 outer P w H s Q E0) s := by
  have lim : s.heap.NoLimit := e0.mod.nolimit.keeps fun b o e => (e0.bs b o e).1
  obtain ⟨pm, ctv, ho⟩ := lmO_at e0.hok hf
  refine PySem.W.kla_callFunE hr.depth ho rfl S.co S.gen rfl (codeO_at e0.hok hc) ?_
  rw [hb pm ctv]
  refine wpAny_pure (wpAny_newFunctionEnv S.nocell (fun ⟨n, _⟩ hy => S.par n (List.of_mem_zip hy).1) (fun h₁ hns hsb => ⟨lim.fresh _ hsb, ?_⟩) S.kind)
  show codeAny _ _ (.expr e (envF F f s.heap.objs.size)) _ _
  have kp : ∀ b o, s.heap.get? b = some o → h₁.get? b = some o := fun b o e => hsb.extBut b o (Nat.ne_of_lt (Heap.lt_size e)) (Heap.get?_push_of_some _ e)
  have I : Inv (ncx CX0 P w K mg base N F f A outer s H E0) [] (startF N vs ws) H { s with heap := h₁, toks := s.toks + (ps.zip us).length } := inv_startN S hr.hd e0 hl r C hns kp
  have J := (PE.nox wE_pe).run [] _ (startF N vs ws) H Q I (body (hr.deeper _))
  refine PySem.W.kla_codeExpr (wpAny_mono J (fun v s' hq => ?_) fun e s' hq => hq)
  obtain ⟨w', H', J', rv, q⟩ := hq
  exact ⟨w', H', J'.os, J'.bare, J'.base, J'.hok, rv, q⟩
/-- a lambda that captures nothing, as a value -/
theorem fv_lambda {F : NF} {e : Expr} {f : Addr} {N ps : List Str} {Hm : Hp} {Cd : List D → D → Prop} (S : NScope N ps [] F.scope) (hcl : F.cl = [])
    (hb : ∀ (pm ctv : Value) (us : List Value), us.length = ps.length → bindArgs (PySem.W.kla_fn "<lambda>" F.qual F.params e F.scope F.cl pm (.ref F.c) ctv) ⟨us, []⟩ = pure (ps.zip us)) (hf : Hm f = some (LmO f F e)) (hc : Hm F.c = some (CodeO F.c F.qual)) (len : ∀ ds d, Cd ds d → ds.length = ps.length)
    (body : ∀ (A : Around) (outer : List Env) (s : Shared) (H : Hp) (vs : List V) (ds : List D) (d : D), Room k (A.deeper (envF F f s.heap.objs.size)) → TabsN T H → IsAll H ds vs → Cd ds d → EE T (ncx CX0 P w K mg base N F f A outer s H E0).nox (startF N vs []) H e d) :
    FvOk P w K mg base T (k + 1) Hm f Cd := by
  refine ⟨fun H1 h x ok => ?_, fun A outer s H1 us vs ds d x t hr e0 r i cd => ?_⟩
  · obtain ⟨pm, ctv, ho⟩ := lmO_at ok (x.any hf fun ps => lmO_ne ps)
    exact ⟨_, _, _, _, ho⟩
  · have hl : vs.length = ps.length := by rw [← i.length]; exact len ds d cd
    refine lam_run (fr := []) (ws := []) S (fun pm ctv => hb pm ctv us (by rw [← r.length]; exact hl)) hr e0 (x.any hf fun ps => lmO_ne ps) (x.any hc fun ps => codeO_ne ps) ⟨rfl, fun y c e => by rw [hcl] at e; simp at e, fun x y c e => by rw [hcl] at e; simp at e, fun i y e => by simp at e⟩ r hl fun hr' => ?_
    exact wE_imp (body A outer s H1 vs ds d hr' t i cd H1 (Gx.refl _) t) fun v H2 ⟨a, b⟩ => ⟨a, b⟩
end

/-! ### def f(..): .. within a def -/
theorem b_ndef {X : Cx} {T : List NTab} {σ : L2.St} {H : Hp} {st : Stmt} {rest : List Stmt} {D' : Ends} {i : Nat} {mk : Addr → NF} (p : PS X st (tNdefM T i mk)) (hT : TabsN T H)
    (k : ∀ f c' H1, Gx T H H1 → TabsN T H1 → H f = none → H1 f = some (FnO f (mk c')) → H1 c' = some (CodeO c' (mk c').qual) → wB X rest D' (σ.set i (some (.ref f))) H1) : wB X (st :: rest) D' σ H :=
  b_ps p ⟨hT, fun f c' H1 e n t f0 f1 c1 => k f c' H1 ⟨e, n, fun _ => t⟩ t f0 f1 c1⟩
end Tk
set_option Elab.async false
set_option linter.all false
set_option maxRecDepth 100000
/-! More rules: {tuple: v}, xs.append(e), "".join, machines as data. -/
namespace Tk
open PySem PySem.Spec PyProof.Rows L2 LamX NdefX
section
variable {T : List NTab} {X : Cx} {σ : L2.St} {H H' : Hp} {e a b l o i : Expr} {es : List Expr} {d x y : D} {ds : List D} {pos apos cpos pos' : Pos} {n : Nat} {p : Addr} {v : V} {rest : List Stmt} {D' : Ends}
/-- {a: b}: one pair, the key a row of numbers -/
theorem ex_disp1T {ks : List Nat} (hu : X.A.units + 1 < cLine) (ha : EE T X σ H a (.tup (natsD ks))) (hb : EE T X σ H b (.int (n : Nat))) : EX T X σ H (.Dict [some a] [b] pos) (fun H1 v H2 => ∃ p, v = .ref p ∧ H1 p = none ∧ H2 p = some (.dT [(kN ks, .int (n : Nat))])) := by
  intro H g1 t pins s I
  have hn := I.hok.fresh (Nat.le_refl s.heap.objs.size)
  have I1 := I.laid (a := s.heap.objs.size) (o := .dT []) (h' := s.heap.push { cls := .type "dict", data := .dict #[] }) (t' := s.toks) (fun _ _ q => Heap.get?_push_of_some _ q) (Nat.le_refl _) (dt_empty s.heap I.big)
  have gp : Gx T H (upd H s.heap.objs.size (.dT [])) := Gx.new hn
  have hsh : (evalEachOpt [some a] X.env).zip ((evalEach [b] X.env).map fun v => do let x ← v; standAt pos; pure x) = (pairTrees [some a] [b] X.env pos).map fun p => (some p.1, p.2) := zip_pairTrees [some a] [b] X.env pos rfl rfl
  have hl : (pairTrees [some a] [b] X.env pos).length = 1 := pairTrees_length [some a] [b] X.env pos rfl rfl
  have hne : pairTrees [some a] [b] X.env pos ≠ [] := fun e => by rw [e] at hl; cases hl
  rw [arm_eval_Dict, hsh, dictDisplay_pairs _ hne (by rw [hl]; decide)]
  refine wpAny_bind (wpAny_standAt (wpAny_bind (wpAny_subDictH (knd := tupleKind (mixKind X.prog X.w)) (Q := fun d s' => wpAny (model X.prog X.w) X.A (pure (Value.ref d)) _ _ s') (show (tupleKind (mixKind X.prog X.w)).room X.A from Nat.lt_of_succ_lt hu) (by rw [hl]; decide)
    (thn ((pps_cons (wE_pe (X := X) (e := a)) (wE_pe (X := X) (e := b)) pps_nil).run pins _ σ _ (fun ps H2 => ∃ bb, ps = [(.ref bb, .int (n : Nat))] ∧ H2 bb = some (.tup ((kN ks).map kV)) ∧ H2 s.heap.objs.size = some (.dT []) ∧ Gx T (upd H s.heap.objs.size (.dT [])) H2) I1 ?_) fun vs s2 hq => ?_))))
  · refine wE_imp (ha _ (g1.trans gp) (gp.tab t)) fun u H2 ⟨g2, i2⟩ => wE_imp (hb H2 ((g1.trans gp).trans g2) ((gp.trans g2).tab t)) fun w H3 ⟨g3, i3⟩ => ?_
    obtain ⟨bb, rfl, hb2⟩ := is_natsT (i2.mono g3.ti)
    exact ⟨bb, by rw [i3.int_eq], hb2, (g2.trans g3).dT upd_same, g2.trans g3⟩
  · obtain ⟨ps, H2, I2, rel, bb, e1, hb2, h0, g2⟩ := hq
    subst e1
    cases rel with
    | @cons p0 q ps0 qs h1 h2 =>
      cases h2
      obtain ⟨r1, r2⟩ := h1
      obtain ⟨q1, q2⟩ := q
      cases (show q1 = Value.ref bb from r1)
      obtain ⟨z, hd, xs, rel, dd⟩ := dt_of I2.hok h0
      cases rel
      have hkey : (tupleKind (mixKind X.prog X.w)).is s2.heap (kN ks) bb := key_of I2.hok hb2
      refine ⟨[(kN ks, bb, q2)], ⟨rfl, rfl, hkey, trivial⟩, dd, fun h' tk dd' hs => wpAny_pure ?_⟩
      have gg : Gx T H (upd H2 s.heap.objs.size (.dT [(kN ks, .int (n : Nat))])) := (gp.trans g2).mutT hn h0
      obtain ⟨ob, es, ep, hq, h2, h3, h4, _, h5⟩ := dd'
      refine ⟨.ref s.heap.objs.size, _, d_write I2 (by rw [h0]; exact True.intro) hs ⟨ob, hq⟩ ?_, rfl, gg, s.heap.objs.size, rfl, hn, upd_same⟩
      refine ⟨by rw [sizeLine_eq]; simp, hd, [(kN ks, bb, q2)], .cons ⟨rfl, ?_, r2⟩ .nil, ob, es, ep, hq, h2, h3, h4, h5⟩
      show upd H2 s.heap.objs.size _ bb = some (.tup ((kN ks).map kV))
      rw [upd_ne (ne_of hb2 h0 fun z => by cases z)]
      exact hb2
/-- xs.append(e) -/
theorem b_apD {xs : List V} (hT : TabsN T H) (hl : EE T X σ H l (.ref p)) (hp : H p = some (.lst xs)) (hz : xs.length < sizeLine) (he : EE T X σ H e d)
    (k : ∀ v H1, Gx T H H1 → TabsN T H1 → Is H1 d v → H1 p = some (.lst xs) → wB X rest D' σ (upd H1 p (.lst (xs ++ [v]))))
    (hs : swapsWith (.Call (.Attribute l "append" apos) [e] [] cpos) none pos'.line X.env = pure false := by rfl) (hbase : attributeBase l "append" X.env (eval l X.env) = eval l X.env := by rfl) (hline : (apos.endLine == cpos.line) = true := by rfl)
    (hst : starEach (e :: []) X.env = (false, eval e X.env) :: starEach [] X.env := by rfl)
    (hfew : ((backTo cpos (starEach [e] X.env)).all (fun x => !x.1) && (backToKw cpos (keywordEach [] X.env)).all (fun x => x.1.isSome) && decide (([e] : List Expr).length + ([] : List Keyword).length + (if ([] : List Keyword).isEmpty then 0 else 1) < 30)) = true := by rfl) :
    wB X (.Expr (.Call (.Attribute l "append" apos) [e] [] cpos) pos' :: rest) D' σ H :=
  b_appD (ps_expr (pe_bm (es := []) PySem.F.plainAttrs_list PySem.F.slot_list_append PySem.F.type_list_append mt_append wE_pe (pa_cons wE_pe pa_nil hst) (hbase := hbase) (hline := hline) (hs := hst) (hfew := hfew)) hs) hT hl hp hz he k

theorem txt_join_nil (ys : List Str) : (Txt.join (Str.ofString "") ys).cps.toList = ys.flatMap fun y => y.cps.toList := by
  have e : TL.tl (Txt.join (Str.ofString "") ys) = TL.joinL [] (ys.map TL.tl) := by
    rw [TL.join_eq, TL.tl_join]; rfl
  have h : ∀ l : List (List Nat), TL.joinL [] l = l.flatten := by
    intro l
    induction l with
    | nil => rfl
    | cons a r ih =>
      cases r with
      | nil => simp [TL.joinL]
      | cons b r => show a ++ ([] ++ TL.joinL [] (b :: r)) = _; rw [ih]; rfl
  have e2 : TL.tl (Txt.join (Str.ofString "") ys) = (ys.map TL.tl).flatten := by rw [e, h]
  show TL.tl _ = _
  rw [e2, List.flatMap_def]
theorem txt_join_signs (l : List Nat) : Txt.join (Str.ofString "") (l.map fun c => (⟨#[c]⟩ : Str)) = tx l := by
  have h := txt_join_nil (l.map fun c => (⟨#[c]⟩ : Str))
  have e : (l.map fun c => (⟨#[c]⟩ : Str)).flatMap (fun y => y.cps.toList) = l := by
    rw [List.flatMap_map]
    clear h
    induction l with
    | nil => rfl
    | cons a r ih => rw [List.flatMap_cons, ih]; rfl
  rw [e] at h
  generalize Txt.join (Str.ofString "") (l.map fun c => (⟨#[c]⟩ : Str)) = J at h ⊢
  obtain ⟨c⟩ := J
  show (⟨c⟩ : Str) = ⟨l.toArray⟩
  congr 1
  rw [← h]
/-- "".join(a new list of signs) -/
theorem ee_join {k : Nat} {p0 : Pos} {cs : List Nat} (h : EL T X σ H e (signsD cs)) (hz : cs.length ≤ 1000000) (hs : starEach [e] X.env = [(false, eval e X.env)] := by rfl) (hbase : attributeBase (.Constant (.str "") k p0) "join" X.env (eval (.Constant (.str "") k p0) X.env) = eval (.Constant (.str "") k p0) X.env := by rfl) (hline : (apos.endLine == pos.line) = true := by rfl) :
    EE T X σ H (.Call (.Attribute (.Constant (.str "") k p0) "join" apos) [e] [] pos) (.str (tx cs)) := fun H1 g t =>
  PE_to (pe_join pe_str wE_pe hs hbase hline) ⟨⟨_, rfl⟩, wE_imp (h H1 g t) fun u H2 ⟨g2, p, xs, e1, _, h2, i2⟩ => by
    have ex : xs = (cs.map fun c => (⟨#[c]⟩ : Str)).map V.str := IsAll.strs_eq (H := H2) (ns := cs.map fun c => (⟨#[c]⟩ : Str)) (by rw [List.map_map]; exact i2)
    rw [ex] at h2
    refine ⟨_, p, cs.map fun c => (⟨#[c]⟩ : Str), rfl, by rw [e1], .inl (SqL.of h2), ?_, g2, ?_⟩
    · have h0 : ∀ l : List Nat, ((l.map fun c => (⟨#[c]⟩ : Str)).map (·.length)).sum = l.length := by
        intro l
        induction l with
        | nil => rfl
        | cons a r ih => simp only [List.map_cons, List.sum_cons, List.length_cons, ih]; show 1 + r.length = _; omega
      rw [h0, List.length_map]
      show cs.length + cs.length * 0 ≤ _
      omega
    · rw [show (PySem.Str.ofString "") = Str.ofString "" from rfl]
      have := txt_join_signs cs
      rw [show Txt.join (Str.ofString "") (cs.map fun c => (⟨#[c]⟩ : Str)) = tx cs from this]
      exact .str _⟩
end

/-! ### machines as data -/
def blsD (l : List Bool) : D := .tup (l.map .bl)
def rowD (r : List Nat) : D := .tup (natsD r)
def rowsD (t : List (List Nat)) : D := .tup (t.map rowD)
def tabD (t : List (List (List Nat))) : D := .tup (t.map rowsD)
def machD (M : Mach) : D := .tup [.str (tx M.names), blsD M.good, tabD M.table]
section
variable {T : List NTab} {X : Cx} {σ : L2.St} {H H' : Hp} {e a b c l o i : Expr} {pos p1 p2 p3 p4 : Pos} {M : Mach} {n x q r : Nat}
theorem mach_names {j : Nat} (h : EE T X σ H a (machD M)) : EE T X σ H (.Subscript a (.Constant (.int 0) j p1) pos) (.str (tx M.names)) := ee_ixT h (i := 0) ee_int rfl
theorem mach_good {j : Nat} (h : EE T X σ H a (machD M)) : EE T X σ H (.Subscript a (.Constant (.int 1) j p1) pos) (blsD M.good) := ee_ixT h (i := 1) ee_int rfl
theorem mach_table {j : Nat} (h : EE T X σ H a (machD M)) : EE T X σ H (.Subscript a (.Constant (.int 2) j p1) pos) (tabD M.table) := ee_ixT h (i := 2) ee_int rfl
theorem mach_room {j : Nat} (h : EE T X σ H a (machD M)) (hb : EE T X σ H b (.int (q : Nat))) (hq : q < M.rooms) (hs : PlainIx b := by exact fun _ _ => rfl) : EE T X σ H (.Subscript (.Subscript a (.Constant (.int 1) j p1) pos) b p2) (.bl (M.g q)) :=
  ee_ixT (mach_good h) hb (by
    have : q < M.good.length := hq
    unfold Mach.g
    rw [List.getElem?_map, List.getElem?_eq_getElem this, List.getD_eq_getElem?_getD, List.getElem?_eq_getElem this] <;> rfl) hs
/-- rows[l][r] of the letter x -/
theorem mach_entry (hO : M.Ok) {rows : List (List Nat)} (h : EE T X σ H a (rowsD rows)) (hr : M.table[x]? = some rows) (hx : x < M.letters) (hb : EE T X σ H b (.int (q : Nat))) (hq : q < M.rooms) (hc : EE T X σ H c (.int (r : Nat))) (hrr : r < M.rooms) (hs : PlainIx b := by exact fun _ _ => rfl) (hs2 : PlainIx c := by exact fun _ _ => rfl) :
    EE T X σ H (.Subscript (.Subscript a b p1) c p2) (.int (M.d x q r : Nat)) := by
  obtain ⟨rows', row, e1, e2, e3, _⟩ := hO.entry hx hq hrr
  rw [hr] at e1
  cases e1
  exact ee_ixT (ee_ixT h hb (d := rowD row) (by rw [List.getElem?_map, e2]; rfl) hs) hc (by unfold natsD; rw [List.getElem?_map, e3]; rfl) hs2
theorem mach_at (hO : M.Ok) (h : EE T X σ H a (tabD M.table)) (hi : EE T X σ H i (.int (x : Nat))) (hx : x < M.letters) (hb : EE T X σ H b (.int (q : Nat))) (hq : q < M.rooms) (hc : EE T X σ H c (.int (r : Nat))) (hrr : r < M.rooms) (hs0 : PlainIx i := by exact fun _ _ => rfl) (hs : PlainIx b := by exact fun _ _ => rfl) (hs2 : PlainIx c := by exact fun _ _ => rfl) :
    EE T X σ H (.Subscript (.Subscript (.Subscript a i p3) b p1) c p2) (.int (M.d x q r : Nat)) := by
  obtain ⟨rows, e1, _⟩ := hO.rows hx
  exact mach_entry hO (ee_ixT h hi (d := rowsD rows) (by rw [List.getElem?_map, e1]; rfl) hs0) e1 hx hb hq hc hrr hs hs2
end

/-! ### in_order -/
section
variable {P : Program} {w : World} {K : PySem.W.Frag} {mg : Str → Option Value} {base : Heap} {T : List NTab} {f : Addr} {fd : FuncData}
abbrev sInOrder : Stmt := topS 14
theorem sc_in_order : FnScope ["letters", "sign"] ["letters"] (defScope sInOrder) := ⟨rfl, rfl, rfl, by decide +kernel, rfl, by decide +kernel, by decide +kernel⟩
def R_in_order : Hp → List D → (Hp → V → Prop) → Prop := fun _ ds post => ∃ z : List Nat, ds = [.str (tx z)] ∧ post = fun _ v => v = .str (tx (inOrder z))
theorem sel_list {l : List Nat} {c : Nat → Bool} : sel l.length (fun i => c (l.getD i 0)) (fun i => .str ⟨#[l.getD i 0]⟩) = signsD (l.filter c) := by
  induction l using snocInd with
  | h0 => rfl
  | hs l a ih =>
    rw [List.length_append, List.length_singleton, List.filter_append]
    have e1 : (l ++ [a]).getD l.length 0 = a := by simp
    have e2 : sel l.length (fun i => c ((l ++ [a]).getD i 0)) (fun i => .str ⟨#[(l ++ [a]).getD i 0]⟩) = signsD (l.filter c) := by
      rw [← ih]
      unfold sel
      have h1 : (List.range l.length).filter (fun i => c ((l ++ [a]).getD i 0)) = (List.range l.length).filter (fun i => c (l.getD i 0)) := List.filter_congr fun i hi => by
        have hi := List.mem_range.mp hi
        simp [List.getElem?_append_left hi]
      rw [h1]
      refine List.map_congr_left fun i hi => ?_
      have hi := List.mem_range.mp (List.mem_filter.mp hi).1
      simp [List.getElem?_append_left hi]
    by_cases h : c a = true
    · rw [sel_yes (by rw [e1]; exact h), e2, e1]
      have : List.filter c [a] = [a] := by simp [h]
      rw [this]
      simp [signsD]
    · have h' : c a = false := by simpa using h
      rw [sel_no (by rw [e1]; exact h'), e2]
      have : List.filter c [a] = [] := by simp [h']
      rw [this, List.append_nil]
theorem ok_in_order (F : Fun K "in_order" "in_order" sInOrder f fd) (hm : mg "in_order" = some (.ref f)) (G : Glo mg) : DefOk P w K mg base T 1 "in_order" ["letters"] R_in_order := by
  refine def_ok F hm sc_in_order (fun _ _ _ _ _ _ us hl => match us, hl with | [_], _ => rfl) (fun H ds post ⟨_, e, _⟩ => by rw [e]; rfl) fun cdv A outer s H E vs ds post hr hT hi ⟨z, e1, e2⟩ => ?_
  subst e1 e2
  obtain ⟨_, rfl, i1⟩ := isAll1 hi
  cases i1
  have hcat : ∀ {p1 p2 p3 : Pos}, EE T (cx0 P w K mg base ["letters", "sign"] "in_order" sInOrder f cdv A outer s H E) (start ["letters", "sign"] [V.str (tx z)]) H (.BinOp (.Name "GREAT_LETTERS" p1) .Add (.Name "SMALL_LETTERS" p2) p3) (.str (tx letters)) := fun {p1 p2 p3} =>
    EE.is (ee_catS (ee_gS rfl G.great) (ee_gS rfl G.small) (by decide +kernel)) (by rw [tx_app]; rfl)
  refine b_ret hT (ee_join (cs := inOrder z) (el_filter (es := signsD (inOrder z)) (pe_lc (own := [("sign", 1)]) (g := gName 1) rfl sc_in_order.nd wI_pi (blkOk_by (N := ["letters", "sign"]) (sc := defScope sInOrder) (by decide +kernel)) (fun _ _ _ _ _ => pg_name (i := 1) sc_in_order.nd rfl (Or.inl rfl)) (fun _ _ _ _ _ => pts_one (ttB_pt _ _ _ _ _)) (fun _ _ _ _ _ => tB_pe _ _ _ _ _))
    (ei_str hcat) (by decide +kernel) (fun i => decide (letters.getD i 0 ∈ z)) (fun i => .str ⟨#[letters.getD i 0]⟩) (fun _ => rfl) ?_ ?_) ?_) fun v H1 g1 t1 i => ⟨g1, ?_⟩
  · intro i di v H1 h1 h2 g1
    have hc : letters[i]? = some (letters.getD i 0) ∧ di = .str ⟨#[letters.getD i 0]⟩ := by
      have : (signsD letters)[i]? = some di := h1
      unfold signsD at this
      rw [List.getElem?_map] at this
      cases e : letters[i]? with
      | none => rw [e] at this; cases this
      | some c => rw [e] at this; simp [List.getD_eq_getElem?_getD, e] at this ⊢; first | exact this.symm | skip
    obtain ⟨hc, rfl⟩ := hc
    cases h2
    refine ⟨fun s0 H0 C cl fp => ?_, fun hcc s0 H0 C cl fp => ?_⟩
    · exact et_inS (z := tx z) (c := letters.getD i 0) (ee_v (pv 1) rfl (.str _)) (ee_v (pv 0) rfl (.str _)) (by rfl)
    · exact ee_v (pv 1) rfl (.str _)
  · exact (sel_list (l := letters) (c := fun x => decide (x ∈ z))).symm
  · have := List.length_filter_le (fun c => decide (c ∈ z)) letters
    have h2 : letters.length = 52 := by decide
    unfold inOrder
    omega
  · exact i.str_eq
end
end Tk
set_option Elab.async false
set_option linter.all false
set_option maxRecDepth 100000
/-! table_of, made_from. -/
namespace Tk
open PySem PySem.Spec PyProof.Rows L2 LamX NdefX
theorem room_u1 {k : Nat} {A : Around} (hr : Room k A) : A.units + 1 < cLine := by have := hr.units; omega
/-- for j in range(a), a a number -/
theorem b_forN {T : List NTab} {X : Cx} {σ : L2.St} {H : Hp} {a : Expr} {body rest : List Stmt} {D' : Ends} {pos p1 p2 p3 : Pos} {j n : Nat} {x : Str} (hN : X.N.Nodup) (hr : Gl X "range") (hmr : X.mg "range" = none) (hcalm : X.calm = true) (hp : PassesOwn (model X.prog X.w) X.A X.env X.xe) (hT : TabsN T H) (ha : EE T X σ H a (.int (n : Nat))) (hn : n < 2 ^ 62) (Pv : Nat → L2.St → Hp → Prop) (h0 : ∀ H1, Gx T H H1 → TabsN T H1 → Pv 0 σ H1)
    (hs : ∀ (i : Nat) σ' H', i < n → Pv i σ' H' → wB X body { D' with nx := Pv (i + 1), ct := Pv (i + 1), bk := wB X rest D' } (σ'.set j (some (.int (i : Nat)))) H') (hd : ∀ σ' H', Pv n σ' H' → wB X rest D' σ' H')
    (hj : X.N[j]? = some x := by rfl) (hx : Loc X.env.scope x := by first | exact Or.inl rfl | exact Or.inr rfl) (hst : starEach (a :: []) X.env = (false, eval a X.env) :: starEach [] X.env := by rfl) (hf : X.fn x = true ∨ X.env.scope.names.lookup x = some .local := by first | exact .inl rfl | exact .inr rfl) (hfs : ∀ v, foldedSetIterable (.Call (.Name "range" p2) [a] [] p3) X.env v = pure v := by intro _; rfl) :
    wB X (.For (.Name x p1) (.Call (.Name "range" p2) [a] [] p3) body [] pos :: rest) D' σ H :=
  b_forR (ps_for hp hcalm (pi_range1 hr hmr wA_pa hst) (pg_name (i := j) hN hj hx hf) wB_pss hfs) hT ha ⟨by omega, by omega⟩ Pv h0 (fun i σ' H' hi => hs i σ' H' (by omega)) (fun σ' H' h => hd σ' H' (by rw [Int.toNat_natCast] at h; exact h)) hst
section
variable {P : Program} {w : World} {K : PySem.W.Frag} {mg : Str → Option Value} {base : Heap} {T : List NTab} {f : Addr} {fd : FuncData}

/-! table_of -/
abbrev sTableOf : Stmt := topS 22
theorem sc_table_of : FnScope ["leads", "count", "many", "table", "number", "rows", "left", "right"] ["leads", "count", "many"] (defScope sTableOf) := ⟨rfl, rfl, rfl, by decide +kernel, rfl, by decide +kernel, by decide +kernel⟩
def rowF (g : Nat → Nat → Nat → Nat) (c x l : Nat) : List Nat := (List.range c).map fun r => g x l r
def rowsF (g : Nat → Nat → Nat → Nat) (c x : Nat) : List (List Nat) := (List.range c).map fun l => rowF g c x l
def tableF (g : Nat → Nat → Nat → Nat) (c m : Nat) : List (List (List Nat)) := (List.range m).map fun x => rowsF g c x
def R_table : Hp → List D → (Hp → V → Prop) → Prop := fun H ds post => ∃ (p : Addr) (kvt : List (List L2.Key × V)) (c m : Nat) (g : Nat → Nat → Nat → Nat), c ≤ 1000 ∧ m ≤ 100000 ∧ ds = [.ref p, .int c, .int m] ∧ H p = some (.dT kvt) ∧ (∀ x l r, x < m → l < c → r < c → valV kvt (kN [x, l, r]) = some (.int (g x l r : Nat))) ∧
  post = fun H' v => Is H' (tabD (tableF g c m)) v
theorem ok_table_of (F : Fun K "table_of" "table_of" sTableOf f fd) (hm : mg "table_of" = some (.ref f)) (G : Glo mg) : DefOk P w K mg base T 1 "table_of" ["leads", "count", "many"] R_table := by
  refine def_ok F hm sc_table_of (fun _ _ _ _ _ _ us hl => match us, hl with | [_, _, _], _ => rfl) (fun H ds post ⟨_, _, _, _, _, _, _, e, _⟩ => by rw [e]; rfl) fun cdv A outer s H E vs ds post hr hT hi ⟨p, kvt, c, m, g, hc, hmm, e1, hp, hv, e2⟩ => ?_
  subst e1 e2
  obtain ⟨_, _, _, rfl, i1, i2, i3⟩ := isAll3 hi
  cases i1; cases i2; cases i3
  refine b_asg (ps_set (i := 3) sc_table_of.nd rfl (.inl rfl) wE_pe) hT (el_lst ea_nil (Nat.zero_le _)) fun v H1 g1 t1 ⟨pT, xs0, ev, hpT, h1, i1⟩ => ?_
  subst ev
  cases i1
  refine b_forN (j := 4) sc_table_of.nd rfl G.range rfl PassesOwn.never t1 (ee_v (pv 2) rfl (.int _)) (by omega)
    (fun i σ' H' => ∃ (v4 v5 v6 : Option V) (xs : List V), σ' = [some (.ref p), some (.int (c : Nat)), some (.int (m : Nat)), some (.ref pT), v4, v5, v6, none] ∧ Gx T H H' ∧ H' pT = some (.lst xs) ∧ IsAll H' ((List.range i).map fun x => rowsD (rowsF g c x)) xs)
    (fun H2 g2 t2 => ⟨none, none, none, [], rfl, g1.trans g2, g2.lst h1, .nil⟩) ?_ ?_
  · rintro x σ' H' hx ⟨v4, v5, v6, xs, rfl, gx, hxs, ix⟩
    have tx' := gx.tab hT
    refine b_asg (ps_set (i := 5) sc_table_of.nd rfl (.inl rfl) wE_pe) tx' (el_lst ea_nil (Nat.zero_le _)) fun v H2 g2 t2 ⟨pR, ys0, ev, hpR, h2, i2⟩ => ?_
    subst ev
    cases i2
    have hne : pR ≠ pT := fun e => by rw [e, hxs] at hpR; cases hpR
    have hRn : H pR = none := gx.low pR hpR
    refine b_forN (j := 6) sc_table_of.nd rfl G.range rfl PassesOwn.never t2 (ee_v (pv 1) rfl (.int _)) (by omega)
      (fun l σ' H' => ∃ (v6 : Option V) (ys : List V), σ' = [some (.ref p), some (.int (c : Nat)), some (.int (m : Nat)), some (.ref pT), some (.int (x : Nat)), some (.ref pR), v6, none] ∧ Gx T H H' ∧ H' pT = some (.lst xs) ∧ IsAll H' ((List.range x).map fun x => rowsD (rowsF g c x)) xs ∧ H' pR = some (.lst ys) ∧ IsAll H' ((List.range l).map fun l => rowD (rowF g c x l)) ys)
      (fun H3 g3 t3 => ⟨v6, [], rfl, (gx.trans g2).trans g3, (g2.trans g3).lst hxs, ix.mono (g2.trans g3).ti, g3.lst h2, .nil⟩) ?_ ?_
    · rintro l σ' H' hl ⟨v6, ys, rfl, gx, hxs, ix, hys, iy⟩
      have tx' := gx.tab hT
      refine b_apD tx' (ee_v (pv 5) rfl (.ref _)) hys (sz_lt (by have := iy.length; simp at this; omega)) (d := rowD (rowF g c x l)) (ee_tupL rfl G.tuple (el_map (es := natsD (rowF g c x l)) (pe_lc (own := [("right", 7)]) (g := gName 7) (tt := tYes) rfl sc_table_of.nd wI_pi (blkOk_by (N := ["leads", "count", "many", "table", "number", "rows", "left", "right"]) (sc := defScope sTableOf) (by decide +kernel)) (fun _ _ _ _ _ => pg_name (i := 7) sc_table_of.nd rfl (Or.inl rfl)) (fun _ _ _ _ _ => pts_nil) (fun _ _ _ _ _ => tB_pe _ _ _ _ _))
        (ei_range (n := c) rfl G.range (ee_v (pv 1) rfl (.int _)) (by omega)) (by rw [rangeD_len]; exact sz_lt (by omega)) (fun r => .int (g x l r : Nat)) (fun _ => rfl) ?_ (by rw [rangeD_len]; simp [natsD, rowF]))) fun v H2 g2 t2 i2 h2 => ?_
      · intro r di v H2 h1 h2 g2
        obtain ⟨hrl, rfl⟩ := rangeD_get h1
        cases h2
        intro s0 H0 C cl fp
        exact ee_dgetT (l := [x, l, r]) (room_u1 hr) (ee_v (pv 0) rfl (.ref _)) ((gx.trans g2).dT hp) (ee_tup (ea_cons (ee_v (pv 4) rfl (.int _)) (ea_cons (ee_v (pv 6) rfl (.int _)) (ea_cons (ee_v (pv 7) rfl (.int _)) ea_nil))) (sz_ok (by show 3 ≤ 1000000; decide))) (hv x l r hx hl hrl) (.int _)
      · have tm := Ti.lst (o := .lst (ys ++ [v])) h2
        refine b_nil ⟨some (.int (l : Nat)), ys ++ [v], rfl, (gx.trans g2).mutL hRn h2, ?_, (ix.mono g2.ti).mono tm, upd_same, ?_⟩
        · rw [upd_ne (Ne.symm hne)]; exact g2.lst hxs
        · rw [List.range_succ, List.map_append]
          exact (iy.mono (g2.ti.trans tm)).snoc (i2.mono tm)
    · rintro σ' H' ⟨v6, ys, rfl, gx, hxs, ix, hys, iy⟩
      have tx' := gx.tab hT
      refine b_apD tx' (ee_v (pv 3) rfl (.ref _)) hxs (sz_lt (by have := ix.length; simp at this; omega)) (d := rowsD (rowsF g c x)) (ee_tupP rfl G.tuple (ee_v (pv 5) rfl (.ref _)) hys (by rw [rowsF, List.map_map]; exact iy)) fun v H2 g2 t2 i2 h2 => ?_
      have tm := Ti.lst (o := .lst (xs ++ [v])) h2
      refine b_nil ⟨some (.int (x : Nat)), some (.ref pR), v6, xs ++ [v], rfl, (gx.trans g2).mutL hpT h2, upd_same, ?_⟩
      rw [List.range_succ, List.map_append]
      exact (ix.mono (g2.ti.trans tm)).snoc (i2.mono tm)
  · rintro σ' H' ⟨v4, v5, v6, xs, rfl, gx, hxs, ix⟩
    refine b_ret (gx.tab hT) (ee_tupP (ds := (tableF g c m).map rowsD) rfl G.tuple (ee_v (pv 3) rfl (.ref _)) hxs (by rw [tableF, List.map_map]; exact ix)) fun v H1 g1 t1 i => ⟨gx.trans g1, i⟩
end
end Tk
set_option Elab.async false
set_option linter.all false
set_option maxRecDepth 100000
/-! made_from. -/
namespace Tk
open PySem PySem.Spec PyProof.Rows L2 LamX NdefX
def prD (p : Pr) : D := .tup (natsD [p.1, p.2])
/-! the plain part -/
structure MF (led : Led) (m : Nat) (sts : List Pr) (kvn kvl : List (List L2.Key × V)) (Q : Nat → Nat → Nat → Prop) : Prop where
  nd : sts.Nodup
  zero : sts[0]? = some (0, 0)
  reach : ∀ p ∈ sts, Reach led m p
  len : kvn.length = sts.length
  num : ∀ p : Pr, valV kvn (kN [p.1, p.2]) = if p ∈ sts then some (.int (place p sts : Nat)) else none
  done : ∀ i j x, Q i j x → ∃ p q, sts[i]? = some p ∧ sts[j]? = some q ∧ led x p q ∈ sts ∧ valV kvl (kN [x, i, j]) = some (.int (place (led x p q) sts : Nat))
section
variable {led : Led} {m : Nat} {sts : List Pr} {kvn kvl : List (List L2.Key × V)} {Q Q' : Nat → Nat → Nat → Prop}
theorem MF.weak (M : MF led m sts kvn kvl Q) (h : ∀ i j x, Q' i j x → Q i j x) : MF led m sts kvn kvl Q' := ⟨M.nd, M.zero, M.reach, M.len, M.num, fun i j x q => M.done i j x (h i j x q)⟩
theorem kN2_inj {p q : Pr} (h : kN [p.1, p.2] = kN [q.1, q.2]) : p = q := by
  have := kN_inj h
  simp at this
  exact Prod.ext this.1 this.2
theorem kN3_inj {x i j x' i' j' : Nat} (h : kN [x, i, j] = kN [x', i', j']) : x = x' ∧ i = i' ∧ j = j' := by
  have := kN_inj h
  simpa using this
theorem MF.start : MF led m [(0, 0)] [(kN [0, 0], .int (0 : Nat))] [] (fun _ _ _ => False) := by
  refine ⟨by simp, rfl, fun p hp => ?_, rfl, fun p => ?_, fun i j x q => q.elim⟩
  · simp at hp; subst hp
    exact ⟨.nil, trivial, rfl⟩
  · by_cases e : p = (0, 0)
    · subst e
      rw [if_pos (by simp)]
      exact valV_pos (p := (kN [0, 0], V.int (0 : Nat))) rfl
    · rw [if_neg (by simpa using e), valV_neg (fun z => e (kN2_inj (p := (0, 0)) (q := p) z).symm)]
      rfl
theorem MF.in_ (M : MF led m sts kvn kvl Q) {s : Pr} : (valV kvn (kN [s.1, s.2])).isSome = decide (s ∈ sts) := by
  rw [M.num]
  split
  · rename_i h; simp [h]
  · rename_i h; simp [h]
theorem MF.new (M : MF led m sts kvn kvl Q) {s : Pr} (hs : s ∉ sts) (hr : Reach led m s) : MF led m (sts ++ [s]) (putK kvn (kN [s.1, s.2]) (.int (sts.length : Nat))) kvl Q := by
  have hn : valV kvn (kN [s.1, s.2]) = none := by rw [M.num, if_neg hs]
  refine ⟨?_, ?_, fun p hp => ?_, ?_, fun p => ?_, fun i j x q => ?_⟩
  · rw [List.nodup_append]
    exact ⟨M.nd, by simp, fun a ha b hb e => by simp at hb; subst hb; subst e; exact hs ha⟩
  · have := M.zero
    rw [List.getElem?_append_left (by rw [List.getElem?_eq_some_iff] at this; exact this.1)]; exact this
  · rcases List.mem_append.mp hp with h | h
    · exact M.reach p h
    · simp at h; subst h; exact hr
  · rw [putK_new _ hn, List.length_append, List.length_append, M.len]; rfl
  · rw [valV_put]
    by_cases e : p = s
    · subst e
      rw [if_pos rfl, if_pos (by simp), place_new hs]
    · rw [if_neg (fun z => e (kN2_inj z)), M.num]
      by_cases h : p ∈ sts
      · rw [if_pos h, if_pos (List.mem_append_left _ h), place_app h]
      · rw [if_neg h, if_neg (by simp [h, e])]
  · obtain ⟨p, q', h1, h2, h3, h4⟩ := M.done i j x q
    refine ⟨p, q', ?_, ?_, List.mem_append_left _ h3, by rw [place_app h3]; exact h4⟩
    · rw [List.getElem?_append_left (List.getElem?_eq_some_iff.mp h1).1]; exact h1
    · rw [List.getElem?_append_left (List.getElem?_eq_some_iff.mp h2).1]; exact h2
theorem MF.lead (M : MF led m sts kvn kvl Q) {i j x : Nat} {p q : Pr} (hi : sts[i]? = some p) (hj : sts[j]? = some q) (hs : led x p q ∈ sts) :
    MF led m sts kvn (putK kvl (kN [x, i, j]) (.int (place (led x p q) sts : Nat))) (fun a b c => Q a b c ∨ (a = i ∧ b = j ∧ c = x)) := by
  refine ⟨M.nd, M.zero, M.reach, M.len, M.num, fun a b c h => ?_⟩
  by_cases e : a = i ∧ b = j ∧ c = x
  · obtain ⟨rfl, rfl, rfl⟩ := e
    exact ⟨p, q, hi, hj, hs, by rw [valV_put, if_pos rfl]⟩
  · obtain ⟨p', q', h1, h2, h3, h4⟩ := M.done a b c (h.resolve_right e)
    refine ⟨p', q', h1, h2, h3, ?_⟩
    rw [valV_put, if_neg fun z => e ?_]
    · exact h4
    · obtain ⟨e1, e2, e3⟩ := kN3_inj z
      exact ⟨e2, e3, e1⟩
theorem reach_led {p q : Pr} {x : Nat} (hp : Reach led m p) (hq : Reach led m q) (hx : x < m) : Reach led m (led x p q) := by
  obtain ⟨t, h1, h2⟩ := hp
  obtain ⟨u, h3, h4⟩ := hq
  exact ⟨.node t u x, ⟨h1, h3, hx⟩, by show led x (runG led t) (runG led u) = _; rw [h2, h4]⟩
theorem MF.made {names : List Nat} {gd : Pr → Bool} (M : MF led (2 ^ names.length) sts kvn kvl (fun i j x => i < sts.length ∧ j < sts.length ∧ x < 2 ^ names.length)) :
    Made names led gd ⟨names, sts.map gd, tableF (fun x l r => place (led x (sts.getD l (0, 0)) (sts.getD r (0, 0))) sts) sts.length (2 ^ names.length)⟩ sts := by
  have hget : ∀ (i : Nat) (p : Pr), sts[i]? = some p → sts.getD i (0, 0) = p := fun i p h => by rw [List.getD_eq_getElem?_getD, h]; rfl
  have hmap : ∀ {α : Type} (f : Pr → α), (List.range sts.length).map (fun i => f (sts.getD i (0, 0))) = sts.map f := fun {α} f => by
    refine List.ext_getElem? fun i => ?_
    rw [List.getElem?_map, List.getElem?_map]
    by_cases hi : i < sts.length
    · rw [List.getElem?_range hi, List.getElem?_eq_getElem hi]
      simp [List.getD_eq_getElem?_getD, List.getElem?_eq_getElem hi]
    · rw [List.getElem?_eq_none (by simpa using hi), List.getElem?_eq_none (by omega)]; rfl
  refine ⟨rfl, M.nd, M.zero, rfl, ?_, fun x p q hx hp hq => ?_, M.reach⟩
  · show tableF _ _ _ = _
    unfold tableF rowsF rowF
    refine List.map_congr_left fun x _ => ?_
    rw [← hmap (fun p => sts.map fun q => place (led x p q) sts)]
    refine List.map_congr_left fun l _ => ?_
    rw [← hmap (fun q => place (led x (sts.getD l (0, 0)) q) sts)]
  · obtain ⟨i, hi⟩ := List.mem_iff_getElem?.mp hp
    obtain ⟨j, hj⟩ := List.mem_iff_getElem?.mp hq
    obtain ⟨p', q', h1, h2, h3, _⟩ := M.done i j x ⟨(List.getElem?_eq_some_iff.mp hi).1, (List.getElem?_eq_some_iff.mp hj).1, hx⟩
    rw [hi] at h1; rw [hj] at h2
    cases h1; cases h2
    exact h3
theorem MF.table (M : MF led m sts kvn kvl (fun i j x => i < sts.length ∧ j < sts.length ∧ x < m)) {x l r : Nat} (hx : x < m) (hl : l < sts.length) (hr : r < sts.length) :
    valV kvl (kN [x, l, r]) = some (.int (place (led x (sts.getD l (0, 0)) (sts.getD r (0, 0))) sts : Nat)) := by
  obtain ⟨p', q', h1, h2, h3, h4⟩ := M.done l r x ⟨hl, hr, hx⟩
  rw [h4]
  simp [List.getD_eq_getElem?_getD, h1, h2]
end

/-! the heap -/
structure MH (T : List NTab) (Hb H H' : Hp) (pS pN pL : Addr) (sts : List Pr) (kvn kvl : List (List L2.Key × V)) : Prop where
  g : Gx T H H'
  ti : Ti Hb H'
  s : ∃ xs, H' pS = some (.lst xs) ∧ IsAll H' (sts.map prD) xs
  n : H' pN = some (.dT kvn)
  l : H' pL = some (.dT kvl)
structure Ads (H : Hp) (pS pN pL : Addr) : Prop where
  s : H pS = none
  n : H pN = none
  l : H pL = none
  sn : pS ≠ pN
  sl : pS ≠ pL
  nl : pN ≠ pL
section
variable {T : List NTab} {Hb Hb' H H' H1 : Hp} {pS pN pL : Addr} {sts : List Pr} {kvn kvl kv : List (List L2.Key × V)}
theorem MH.step (M : MH T Hb H H' pS pN pL sts kvn kvl) (g : Gx T H' H1) : MH T Hb H H1 pS pN pL sts kvn kvl := by
  obtain ⟨xs, h1, h2⟩ := M.s
  exact ⟨M.g.trans g, M.ti.trans g.ti, ⟨xs, g.lst h1, h2.mono g.ti⟩, g.dT M.n, g.dT M.l⟩
theorem MH.re (M : MH T Hb H H' pS pN pL sts kvn kvl) : MH T H' H H' pS pN pL sts kvn kvl := ⟨M.g, Ti.refl _, M.s, M.n, M.l⟩
theorem MH.back (M : MH T Hb H H' pS pN pL sts kvn kvl) (t : Ti Hb' Hb) : MH T Hb' H H' pS pN pL sts kvn kvl := ⟨M.g, t.trans M.ti, M.s, M.n, M.l⟩
theorem MH.putN (M : MH T Hb H H' pS pN pL sts kvn kvl) (A : Ads H pS pN pL) : MH T Hb H (upd H' pN (.dT kv)) pS pN pL sts kv kvl := by
  obtain ⟨xs, h1, h2⟩ := M.s
  have t := Ti.dT (o := .dT kv) M.n
  exact ⟨M.g.mutT A.n M.n, M.ti.trans t, ⟨xs, by rw [upd_ne A.sn]; exact h1, h2.mono t⟩, upd_same, by rw [upd_ne A.nl.symm]; exact M.l⟩
theorem MH.putL (M : MH T Hb H H' pS pN pL sts kvn kvl) (A : Ads H pS pN pL) : MH T Hb H (upd H' pL (.dT kv)) pS pN pL sts kvn kv := by
  obtain ⟨xs, h1, h2⟩ := M.s
  have t := Ti.dT (o := .dT kv) M.l
  exact ⟨M.g.mutT A.l M.l, M.ti.trans t, ⟨xs, by rw [upd_ne A.sl]; exact h1, h2.mono t⟩, by rw [upd_ne A.nl]; exact M.n, upd_same⟩
theorem MH.app (M : MH T Hb H H' pS pN pL sts kvn kvl) (A : Ads H pS pN pL) {xs : List V} {v : V} {s : Pr} (h1 : H' pS = some (.lst xs)) (i : Is H' (prD s) v) : MH T Hb H (upd H' pS (.lst (xs ++ [v]))) pS pN pL (sts ++ [s]) kvn kvl := by
  obtain ⟨xs', h1', h2⟩ := M.s
  rw [h1] at h1'
  cases h1'
  have t := Ti.lst (o := .lst (xs ++ [v])) h1
  exact ⟨M.g.mutL A.s h1, M.ti.trans t, ⟨_, upd_same, by rw [List.map_append]; exact (h2.mono t).snoc (i.mono t)⟩, by rw [upd_ne A.sn.symm]; exact M.n, by rw [upd_ne A.sl.symm]; exact M.l⟩
end

section
variable {P : Program} {w : World} {K : PySem.W.Frag} {mg : Str → Option Value} {base : Heap} {T : List NTab} {f : Addr} {fd : FuncData}
abbrev sMade : Stmt := topS 23
abbrev nMade : List Str := ["names", "start", "led", "is_good", "states", "numbers", "leads", "many", "newest", "other", "number", "left", "right", "state", "good"]
theorem sc_made : FnScope nMade ["names", "start", "led", "is_good"] (defScope sMade) := ⟨rfl, rfl, rfl, by decide +kernel, rfl, by decide +kernel, by decide +kernel⟩
def LedC (led : Led) (m : Nat) (ds : List D) (d : D) : Prop := ∃ x p q, x < m ∧ Reach led m p ∧ Reach led m q ∧ ds = [.int (x : Nat), prD p, prD q] ∧ d = prD (led x p q)
def GdC (led : Led) (m : Nat) (gd : Pr → Bool) (ds : List D) (d : D) : Prop := ∃ p, Reach led m p ∧ ds = [prD p] ∧ d = .bl (gd p)
def R_made (P : Program) (w : World) (K : PySem.W.Frag) (mg : Str → Option Value) (base : Heap) (T : List NTab) : Hp → List D → (Hp → V → Prop) → Prop := fun H ds post => ∃ (names : List Nat) (led : Led) (gd : Pr → Bool) (B : Nat) (f1 f2 : Addr),
  names.length ≤ 13 ∧ Bd led (2 ^ names.length) B ∧ B * B * 2 ^ names.length ≤ 10000 ∧ ds = [.str (tx names), prD (0, 0), .ref f1, .ref f2] ∧ FvOk P w K mg base T 2 H f1 (LedC led (2 ^ names.length)) ∧ FvOk P w K mg base T 2 H f2 (GdC led (2 ^ names.length) gd) ∧
  post = fun H' v => ∃ W sts ps xs, Made names led gd W sts ∧ Is H' (.tup [machD W, .ref ps]) v ∧ H ps = none ∧ H' ps = some (.lst xs) ∧ IsAll H' (sts.map prD) xs
theorem mul_sq (m n : Nat) : m * ((n + 1) * (n + 1 + 1)) = m * (n * (n + 1)) + 2 * (m * (n + 1)) := by
  have h : (n + 1) * (n + 1 + 1) = n * (n + 1) + 2 * (n + 1) := by
    rw [Nat.mul_add, Nat.mul_one, Nat.add_mul, Nat.one_mul]
    rw [Nat.mul_comm n (n + 1)]
    omega
  rw [h, Nat.mul_add, Nat.mul_left_comm m 2]
theorem within_ok {n B k : Nat} (hn : n ≤ B) (hk : k ≤ 13) (hB : B * B * 2 ^ k ≤ 10000) : within n k = true := by
  unfold within
  have h1 : n * n ≤ B * B := Nat.mul_le_mul hn hn
  have h2 := Nat.mul_le_mul_right (2 ^ k) h1
  simp
  omega
theorem bound_B {B k : Nat} (hB : B * B * 2 ^ k ≤ 10000) : B ≤ 100 := by
  have h1 : 1 ≤ 2 ^ k := Nat.one_le_two_pow
  have h3 : B * B * 1 ≤ B * B * 2 ^ k := Nat.mul_le_mul_left _ h1
  rcases Nat.lt_or_ge 100 B with h | h
  · have h2 : 101 * 101 ≤ B * B := Nat.mul_le_mul h h
    omega
  · exact h
end
end Tk
set_option Elab.async false
set_option linter.all false
set_option maxRecDepth 100000
/-! made_from, walked. -/
namespace Tk
open PySem PySem.Spec PyProof.Rows L2 LamX NdefX
/-- while, the invariant told of a ghost -/
theorem b_whileG {α : Type} {T : List NTab} {X : Cx} {σ : L2.St} {H : Hp} {e : Expr} {body rest : List Stmt} {D' : Ends} {pos : Pos} (hp : PassesOwn (model X.prog X.w) X.A X.env X.xe) (Pv : α → L2.St → Hp → Prop) (μ : α → Nat) (a0 : α) (h0 : Pv a0 σ H) (hT : ∀ a σ' H', Pv a σ' H' → TabsN T H') (c : α → Bool) (hc : ∀ a σ' H', Pv a σ' H' → ET T X σ' H' e (c a))
    (hs : ∀ a σ' H' H1, Pv a σ' H' → c a = true → Gx T H' H1 → TabsN T H1 → wB X body { D' with nx := fun σ2 H2 => ∃ a', μ a' < μ a ∧ Pv a' σ2 H2, ct := fun σ2 H2 => ∃ a', μ a' < μ a ∧ Pv a' σ2 H2, bk := wB X rest D' } σ' H1)
    (hd : ∀ a σ' H' H1, Pv a σ' H' → c a = false → Gx T H' H1 → TabsN T H1 → wB X rest D' σ' H1) : wB X (.While e body [] pos :: rest) D' σ H :=
  b_ps (ps_while hp wT_pt wB_pss) (by
    refine ⟨fun m σ H => ∃ a, m = μ a ∧ Pv a σ H, ⟨_, a0, rfl, h0⟩, ?_⟩
    rintro m σ' H' ⟨a, rfl, p⟩
    refine wT_imp (hc a σ' H' p H' (Gx.refl _) (hT a σ' H' p)) fun b H1 ⟨g, q⟩ => ?_
    cases b with
    | true => exact ⟨_, fun σ2 H2 ⟨a', l, p'⟩ => ⟨_, l, a', rfl, p'⟩, hs a σ' H' H1 p q.symm g (g.tab (hT a σ' H' p))⟩
    | false => exact hd a σ' H' H1 p q.symm g (g.tab (hT a σ' H' p)))
/-- an if without else, what both ways come to said once -/
theorem b_whenI {T : List NTab} {X : Cx} {σ : L2.St} {H : Hp} {e : Expr} {body rest : List Stmt} {D' : Ends} {pos : Pos} {c : Bool} (Iv : L2.St → Hp → Prop) (hT : TabsN T H) (hc : ET T X σ H e c) (k1 : c = true → ∀ H1, Gx T H H1 → TabsN T H1 → wB X body { D' with nx := Iv } σ H1) (k2 : c = false → ∀ H1, Gx T H H1 → TabsN T H1 → Iv σ H1) (k3 : ∀ σ' H', Iv σ' H' → wB X rest D' σ' H') :
    wB X (.If e body [] pos :: rest) D' σ H :=
  b_when hT hc (fun h H1 g t => wB_imp (k1 h H1 g t) k3 (fun _ _ z => z) (fun _ _ z => z) (fun _ _ z => z)) fun h H1 g t => k3 _ _ (k2 h H1 g t)
section
variable {P : Program} {w : World} {K : PySem.W.Frag} {mg : Str → Option Value} {base : Heap} {T : List NTab} {f : Addr} {fd : FuncData}
theorem prD_nats (p : Pr) : prD p = .tup (natsD [p.1, p.2]) := rfl
abbrev PW (m n : Nat) : Nat → Nat → Nat → Prop := fun i j x => i < n ∧ j < n ∧ x < m
abbrev PO (m n o : Nat) : Nat → Nat → Nat → Prop := fun i j x => (i < n ∧ j < n ∧ x < m) ∨ (x < m ∧ ((i = n ∧ j < o) ∨ (i < o ∧ j = n)))
abbrev PX (m n o k : Nat) : Nat → Nat → Nat → Prop := fun i j x => (i < n ∧ j < n ∧ x < m) ∨ (x < m ∧ ((i = n ∧ j < o) ∨ (i < o ∧ j = n))) ∨ (x < k ∧ ((i = n ∧ j = o) ∨ (i = o ∧ j = n)))
abbrev PC (m n o k c : Nat) : Nat → Nat → Nat → Prop := fun i j x => (i < n ∧ j < n ∧ x < m) ∨ (x < m ∧ ((i = n ∧ j < o) ∨ (i < o ∧ j = n))) ∨ (x < k ∧ ((i = n ∧ j = o) ∨ (i = o ∧ j = n))) ∨ (x = k ∧ ((1 ≤ c ∧ i = n ∧ j = o) ∨ (2 ≤ c ∧ i = o ∧ j = n)))
section
variable {m n o k c a b i j x : Nat}
theorem pw_po (h : PO m n 0 i j x) : PW m n i j x := by omega
theorem po_px (h : PX m n o 0 i j x) : PO m n o i j x := by omega
theorem px_pc (h : PC m n o k 0 i j x) : PX m n o k i j x := by omega
theorem pc_step (hab : (c = 0 ∧ a = n ∧ b = o) ∨ (c = 1 ∧ a = o ∧ b = n)) (h : PC m n o k (c + 1) i j x) : PC m n o k c i j x ∨ (i = a ∧ j = b ∧ x = k) := by
  rcases h with h | h | h | ⟨h0, h⟩
  · exact .inl (.inl h)
  · exact .inl (.inr (.inl h))
  · exact .inl (.inr (.inr (.inl h)))
  · rcases h with ⟨h1, h2, h3⟩ | ⟨h1, h2, h3⟩ <;> rcases hab with ⟨e1, e2, e3⟩ | ⟨e1, e2, e3⟩
    · exact .inr ⟨by omega, by omega, h0⟩
    · exact .inl (.inr (.inr (.inr ⟨h0, .inl ⟨by omega, h2, h3⟩⟩)))
    · omega
    · exact .inr ⟨by omega, by omega, h0⟩
theorem pc_px (h : PX m n o (k + 1) i j x) : PC m n o k 2 i j x := by omega
theorem px_po (h : PO m n (o + 1) i j x) : PX m n o m i j x := by omega
theorem po_pw (h : PW m (n + 1) i j x) : PO m n (n + 1) i j x := by omega
end
set_option maxHeartbeats 1000000 in
theorem ok_made (F : Fun K "made_from" "made_from" sMade f fd) (hm : mg "made_from" = some (.ref f)) (G : Glo mg) (W1 : DefOk P w K mg base T 1 "within_most" ["count", "names"] R_within) (TB : DefOk P w K mg base T 1 "table_of" ["leads", "count", "many"] R_table) :
    DefOk P w K mg base T 3 "made_from" ["names", "start", "led", "is_good"] (R_made P w K mg base T) := by
  refine def_ok F hm sc_made (fun _ _ _ _ _ _ us hl => match us, hl with | [_, _, _, _], _ => rfl) (fun H ds post ⟨_, _, _, _, _, _, _, _, _, e, _⟩ => by rw [e]; rfl) fun cdv A outer s H E vs ds post hr hT hi ⟨names, led, gd, B, f1, f2, hn, hB, hBB, e1, F1, F2, e2⟩ => ?_
  subst e1 e2
  obtain ⟨_, vst, _, _, rfl, i1, ist, i3, i4⟩ := isAll4 hi
  cases i1; cases i3; cases i4
  have hm13 := pow13 hn
  have hm1 : 1 ≤ 2 ^ names.length := Nat.one_le_two_pow
  have hMade := fun (sts : List Pr) kvn kvl (M : MF led (2 ^ names.length) sts kvn kvl (fun i j x => i < sts.length ∧ j < sts.length ∧ x < 2 ^ names.length)) => M.made (gd := gd)
  have hWi : ∀ {n : Nat}, n ≤ B → within n names.length = true := fun h => within_ok h hn hBB
  have hB4 : B ≤ 100 := bound_B hBB
  have hB1 : 1 ≤ B := by
    obtain ⟨code, hc⟩ := hB
    have := (hc .nil trivial).1
    omega
  have hpow : (1 : Int) * 2 ^ ((tx names).length : Int).toNat = ((2 ^ names.length : Nat) : Int) := by rw [tx_len, Int.toNat_natCast, Int.one_mul, Int.natCast_pow]; rfl
  generalize hmm : 2 ^ names.length = m at *
  have hu := room_u1 hr
  have hmB : ∀ {n o : Nat}, n + 1 ≤ B → o ≤ n → m * (n * (n + 1)) ≤ 10000 ∧ m * o ≤ 10000 := fun {n o} h1 h2 => by
    have a1 : n * (n + 1) ≤ B * B := Nat.mul_le_mul (by omega) h1
    have a2 := Nat.mul_le_mul_left m a1
    have a3 : m * (B * B) = B * B * m := Nat.mul_comm _ _
    have a4 : o ≤ B * B := Nat.le_trans (show o ≤ B by omega) (Nat.le_mul_of_pos_left B hB1)
    have a5 := Nat.mul_le_mul_left m a4
    omega
  have hlm : m ≤ 8192 := hm13
  refine b_when (c := false) hT (ET.is (et_not (et_val (c := true) (ee_callA (u := .bl true) W1 hr (by decide) rfl (ea_cons ee_int (ea_cons (ee_v (pv 0) rfl (.str _)) ea_nil)) (fun H2 => ⟨1, names, by omega, by omega, rfl, by rw [hWi hB1]⟩) rfl))) rfl) (fun h => nomatch h) fun _ H1 g1 t1 => ?_
  refine b_asg (ps_set (i := 4) sc_made.nd rfl (Or.inl rfl) wE_pe) t1 (el_lst (ea_cons (ee_v (pv 1) rfl (ist.mono g1.ti)) ea_nil) (sz_ok (by show 1 ≤ 1000000; decide))) fun v H2 g2 t2 ⟨pS, xs0, ev, hpS, h2, i2⟩ => ?_
  subst ev
  refine b_asg (ps_set (i := 5) sc_made.nd rfl (Or.inl rfl) wE_pe) t2 (ex_disp1T (ks := [0, 0]) (n := 0) hu (ee_v (pv 1) rfl (ist.mono (g1.trans g2).ti)) ee_int) fun v H3 g3 t3 ⟨pN, ev, hpN, h3⟩ => ?_
  subst ev
  refine b_asg (ps_set (i := 6) sc_made.nd rfl (Or.inl rfl) wE_pe) t3 ex_newT fun v H4 g4 t4 ⟨pL, ev, hpL, h4⟩ => ?_
  subst ev
  refine b_asgA (d := .int (m : Nat)) (ps_set (i := 7) sc_made.nd rfl (Or.inl rfl) wE_pe) t4 (EE.is (ee_shl ee_int (ee_lenS rfl G.len (ee_v (pv 0) rfl (.str _)) (by rw [tx_len]; exact sz_ok (by omega))) ⟨by omega, by rw [tx_len]; omega, by decide⟩) (by rw [hpow])) rfl fun H5 g5 t5 => ?_
  refine b_asgA (ps_set (i := 8) sc_made.nd rfl (Or.inl rfl) wE_pe) t5 ee_int rfl fun H6 g6 t6 => ?_
  have A : Ads H pS pN pL := ⟨g1.low _ hpS, (g1.trans g2).low _ hpN, ((g1.trans g2).trans g3).low _ hpL, fun e => (by rw [e] at h2; rw [h2] at hpN; cases hpN), fun e => (by rw [e] at h2; rw [g3.lst h2] at hpL; cases hpL), fun e => (by rw [e] at h3; rw [h3] at hpL; cases hpL)⟩
  have M0 : MH T H6 H H6 pS pN pL [(0, 0)] [(kN [0, 0], .int (0 : Nat))] [] := ⟨((((g1.trans g2).trans g3).trans g4).trans g5).trans g6, Ti.refl _, ⟨xs0, (((g3.trans g4).trans g5).trans g6).lst h2, i2.mono (((g3.trans g4).trans g5).trans g6).ti⟩, ((g4.trans g5).trans g6).dT h3, (g5.trans g6).dT h4⟩
  refine b_whileG (α := Nat × List Pr × List (List L2.Key × V) × List (List L2.Key × V)) PassesOwn.never
    (fun a σ' H' => ∃ v9 v10 v11 v12 v13 : Option V, σ' = [some (.str (tx names)), some vst, some (.ref f1), some (.ref f2), some (.ref pS), some (.ref pN), some (.ref pL), some (.int (m : Nat)), some (.int (a.1 : Nat)), v9, v10, v11, v12, v13, none] ∧
      a.1 ≤ a.2.1.length ∧ MF led m a.2.1 a.2.2.1 a.2.2.2 (PW m a.1) ∧ MH T H' H H' pS pN pL a.2.1 a.2.2.1 a.2.2.2 ∧ a.2.2.2.length ≤ 2 * (m * (a.1 * (a.1 + 1))))
    (fun a => B + 1 - a.1) (0, [(0, 0)], [(kN [0, 0], .int (0 : Nat))], []) ⟨none, none, none, none, none, rfl, Nat.zero_le _, MF.start.weak fun i j x h => by omega, M0, Nat.zero_le _⟩
    (fun a σ' H' ⟨_, _, _, _, _, _, _, _, M, _⟩ => M.g.tab hT) (fun a => decide (a.1 < a.2.1.length)) ?_ ?_ ?_
  · rintro ⟨n, sts, kvn, kvl⟩ σ' H' ⟨v9, v10, v11, v12, v13, rfl, hns, M, MM, hl⟩
    obtain ⟨xs, hxs, ixs⟩ := MM.s
    have hx : xs.length = sts.length := by have := ixs.length; simpa using this.symm
    exact ET.is (et_lt (ee_v (pv 8) rfl (.int _)) (ee_lenL rfl G.len (ee_v (pv 4) rfl (.ref _)) hxs)) (by rw [decide_eq_decide]; show ((n : Nat) : Int) < _ ↔ n < sts.length; omega)
  · rintro ⟨n, sts, kvn, kvl⟩ σ' H' H1' ⟨v9, v10, v11, v12, v13, rfl, hns, M, MM, hl⟩ hc g0 t0
    have hns : n < sts.length := of_decide_eq_true hc
    have hsB : sts.length ≤ B := hB.le M.nd M.reach
    have MM := MM.step g0
    refine b_forN (j := 9) (n := n + 1) sc_made.nd rfl G.range rfl PassesOwn.never t0 (EE.is (ee_add (ee_v (pv 8) rfl (.int _)) ee_int) (by congr 1)) (by omega)
      (fun o σ' H' => ∃ (sts : List Pr) (kvn kvl : List (List L2.Key × V)) (v9 v10 v11 v12 v13 : Option V), σ' = [some (.str (tx names)), some vst, some (.ref f1), some (.ref f2), some (.ref pS), some (.ref pN), some (.ref pL), some (.int (m : Nat)), some (.int (n : Nat)), v9, v10, v11, v12, v13, none] ∧
        n < sts.length ∧ MF led m sts kvn kvl (PO m n o) ∧ MH T H' H H' pS pN pL sts kvn kvl ∧ kvl.length ≤ 2 * (m * (n * (n + 1))) + 2 * (m * o))
      (fun H2' g2' t2' => ⟨sts, kvn, kvl, v9, v10, v11, v12, v13, rfl, hns, M.weak (fun _ _ _ => pw_po), (MM.step g2').re, by omega⟩) ?_ ?_
    · rintro o σ' H' ho ⟨sts, kvn, kvl, v9, v10, v11, v12, v13, rfl, hns, M, MM, hl⟩
      refine b_forN (j := 10) (n := m) sc_made.nd rfl G.range rfl PassesOwn.never (MM.g.tab hT) (ee_v (pv 7) rfl (.int _)) (by omega)
        (fun k σ' H' => ∃ (sts : List Pr) (kvn kvl : List (List L2.Key × V)) (v10 v11 v12 v13 : Option V), σ' = [some (.str (tx names)), some vst, some (.ref f1), some (.ref f2), some (.ref pS), some (.ref pN), some (.ref pL), some (.int (m : Nat)), some (.int (n : Nat)), some (.int (o : Nat)), v10, v11, v12, v13, none] ∧
          n < sts.length ∧ MF led m sts kvn kvl (PX m n o k) ∧ MH T H' H H' pS pN pL sts kvn kvl ∧ kvl.length ≤ 2 * (m * (n * (n + 1))) + 2 * (m * o) + 2 * k)
        (fun H2' g2' t2' => ⟨sts, kvn, kvl, v10, v11, v12, v13, rfl, hns, M.weak (fun _ _ _ => po_px), (MM.step g2').re, by omega⟩) ?_ ?_
      · rintro k σ' H' hk ⟨sts, kvn, kvl, v10, v11, v12, v13, rfl, hns, M, MM, hl⟩
        refine b_forT (ds := [.tup (natsD [n, o]), .tup (natsD [o, n])]) (gT := gTup _ 2 (gNs [11, 12])) (ps_for PassesOwn.never rfl (pi_tup wE_pe) (pg_tup rfl (pgs_cons (pg_name (i := 11) sc_made.nd rfl (Or.inl rfl)) (pgs_cons (pg_name (i := 12) sc_made.nd rfl (Or.inl rfl)) pgs_nil))) wB_pss) (MM.g.tab hT)
          (ee_tup (ea_cons (ee_tup (ea_cons (ee_v (pv 8) rfl (.int _)) (ea_cons (ee_v (pv 9) rfl (.int _)) ea_nil)) (sz_ok (by show 2 ≤ 1000000; decide))) (ea_cons (ee_tup (ea_cons (ee_v (pv 9) rfl (.int _)) (ea_cons (ee_v (pv 8) rfl (.int _)) ea_nil)) (sz_ok (by show 2 ≤ 1000000; decide))) ea_nil)) (sz_ok (by show 2 ≤ 1000000; decide))) fun H2 g2 t2 => ?_
        refine ⟨fun c σ' H' => ∃ (sts : List Pr) (kvn kvl : List (List L2.Key × V)) (v11 v12 v13 : Option V), σ' = [some (.str (tx names)), some vst, some (.ref f1), some (.ref f2), some (.ref pS), some (.ref pN), some (.ref pL), some (.int (m : Nat)), some (.int (n : Nat)), some (.int (o : Nat)), some (.int (k : Nat)), v11, v12, v13, none] ∧
          n < sts.length ∧ MF led m sts kvn kvl (PC m n o k c) ∧ MH T H2 H H' pS pN pL sts kvn kvl ∧ kvl.length ≤ 2 * (m * (n * (n + 1))) + 2 * (m * o) + 2 * k + c,
          ⟨sts, kvn, kvl, v11, v12, v13, rfl, hns, M.weak (fun _ _ _ => px_pc), (MM.step g2).re, by omega⟩, fun c σ' H' ⟨_, _, _, _, _, _, _, _, _, MM, _⟩ => MM.ti, ?_, ?_⟩
        · rintro c di v σ' H' hdi iv ⟨sts, kvn, kvl, v11, v12, v13, rfl, hns, M, MM, hl⟩
          obtain ⟨a, b, rfl, hab⟩ : ∃ a b : Nat, di = .tup (natsD [a, b]) ∧ ((c = 0 ∧ a = n ∧ b = o) ∨ (c = 1 ∧ a = o ∧ b = n)) := by
            match c, hdi with
            | 0, h => exact ⟨n, o, (by simpa using h.symm), .inl ⟨rfl, rfl, rfl⟩⟩
            | 1, h => exact ⟨o, n, (by simpa using h.symm), .inr ⟨rfl, rfl, rfl⟩⟩
          refine tgt_tup (js := [11, 12]) iv rfl rfl _ fun σ2 ⟨us, hus, e⟩ => ?_
          obtain ⟨_, _, rfl, j1, j2⟩ := isAll2 (show IsAll H' [.int (a : Nat), .int (b : Nat)] us from hus)
          cases j1; cases j2
          subst e
          have hsB : sts.length ≤ B := hB.le M.nd M.reach
          have hoB : n + 1 ≤ B := Nat.lt_of_lt_of_le hns hsB
          obtain ⟨hq1, hq2⟩ := hmB hoB (show o ≤ n by omega)
          obtain ⟨xs, hxs, ixs⟩ := MM.s
          have hxl : xs.length = sts.length := by have := ixs.length; simpa using this.symm
          have ha : a < sts.length := by omega
          have hb : b < sts.length := by omega
          have hpa : sts[a]? = some sts[a] := List.getElem?_eq_getElem ha
          have hpb : sts[b]? = some sts[b] := List.getElem?_eq_getElem hb
          generalize sts[a] = pp at hpa
          generalize sts[b] = qq at hpb
          obtain ⟨va, hva, iva⟩ := ixs.get (i := a) (d := prD pp) (by rw [List.getElem?_map, hpa]; rfl)
          obtain ⟨vb, hvb, ivb⟩ := ixs.get (i := b) (d := prD qq) (by rw [List.getElem?_map, hpb]; rfl)
          have rp : Reach led m pp := M.reach pp (List.mem_of_getElem? hpa)
          have rq : Reach led m qq := M.reach qq (List.mem_of_getElem? hpb)
          refine b_asg (ps_set (i := 13) sc_made.nd rfl (Or.inl rfl) wE_pe) (MM.g.tab hT) (ee_callF (i := 2) (F1.ext MM.g) hr (by decide) rfl (ea_cons (ee_v (pv 10) rfl (.int _)) (ea_cons (ee_ixL (ee_v (pv 4) rfl (.ref _)) hxs (ee_v (pv 11) rfl (.int _)) (atI_nat hva) iva) (ea_cons (ee_ixL (ee_v (pv 4) rfl (.ref _)) hxs (ee_v (pv 12) rfl (.int _)) (atI_nat hvb) ivb) ea_nil)))
            ⟨k, pp, qq, hk, rp, rq, rfl, rfl⟩) fun vz H3 g3 t3 is => ?_
          have MM := MM.step g3
          have rs := reach_led rp rq hk
          refine b_whenI (fun σ' H' => ∃ (sts : List Pr) (kvn : List (List L2.Key × V)), σ' = [some (.str (tx names)), some vst, some (.ref f1), some (.ref f2), some (.ref pS), some (.ref pN), some (.ref pL), some (.int (m : Nat)), some (.int (n : Nat)), some (.int (o : Nat)), some (.int (k : Nat)), some (.int (a : Nat)), some (.int (b : Nat)), some vz, none] ∧
              n < sts.length ∧ sts[a]? = some pp ∧ sts[b]? = some qq ∧ led k pp qq ∈ sts ∧ MF led m sts kvn kvl (PC m n o k c) ∧ MH T H2 H H' pS pN pL sts kvn kvl ∧ Is H' (prD (led k pp qq)) vz) t3
            (ET.is (et_dnotT (l := [(led k pp qq).1, (led k pp qq).2]) hu (ee_v (pv 13) rfl is) (ee_v (pv 5) rfl (.ref _)) MM.n) (congrArg not M.in_)) (fun hc H4 g4 t4 => ?_) (fun hc H4 g4 t4 => ?_) ?_
          · have hnot : led k pp qq ∉ sts := by simpa using hc
            have MM := MM.step g4
            have hxs4 := g4.lst (g3.lst hxs)
            refine b_dputT (ps_dput hu wE_pe wE_pe wE_pe rfl) t4 (ee_lenL rfl G.len (ee_v (pv 4) rfl (.ref _)) hxs4) (ee_v (pv 5) rfl (.ref _)) MM.n (by rw [M.len]; exact sz_lt (by omega)) (l := [(led k pp qq).1, (led k pp qq).2]) (ee_v (pv 13) rfl (is.mono g4.ti)) fun v5 H5 H6 g5 g6 t6 iv5 h6 => ?_
            rw [iv5.int_eq, hxl]
            have MM6 := (MM.step (g5.trans g6)).putN A (kv := putK kvn (kN [(led k pp qq).1, (led k pp qq).2]) (.int (sts.length : Nat)))
            have hxs6 := (g5.trans g6).lst hxs4
            refine b_apD (MM6.g.tab hT) (ee_v (pv 4) rfl (.ref _)) (by rw [upd_ne A.sn]; exact hxs6) (by rw [hxl]; exact sz_lt (by omega)) (ee_v (pv 13) rfl (is.mono ((g4.trans (g5.trans g6)).ti.trans (Ti.dT h6)))) fun v7 H7 g7 t7 i7 h7 => ?_
            have MM7 := (MM6.step g7).app A h7 i7
            have M7 := M.new hnot rs
            have hs7 : (sts ++ [led k pp qq]).length ≤ B := hB.le M7.nd M7.reach
            obtain ⟨xs7, hxs7, ixs7⟩ := MM7.s
            have hxl7 : xs7.length = (sts ++ [led k pp qq]).length := by have := ixs7.length; simpa using this.symm
            refine b_when (c := false) (MM7.g.tab hT) (ET.is (et_not (et_val (c := true) (ee_callA (u := .bl true) W1 hr (by decide) rfl (ea_cons (ee_lenL rfl G.len (ee_v (pv 4) rfl (.ref _)) hxs7) (ea_cons (ee_v (pv 0) rfl (.str _)) ea_nil)) (fun H2 => ⟨xs7.length, names, by omega, by omega, rfl, by rw [hWi (by omega)]⟩) rfl))) rfl) (fun h => nomatch h) fun _ H8 g8 t8 => b_nil ?_
            refine ⟨sts ++ [led k pp qq], _, rfl, by simp; omega, ?_, ?_, by simp, M7, MM7.step g8, ?_⟩
            · rw [List.getElem?_append_left ha]; exact hpa
            · rw [List.getElem?_append_left hb]; exact hpb
            · exact is.mono (((g4.trans (g5.trans g6)).ti.trans ((Ti.dT h6).trans g7.ti)).trans ((Ti.lst h7).trans g8.ti))
          · have hin : led k pp qq ∈ sts := by simpa using hc
            exact ⟨sts, kvn, rfl, hns, hpa, hpb, hin, M, MM.step g4, is.mono g4.ti⟩
          · rintro σ' H' ⟨sts, kvn, rfl, hns, hpa, hpb, hin, M, MM, is⟩
            have hoB : n + 1 ≤ B := Nat.lt_of_lt_of_le hns (hB.le M.nd M.reach)
            have hv : valV kvn (kN [(led k pp qq).1, (led k pp qq).2]) = some (.int (place (led k pp qq) sts : Nat)) := by rw [M.num, if_pos hin]
            refine b_dputT (ps_dput hu wE_pe wE_pe wE_pe rfl) (MM.g.tab hT) (ee_dgetT (l := [(led k pp qq).1, (led k pp qq).2]) hu (ee_v (pv 5) rfl (.ref _)) MM.n (ee_v (pv 13) rfl is) hv (.int _)) (ee_v (pv 6) rfl (.ref _)) MM.l (sz_lt (by omega)) (l := [k, a, b])
              (ee_tup (ea_cons (ee_v (pv 10) rfl (.int _)) (ea_cons (ee_v (pv 11) rfl (.int _)) (ea_cons (ee_v (pv 12) rfl (.int _)) ea_nil))) (sz_ok (by show 3 ≤ 1000000; decide))) fun v5 H5 H6 g5 g6 t6 iv5 h6 => b_nil ?_
            rw [iv5.int_eq]
            have MM' := (MM.step (g5.trans g6)).putL A (kv := putK kvl (kN [k, a, b]) (.int (place (led k pp qq) sts : Nat)))
            have M' : MF led m sts kvn (putK kvl (kN [k, a, b]) (.int (place (led k pp qq) sts : Nat))) (PC m n o k (c + 1)) := (M.lead hpa hpb hin).weak (fun _ _ _ => pc_step hab)
            have hl' : (putK kvl (kN [k, a, b]) (.int (place (led k pp qq) sts : Nat))).length ≤ 2 * (m * (n * (n + 1))) + 2 * (m * o) + 2 * k + (c + 1) := by
              have := length_putK kvl (kN [k, a, b]) (.int (place (led k pp qq) sts : Nat))
              omega
            exact ⟨sts, kvn, putK kvl (kN [k, a, b]) (.int (place (led k pp qq) sts : Nat)), some (.int (a : Nat)), some (.int (b : Nat)), some vz, rfl, hns, M', MM', hl'⟩
        · rintro σ' H' ⟨sts, kvn, kvl, v11, v12, v13, rfl, hns, M, MM, hl⟩
          exact b_nil ⟨sts, kvn, kvl, _, _, _, _, rfl, hns, M.weak (fun _ _ _ => pc_px), MM.re, by simp only [List.length_cons, List.length_nil] at hl; omega⟩
      · rintro σ' H' ⟨sts, kvn, kvl, v10, v11, v12, v13, rfl, hns, M, MM, hl⟩
        exact b_nil ⟨sts, kvn, kvl, _, _, _, _, _, rfl, hns, M.weak (fun _ _ _ => px_po), MM, by rw [Nat.mul_succ m o]; omega⟩
    · rintro σ' H' ⟨sts, kvn, kvl, v9, v10, v11, v12, v13, rfl, hns, M, MM, hl⟩
      have hsB : sts.length ≤ B := hB.le M.nd M.reach
      refine b_asgA (d := .int ((n + 1 : Nat) : Int)) (ps_set (i := 8) sc_made.nd rfl (Or.inl rfl) wE_pe) (MM.g.tab hT) (EE.is (ee_add (ee_v (pv 8) rfl (.int _)) ee_int) (by congr 1)) rfl fun H2' g2' t2' => b_nil ?_
      refine ⟨(n + 1, sts, kvn, kvl), show B + 1 - (n + 1) < B + 1 - n by omega, _, _, _, _, _, rfl, hns, M.weak (fun _ _ _ => po_pw), (MM.step g2').re, ?_⟩
      show kvl.length ≤ 2 * (m * ((n + 1) * (n + 1 + 1)))
      rw [mul_sq]
      omega
  · rintro ⟨n, sts, kvn, kvl⟩ σ' H' H1' ⟨v9, v10, v11, v12, v13, rfl, hns, M, MM, hl⟩ hc g0 t0
    have hn2 : n = sts.length := by
      have := of_decide_eq_false hc
      have h2 : n ≤ sts.length := hns
      have h3 : ¬ n < sts.length := this
      omega
    subst hn2
    have M : MF led m sts kvn kvl (PW m sts.length) := M
    have MM : MH T H' H H1' pS pN pL sts kvn kvl := MM.step g0
    have hsB : sts.length ≤ B := hB.le M.nd M.reach
    obtain ⟨xs, hxs, ixs⟩ := MM.s
    have hxl : xs.length = sts.length := by have := ixs.length; simpa using this.symm
    refine b_asg (ps_set (i := 14) sc_made.nd rfl (Or.inl rfl) wE_pe) t0 (ee_tupL (ds := (sts.map gd).map .bl) rfl G.tuple (el_map (es := (sts.map gd).map .bl) (pe_lc (own := [("state", 13)]) (g := gName 13) (tt := tYes) rfl sc_made.nd wI_pi (blkOk_by (N := nMade) (sc := defScope sMade) (by decide +kernel)) (fun _ _ _ _ _ => pg_name (i := 13) sc_made.nd rfl (Or.inl rfl)) (fun _ _ _ _ _ => pts_nil) (fun _ _ _ _ _ => tB_pe _ _ _ _ _))
      (ei_list (ee_v (pv 4) rfl (.ref _)) hxs ixs) (by rw [List.length_map]; exact sz_lt (by omega)) (fun i => .bl (gd (sts.getD i (0, 0)))) (fun _ => rfl) ?_ ?_)) fun vg H2 g2 t2 ig => ?_
    · intro i di v H2 h1 h2 g2
      rw [List.getElem?_map] at h1
      obtain ⟨p, hp, rfl⟩ := Option.map_eq_some_iff.mp h1
      intro s0 H0 C cl fp
      have e : sts.getD i (0, 0) = p := by rw [List.getD_eq_getElem?_getD, hp]; rfl
      rw [e]
      exact ee_callF (i := 3) (F2.ext (MM.g.trans g2)) hr (by decide) rfl (ea_cons (ee_v (pv 13) rfl h2) ea_nil) ⟨p, M.reach p (List.mem_of_getElem? hp), rfl, rfl⟩
    · rw [List.length_map, List.map_map]
      refine List.ext_getElem? fun i => ?_
      rw [List.getElem?_map, List.getElem?_map]
      by_cases hi : i < sts.length
      · rw [List.getElem?_range hi, List.getElem?_eq_getElem hi]
        simp [List.getD_eq_getElem?_getD, List.getElem?_eq_getElem hi]
      · have q1 : (List.range sts.length)[i]? = none := List.getElem?_eq_none (by simpa using hi)
        have q2 : sts[i]? = none := List.getElem?_eq_none (by omega)
        rw [q1, q2]; rfl
    · have MM2 := MM.step g2
      have Mm := hMade sts kvn kvl M
      refine b_ret t2 (ee_tup (ds := [machD ⟨names, sts.map gd, tableF (fun x l r => place (led x (sts.getD l (0, 0)) (sts.getD r (0, 0))) sts) sts.length m⟩, .ref pS]) (ea_cons (ee_tup (ea_cons (ee_v (pv 0) rfl (.str _)) (ea_cons (ee_v (pv 14) rfl ig) (ea_cons (d := tabD (tableF (fun x l r => place (led x (sts.getD l (0, 0)) (sts.getD r (0, 0))) sts) sts.length m)) (ex_call TB hr (by decide) rfl (ea_cons (ee_v (pv 6) rfl (.ref _)) (ea_cons (ee_lenL rfl G.len (ee_v (pv 4) rfl (.ref _)) (g2.lst hxs)) (ea_cons (ee_v (pv 7) rfl (.int _)) ea_nil)))
        (fun Ha Hb ga gb => ⟨_, ⟨pL, kvl, xs.length, m, _, by omega, by omega, rfl, (ga.trans gb).dT MM2.l, fun x l r hx hl hr => M.table hx (by omega) (by omega), rfl⟩, fun v H3 g3 q => by rw [hxl] at q; exact q⟩)) ea_nil))) (sz_ok (by show 3 ≤ 1000000; decide))) (ea_cons (ee_v (pv 4) rfl (.ref _)) ea_nil)) (sz_ok (by show 2 ≤ 1000000; decide))) fun v H3 g3 t3 i3 => ?_
      exact ⟨(MM2.step g3).g, _, sts, pS, xs, Mm, i3, A.s, (g2.trans g3).lst hxs, ixs.mono (g2.trans g3).ti⟩
end
end Tk
set_option Elab.async false
set_option linter.all false
set_option maxRecDepth 100000
/-! paired_machine. -/
namespace Tk
open PySem PySem.Spec PyProof.Rows L2 LamX NdefX
/-- a nested def's function, as a value, while its maker's cells are frozen -/
theorem fv_made {X : Cx} {T : List NTab} {σ : L2.St} {Hm : Hp} {C : Fz} {F : NF} {f : Addr} {N ps fr : List Str} {js : List Nat} {ws : List V} {k : Nat} {Cd : List D → D → Prop} (ok : X.Ok) (hC : Cells X σ Hm C) (S : NScope N ps fr F.scope) (cp : Caps X F.cl fr js) (hws : js.map (fun j => σ[j]?) = ws.map fun v => some (some v))
    (hb : ∀ (doc pm ctv : Value) (us : List Value), us.length = ps.length → bindArgs (F.fd doc pm ctv) ⟨us, []⟩ = pure (ps.zip us)) (hf : Hm f = some (FnO f F)) (hc : Hm F.c = some (CodeO F.c F.qual)) (len : ∀ ds d, Cd ds d → ds.length = ps.length)
    (body : ∀ (A : Around) (outer : List Env) (s : Shared) (H : Hp) (vs : List V) (ds : List D) (d : D), Room k (A.deeper (envF F f s.heap.objs.size)) → Gx T Hm H → TabsN T H → IsAll H ds vs → Cd ds d →
      wB (ncx CX0 X.prog X.w X.K X.mg X.base N F f A outer s H E0).nox F.body { nx := fun _ H' => False, rt := fun v H' => Gx T H H' ∧ Is H' d v } (startF N vs (ws.map some)) H) : FvOk X.prog X.w X.K X.mg X.base T (k + 1) (frz C Hm) f Cd := by
  have l1 : js.length = fr.length := by have := congrArg List.length cp.at_; simpa using this
  have l2 : js.length = ws.length := by have := congrArg List.length hws; simpa using this
  refine fv_nested S hb (by omega) (fun y c e => ?_) (fun x y c e1 e2 => ok.inj x y c (cp.sub x c e1) (cp.sub y c e2)) (fun i y v e1 e2 => ?_) hC.fresh hf hc len body
  · obtain ⟨ob, h1, _⟩ := hC.all y c (cp.sub y c e)
    obtain ⟨v, h2⟩ := hC.cell c ob h1
    exact ⟨ob, v, h1, h2⟩
  · have hk := cp.kin y (List.mem_of_getElem? e1)
    obtain ⟨c, hc'⟩ : ∃ c, X.env.cells.lookup y = some c := hk.elim (fun z => ok.has y (.inl z)) fun z => ok.has y (.inr z)
    obtain ⟨ob, h1, h2⟩ := hC.all y c hc'
    have hi : i < js.length := by rw [l1]; exact (List.getElem?_eq_some_iff.mp e1).1
    have ej := List.getElem?_eq_getElem hi
    have q1 := congrArg (fun l => l[i]?) cp.at_
    have q2 := congrArg (fun l => l[i]?) hws
    simp only [List.getElem?_map, ej, e1, e2, Option.map_some] at q1 q2
    obtain ⟨u, r, hd⟩ := h2 js[i] v (Option.some.inj q1) (Option.some.inj q2) hk
    exact ⟨c, ob, u, cp.sup y (List.mem_of_getElem? e1) c hc', h1, hd, r⟩
section
variable {P : Program} {w : World} {K : PySem.W.Frag} {mg : Str → Option Value} {base : Heap} {T : List NTab} {f c Pt : Addr} {fd : FuncData}
abbrev sPaired : Stmt := topS 24
abbrev nPaired : List Str := ["one", "other", "is_good", "names", "ones", "others", "led", "good_pair"]
theorem sc_paired : FnScope nPaired ["one", "other", "is_good"] (defScope sPaired) := ⟨rfl, rfl, rfl, by decide +kernel, rfl, by decide +kernel, by decide +kernel⟩
abbrev sLed : Stmt := (defBody sPaired).getD 4 (.Pass ⟨0, 0, 0, 0⟩)
abbrev sGood : Stmt := (defBody sPaired).getD 5 (.Pass ⟨0, 0, 0, 0⟩)
abbrev nLed : List Str := ["number", "left", "right", "one", "ones", "other", "others", "first"]
abbrev nGood : List Str := ["pair", "is_good", "one", "other"]
theorem sc_led : NScope nLed ["number", "left", "right"] ["one", "ones", "other", "others"] (C8.fnScope sLed) := nscope_by (by decide +kernel)
theorem sc_good : NScope nGood ["pair"] ["is_good", "one", "other"] (C8.fnScope sGood) := nscope_by (by decide +kernel)
theorem nd_led : ndefB (defScope sPaired) (C8.fnScope sLed) ["one", "ones", "other", "others"] = true := by decide +kernel
theorem nd_good : ndefB (defScope sPaired) (C8.fnScope sGood) ["is_good", "one", "other"] = true := by decide +kernel
def nmPaired : Nat → Nat → Str := fun l _ => if l = 87 then "paired_machine.<locals>.led" else "paired_machine.<locals>.good_pair"
def OpC (op : Bool → Bool → Bool) (ds : List D) (d : D) : Prop := ∃ a b, ds = [.bl a, .bl b] ∧ d = .bl (op a b)
def gdP (A B : Mach) (op : Bool → Bool → Bool) (p : Pr) : Bool := op (A.g p.1) (B.g p.2)
def R_paired (P : Program) (w : World) (K : PySem.W.Frag) (mg : Str → Option Value) (base : Heap) (T : List NTab) : Hp → List D → (Hp → V → Prop) → Prop := fun H ds post => ∃ (A B : Mach) (op : Bool → Bool → Bool) (f : Addr) (Bn : Nat),
  A.Ok ∧ B.Ok ∧ A.names.length ≤ 100 ∧ B.names.length ≤ 100 ∧ ds = [machD A, machD B, .ref f] ∧ FvOk P w K mg base T 1 H f (OpC op) ∧ (both_ A B).length ≤ 13 ∧ Bd (ledP A B (both_ A B)) (2 ^ (both_ A B).length) Bn ∧ Bn * Bn * 2 ^ (both_ A B).length ≤ 10000 ∧
  post = fun H' v => ∃ W sts ps xs, Made (both_ A B) (ledP A B (both_ A B)) (gdP A B op) W sts ∧ Is H' (.tup [machD W, .ref ps]) v ∧ H ps = none ∧ H' ps = some (.lst xs) ∧ IsAll H' (sts.map prD) xs
theorem reach_rooms {A B : Mach} (hA : A.Ok) (hB : B.Ok) {N : List Nat} {m : Nat} {p : Pr} (h : Reach (ledP A B N) m p) : p.1 < A.rooms ∧ p.2 < B.rooms := by
  obtain ⟨t, _, e⟩ := h
  rw [runG_pair] at e
  subst e
  exact ⟨okN hA N t, okN hB N t⟩
set_option maxHeartbeats 1000000 in
theorem ok_paired (F : FunC K "paired_machine" sPaired f fd c) (hm : mg "paired_machine" = some (.ref f)) (G : Glo mg) (tb : TabB base mg c Pt) (hT1 : (Pt, nmPaired) ∈ T) (hT2 : ∀ p ∈ T, p.1 = Pt → p.2 = nmPaired)
    (IO : DefOk P w K mg base T 1 "in_order" ["letters"] R_in_order) (W1 : DefOk P w K mg base T 1 "within_most" ["count", "names"] R_within) (TH : DefOk P w K mg base T 2 "thin_numbers" ["names", "wide"] R_thin) (MA : DefOk P w K mg base T 3 "made_from" ["names", "start", "led", "is_good"] (R_made P w K mg base T)) :
    DefOk P w K mg base T 4 "paired_machine" ["one", "other", "is_good"] (R_paired P w K mg base T) := by
  refine def_okC F hm sc_paired (fun _ _ _ _ _ _ us hl => match us, hl with | [_, _, _], _ => rfl) (fun H ds post ⟨_, _, _, _, _, _, _, _, _, e, _⟩ => by rw [e]; rfl) fun A outer s H E vs ds post hr hT hi ⟨MA1, MB1, op, fo, Bn, oA, oB, nA, nB, e1, Fo, hn, hBd, hBB, e2⟩ => ?_
  subst e1 e2
  obtain ⟨va, vb, _, rfl, ia, ib, i3⟩ := isAll3 hi
  cases i3
  have hu := room_u1 hr
  have hB1 : 1 ≤ Bn := by
    obtain ⟨code, hc⟩ := hBd
    have := (hc .nil trivial).1
    omega
  have eN : inOrder (MA1.names ++ MB1.names) = both_ MA1 MB1 := rfl
  generalize hN : both_ MA1 MB1 = N at *
  have hp := pow13 hn
  have hWi : within 1 N.length = true := within_ok hB1 hn hBB
  refine b_asgA (d := .str (tx N)) (ps_set (i := 3) sc_paired.nd rfl (Or.inl rfl) wE_pe) hT (ee_callA (u := .str (tx N)) IO hr (by decide) rfl (ea_cons (d := .str (tx (MA1.names ++ MB1.names))) (EE.is (ee_catS (mach_names (ee_v (pv 0) rfl ia)) (mach_names (ee_v (pv 1) rfl ib)) (by rw [tx_len, tx_len]; exact sz_ok (by omega))) (by rw [tx_app])) ea_nil) (fun H2 => ⟨_, rfl, by rw [eN]⟩) rfl) rfl fun H1 g1 t1 => ?_
  refine b_when (c := false) t1 (ET.is (et_not (et_val (c := true) (ee_callA (u := .bl true) W1 hr (by decide) rfl (ea_cons ee_int (ea_cons (ee_v (pv 3) rfl (.str _)) ea_nil)) (fun H2 => ⟨1, N, by omega, by omega, rfl, by rw [hWi]⟩) rfl))) rfl) (fun h => nomatch h) fun _ H2 g2 t2 => ?_
  refine b_asg (ps_set (i := 4) sc_paired.nd rfl (Or.inr rfl) wE_pe) t2 (ex_call (P := fun H1 v H2 => ∃ p, v = .ref p ∧ H2 p = some (.lst (natsV (thins MA1.names N)))) TH hr (by decide) rfl (ea_cons (mach_names (ee_v (pv 0) rfl (ia.mono (g1.trans g2).ti))) (ea_cons (ee_v (pv 3) rfl (.str _)) ea_nil))
    (fun Ha Hb ga gb => ⟨_, ⟨MA1.names, N, by omega, hn, rfl, rfl⟩, fun v H3 g3 ⟨p, h1, h2, h3⟩ => ⟨p, h1, h3⟩⟩)) fun v H3 g3 t3 ⟨pA, ev, hpA⟩ => ?_
  subst ev
  refine b_asg (ps_set (i := 5) sc_paired.nd rfl (Or.inr rfl) wE_pe) t3 (ex_call (P := fun H1 v H2 => ∃ p, v = .ref p ∧ H2 p = some (.lst (natsV (thins MB1.names N)))) TH hr (by decide) rfl (ea_cons (mach_names (ee_v (pv 1) rfl (ib.mono ((g1.trans g2).trans g3).ti))) (ea_cons (ee_v (pv 3) rfl (.str _)) ea_nil))
    (fun Ha Hb ga gb => ⟨_, ⟨MB1.names, N, by omega, hn, rfl, rfl⟩, fun v H3 g3 ⟨p, h1, h2, h3⟩ => ⟨p, h1, h3⟩⟩)) fun v H4 g4 t4 ⟨pB, ev, hpB⟩ => ?_
  subst ev
  have hpA := g4.lst hpA
  have gg := ((g1.trans g2).trans g3).trans g4
  have ia := ia.mono gg.ti
  have ib := ib.mono gg.ti
  refine b_ndef (ps_ndefMS (st := sLed) (name := "led") (i := 6) rfl tb rfl hT1 rfl hT2 (ndef_free nd_led) rfl rfl rfl sc_paired.nd rfl (Or.inl rfl) (Or.inl rfl)) t4 fun f1 c1 H5 g5 t5 hf1 hF1 hC1 => ?_
  refine b_ndef (ps_ndefMS (st := sGood) (name := "good_pair") (i := 7) rfl tb rfl hT1 rfl hT2 (ndef_free nd_good) rfl rfl rfl sc_paired.nd rfl (Or.inl rfl) (Or.inl rfl)) t5 fun f2 c2 H6 g6 t6 hf2 hF2 hC2 => ?_
  have hF1 := g6.any hF1 fun ps => fnO_ne ps
  have hC1 := g6.any hC1 fun ps => codeO_ne ps
  have g56 := g5.trans g6
  have ia := ia.mono g56.ti
  have ib := ib.mono g56.ti
  have hpA := g56.lst hpA
  have hpB := g56.lst hpB
  have g06 := gg.trans g56
  have Fo := Fo.ext g06
  refine b_ret t6 (ex_callFz (Po := fun H1 v H' => ∃ W sts ps xs, Made N (ledP MA1 MB1 N) (gdP MA1 MB1 op) W sts ∧ Is H' (.tup [machD W, .ref ps]) v ∧ H1 ps = none ∧ H' ps = some (.lst xs) ∧ IsAll H' (sts.map prD) xs) MA hr (by decide) rfl (fun _ => rfl)
    (ea_cons (ee_v (pv 3) rfl (.str _)) (ea_cons (d := prD (0, 0)) (ee_tup (ds := [.int (0 : Nat), .int (0 : Nat)]) (ea_cons ee_int (ea_cons ee_int ea_nil)) (sz_ok (by show 2 ≤ 1000000; decide))) (ea_cons (ee_v (pv 6) rfl (.ref _)) (ea_cons (ee_v (pv 7) rfl (.ref _)) ea_nil)))) ?_) fun v H7 g7 t7 q => ?_
  · intro Ha Hb C ok ga gb tbb hC
    have gab := ga.trans gb
    have ia := ia.mono gab.ti
    have ib := ib.mono gab.ti
    have hpA := gab.lst hpA
    have hpB := gab.lst hpB
    have hF1 := gab.any hF1 fun ps => fnO_ne ps
    have hC1 := gab.any hC1 fun ps => codeO_ne ps
    have hF2 := gab.any hF2 fun ps => fnO_ne ps
    have hC2 := gab.any hC2 fun ps => codeO_ne ps
    have Fo := Fo.ext gab
    refine ⟨_, ⟨N, ledP MA1 MB1 N, gdP MA1 MB1 op, Bn, f1, f2, hn, hBd, hBB, rfl, ?_, ?_, rfl⟩, ?_⟩
    · refine (fv_made (k := 1) (js := [0, 4, 1, 5]) (ws := [va, .ref pA, vb, .ref pB]) ok hC sc_led (Caps.made ok (ndef_free nd_led) (ndef_fr nd_led) rfl) rfl (fun _ _ _ us hl => match us, hl with | [_, _, _], _ => rfl) hF1 hC1 (fun ds d ⟨_, _, _, _, _, _, e, _⟩ => by rw [e]; rfl) fun A' outer' s' H' vs' ds' d' hr' g' t' i' ⟨x, p, q, hx, hp, hq, e1, e2⟩ => ?_)
      subst e1 e2
      obtain ⟨_, vp, vq, rfl, j1, jp, jq⟩ := isAll3 i'
      cases j1
      obtain ⟨hp1, hp2⟩ := reach_rooms oA oB hp
      obtain ⟨hq1, hq2⟩ := reach_rooms oA oB hq
      have ia := ia.mono g'.ti
      have ib := ib.mono g'.ti
      have hpA := g'.lst hpA
      have hpB := g'.lst hpB
      have hth : ∀ L : List Nat, (natsV (thins L N))[x]? = some (.int (thin L N x : Nat)) := fun L => by
        unfold natsV thins
        rw [List.getElem?_map, List.getElem?_map, List.getElem?_range hx]; rfl
      refine b_asgA (d := .int (dThin MA1 N x p.1 q.1 : Nat)) (ps_set (i := 7) sc_led.nd rfl (Or.inl rfl) wE_pe) t' (mach_at oA (mach_table (ee_v (pv 3) rfl ia)) (ee_ixL (ee_v (pv 4) rfl (.ref _)) hpA (ee_v (pv 0) rfl (.int _)) (atI_nat (hth MA1.names)) (.int _)) (thin_lt _ _ _) (ee_ixT (ds := natsD [p.1, p.2]) (i := 0) (ee_v (pv 1) rfl jp) ee_int rfl) hp1 (ee_ixT (ds := natsD [q.1, q.2]) (i := 0) (ee_v (pv 2) rfl jq) ee_int rfl) hq1) rfl fun H1' g1' t1' => ?_
      refine b_ret (P := fun _ v H2 => Is H2 (prD (ledP MA1 MB1 N x p q)) v) t1' (ee_tup (ds := natsD [dThin MA1 N x p.1 q.1, dThin MB1 N x p.2 q.2]) (ea_cons (ee_v (pv 7) rfl (.int _)) (ea_cons (mach_at oB (mach_table (ee_v (pv 5) rfl (ib.mono g1'.ti))) (ee_ixL (ee_v (pv 6) rfl (.ref _)) (g1'.lst hpB) (ee_v (pv 0) rfl (.int _)) (atI_nat (hth MB1.names)) (.int _)) (thin_lt _ _ _) (ee_ixT (ds := natsD [p.1, p.2]) (i := 1) (ee_v (pv 1) rfl (jp.mono g1'.ti)) ee_int rfl) hp2 (ee_ixT (ds := natsD [q.1, q.2]) (i := 1) (ee_v (pv 2) rfl (jq.mono g1'.ti)) ee_int rfl) hq2) ea_nil)) (sz_ok (by show 2 ≤ 1000000; decide))) fun v H2' g2' t2' i => ⟨g1'.trans g2', i⟩
    · refine (fv_made (k := 1) (js := [2, 0, 1]) (ws := [.ref fo, va, vb]) ok hC sc_good (Caps.made ok (ndef_free nd_good) (ndef_fr nd_good) rfl) rfl (fun _ _ _ us hl => match us, hl with | [_], _ => rfl) hF2 hC2 (fun ds d ⟨_, _, e, _⟩ => by rw [e]; rfl) fun A' outer' s' H' vs' ds' d' hr' g' t' i' ⟨p, hp, e1, e2⟩ => ?_)
      subst e1 e2
      obtain ⟨vp, rfl, jp⟩ := isAll1 i'
      obtain ⟨hp1, hp2⟩ := reach_rooms oA oB hp
      refine b_ret t' (ee_callF (i := 1) (d := .bl (gdP MA1 MB1 op p)) (Fo.ext g') hr' (by decide) rfl (ea_cons (mach_room (ee_v (pv 2) rfl (ia.mono g'.ti)) (ee_ixT (ds := natsD [p.1, p.2]) (i := 0) (ee_v (pv 0) rfl jp) ee_int rfl) hp1) (ea_cons (mach_room (ee_v (pv 3) rfl (ib.mono g'.ti)) (ee_ixT (ds := natsD [p.1, p.2]) (i := 1) (ee_v (pv 0) rfl jp) ee_int rfl) hp2) ea_nil)) ⟨_, _, rfl, rfl⟩) fun v H2' g2' t2' i => ⟨g2', i⟩
    · rintro v H3 g3 ⟨W, sts, ps, xs, h1, h2, h3, h4, h5⟩
      have fz : Frozen C H3 := (frozen_frz C Hb).ext g3
      refine ⟨W, sts, ps, xs, h1, h2.mono fz.ti, ?_, fz.lst h4, h5.mono fz.ti⟩
      have : Hb ps = none := by
        cases e : C ps with
        | some ob => exact hC.fresh ps ob e
        | none => rwa [frz_ne e] at h3
      exact gb.low ps this
  · obtain ⟨W, sts, ps, xs, h1, h2, h3, h4, h5⟩ := q
    exact ⟨g06.trans g7, W, sts, ps, xs, h1, h2, g06.low ps h3, h4, h5⟩
end
end Tk
set_option Elab.async false
set_option linter.all false
set_option maxRecDepth 100000
/-! Trees; offer_newest. -/
namespace Tk
open PySem PySem.Spec PyProof.Rows L2 LamX NdefX

/-! ### a def that writes one dict that its caller knows -/
/-- all stays but the dict at p -/
structure GxB (T : List NTab) (p : Addr) (H H' : Hp) : Prop where
  ext : ∀ b o, b ≠ p → H b = some o → (∀ ps, o ≠ .tbl ps) → H' b = some o
  low : ∀ b, H' b = none → H b = none
  tab : TabsN T H → TabsN T H'
section
variable {T : List NTab} {p : Addr} {H H1 H2 : Hp}
theorem GxB.of (g : Gx T H H1) : GxB T p H H1 := ⟨fun b o _ => g.ext b o, g.low, g.tab⟩
theorem GxB.trans (a : GxB T p H H1) (b : GxB T p H1 H2) : GxB T p H H2 := ⟨fun c o n e z => b.ext c o n (a.ext c o n e z) z, fun c e => a.low c (b.low c e), fun t => b.tab (a.tab t)⟩
theorem GxB.put {kvs kvs' : List (L2.Key × V)} (h : H p = some (.dK kvs)) : GxB T p H (upd H p (.dK kvs')) := ⟨fun b o n e _ => by rw [upd_ne n]; exact e, fun b e => upd_none e, fun t => tabs_dK t h⟩
theorem GxB.gx (g : GxB T p H1 H2) (h0 : Gx T H H1) (h : H p = none) : Gx T H H2 := ⟨fun b o e n => g.ext b o (ne_of_none e h) (h0.ext b o e n) n, fun b e => h0.low b (g.low b e), fun t => g.tab (h0.tab t)⟩
theorem GxB.any (g : GxB T p H H1) {b : Addr} {o : HO} (h : H b = some o) (hb : b ≠ p) (hn : ∀ ps, o ≠ .tbl ps) : H1 b = some o := g.ext b o hb h hn
theorem GxB.ti (g : GxB T p H H1) {kvs : List (L2.Key × V)} (h : H p = some (.dK kvs)) : Ti H H1 := fun b xs e => g.ext b _ (fun z => by rw [z, h] at e; cases e) e fun ps z => by cases z
end
/-- a promise by data where what is tracked may change: post tells all of the heap behind -/
def spW (T : List NTab) (R : Hp → List D → (Hp → V → Prop) → Prop) : Sp := fun vs H Q _ => TabsN T H ∧ ∃ ds post, IsAll H ds vs ∧ R H ds post ∧ ∀ v H', post H' v → Q v H'
def DefOkW (P : Program) (w : World) (K : PySem.W.Frag) (mg : Str → Option Value) (base : Heap) (T : List NTab) (k : Nat) (x : Str) (ps : List Str) (R : Hp → List D → (Hp → V → Prop) → Prop) : Prop :=
  ∃ f fd, mg x = some (.ref f) ∧ PySem.W.keepIn K (.ref f) = true ∧ Binds K fd ps [] ∧ FnOk P w K mg base CX0 k f fd ps (spW T R)
section
variable {P : Program} {w : World} {K : PySem.W.Frag} {mg : Str → Option Value} {base : Heap} {T : List NTab}
theorem def_okW {x : Str} {st : Stmt} {f : Addr} {fd : FuncData} {N ps : List Str} {k : Nat} {R : Hp → List D → (Hp → V → Prop) → Prop} (F : Fun K x x st f fd) (hm : mg x = some (.ref f)) (S : FnScope N ps (defScope st))
    (hb : ∀ (kV doc pm : Value) (an : Option Addr) (cdv ct : Value) (us : List Value), us.length = ps.length → bindArgs (PySem.W.fnOf x x (defArgs st) (defBody st) (defScope st) .none kV doc pm an cdv ct) ⟨us, []⟩ = pure (ps.zip us))
    (len : ∀ H ds post, R H ds post → ds.length = ps.length)
    (body : ∀ (cdv : Value) (A : Around) (outer : List Env) (s : Shared) (H : Hp) (E : XK) (vs : List V) (ds : List D) (post : Hp → V → Prop), Room k (A.deeper (envOfC x (defScope st) s.heap.objs.size f cdv)) → TabsN T H → IsAll H ds vs → R H ds post →
      wB (cx0 P w K mg base N x st f cdv A outer s H E) (defBody st) { nx := fun _ H' => post H' .non, rt := fun v H' => post H' v } (start N vs) H) : DefOkW P w K mg base T (k + 1) x ps R := by
  refine ⟨f, fd, hm, F.kp, F.binds hb, F.ok S (fun vs H Q E ⟨_, ds, post, h1, h2, _⟩ => by rw [← h1.length]; exact len H ds post h2) fun cdv A outer s H vs Q E hr ⟨hT, ds, post, h1, h2, h3⟩ => ⟨_, wB_pss, ?_⟩⟩
  exact wB_imp (body cdv A outer s H E vs ds post hr hT h1 h2) (fun _ H' q => h3 _ _ q) (fun v H' q => h3 _ _ q) (fun _ _ z => z) (fun _ _ z => z)
/-- f(..) as a statement -/
theorem b_callW {X : Cx} {σ : L2.St} {H : Hp} {e : Expr} {es : List Expr} {p1 cpos pos : Pos} {ds : List D} {k j : Nat} {x1 : Str} {ps : List Str} {R : Hp → List D → (Hp → V → Prop) → Prop} {rest : List Stmt} {D' : Ends} (F : DefOkW X.prog X.w X.K X.mg X.base T k x1 ps R) (hr : Room j X.A) (hk : k ≤ j) (hg : Gl X x1) (hT : TabsN T H) (ha : EA T X σ H (e :: es) ds)
    (hR : ∀ H2, Gx T H H2 → TabsN T H2 → ∃ post, R H2 ds post ∧ ∀ v H3, post H3 v → wB X rest D' σ H3) (hdb : (x1 == ("__debug__" : Str)) = false := by decide)
    (he : starEach (e :: es) X.env = (false, eval e X.env) :: starEach es X.env := by rfl) (hpl : (backTo cpos (starEach es X.env)).any (·.1) = false := by rfl) (hs : swapsWith (.Call (.Name x1 p1) (e :: es) [] cpos) none pos.line X.env = pure false := by rfl) :
    wB X (.Expr (.Call (.Name x1 p1) (e :: es) [] cpos) pos :: rest) D' σ H := by
  obtain ⟨f, fd, hm, hkp, hb, F⟩ := F
  refine b_ps (ps_expr (pe_call (E := E0) F (hr.mono hk) hg hm hkp hb .nil pass0 wA_pa hdb he hpl) hs) (wA_imp (ha H (Gx.refl _) hT) fun vs H2 ⟨g2, i2⟩ => ?_)
  obtain ⟨post, h1, h2⟩ := hR H2 g2 (g2.tab hT)
  exact ⟨g2.tab hT, ds, post, by rw [List.append_nil]; exact i2, h1, fun v H' q => h2 v H' q⟩
end

/-! ### trees as data -/
def placeD (p : Nat × List Nat) : D := .tup [.int (p.1 : Nat), .str (tx p.2)]
def treeD (t : List (Nat × List Nat)) : D := .tup (t.map placeD)
section
variable {P : Program} {w : World} {K : PySem.W.Frag} {mg : Str → Option Value} {base : Heap} {T : List NTab} {f : Addr} {fd : FuncData}
abbrev sBranches : Stmt := topS 27
theorem sc_branches : FnScope ["left", "right", "number"] ["left", "right"] (defScope sBranches) := ⟨rfl, rfl, rfl, by decide +kernel, rfl, by decide +kernel, by decide +kernel⟩
def brs (a b : Nat) : Nat := (if a > 0 then 1 else 0) + (if b > 0 then 2 else 0)
def R_branches : Hp → List D → (Hp → V → Prop) → Prop := fun _ ds post => ∃ a b : List D, ds = [.tup a, .tup b] ∧ post = fun _ v => v = .int (brs a.length b.length : Nat)
theorem ok_branches (F : Fun K "branches_by" "branches_by" sBranches f fd) (hm : mg "branches_by" = some (.ref f)) (G : Glo mg) : DefOk P w K mg base T 1 "branches_by" ["left", "right"] R_branches := by
  refine def_ok F hm sc_branches (fun _ _ _ _ _ _ us hl => match us, hl with | [_, _], _ => rfl) (fun H ds post ⟨_, _, e, _⟩ => by rw [e]; rfl) fun cdv A outer s H E vs ds post hr hT hi ⟨a, b, e1, e2⟩ => ?_
  subst e1 e2
  obtain ⟨va, vb, rfl, i1, i2⟩ := isAll2 hi
  refine b_asgA (ps_set (i := 2) sc_branches.nd rfl (.inl rfl) wE_pe) hT ee_int rfl fun H1 g1 t1 => ?_
  refine b_whenI (fun σ' H' => σ' = [some va, some vb, some (.int ((if a.length > 0 then 1 else 0 : Nat) : Int))] ∧ Gx T H H') t1 (et_gt (ee_lenT rfl G.len (ee_v (pv 0) rfl (i1.mono g1.ti))) ee_int) (fun hc H2 g2 t2 => ?_) (fun hc H2 g2 t2 => ?_) ?_
  · refine b_asgA (ps_set (i := 2) sc_branches.nd rfl (.inl rfl) wE_pe) t2 ee_int rfl fun H3 g3 t3 => b_nil ⟨?_, (g1.trans g2).trans g3⟩
    have : a.length > 0 := by have := of_decide_eq_true hc; omega
    rw [if_pos this]; rfl
  · refine ⟨?_, g1.trans g2⟩
    have : ¬ a.length > 0 := by have := of_decide_eq_false hc; omega
    rw [if_neg this]; rfl
  · rintro σ' H' ⟨rfl, g⟩
    refine b_whenI (fun σ' H' => σ' = [some va, some vb, some (.int (brs a.length b.length : Nat))] ∧ Gx T H H') (g.tab hT) (et_gt (ee_lenT rfl G.len (ee_v (pv 1) rfl (i2.mono g.ti))) ee_int) (fun hc H2 g2 t2 => ?_) (fun hc H2 g2 t2 => ?_) ?_
    · refine b_asgA (d := .int (brs a.length b.length : Nat)) (ps_set (i := 2) sc_branches.nd rfl (.inl rfl) wE_pe) t2 (EE.is (ee_add (ee_v (pv 2) rfl (.int _)) ee_int) ?_) rfl fun H3 g3 t3 => b_nil ⟨rfl, (g.trans g2).trans g3⟩
      have : b.length > 0 := by have := of_decide_eq_true hc; omega
      unfold brs
      rw [if_pos this]; rfl
    · refine ⟨?_, g.trans g2⟩
      have : ¬ b.length > 0 := by have := of_decide_eq_false hc; omega
      unfold brs
      rw [if_neg this]; rfl
    · rintro σ' H' ⟨rfl, g⟩
      exact b_ret (g.tab hT) (ee_v (pv 2) rfl (.int _)) fun v H1 g1 t1 i => ⟨g.trans g1, i.int_eq⟩

abbrev sJoined : Stmt := topS 28
theorem sc_joined : FnScope ["left", "right", "marks"] ["left", "right", "marks"] (defScope sJoined) := ⟨rfl, rfl, rfl, by decide +kernel, rfl, by decide +kernel, by decide +kernel⟩
def R_joined : Hp → List D → (Hp → V → Prop) → Prop := fun _ ds post => ∃ (a b : List (Nat × List Nat)) (ms : List Nat), a.length + b.length + 1 ≤ 100 ∧ ds = [treeD a, treeD b, .str (tx ms)] ∧ post = fun H' v => Is H' (treeD (a ++ b ++ [(brs a.length b.length, ms)])) v
theorem ok_joined (F : Fun K "joined" "joined" sJoined f fd) (hm : mg "joined" = some (.ref f)) (G : Glo mg) (BR : DefOk P w K mg base T 1 "branches_by" ["left", "right"] R_branches) : DefOk P w K mg base T 2 "joined" ["left", "right", "marks"] R_joined := by
  refine def_ok F hm sc_joined (fun _ _ _ _ _ _ us hl => match us, hl with | [_, _, _], _ => rfl) (fun H ds post ⟨_, _, _, _, e, _⟩ => by rw [e]; rfl) fun cdv A outer s H E vs ds post hr hT hi ⟨a, b, ms, hl, e1, e2⟩ => ?_
  subst e1 e2
  obtain ⟨va, vb, _, rfl, i1, i2, i3⟩ := isAll3 hi
  cases i3
  refine b_when (c := false) hT (ET.is (et_gt (ee_add (ee_add (ee_lenT rfl G.len (ee_v (pv 0) rfl i1)) (ee_lenT rfl G.len (ee_v (pv 1) rfl i2))) ee_int) (ee_gI rfl G.places1)) (by rw [decide_eq_false_iff_not, List.length_map, List.length_map]; omega)) (fun h => nomatch h) fun _ H1 g1 t1 => ?_
  refine b_ret t1 (ee_catT (ee_catT (ee_v (pv 0) rfl (i1.mono g1.ti)) (ee_v (pv 1) rfl (i2.mono g1.ti)) (by rw [List.length_map, List.length_map]; exact sz_ok (by omega))) (ee_tup (ea_cons (ee_tup (ea_cons (ee_callA (d := .int (brs a.length b.length : Nat)) (u := .int (brs a.length b.length : Nat)) BR hr (by decide) rfl (ea_cons (ee_v (pv 0) rfl (i1.mono g1.ti)) (ea_cons (ee_v (pv 1) rfl (i2.mono g1.ti)) ea_nil)) (fun H2 => ⟨_, _, rfl, by rw [List.length_map, List.length_map]⟩) rfl) (ea_cons (ee_v (pv 2) rfl (.str _)) ea_nil)) (sz_ok (by show 2 ≤ 1000000; decide))) ea_nil) (sz_ok (by show 1 ≤ 1000000; decide))) (by rw [List.length_append, List.length_map, List.length_map]; exact sz_ok (by simp; omega))) fun v H2 g2 t2 i => ⟨g1.trans g2, ?_⟩
  unfold treeD
  rw [List.map_append, List.map_append]
  exact i
end
end Tk
set_option Elab.async false
set_option linter.all false
set_option maxRecDepth 100000
/-! offer_newest. -/
namespace Tk
open PySem PySem.Spec PyProof.Rows L2 LamX NdefX
def keyD (k : Key) : D := .tup (natsD [k.1, k.2.1, k.2.2.1, k.2.2.2])
/-- what the dict of offers holds -/
def OffV (H : Hp) : Option V → Option Key → Prop
  | none, none => True
  | some v, some k => Is H (keyD k) v
  | _, _ => False
structure OffRep (R : Nat) (H : Hp) (kvo : List (L2.Key × V)) (off : Nat → Option Key) : Prop where
  keys : ∃ qs : List Nat, kvo.map (·.1) = kN qs ∧ qs.Nodup ∧ ∀ q ∈ qs, q < R
  at_ : ∀ q : Nat, OffV H (valV kvo (.inl (q : Int))) (off q)
theorem OffV.mono {H H' : Hp} (t : Ti H H') : ∀ {a b}, OffV H a b → OffV H' a b
  | none, none, h => trivial
  | some v, some k, h => Is.mono t h
  | none, some _, h => h.elim
  | some _, none, h => h.elim
theorem OffRep.mono {R : Nat} {H H' : Hp} {kvo : List (L2.Key × V)} {off : Nat → Option Key} (t : Ti H H') (h : OffRep R H kvo off) : OffRep R H' kvo off := ⟨h.keys, fun q => (h.at_ q).mono t⟩
theorem inlN_inj {a b : Nat} (h : (Sum.inl (a : Int) : L2.Key) = .inl (b : Int)) : a = b := by have := Sum.inl.inj h; omega
theorem OffRep.len {R : Nat} {H : Hp} {kvo : List (L2.Key × V)} {off : Nat → Option Key} (h : OffRep R H kvo off) : kvo.length ≤ R := by
  obtain ⟨qs, e, nd, hl⟩ := h.keys
  have := nodup_le nd hl
  have e2 := congrArg List.length e
  simp [kN] at e2
  omega
theorem OffRep.put {R : Nat} {H : Hp} {kvo : List (L2.Key × V)} {off : Nat → Option Key} (h : OffRep R H kvo off) {q : Nat} {k : Key} {v : V} (hq : q < R) (hv : Is H (keyD k) v) : OffRep R H (putK kvo (.inl (q : Int)) v) (fun r => if r = q then some k else off r) := by
  refine ⟨?_, fun r => ?_⟩
  · obtain ⟨qs, e, nd, hl⟩ := h.keys
    unfold putK
    split
    · refine ⟨qs, ?_, nd, hl⟩
      rw [← e, List.map_map]
      refine List.map_congr_left fun kv _ => ?_
      show (if kv.1 = _ then (kv.1, v) else kv).1 = kv.1
      split <;> rfl
    · rename_i hn
      refine ⟨qs ++ [q], by rw [List.map_append, e]; simp [kN], ?_, fun r hr => ?_⟩
      · rw [List.nodup_append]
        refine ⟨nd, by simp, fun a ha b hb e2 => ?_⟩
        simp at hb; subst hb; subst e2
        apply hn
        have : (Sum.inl (a : Int) : L2.Key) ∈ kvo.map (·.1) := by rw [e]; exact List.mem_map.mpr ⟨a, ha, rfl⟩
        obtain ⟨kv, h1, h2⟩ := List.mem_map.mp this
        exact List.any_eq_true.mpr ⟨kv, h1, decide_eq_true h2⟩
      · rcases List.mem_append.mp hr with z | z
        · exact hl r z
        · simp at z; omega
  · rw [valV_put]
    by_cases e : r = q
    · subst e
      rw [if_pos rfl]
      simp only [if_pos]
      exact hv
    · rw [if_neg (fun z => e (inlN_inj z))]
      simp only [if_neg e]
      exact h.at_ r
theorem lex_klt (a b : Key) : HT.lexLt [((a.1 : Nat) : Int), (a.2.1 : Nat), (a.2.2.1 : Nat), (a.2.2.2 : Nat)] [((b.1 : Nat) : Int), (b.2.1 : Nat), (b.2.2.1 : Nat), (b.2.2.2 : Nat)] = true ↔ Klt a b := by
  unfold Klt
  simp only [HT.lexLt]
  obtain ⟨a1, a2, a3, a4⟩ := a
  obtain ⟨b1, b2, b3, b4⟩ := b
  simp only
  by_cases h1 : a1 = b1
  · subst h1
    rw [if_pos rfl]
    by_cases h2 : a2 = b2
    · subst h2
      rw [if_pos rfl]
      by_cases h3 : a3 = b3
      · subst h3
        rw [if_pos rfl]
        by_cases h4 : a4 = b4
        · subst h4
          rw [if_pos rfl]
          simp
        · rw [if_neg (by omega)]
          simp
      · rw [if_neg (by omega)]
        simp; omega
    · rw [if_neg (by omega)]
      simp; omega
  · rw [if_neg (by omega)]
    simp; omega
/-- a row -/
def whyD (d : Nat → Nat → Nat → Nat) : Tree → D
  | .nil => .tup (natsD [])
  | .node l r x => .tup (natsD [run d l, run d r, x])
def rowT (d : Nat → Nat → Nat → Nat) (T : Tree) : D := .tup [.int (run d T : Nat), .int (T.size : Nat), whyD d T]
section
variable {d : Nat → Nat → Nat → Nat} {m n r c x a b i j k : Nat}
abbrev QK (m n r : Nat) : Nat → Nat → Nat → Prop := fun i j x => (i < n - 1 ∧ j < n - 1 ∧ x < m) ∨ (x < m ∧ ((i < r ∧ j = n - 1) ∨ (i = n - 1 ∧ j < r)))
abbrev QC (m n r c : Nat) : Nat → Nat → Nat → Prop := fun i j x => (i < n - 1 ∧ j < n - 1 ∧ x < m) ∨ (x < m ∧ ((i < r ∧ j = n - 1) ∨ (i = n - 1 ∧ j < r))) ∨ (x < m ∧ ((1 ≤ c ∧ i = r ∧ j = n - 1) ∨ (2 ≤ c ∧ i = n - 1 ∧ j = r)))
abbrev QX (m n r c a b y : Nat) : Nat → Nat → Nat → Prop := fun i j x => QC m n r c i j x ∨ (i = a ∧ j = b ∧ x < y)
theorem q0_qk : (i < n - 1 ∧ j < n - 1 ∧ x < m) ↔ QK m n 0 i j x := by omega
theorem qk_qc : QK m n r i j x ↔ QC m n r 0 i j x := by omega
theorem qc_qx : QC m n r c i j x ↔ QX m n r c a b 0 i j x := by unfold QX; omega
theorem qx_step : (QX m n r c a b k i j x ∨ (i = a ∧ j = b ∧ x = k)) ↔ QX m n r c a b (k + 1) i j x := by
  unfold QX
  constructor
  · rintro ((h | h) | h)
    · exact .inl h
    · exact .inr (by omega)
    · exact .inr (by omega)
  · rintro (h | ⟨h1, h2, h3⟩)
    · exact .inl (.inl h)
    · by_cases e : x = k
      · exact .inr ⟨h1, h2, e⟩
      · exact .inl (.inr ⟨h1, h2, by omega⟩)
theorem qx_qc (hab : (c = 0 ∧ a = r ∧ b = n - 1) ∨ (c = 1 ∧ a = n - 1 ∧ b = r)) : QX m n r c a b m i j x ↔ QC m n r (c + 1) i j x := by
  unfold QX QC
  rcases hab with ⟨rfl, rfl, rfl⟩ | ⟨rfl, rfl, rfl⟩ <;> omega
theorem qc_qk : QC m n r 2 i j x ↔ QK m n (r + 1) i j x := by omega
theorem qk_end (hn : 0 < n) : QK m n n i j x ↔ (i < n ∧ j < n ∧ x < m) := by omega
end
/-- the heap in the course of it -/
structure OH (T : List NTab) (R : Nat) (Hb H H' : Hp) (p : Addr) (kvo : List (L2.Key × V)) (off : Nat → Option Key) : Prop where
  g : GxB T p H H'
  ti : Ti Hb H'
  at_ : H' p = some (.dK kvo)
  rep : OffRep R H' kvo off
section
variable {T : List NTab} {R : Nat} {Hb Hb' H H' H1 : Hp} {p : Addr} {kvo : List (L2.Key × V)} {off : Nat → Option Key}
theorem OH.step (M : OH T R Hb H H' p kvo off) (g : Gx T H' H1) : OH T R Hb H H1 p kvo off := ⟨M.g.trans (.of g), M.ti.trans g.ti, g.dK M.at_, M.rep.mono g.ti⟩
theorem OH.re (M : OH T R Hb H H' p kvo off) : OH T R H' H H' p kvo off := ⟨M.g, Ti.refl _, M.at_, M.rep⟩
theorem OH.put (M : OH T R Hb H H' p kvo off) {q : Nat} {k : Key} {v : V} (hq : q < R) (hv : Is H' (keyD k) v) : OH T R Hb H (upd H' p (.dK (putK kvo (.inl (q : Int)) v))) p (putK kvo (.inl (q : Int)) v) (fun r => if r = q then some k else off r) :=
  ⟨M.g.trans (GxB.put M.at_), M.ti.trans (Ti.dK M.at_), upd_same, (M.rep.put hq hv).mono (Ti.dK M.at_)⟩
end
theorem at_row {d : Nat → Nat → Nat → Nat} {H : Hp} {Ts : List Tree} {xs : List V} {i : Nat} (h : IsAll H (Ts.map (rowT d)) xs) (hi : i < Ts.length) : ∃ v, xs[i]? = some v ∧ Is H (rowT d (at_ Ts i)) v := by
  have e : at_ Ts i = Ts[i] := at_get (List.getElem?_eq_getElem hi)
  exact h.get (by rw [List.getElem?_map, List.getElem?_eq_getElem hi, e]; rfl)
/-- or, the first true -/
theorem ET_or_true {T : List NTab} {X : Cx} {σ : L2.St} {H : Hp} {a b : Expr} {rest : List Expr} {pos : Pos} (h : ET T X σ H a true) : EW T X σ H (.BoolOp .Or (a :: b :: rest) pos) true := by
  have := ew_or (b := b) (rest := rest) (pos := pos) (c2 := true) h fun e => nomatch e
  exact this
/-- a < b, rows of numbers -/
theorem et_ltT {T : List NTab} {X : Cx} {σ : L2.St} {H : Hp} {a b : Expr} {pos : Pos} {k k' : Key} (hu : X.A.units < cLine) (ha : EE T X σ H a (keyD k)) (hb : EE T X σ H b (keyD k')) : ET T X σ H (.Compare a [.Lt] [b] pos) (HT.lexLt [((k.1 : Nat) : Int), (k.2.1 : Nat), (k.2.2.1 : Nat), (k.2.2.2 : Nat)] [((k'.1 : Nat) : Int), (k'.2.1 : Nat), (k'.2.2.1 : Nat), (k'.2.2.2 : Nat)]) :=
  et_cmpV (op_ltT hu) ha hb (nomark _) fun H1 H2 u v _ _ _ iu iv Q q => by
    cases iu with
    | tup h1 r1 =>
      cases iv with
      | tup h2 r2 =>
        have e1 := r1.nats
        have e2 := r2.nats
        subst e1 e2
        exact ⟨_, _, [(k.1 : Int), (k.2.1 : Int), (k.2.2.1 : Int), (k.2.2.2 : Int)], [(k'.1 : Int), (k'.2.1 : Int), (k'.2.2.1 : Int), (k'.2.2.2 : Int)], rfl, rfl, SqT.of h1, SqT.of h2, q _ _ (Gx.refl _) rfl⟩
section
variable {P : Program} {w : World} {K : PySem.W.Frag} {mg : Str → Option Value} {base : Heap} {T : List NTab} {f : Addr} {fd : FuncData}
abbrev sOffer : Stmt := topS 31
abbrev nOffer : List Str := ["table", "rows", "ranks", "offers", "newest", "rank", "left", "right", "size", "letter", "room", "key"]
theorem sc_offer : FnScope nOffer ["table", "rows", "ranks", "offers"] (defScope sOffer) := ⟨rfl, rfl, rfl, by decide +kernel, rfl, by decide +kernel, by decide +kernel⟩
def R_offer (T : List NTab) : Hp → List D → (Hp → V → Prop) → Prop := fun H ds post => ∃ (M : Mach) (Ts : List Tree) (pR pK pO : Addr) (xs : List V) (kvr kvo : List (L2.Key × V)) (off : Nat → Option Key),
  M.Ok ∧ M.rooms ≤ 10000 ∧ M.letters ≤ 100000 ∧ Ts.length ≤ 10000 ∧ 0 < Ts.length ∧ (∀ T ∈ Ts, T.ok M.letters) ∧ ds = [tabD M.table, .ref pR, .ref pK, .ref pO] ∧ H pR = some (.lst xs) ∧ IsAll H (Ts.map (rowT M.d)) xs ∧ H pK = some (.dK kvr) ∧ pK ≠ pO ∧ (∀ q : Nat, (valV kvr (.inl (q : Int))).isSome = decide (q ∈ rooms M.d Ts)) ∧
  H pO = some (.dK kvo) ∧ OffRep M.rooms H kvo off ∧ OffOk M.d M.letters Ts (fun i j x => i < Ts.length - 1 ∧ j < Ts.length - 1 ∧ x < M.letters) off ∧
  post = fun H' v => ∃ kvo' off', OH T M.rooms H H H' pO kvo' off' ∧ OffOk M.d M.letters Ts (fun i j x => i < Ts.length ∧ j < Ts.length ∧ x < M.letters) off'
set_option maxHeartbeats 1000000 in
theorem ok_offer (F : Fun K "offer_newest" "offer_newest" sOffer f fd) (hm : mg "offer_newest" = some (.ref f)) (G : Glo mg) : DefOkW P w K mg base T 1 "offer_newest" ["table", "rows", "ranks", "offers"] (R_offer T) := by
  refine def_okW F hm sc_offer (fun _ _ _ _ _ _ us hl => match us, hl with | [_, _, _, _], _ => rfl) (fun H ds post ⟨_, _, _, _, _, _, _, _, _, _, _, _, _, _, _, e, _⟩ => by rw [e]; rfl) fun cdv A outer s H E vs ds post hr hT hi ⟨M, Ts, pR, pK, pO, xs, kvr, kvo, off, hO, hR, hL, hTl, hT0, hTo, e1, hxs, ixs, hkr, hne, hrk, hko, rep, ofo, e2⟩ => ?_
  subst e1 e2
  obtain ⟨vt, _, _, _, rfl, it, i2, i3, i4⟩ := isAll4 hi
  cases i2; cases i3; cases i4
  have hu := room_u1 hr
  have hRO : pR ≠ pO := fun e => by rw [e, hko] at hxs; cases hxs
  have hxl : xs.length = Ts.length := by have := ixs.length; simpa using this.symm
  have htl : M.table.length = M.letters := hO.tl
  generalize hn : Ts.length = n at *
  generalize hm' : M.letters = m at *
  refine b_asgA (d := .int ((n - 1 : Nat) : Int)) (ps_set (i := 4) sc_offer.nd rfl (.inl rfl) wE_pe) hT (EE.is (ee_sub (ee_lenL rfl G.len (ee_v (pv 1) rfl (.ref _)) hxs) ee_int) (by congr 1; omega)) rfl fun H1 g1 t1 => ?_
  refine b_forN (j := 5) (n := n) sc_offer.nd rfl G.range rfl PassesOwn.never t1 (EE.is (ee_lenL rfl G.len (ee_v (pv 1) rfl (.ref _)) (g1.lst hxs)) (by rw [hxl])) (by omega)
    (fun r σ' H' => ∃ (kvo : List (L2.Key × V)) (off : Nat → Option Key) (v5 v6 v7 v8 v9 v10 v11 : Option V), σ' = [some vt, some (.ref pR), some (.ref pK), some (.ref pO), some (.int ((n - 1 : Nat) : Int)), v5, v6, v7, v8, v9, v10, v11] ∧ OH T M.rooms H H H' pO kvo off ∧ OffOk M.d m Ts (QK m n r) off)
    (fun H2 g2 t2 => ⟨kvo, off, none, none, none, none, none, none, none, rfl, ⟨.of (g1.trans g2), (g1.trans g2).ti, (g1.trans g2).dK hko, rep.mono (g1.trans g2).ti⟩, ofo.weak fun _ _ _ => q0_qk⟩) ?_ ?_
  · rintro r σ' H' hrn ⟨kvo, off, v5, v6, v7, v8, v9, v10, v11, rfl, MM, O⟩
    have hxs' := MM.g.any hxs hRO (fun _ e => by cases e)
    refine b_forT (ds := [.tup (natsD [r, n - 1]), .tup (natsD [n - 1, r])]) (gT := gTup _ 2 (gNs [6, 7])) (ps_for PassesOwn.never rfl (pi_tup wE_pe) (pg_tup rfl (pgs_cons (pg_name (i := 6) sc_offer.nd rfl (Or.inl rfl)) (pgs_cons (pg_name (i := 7) sc_offer.nd rfl (Or.inl rfl)) pgs_nil))) wB_pss) (MM.g.tab hT)
      (ee_tup (ea_cons (ee_tup (ea_cons (ee_v (pv 5) rfl (.int _)) (ea_cons (ee_v (pv 4) rfl (.int _)) ea_nil)) (sz_ok (by show 2 ≤ 1000000; decide))) (ea_cons (ee_tup (ea_cons (ee_v (pv 4) rfl (.int _)) (ea_cons (ee_v (pv 5) rfl (.int _)) ea_nil)) (sz_ok (by show 2 ≤ 1000000; decide))) ea_nil)) (sz_ok (by show 2 ≤ 1000000; decide))) fun H2 g2 t2 => ?_
    refine ⟨fun c σ' H' => ∃ (kvo : List (L2.Key × V)) (off : Nat → Option Key) (v6 v7 v8 v9 v10 v11 : Option V), σ' = [some vt, some (.ref pR), some (.ref pK), some (.ref pO), some (.int ((n - 1 : Nat) : Int)), some (.int (r : Nat)), v6, v7, v8, v9, v10, v11] ∧ OH T M.rooms H2 H H' pO kvo off ∧ OffOk M.d m Ts (QC m n r c) off,
      ⟨kvo, off, v6, v7, v8, v9, v10, v11, rfl, (MM.step g2).re, O.weak fun _ _ _ => qk_qc⟩, fun c σ' H' ⟨_, _, _, _, _, _, _, _, _, MM, _⟩ => MM.ti, ?_, ?_⟩
    · rintro c di v σ' H' hdi iv ⟨kvo, off, v6, v7, v8, v9, v10, v11, rfl, MM, O⟩
      obtain ⟨a, b, rfl, hab⟩ : ∃ a b : Nat, di = .tup (natsD [a, b]) ∧ ((c = 0 ∧ a = r ∧ b = n - 1) ∨ (c = 1 ∧ a = n - 1 ∧ b = r)) := by
        match c, hdi with
        | 0, h => exact ⟨r, n - 1, (by simpa using h.symm), .inl ⟨rfl, rfl, rfl⟩⟩
        | 1, h => exact ⟨n - 1, r, (by simpa using h.symm), .inr ⟨rfl, rfl, rfl⟩⟩
      refine tgt_tup (js := [6, 7]) iv rfl rfl _ fun σ2 ⟨us, hus, e⟩ => ?_
      obtain ⟨_, _, rfl, j1, j2⟩ := isAll2 (show IsAll H' [.int (a : Nat), .int (b : Nat)] us from hus)
      cases j1; cases j2
      subst e
      have hxs' := MM.g.any hxs hRO (fun _ e => by cases e)
      have tiH : Ti H H' := MM.g.ti hko
      have ixs' := ixs.mono tiH
      have ha : a < Ts.length := by omega
      have hb : b < Ts.length := by omega
      obtain ⟨va, hva, iva⟩ := at_row ixs' ha
      obtain ⟨vb, hvb, ivb⟩ := at_row ixs' hb
      have oa : (at_ Ts a).ok m := hTo _ (at_mem ha)
      have ob : (at_ Ts b).ok m := hTo _ (at_mem hb)
      have ra : run M.d (at_ Ts a) < M.rooms := hO.run (by rw [hm']; exact oa)
      have rb : run M.d (at_ Ts b) < M.rooms := hO.run (by rw [hm']; exact ob)
      have tT := MM.g.tab hT
      refine b_asgA (d := .int ((1 + (at_ Ts a).size + (at_ Ts b).size : Nat) : Int)) (ps_set (i := 8) sc_offer.nd rfl (.inl rfl) wE_pe) tT (EE.is (ee_add (ee_add ee_int (ee_ixT (ds := [.int (run M.d (at_ Ts a) : Nat), .int ((at_ Ts a).size : Nat), whyD M.d (at_ Ts a)]) (i := 1) (ee_ixL (ee_v (pv 1) rfl (.ref _)) hxs' (ee_v (pv 6) rfl (.int _)) (atI_nat hva) iva) ee_int rfl))
        (ee_ixT (ds := [.int (run M.d (at_ Ts b) : Nat), .int ((at_ Ts b).size : Nat), whyD M.d (at_ Ts b)]) (i := 1) (ee_ixL (ee_v (pv 1) rfl (.ref _)) hxs' (ee_v (pv 7) rfl (.int _)) (atI_nat hvb) ivb) ee_int rfl)) (by congr 1)) rfl fun H3 g3 t3 => ?_
      have MM := MM.step g3
      refine b_forN (j := 9) (n := m) sc_offer.nd rfl G.range rfl PassesOwn.never t3 (EE.is (ee_lenT rfl G.len (ee_v (pv 0) rfl (it.mono (tiH.trans g3.ti)))) (by rw [List.length_map, htl])) (by omega)
        (fun k σ' H' => ∃ (kvo : List (L2.Key × V)) (off : Nat → Option Key) (v9 v10 v11 : Option V), σ' = [some vt, some (.ref pR), some (.ref pK), some (.ref pO), some (.int ((n - 1 : Nat) : Int)), some (.int (r : Nat)), some (.int (a : Nat)), some (.int (b : Nat)), some (.int ((1 + (at_ Ts a).size + (at_ Ts b).size : Nat) : Int)), v9, v10, v11] ∧ OH T M.rooms H2 H H' pO kvo off ∧ OffOk M.d m Ts (QX m n r c a b k) off)
        (fun H4 g4 t4 => ⟨kvo, off, v9, v10, v11, rfl, MM.step g4, O.weak fun _ _ _ => qc_qx⟩) ?_ ?_
      · rintro k σ' H' hk ⟨kvo, off, v9, v10, v11, rfl, MM, O⟩
        have hxs' := MM.g.any hxs hRO (fun _ e => by cases e)
        have hkr' := MM.g.any hkr hne (fun _ e => by cases e)
        have tiH : Ti H H' := MM.g.ti hko
        have iva := (at_row (ixs.mono tiH) ha)
        obtain ⟨va, hva, iva⟩ := iva
        obtain ⟨vb, hvb, ivb⟩ := at_row (ixs.mono tiH) hb
        have tT := MM.g.tab hT
        refine b_asgA (d := .int (M.d k (run M.d (at_ Ts a)) (run M.d (at_ Ts b)) : Nat)) (ps_set (i := 10) sc_offer.nd rfl (.inl rfl) wE_pe) tT (mach_at hO (ee_v (pv 0) rfl (it.mono tiH)) (ee_v (pv 9) rfl (.int _)) (by rw [hm']; exact hk)
          (ee_ixT (ds := [.int (run M.d (at_ Ts a) : Nat), .int ((at_ Ts a).size : Nat), whyD M.d (at_ Ts a)]) (i := 0) (ee_ixL (ee_v (pv 1) rfl (.ref _)) hxs' (ee_v (pv 6) rfl (.int _)) (atI_nat hva) iva) ee_int rfl) ra
          (ee_ixT (ds := [.int (run M.d (at_ Ts b) : Nat), .int ((at_ Ts b).size : Nat), whyD M.d (at_ Ts b)]) (i := 0) (ee_ixL (ee_v (pv 1) rfl (.ref _)) hxs' (ee_v (pv 7) rfl (.int _)) (atI_nat hvb) ivb) ee_int rfl) rb) rfl fun H3 g3 t3 => ?_
        refine b_asg (ps_set (i := 11) sc_offer.nd rfl (.inl rfl) wE_pe) t3 (ee_tup (ds := natsD [1 + (at_ Ts a).size + (at_ Ts b).size, a, b, k]) (ea_cons (ee_v (pv 8) rfl (.int _)) (ea_cons (ee_v (pv 6) rfl (.int _)) (ea_cons (ee_v (pv 7) rfl (.int _)) (ea_cons (ee_v (pv 9) rfl (.int _)) ea_nil)))) (sz_ok (by show 4 ≤ 1000000; decide))) fun vk H4 g4 t4 ik => ?_
        have MM := MM.step (g3.trans g4)
        have hkr' := (g3.trans g4).dK hkr'
        have hroom : M.d k (run M.d (at_ Ts a)) (run M.d (at_ Ts b)) = rm M.d Ts a b k := rfl
        have hq : rm M.d Ts a b k < M.rooms := hO.run (t := kt Ts a b k) (by rw [hm']; exact ⟨oa, ob, hk⟩)
        rw [hroom]
        have hatq := MM.rep.at_ (rm M.d Ts a b k)
        have ik : Is H4 (keyD (key Ts a b k)) vk := ik
        -- the condition
        have hcond : ∃ cc : Bool, (cc = true ↔ (rm M.d Ts a b k ∉ rooms M.d Ts ∧ ∀ k', off (rm M.d Ts a b k) = some k' → Klt (key Ts a b k) k')) ∧
            (∀ {p1 p2 p3 p4 p5 p6 p7 p8 p9 p10 p11 p12 p13 : Pos}, ET T (cx0 P w K mg base nOffer "offer_newest" sOffer f cdv A outer s H E) [some vt, some (.ref pR), some (.ref pK), some (.ref pO), some (.int ((n - 1 : Nat) : Int)), some (.int (r : Nat)), some (.int (a : Nat)), some (.int (b : Nat)), some (.int ((1 + (at_ Ts a).size + (at_ Ts b).size : Nat) : Int)), some (.int (k : Nat)), some (.int (rm M.d Ts a b k : Nat)), some vk] H4
              (.BoolOp .And [.Compare (.Name "room" p1) [.NotIn] [.Name "ranks" p2] p3, .BoolOp .Or [.Compare (.Name "room" p4) [.NotIn] [.Name "offers" p5] p6, .Compare (.Name "key" p7) [.Lt] [.Subscript (.Name "offers" p8) (.Name "room" p9) p10] p11] p12] p13) cc) := by
          cases ho : off (rm M.d Ts a b k) with
          | none =>
            have hv : valV kvo (.inl (rm M.d Ts a b k : Int)) = none := by
              rw [ho] at hatq
              cases hv : valV kvo (.inl (rm M.d Ts a b k : Int)) with
              | none => rfl
              | some v => rw [hv] at hatq; exact hatq.elim
            refine ⟨_, ?_, fun {p1 p2 p3 p4 p5 p6 p7 p8 p9 p10 p11 p12 p13} => EW.et (ew_and (c2 := true) (et_dnot hu (ee_v (pv 10) rfl (.int _)) (ee_v (pv 2) rfl (.ref _)) hkr') fun _ => ew_and1 (EW.et (ET_or_true (ET.is (et_dnot hu (ee_v (pv 10) rfl (.int _)) (ee_v (pv 3) rfl (.ref _)) MM.at_) (by rw [hv]; rfl)))))⟩
            rw [hrk]
            simp
          | some k' =>
            have hv : ∃ v, valV kvo (.inl (rm M.d Ts a b k : Int)) = some v ∧ Is H4 (keyD k') v := by
              rw [ho] at hatq
              cases hv : valV kvo (.inl (rm M.d Ts a b k : Int)) with
              | none => rw [hv] at hatq; exact hatq.elim
              | some v => rw [hv] at hatq; exact ⟨v, rfl, hatq⟩
            obtain ⟨v', hv, iv'⟩ := hv
            refine ⟨_, ?_, fun {p1 p2 p3 p4 p5 p6 p7 p8 p9 p10 p11 p12 p13} => EW.et (ew_and (et_dnot hu (ee_v (pv 10) rfl (.int _)) (ee_v (pv 2) rfl (.ref _)) hkr') fun _ => ew_and1 (EW.et (ew_or (ET.is (et_dnot hu (ee_v (pv 10) rfl (.int _)) (ee_v (pv 3) rfl (.ref _)) MM.at_) (c' := false) (by rw [hv]; rfl)) fun _ => ew_or1 (et_ltT (k := key Ts a b k) (k' := k') (Nat.lt_of_succ_lt hu) (ee_v (pv 11) rfl ik) (ee_dgetK hu (ee_v (pv 3) rfl (.ref _)) MM.at_ (ee_v (pv 10) rfl (.int _)) hv iv')))))⟩
            rw [hrk, Bool.and_eq_true, Bool.false_or, lex_klt]
            simp
        obtain ⟨cc, hcc, het⟩ := hcond
        have off_eq : cc = true → ∀ q, (if q = rm M.d Ts a b k then some (key Ts a b k) else off q) = if q = rm M.d Ts a b k ∧ q ∉ rooms M.d Ts ∧ (∀ k', off q = some k' → Klt (key Ts a b k) k') then some (key Ts a b k) else off q := fun h q => by
          by_cases e : q = rm M.d Ts a b k
          · rw [if_pos e, if_pos ⟨e, by rw [e]; exact (hcc.mp h).1, by rw [e]; exact (hcc.mp h).2⟩]
          · rw [if_neg e, if_neg fun z => e z.1]
        have off_no : cc = false → ∀ q, off q = if q = rm M.d Ts a b k ∧ q ∉ rooms M.d Ts ∧ (∀ k', off q = some k' → Klt (key Ts a b k) k') then some (key Ts a b k) else off q := fun h q => by
          rw [if_neg]
          rintro ⟨e, h1, h2⟩
          rw [e] at h1 h2
          have := hcc.mpr ⟨h1, h2⟩
          rw [h] at this; cases this
        refine b_when t4 het (fun hc H5 g5 t5 => ?_) (fun hc H5 g5 t5 => ?_)
        · have MM := MM.step g5
          refine b_dputK (P := fun _ v H2 => Is H2 (keyD (key Ts a b k)) v) (ps_dput hu wE_pe wE_pe wE_pe rfl) t5 (ee_v (pv 11) rfl (ik.mono g5.ti)) (ee_v (pv 3) rfl (.ref _)) MM.at_ (sz_lt (by have := MM.rep.len; omega)) (ee_v (pv 10) rfl (.int _)) fun v H6 H7 g6 g7 t7 iv h7 => b_nil (b_nil ?_)
          have MM' := (MM.step (g6.trans g7)).put hq (iv.mono g7.ti)
          exact ⟨_, _, _, _, _, rfl, MM', ((O.offer ha hb hk (off_eq hc)).weak fun _ _ _ => qx_step)⟩
        · exact b_nil ⟨kvo, off, _, _, _, rfl, MM.step g5, ((O.offer ha hb hk (off_no hc)).weak fun _ _ _ => qx_step)⟩
      · rintro σ' H' ⟨kvo, off, v9, v10, v11, rfl, MM, O⟩
        exact b_nil ⟨kvo, off, _, _, _, _, _, _, rfl, MM, O.weak fun _ _ _ => qx_qc hab⟩
    · rintro σ' H' ⟨kvo, off, v6, v7, v8, v9, v10, v11, rfl, MM, O⟩
      exact b_nil ⟨kvo, off, _, _, _, _, _, _, _, rfl, ⟨MM.g, MM.g.ti hko, MM.at_, MM.rep⟩, O.weak fun _ _ _ => qc_qk⟩
  · rintro σ' H' ⟨kvo, off, v5, v6, v7, v8, v9, v10, v11, rfl, MM, O⟩
    exact b_nil ⟨kvo, off, MM, O.weak fun _ _ _ => qk_end hT0⟩
end
end Tk
set_option Elab.async false
set_option linter.all false
set_option maxRecDepth 100000
/-! min(xs, key=lambda ..). -/
namespace Tk
open PySem PySem.Spec PyProof.Rows L2 LamX NdefX
theorem argBest_klt (keys : Nat → Key) : ∀ n : Nat, argBest (fun i j => decide (Klt (keys i) (keys j))) n ≤ n ∧ ∀ j, j ≤ n → ¬ Klt (keys j) (keys (argBest (fun i j => decide (Klt (keys i) (keys j))) n))
  | 0 => ⟨Nat.le_refl _, fun j hj => by
    obtain rfl : j = 0 := by omega
    show ¬ Klt (keys 0) (keys 0)
    unfold Klt; omega⟩
  | n + 1 => by
    obtain ⟨h1, h2⟩ := argBest_klt keys n
    show (if decide (Klt (keys (n + 1)) (keys (argBest (fun i j => decide (Klt (keys i) (keys j))) n))) = true then n + 1 else argBest (fun i j => decide (Klt (keys i) (keys j))) n) ≤ n + 1 ∧ ∀ j, j ≤ n + 1 → ¬ Klt (keys j) (keys (if decide (Klt (keys (n + 1)) (keys (argBest (fun i j => decide (Klt (keys i) (keys j))) n))) = true then n + 1 else argBest (fun i j => decide (Klt (keys i) (keys j))) n))
    generalize argBest (fun i j => decide (Klt (keys i) (keys j))) n = b at h1 h2 ⊢
    by_cases hb : Klt (keys (n + 1)) (keys b)
    · rw [if_pos (decide_eq_true hb)]
      refine ⟨Nat.le_refl _, fun j hj => ?_⟩
      rcases Nat.lt_or_ge j (n + 1) with z | z
      · intro q
        have := h2 j (by omega)
        revert this q hb
        unfold Klt
        omega
      · obtain rfl : j = n + 1 := by omega
        unfold Klt; omega
    · rw [if_neg (by simpa using hb)]
      refine ⟨by omega, fun j hj => ?_⟩
      rcases Nat.lt_or_ge j (n + 1) with z | z
      · exact h2 j (by omega)
      · obtain rfl : j = n + 1 := by omega
        exact hb
/-- a list of numbers, walked -/
theorem walkNats {prog : Program} {w : World} {A : Around} (hh : A.handled = none) (It l : Addr) (hne : l ≠ It) (qs : List Nat) :
    WalksS prog w A It [It, l] [It] (fun a b => b = a) qs.length (fun i v => ∃ t, v = .int ((qs.getD i 0 : Nat) : Int) t) (fun i s => s.heap.IsListIter It l i ∧ ∃ items : Array Value, s.heap.IsList l items ∧ Vals (natsV qs) items.toList) where
  sub := fun b hb => by simp at hb; simp [hb]
  grefl := fun _ => rfl
  gtrans := fun _ _ _ h1 h2 => h2.trans h1
  frame := fun i s h' tk st _ hk => ⟨st.1.at fun o e => hk It (by simp) o e, by
    obtain ⟨items, h1, h2⟩ := st.2
    exact ⟨items, h1.at fun o e => hk l (by simp) o e, h2⟩⟩
  item := fun i s Q E hi st hQ => by
    obtain ⟨st1, items, h1, h2⟩ := st
    have hs : items.size = qs.length := by have := h2.length; simp [natsV] at this; omega
    refine ((Walks.list (prog := prog) (w := w) hh It l hne items).toS).item i s Q E (by omega) ⟨st1, h1⟩ fun v s' hP st' hm => hQ v s' ?_ ⟨st'.1, items, st'.2, h2⟩ hm
    have e : (natsV qs)[i]? = some (.int ((qs.getD i 0 : Nat) : Int)) := by
      unfold natsV
      rw [List.getElem?_map, List.getElem?_eq_getElem hi, List.getD_eq_getElem?_getD, List.getElem?_eq_getElem hi]; rfl
    obtain ⟨u, hu, ru⟩ := h2.get e
    have : items[i]? = some v := hP
    rw [Array.getElem?_toList, this] at hu
    cases hu
    exact ru
  done := fun s Q E st hQ => by
    obtain ⟨st1, items, h1, h2⟩ := st
    have hs : items.size = qs.length := by have := h2.length; simp [natsV] at this; omega
    exact ((Walks.list (prog := prog) (w := w) hh It l hne items).toS).done s Q E ⟨by rw [hs]; exact st1, h1⟩ hQ
  self := fun i s Q E st hQ => by
    obtain ⟨st1, items, h1, h2⟩ := st
    exact ((Walks.list (prog := prog) (w := w) hh It l hne items).toS).self i s Q E ⟨st1, h1⟩ hQ
/-- untracked new objects may turn -/
theorem inv_moved {X : Cx} {pins : List (Addr × Obj)} {σ : L2.St} {H : Hp} {s s' : Shared} {ch : List Addr} (I : Inv X pins σ H s) (hm : Moved ch (fun a b => b = a) s s') (hH : ∀ b ∈ ch, H b = none) (hb : ∀ b ∈ ch, X.s_0.heap.objs.size ≤ b ∧ b ≠ X.env.locals ∧ (∀ x c, X.env.cells.lookup x = some c → c ≠ b) ∧ ∀ p ∈ X.pn ++ pins, p.1 ≠ b) : Inv X pins σ H s' := by
  have e : s' = { s with heap := s'.heap, gens := s'.gens, drawn := s'.drawn, toks := s'.toks } := by
    obtain ⟨h', g', d', t', o'⟩ := s'
    have : o' = s.os := hm.os
    subst this
    rfl
  rw [e]
  have nh : ∀ b u, H b = some u → b ∉ ch := fun b u q hc => by rw [hH b hc] at q; cases q
  refine I.step (ch := ch) (fun b q => ⟨.inr (hb b q).1, (hb b q).2⟩) (fun b o _ _ hc q _ => hm.heap b o hc q) (fun b o _ _ hc q _ => ⟨o.slots, hm.heap b o hc q⟩) (fun _ _ _ _ n => n) (fun b o hc q => ⟨o, hm.heap b o hc q⟩) (fun _ _ q => q) (fun _ _ _ q => q) (fun b ps q => ⟨#[], by rw [q]; simp⟩) (fun m hn => ?_) (fun b u q => ?_) (by rw [hm.gens]; exact I.bare)
  · obtain ⟨o, es, ep, ho, r⟩ := hn
    exact ⟨o, es, ep, hm.heap _ o (fun hc => (hb _ hc).2.1 rfl) ho, r⟩
  · refine (I.hok b u q).stay (fun c v hc r => hm.heap c v ?_ r) (fun _ r => r) fun _ _ r => r
    rcases hc with rfl | hc
    · exact nh _ u q
    · exact nh _ _ hc
section
variable {T : List NTab} {X : Cx} {σ : L2.St} {H : Hp} {le : Expr} {p0 pos lpos kpos : Pos} {params : Arguments} {body : Expr} {scope : Scope} {k : Nat} {N ps fr : List Str} {js : List Nat} {qs : List Nat} {vals : Nat → V} {keys : Nat → Key}
theorem ex_minK (hr : Room (k + 2) X.A) (hcalm : X.calm = true) (hg : Gl X "min") (hm : X.mg "min" = none) (hle : EX T X σ H le (fun _ v H2 => ∃ l, v = .ref l ∧ H2 l = some (.lst (natsV qs))))
    (hlam : EX T X σ H (.Lambda params body scope lpos) (fun _ v H2 => ∃ f c', v = .ref f ∧ H2 f = some (LmO f (lamNF X params scope c') body) ∧ H2 c' = some (CodeO c' (X.env.qual ++ "<lambda>"))))
    (S : NScope N [x1] fr scope) (hfree : ∀ y ∈ scope.names, y.2 = .free → X.env.scope.names.lookup y.1 = some .cell ∨ X.env.scope.names.lookup y.1 = some .free) (hfr : ∀ y ∈ fr, (y, NameKind.free) ∈ scope.names) (hjs : js.map (fun j => X.N[j]?) = fr.map some)
    (hb : ∀ (c' : Addr) (pm ctv u : Value), bindArgs (PySem.W.kla_fn "<lambda>" (X.env.qual ++ "<lambda>") params body scope (cloFrom X.env.cells scope.names []) pm (.ref c') ctv) ⟨[u], []⟩ = pure [(x1, u)])
    (hbody : ∀ (A : Around) (outer : List Env) (s : Shared) (H' : Hp) (f c' : Addr) (i : Nat), i < qs.length → Gx T H H' → TabsN T H' → Room k (A.deeper (envF (lamNF X params scope c') f s.heap.objs.size)) →
      EX T (ncx CX0 X.prog X.w X.K X.mg X.base N (lamNF X params scope c') f A outer s H' E0).nox (startF N [.int ((qs.getD i 0 : Nat) : Int)] (js.map (slotAt σ))) H' body (fun _ v _ => v = vals i))
    (hkeys : ∀ i, i < qs.length → Is H (keyD (keys i)) (vals i)) (hne : 0 < qs.length)
    (hna : starEach (le :: []) X.env = (false, eval le X.env) :: starEach [] X.env := by rfl) (he : backTo pos (starEach (le :: []) X.env) = (false, eval le X.env) :: backTo pos (starEach [] X.env) := by rfl) (hpl : (backTo pos (starEach (le :: []) X.env)).any (·.1) = false := by rfl)
    (hall : (backToKw pos (keywordEach [⟨some "key", .Lambda params body scope lpos, kpos⟩] X.env)).all (·.1.isSome) = true := by rfl) (hnone : (backToKw pos (keywordEach [⟨some "key", .Lambda params body scope lpos, kpos⟩] X.env)).any (·.1.isNone) = false := by rfl) (hks : (backToKw pos (keywordEach [⟨some "key", .Lambda params body scope lpos, kpos⟩] X.env)).filterMap (·.1) = [("key" : Str)] := by rfl) :
    EX T X σ H (.Call (.Name "min" p0) [le] [⟨some "key", .Lambda params body scope lpos, kpos⟩] pos) (fun _ v _ => ∃ i, i < qs.length ∧ v = .int ((qs.getD i 0 : Nat) : Int) ∧ ∀ j, j < qs.length → ¬ Klt (keys j) (keys i)) := fun H1 g1 t pins s I => by
  refine wpAny_Call_Name_kw (ld_blt I hg hm PyProof.Rows.boot_min ?_ (by decide) (by decide))
  refine PyProof.Rows.callWith_kw (thn ((pa_cons wE_pe pa_nil hna).run pos pins s σ H1 (fun vs H2 => ∃ l, vs = [.ref l] ∧ Gx T H1 H2 ∧ H2 l = some (.lst (natsV qs))) I (wE_imp (hle H1 g1 t) fun v H2 ⟨g2, l, e, h⟩ => ⟨l, by rw [e], g2, h⟩)) fun us s1 ⟨vs, H2, I1, r1, l, evs, g2, hl2⟩ =>
    thn ((pk_cons wE_pe pk_nil).run pos pins s1 σ H2 (fun zs H3 => ∃ f c', zs = [.ref f] ∧ Gx T H2 H3 ∧ H3 f = some (LmO f (lamNF X params scope c') body) ∧ H3 c' = some (CodeO c' (X.env.qual ++ "<lambda>"))) I1 (wE_imp (hlam H2 (g1.trans g2) (g2.tab t)) fun v H3 ⟨g3, f, c', e, h1, h2⟩ => ⟨f, c', by rw [e], g3, h1, h2⟩)) fun ws s2 ⟨zs, H3, I2, r2, f, c', ezs, g3, hf, hc⟩ => ?_) he hpl hall hnone
  rw [hks]
  subst evs ezs
  rw [Vals.ref1 r1, Vals.ref1 r2]
  have hl3 := g3.lst hl2
  have t3 := (g2.trans g3).tab t
  have g03 := g1.trans (g2.trans g3)
  obtain ⟨its, rv, pl, hz⟩ := I2.list (SqL.of hl3)
  have hlist := pl.isList
  have hllt : l < s2.heap.objs.size := by obtain ⟨_, e, _⟩ := hlist; exact Heap.lt_size e
  show wpAny _ _ (call (.builtin "min") [.ref l] [(Str.ofString "key", .ref f)]) _ _ _
  refine call_min_walkK (wpAny_pyIter_list hlist ?_)
  have hsz : (s2.heap.push { cls := .type "list_iterator", data := .fields #[.ref l, .int 0 0] }).objs.size = s2.heap.objs.size + 1 := Heap.size_push ..
  have hItH : H3 s2.heap.objs.size = none := I2.hok.fresh (Nat.le_refl _)
  have hSH : H3 (s2.heap.objs.size + 1) = none := I2.hok.fresh (Nat.le_succ _)
  have hnew : ∀ b, s2.heap.objs.size ≤ b → X.s_0.heap.objs.size ≤ b ∧ b ≠ X.env.locals ∧ (∀ x c, X.env.cells.lookup x = some c → c ≠ b) ∧ (∀ p ∈ X.pn ++ pins, p.1 ≠ b) ∧ b ∉ frs X.stack := fun b hb => by
    refine ⟨Nat.le_trans I2.sz hb, fun e => ?_, fun x c e z => ?_, fun p hp z => ?_, fun z => ?_⟩
    · exact absurd (Nat.lt_of_lt_of_le I2.lt hb) (by rw [e]; exact Nat.lt_irrefl _)
    · obtain ⟨v, o, h1, _⟩ := I2.cell x c e
      exact absurd (Nat.lt_of_lt_of_le (Heap.lt_size h1) hb) (by rw [z]; exact Nat.lt_irrefl _)
    · have := (I2.pin p hp).1
      exact absurd (Nat.lt_of_lt_of_le (Heap.lt_size this) hb) (by rw [z]; exact Nat.lt_irrefl _)
    · rcases List.mem_cons.mp (I2.stkSub _ z) with e | e
      · exact absurd (Nat.lt_of_lt_of_le I2.lt hb) (by rw [← e]; exact Nat.lt_irrefl _)
      · exact I2.nofs hb e
  have capsOk := Caps.made (js := js) I2.ok hfree hfr hjs
  refine ⟨s2.heap.objs.size, [s2.heap.objs.size, l], [s2.heap.objs.size], fun a b => b = a, qs.length, fun i v => ∃ t, v = .int ((qs.getD i 0 : Nat) : Int) t, _, fun s' => ∃ H', Gx T H3 H' ∧ TabsN T H' ∧ Inv X pins σ H' s' ∧ H' s2.heap.objs.size = none ∧ H' (s2.heap.objs.size + 1) = none, fun i kk _ => i < qs.length ∧ RelV (vals i) kk, fun i j => decide (Klt (keys i) (keys j)), rfl, walkNats (A := X.A.in1) (show X.A.in1.handled = none from I2.ok.hd hcalm) s2.heap.objs.size l (Nat.ne_of_lt hllt) qs, ⟨⟨_, Heap.get?_push_size _ rfl, rfl, rfl⟩, its.toArray, hlist.push _, by simpa using rv⟩, fun b hb => ?_, hne, ?_, ⟨H3, Gx.refl _, t3, ?_, hItH, hSH⟩, fun v s' hv hJ => ?_⟩
  · show b < (s2.heap.push _).objs.size
    rw [hsz]
    rcases List.mem_cons.mp hb with e | hb
    · rw [e]; exact Nat.lt_succ_self _
    · rw [List.mem_singleton.mp hb]; exact Nat.lt_succ_of_lt hllt
  · have hS : (Shared.mk (s2.heap.push { cls := .type "list_iterator", data := .fields #[.ref l, .int 0 0] }) s2.gens s2.drawn s2.toks s2.os).heap.objs.size = s2.heap.objs.size + 1 := hsz
    show KeyRun _ _ _ _ _ (s2.heap.push { cls := .type "list_iterator", data := .fields #[.ref l, .int 0 0] }).objs.size _ _ _ _ _ _ _ _
    rw [hsz]
    have chs : ∀ b ∈ [s2.heap.objs.size + 1, s2.heap.objs.size], s2.heap.objs.size ≤ b := fun b hb => by
      rcases List.mem_cons.mp hb with e | hb
      · rw [e]; exact Nat.le_succ _
      · rw [List.mem_singleton.mp hb]; exact Nat.le_refl _
    refine ⟨fun sa sb ⟨H', ga, ta, Ia, n1, n2⟩ hmv => ⟨H', ga, ta, inv_moved Ia hmv (fun b hb => ?_) (fun b hb => ?_), n1, n2⟩, fun i kk sa sb hv _ => hv, fun i v sa o Q' E' hi ⟨tk, ev⟩ ⟨H', ga, ta, Ia, n1, n2⟩ st hS Qk => ?_, fun i j ki kj sa Q' E' ⟨H', ga, ta, Ia, n1, n2⟩ ⟨hi, vi⟩ ⟨hj, vj⟩ hq => ?_⟩
    · rcases List.mem_cons.mp hb with e | hb
      · rw [e]; exact n2
      · rw [List.mem_singleton.mp hb]; exact n1
    · obtain ⟨a1, a2, a3, a4, _⟩ := hnew b (chs b hb)
      exact ⟨a1, a2, a3, a4⟩
    · subst ev
      have hfa := ga.any hf fun ps => lmO_ne ps
      have hca := ga.any hc fun ps => codeO_ne ps
      have e0 := Ia.env0
      have e1 : Env0 X.prog X.w X.K X.mg X.base X.A.in1 X.stack sa H' := ⟨e0.frames, e0.mod, e0.bs, e0.bsz, e0.funs, e0.frf, e0.hok, e0.bare⟩
      refine wpAny_call (codeAny_mono (lam_run (k := k) (F := lamNF X params scope c') (N := N) (ps := [x1]) (fr := fr) (ws := js.map (slotAt σ)) (vs := [.int ((qs.getD i 0 : Nat) : Int)]) (us := [.int ((qs.getD i 0 : Nat) : Int) tk]) (Q := fun v H'' => Gx T H' H'' ∧ v = vals i) S (fun pm ctv => hb c' pm ctv _) hr.in1 e1 hfa hca (cells_of Ia capsOk) (.cons ⟨tk, rfl⟩ .nil) rfl fun hr' => ?_) fun rr s' hqq => ?_)
      · exact hbody X.A.in1 X.stack sa H' f c' i hi (g03.trans ga) ta hr' H' (Gx.refl _) ta
      · cases rr with
        | error e => exact hqq.elim
        | ok fl =>
          cases fl with
          | next => exact False.elim hqq
          | brk => exact False.elim hqq
          | cont => exact False.elim hqq
          | ret u =>
            obtain ⟨v, H'', a1, a2, a3, a4, a5, a6, a7⟩ := hqq
            subst a7
            obtain ⟨oi, hoi, ci, di⟩ := id st.1
            have f1 : ∀ b, s2.heap.objs.size ≤ b → b ∉ frs X.stack := fun b hb => (hnew b hb).2.2.2.2
            have kI : s'.heap.get? s2.heap.objs.size = some oi := a3.keep _ _ hoi n1 (f1 _ (Nat.le_refl _)) (by simp)
            have kS : s'.heap.get? (s2.heap.objs.size + 1) = some o := a3.keep _ _ hS n2 (f1 _ (Nat.le_succ _)) (by simp)
            have I' : Inv X pins σ H'' s' := Ia.call' a1 a3 a4 a2 (fun b hb => absurd hb (by simp))
            obtain ⟨its', rv', pl', _⟩ := I'.list (SqL.of ((ga.trans a6).lst hl3))
            exact Qk u s' ⟨H'', ga.trans a6, a6.tab ta, I', a3.free _ _ hoi n1 (by simp), a3.free _ _ hS n2 (by simp)⟩ ⟨⟨oi, kI, ci, di⟩, its'.toArray, pl'.isList, by simpa using rv'⟩ kS ⟨hi, a5⟩ (fun _ _ h => h)
    · have ii := (hkeys i hi).mono (g03.trans ga).ti
      have ij := (hkeys j hj).mono (g03.trans ga).ti
      generalize vals i = vvi at ii vi
      generalize vals j = vvj at ij vj
      cases ii with
      | @tup ai xi _ hi1 hi2 =>
        cases ij with
        | @tup aj xj _ hj1 hj2 =>
          have e1 := hi2.nats
          have e2 := hj2.nats
          subst e1 e2
          cases vi
          cases vj
          obtain ⟨it1, q1, p1, _⟩ := Ia.tuple (SqT.of hi1)
          obtain ⟨it2, q2, p2, _⟩ := Ia.tuple (SqT.of hj1)
          have w1 : IntsAre it1.toArray.toList [((keys i).1 : Int), ((keys i).2.1 : Int), ((keys i).2.2.1 : Int), ((keys i).2.2.2 : Int)] := L2.intsAre_of q1
          have w2 : IntsAre it2.toArray.toList [((keys j).1 : Int), ((keys j).2.1 : Int), ((keys j).2.2.1 : Int), ((keys j).2.2.2 : Int)] := L2.intsAre_of q2
          have hlx : HT.lexLt [((keys i).1 : Int), ((keys i).2.1 : Int), ((keys i).2.2.1 : Int), ((keys i).2.2.2 : Int)] [((keys j).1 : Int), ((keys j).2.1 : Int), ((keys j).2.2.1 : Int), ((keys j).2.2.2 : Int)] = decide (Klt (keys i) (keys j)) := by
            rw [Bool.eq_iff_iff, lex_klt]
            simp
          have := HT.lt_tupInts (prog := X.prog) (w := X.w) (A := X.A.in1) (E := E') p1 p2 w1 w2 hr.in1.units0 (Q := Q') (by rw [hlx]; exact hq)
          exact this
  · exact I2.kept (t' := s2.toks) fun b o e => Heap.get?_push_of_some _ e
  · obtain ⟨tk, ev⟩ := hv
    obtain ⟨H', ga, ta, Ia, _, _⟩ := hJ
    obtain ⟨b1, b2⟩ := argBest_klt keys (qs.length - 1)
    subst ev
    exact ⟨.int _, H', Ia, ⟨tk, rfl⟩, (g2.trans g3).trans ga, _, by omega, rfl, fun j hj => b2 j (by omega)⟩
end
end Tk
set_option Elab.async false
set_option linter.all false
set_option maxRecDepth 100000
/-! firsts_of. -/
namespace Tk
open PySem PySem.Spec PyProof.Rows L2 LamX NdefX
theorem valV_drop {κ : Type} [DecidableEq κ] (k j : κ) : ∀ kvs : List (κ × V), valV (dropK kvs k) j = if j = k then none else valV kvs j
  | [] => by unfold dropK; simp [valV]
  | p :: r => by
    have ih := valV_drop k j r
    unfold dropK at ih ⊢
    rw [List.filter_cons]
    by_cases e : p.1 = k
    · have : ¬ decide (p.1 ≠ k) = true := by simp [e]
      rw [if_neg this, ih]
      by_cases h : j = k
      · rw [if_pos h, if_pos h]
      · rw [if_neg h, if_neg h, valV_neg (fun z => h (z.symm.trans e))]
    · have : decide (p.1 ≠ k) = true := by simp [e]
      rw [if_pos this]
      by_cases h : p.1 = j
      · rw [valV_pos h, valV_pos h, if_neg (fun z => e (h.trans z))]
      · rw [valV_neg h, valV_neg h, ih]
theorem OffRep.drop {R : Nat} {H : Hp} {kvo : List (L2.Key × V)} {off : Nat → Option Key} (h : OffRep R H kvo off) (q : Nat) : OffRep R H (dropK kvo (.inl (q : Int))) (fun r => if r = q then none else off r) := by
  refine ⟨?_, fun r => ?_⟩
  · obtain ⟨qs, e, nd, hl⟩ := h.keys
    refine ⟨qs.filter fun r => decide (r ≠ q), ?_, nd.sublist List.filter_sublist, fun r hr => hl r (List.mem_filter.mp hr).1⟩
    unfold dropK
    have h2 : ∀ (kvo : List (L2.Key × V)) (qs : List Nat), kvo.map (·.1) = kN qs → (kvo.filter fun kv => decide (kv.1 ≠ (.inl (q : Int) : L2.Key))).map (·.1) = kN (qs.filter fun r => decide (r ≠ q)) := by
      intro kvo
      induction kvo with
      | nil => intro qs e; cases qs with
        | nil => rfl
        | cons a b => simp [kN] at e
      | cons p r ih =>
        intro qs e
        cases qs with
        | nil => simp [kN] at e
        | cons a b =>
          rw [List.map_cons] at e
          unfold kN at e
          rw [List.map_cons] at e
          injection e with e1 e2
          have ih := ih b e2
          rw [List.filter_cons, List.filter_cons]
          by_cases hq : a = q
          · rw [if_neg (by rw [e1, hq]; simp), if_neg (by simp [hq])]
            exact ih
          · rw [if_pos (by rw [e1]; simp; omega), if_pos (by simp [hq]), List.map_cons, ih, e1]
            simp [kN]
    exact h2 kvo qs e
  · rw [valV_drop]
    by_cases e : r = q
    · subst e
      rw [if_pos rfl]
      simp only [if_pos]
      trivial
    · rw [if_neg (fun z => e (inlN_inj z))]
      simp only [if_neg e]
      exact h.at_ r
theorem OffRep.get {R : Nat} {H : Hp} {kvo : List (L2.Key × V)} {off : Nat → Option Key} (h : OffRep R H kvo off) {qs : List Nat} (e : kvo.map (·.1) = kN qs) {q : Nat} (hq : q ∈ qs) : ∃ v k, valV kvo (.inl (q : Int)) = some v ∧ off q = some k ∧ Is H (keyD k) v := by
  have hm : (Sum.inl (q : Int) : L2.Key) ∈ kvo.map (·.1) := by rw [e]; exact List.mem_map.mpr ⟨q, hq, rfl⟩
  obtain ⟨kv, h1, h2⟩ := List.mem_map.mp hm
  have h3 : (valV kvo (.inl (q : Int))).isSome = true := by
    rw [← valV_any]
    exact List.any_eq_true.mpr ⟨kv, h1, decide_eq_true h2⟩
  obtain ⟨v, hv⟩ := Option.isSome_iff_exists.mp h3
  have := h.at_ q
  rw [hv] at this
  cases ho : off q with
  | none => rw [ho] at this; exact this.elim
  | some k => rw [ho] at this; exact ⟨v, k, hv, rfl, this⟩
theorem OffRep.mem {R : Nat} {H : Hp} {kvo : List (L2.Key × V)} {off : Nat → Option Key} (h : OffRep R H kvo off) {qs : List Nat} (e : kvo.map (·.1) = kN qs) {q : Nat} {k : Key} (hq : off q = some k) : q ∈ qs := by
  have := h.at_ q
  rw [hq] at this
  cases hv : valV kvo (.inl (q : Int)) with
  | none => rw [hv] at this; exact this.elim
  | some v =>
    have h3 : (kvo.any fun kv => decide (kv.1 = (.inl (q : Int) : L2.Key))) = true := by rw [valV_any, hv]; rfl
    obtain ⟨kv, h1, h2⟩ := List.any_eq_true.mp h3
    have h2 := of_decide_eq_true h2
    have hm : (Sum.inl (q : Int) : L2.Key) ∈ kvo.map (·.1) := List.mem_map.mpr ⟨kv, h1, h2⟩
    rw [e] at hm
    obtain ⟨r, hr, e2⟩ := List.mem_map.mp hm
    rw [← inlN_inj e2]; exact hr
section
variable {T : List NTab} {X : Cx} {σ : L2.St} {H : Hp} {o i e : Expr} {pos : Pos} {n : Nat} {p : Addr} {kvs : List (L2.Key × V)} {v : V}
theorem ex_dgetKv (hu : X.A.units + 1 < cLine) (ho : EE T X σ H o (.ref p)) (hp : H p = some (.dK kvs)) (hi : EE T X σ H i (.int (n : Nat))) (hv : valV kvs (.inl (n : Int)) = some v) (hs : NoSl i := by exact fun _ _ => rfl) : EX T X σ H (.Subscript o i pos) (fun _ v' _ => v' = v) := fun H1 g t =>
  PE_to (pe_dget hu wE_pe wE_pe hs) (wE_imp (ho H1 g t) fun u H2 ⟨g2, i2⟩ => wE_imp (hi H2 (g.trans g2) (g2.tab t)) fun w H3 ⟨g3, i3⟩ => by
    rw [i2.ref_eq, i3.int_eq]
    refine ⟨p, v, rfl, ?_, g2.trans g3, rfl⟩
    have := DGet.k (k := .inl (n : Int)) (((g.trans g2).trans g3).dK hp)
    rwa [hv] at this)
/-- list(a dict) -/
theorem ex_listK {p1 : Pos} (hcalm : X.calm = true) (hg : Gl X "list") (hm : X.mg "list" = none) (h : EE T X σ H e (.ref p)) (hp : H p = some (.dK kvs)) (he : starEach (e :: []) X.env = (false, eval e X.env) :: starEach [] X.env := by rfl) (hpl : (backTo pos (starEach [] X.env)).any (·.1) = false := by rfl) :
    EX T X σ H (.Call (.Name "list" p1) [e] [] pos) (fun _ v H2 => ∃ l, v = .ref l ∧ H2 l = some (.lst (kvs.map fun kv => kV kv.1))) :=
  ex_ty (call_list_dK hcalm) hg hm boot_list (ea_cons h ea_nil he) (fun H1 H2 vs g1 g2 _ i Q q => by
    obtain ⟨_, rfl, i1⟩ := isAll1 i
    cases i1
    exact ⟨p, kvs, rfl, (g1.trans g2).dK hp, fun l hl => q _ _ (Gx.new hl) ⟨l, rfl, upd_same⟩⟩) (by decide) (by decide) he hpl
/-- a, b, .. = d.pop(k), what is there a row of numbers -/
theorem b_popN {st : Stmt} {rest : List Stmt} {D' : Ends} {m : Nat} {js : List Nat} {ks : List Nat} (s : PS X st (tAsg (tDPop1 (wE X o) (wE X i)) (gTup X.K m (gNs js)))) (hT : TabsN T H) (ho : EE T X σ H o (.ref p)) (hp : H p = some (.dK kvs)) (hi : EE T X σ H i (.int (n : Nat))) (hv : valV kvs (.inl (n : Int)) = some v) (hd : Is H (.tup (natsD ks)) v) (hks : ks.length = m) (hjs : js.length = m)
    (k : ∀ H1, Gx T H H1 → TabsN T H1 → H1 p = some (.dK kvs) → wB X rest D' (setAll σ js (natsV ks)) (upd H1 p (.dK (dropK kvs (.inl (n : Int)))))) : wB X (st :: rest) D' σ H :=
  b_ps s (wE_imp (ho H (Gx.refl _) hT) fun u H1 ⟨g, i1⟩ => by
    rw [i1.ref_eq]
    refine ⟨p, rfl, .inl ⟨kvs, .inl (g.dK hp)⟩, wE_imp (hi H1 g (g.tab hT)) fun w H2 ⟨g2, i2⟩ => ?_⟩
    have h2 := (g.trans g2).dK hp
    rw [i2.int_eq]
    refine ⟨kvs, .inl (n : Int), v, h2, rfl, hv, ?_⟩
    refine tgt_tup (js := js) ((hd.mono (g.trans g2).ti).mono (Ti.dK (o := .dK (dropK kvs (.inl (n : Int)))) h2)) (by simp [natsD, hks]) hjs _ fun σ2 ⟨us, hus, e⟩ => ?_
    rw [e, hus.nats]
    exact k H2 (g.trans g2) ((g.trans g2).tab hT) h2)
end
/-- the heap of firsts_of -/
structure FHp (T : List NTab) (M : Mach) (H H' : Hp) (pR pK pO : Addr) (Ts : List Tree) (kvr kvo : List (L2.Key × V)) (off : Nat → Option Key) : Prop where
  g : Gx T H H'
  r : ∃ xs, H' pR = some (.lst xs) ∧ IsAll H' (Ts.map (rowT M.d)) xs
  k : H' pK = some (.dK kvr)
  ks : ∀ q : Nat, (valV kvr (.inl (q : Int))).isSome = decide (q ∈ rooms M.d Ts)
  kl : kvr.length ≤ Ts.length
  o : H' pO = some (.dK kvo)
  rep : OffRep M.rooms H' kvo off
theorem FHp.step {T : List NTab} {M : Mach} {H H' H1 : Hp} {pR pK pO : Addr} {Ts : List Tree} {kvr kvo : List (L2.Key × V)} {off : Nat → Option Key} (F : FHp T M H H' pR pK pO Ts kvr kvo off) (g : Gx T H' H1) : FHp T M H H1 pR pK pO Ts kvr kvo off := by
  obtain ⟨xs, h1, h2⟩ := F.r
  exact ⟨F.g.trans g, ⟨xs, g.lst h1, h2.mono g.ti⟩, g.dK F.k, F.ks, F.kl, g.dK F.o, F.rep.mono g.ti⟩
theorem rows_le {d : Nat → Nat → Nat → Nat} {m R : Nat} {Ts : List Tree} (F : FI d m Ts) (h : ∀ t : Tree, t.ok m → run d t < R) : Ts.length ≤ R := by
  have := nodup_le F.rooms_nodup (n := R) fun q hq => by
    obtain ⟨T, hT, e⟩ := List.mem_map.mp hq
    rw [← e]; exact h T (F.ok_ hT)
  simpa [rooms] using this
section
variable {P : Program} {w : World} {K : PySem.W.Frag} {mg : Str → Option Value} {base : Heap} {T : List NTab} {f c Pt : Addr} {fd : FuncData}
abbrev sFirsts : Stmt := topS 32
abbrev nFirsts : List Str := ["machine", "rows", "ranks", "offers", "room", "size", "left", "right", "letter"]
theorem sc_firsts : FnScope nFirsts ["machine"] (defScope sFirsts) := ⟨rfl, rfl, rfl, by decide +kernel, rfl, by decide +kernel, by decide +kernel⟩
def nmFirsts : Nat → Nat → Str := fun _ _ => "firsts_of.<locals>.<lambda>"
def R_firsts : Hp → List D → (Hp → V → Prop) → Prop := fun _ ds post => ∃ M : Mach, M.Ok ∧ M.rooms ≤ 9000 ∧ M.letters ≤ 100000 ∧ ds = [machD M] ∧ post = fun H' v => ∃ Ts, Firsts M.d M.letters Ts ∧ Is H' (.tup (Ts.map (rowT M.d))) v
set_option maxHeartbeats 1000000 in
theorem ok_firsts (F : FunC K "firsts_of" sFirsts f fd c) (hm : mg "firsts_of" = some (.ref f)) (G : Glo mg) (tb : TabB base mg c Pt) (hT1 : (Pt, nmFirsts) ∈ T) (hT2 : ∀ p ∈ T, p.1 = Pt → p.2 = nmFirsts)
    (OF : DefOkW P w K mg base T 1 "offer_newest" ["table", "rows", "ranks", "offers"] (R_offer T)) : DefOk P w K mg base T 3 "firsts_of" ["machine"] R_firsts := by
  refine def_okC F hm sc_firsts (fun _ _ _ _ _ _ us hl => match us, hl with | [_], _ => rfl) (fun H ds post ⟨_, _, _, _, e, _⟩ => by rw [e]; rfl) fun A outer s H E vs ds post hr hT hi ⟨M, hO, hR, hL, e1, e2⟩ => ?_
  subst e1 e2
  obtain ⟨vm, rfl, im⟩ := isAll1 hi
  have hu := room_u1 hr
  have hrun : ∀ t : Tree, t.ok M.letters → run M.d t < M.rooms := fun t o => hO.run o
  refine b_asg (ps_set (i := 1) sc_firsts.nd rfl (Or.inl rfl) wE_pe) hT (el_lst (ds := [rowT M.d .nil]) (ea_cons (ee_tup (ds := [.int (0 : Nat), .int (0 : Nat), .tup []]) (ea_cons ee_int (ea_cons ee_int (ea_cons (ee_tup ea_nil (sz_ok (by show 0 ≤ 1000000; decide))) ea_nil))) (sz_ok (by show 3 ≤ 1000000; decide))) ea_nil) (sz_ok (by show 1 ≤ 1000000; decide))) fun v H1 g1 t1 ⟨pR, xs0, ev, hpR, h1, i1⟩ => ?_
  subst ev
  refine b_asg (ps_set (i := 2) sc_firsts.nd rfl (Or.inl rfl) wE_pe) t1 (ex_disp1 (m := 0) (n := 0) ee_int ee_int) fun v H2 g2 t2 ⟨pK, ev, hpK, h2⟩ => ?_
  subst ev
  refine b_asg (ps_set (i := 3) sc_firsts.nd rfl (Or.inr rfl) wE_pe) t2 ex_newK fun v H3 g3 t3 ⟨pO, ev, hpO, h3⟩ => ?_
  subst ev
  have nR : H pR = none := hpR
  have nK : H pK = none := g1.low _ hpK
  have nO : H pO = none := (g1.trans g2).low _ hpO
  have hRK : pR ≠ pK := fun e => by rw [e] at h1; rw [h1] at hpK; cases hpK
  have hRO : pR ≠ pO := fun e => by rw [e] at h1; rw [g2.lst h1] at hpO; cases hpO
  have hKO : pK ≠ pO := fun e => by rw [e] at h2; rw [h2] at hpO; cases hpO
  have F0 : FHp T M H H3 pR pK pO [.nil] [(.inl ((0 : Nat) : Int), .int (0 : Nat))] [] (fun _ => none) := by
    refine ⟨(g1.trans g2).trans g3, ⟨xs0, (g2.trans g3).lst h1, i1.mono (g2.trans g3).ti⟩, g3.dK h2, fun q => ?_, Nat.le_refl _, h3, ⟨⟨[], rfl, List.nodup_nil, fun _ h => nomatch h⟩, fun q => trivial⟩⟩
    have e0 : rooms M.d [.nil] = [0] := rfl
    rw [e0]
    by_cases h : q = 0
    · subst h
      have : valV [((Sum.inl ((0 : Nat) : Int) : L2.Key), V.int (0 : Nat))] (.inl ((0 : Nat) : Int)) = some (V.int (0 : Nat)) := valV_pos (p := ((Sum.inl ((0 : Nat) : Int) : L2.Key), V.int (0 : Nat))) rfl
      rw [this]
      simp
    · have : valV [((Sum.inl ((0 : Nat) : Int) : L2.Key), V.int (0 : Nat))] (.inl (q : Int)) = none := by
        rw [valV_neg (fun z => h (inlN_inj z).symm)]; rfl
      rw [this]
      simp [h]
  -- one call of offer_newest
  have hcall : ∀ {Ts : List Tree} {kvr kvo : List (L2.Key × V)} {off : Nat → Option Key} {H2 : Hp}, FI M.d M.letters Ts → FHp T M H H2 pR pK pO Ts kvr kvo off → OffOk M.d M.letters Ts (fun i j x => i < Ts.length - 1 ∧ j < Ts.length - 1 ∧ x < M.letters) off →
      ∃ post, R_offer T H2 [tabD M.table, .ref pR, .ref pK, .ref pO] post ∧ ∀ v H3, post H3 v → ∃ kvo' off', FHp T M H H3 pR pK pO Ts kvr kvo' off' ∧ OffOk M.d M.letters Ts (fun i j x => i < Ts.length ∧ j < Ts.length ∧ x < M.letters) off' := by
    intro Ts kvr kvo off H2 FIr FF OO
    obtain ⟨xs, hx1, hx2⟩ := FF.r
    have hlen := rows_le FIr hrun
    refine ⟨_, ⟨M, Ts, pR, pK, pO, xs, kvr, kvo, off, hO, by omega, hL, by omega, FIr.pos, fun T hT => FIr.ok_ hT, rfl, hx1, hx2, FF.k, hKO, FF.ks, FF.o, FF.rep, OO, rfl⟩, fun v H3 ⟨kvo', off', MM, O'⟩ => ⟨kvo', off', ⟨MM.g.gx FF.g nO, ⟨xs, MM.g.any hx1 hRO (fun _ e => by cases e), hx2.mono MM.ti⟩, MM.g.any FF.k hKO (fun _ e => by cases e), FF.ks, FF.kl, MM.at_, MM.rep⟩, O'⟩⟩
  refine b_callW OF hr (by decide) rfl t3 (ea_cons (mach_table (ee_v (pv 0) rfl (im.mono F0.g.ti))) (ea_cons (ee_v (pv 1) rfl (.ref _)) (ea_cons (ee_v (pv 2) rfl (.ref _)) (ea_cons (ee_v (pv 3) rfl (.ref _)) ea_nil)))) fun H4 g4 t4 => ?_
  obtain ⟨post, hp1, hp2⟩ := hcall FI.start (F0.step g4) (OffOk.start.weak fun i j x => ⟨fun h => h.elim, fun h => by simp at h⟩)
  refine ⟨post, hp1, fun v H5 hq => ?_⟩
  obtain ⟨kvo1, off1, F1, O1⟩ := hp2 v H5 hq
  refine b_whileG (α := List Tree × List (L2.Key × V) × List (L2.Key × V) × (Nat → Option Key)) PassesOwn.never
    (fun a σ' H' => ∃ v4 v5 v6 v7 v8 : Option V, σ' = [some vm, some (.ref pR), some (.ref pK), some (.ref pO), v4, v5, v6, v7, v8] ∧ FI M.d M.letters a.1 ∧ FHp T M H H' pR pK pO a.1 a.2.1 a.2.2.1 a.2.2.2 ∧ OffOk M.d M.letters a.1 (fun i j x => i < a.1.length ∧ j < a.1.length ∧ x < M.letters) a.2.2.2)
    (fun a => M.rooms + 1 - a.1.length) ([.nil], [(.inl ((0 : Nat) : Int), .int (0 : Nat))], kvo1, off1) ⟨none, none, none, none, none, rfl, FI.start, F1, O1⟩ (fun a σ' H' ⟨_, _, _, _, _, _, _, FF, _⟩ => FF.g.tab hT) (fun a => decide (0 < a.2.2.1.length)) ?_ ?_ ?_
  · rintro ⟨Ts, kvr, kvo, off⟩ σ' H' ⟨v4, v5, v6, v7, v8, rfl, FIr, FF, OO⟩
    exact ET.is (et_gt (ee_lenK rfl G.len (ee_v (pv 3) rfl (.ref _)) FF.o) ee_int) (by rw [decide_eq_decide]; show (0 : Int) < ((kvo.length : Nat) : Int) ↔ 0 < kvo.length; omega)
  · rintro ⟨Ts, kvr, kvo, off⟩ σ' H' H1' ⟨v4, v5, v6, v7, v8, rfl, FIr, FF, OO⟩ hc g0 t0
    have hlen0 : 0 < kvo.length := of_decide_eq_true hc
    have FF : FHp T M H H1' pR pK pO Ts kvr kvo off := FF.step g0
    have OO : OffOk M.d M.letters Ts (fun i j x => i < Ts.length ∧ j < Ts.length ∧ x < M.letters) off := OO
    have FIr : FI M.d M.letters Ts := FIr
    obtain ⟨qs, hqs, hnd, hql⟩ := FF.rep.keys
    have hql2 : qs.length = kvo.length := by have := congrArg List.length hqs; simpa [kN] using this.symm
    have hgetq : ∀ i, i < qs.length → qs.getD i 0 ∈ qs := fun i hi => by
      rw [List.getD_eq_getElem?_getD, List.getElem?_eq_getElem hi]; exact List.getElem_mem hi
    refine b_asg (ps_set (i := 4) sc_firsts.nd rfl (Or.inl rfl) wE_pe) t0 (ex_minK (k := 0) (x1 := "one") (N := ["one", "offers"]) (fr := ["offers"]) (js := [3]) (qs := qs) (vals := fun i => (valV kvo (.inl ((qs.getD i 0 : Nat) : Int))).getD .non) (keys := fun i => (off (qs.getD i 0)).getD (0, 0, 0, 0)) hr rfl rfl G.min
      ?_
      ?_ ?_ ?_ ?_ rfl (fun _ _ _ _ => rfl) ?_ ?_ (by omega)) fun vr H2 g2 t2 hmin => ?_
    · refine EX.imp (ex_listK rfl rfl G.list (ee_v (pv 3) rfl (.ref _)) FF.o) fun _ v H2 _ _ ⟨l, e, h⟩ => ⟨l, e, ?_⟩
      have : (kvo.map fun kv => kV kv.1) = natsV qs := by
        have := congrArg (List.map kV) hqs
        rw [List.map_map, kN_v] at this
        exact this
      rw [← this]; exact h
    · exact EX.imp (ex_lambda tb rfl hT1 rfl hT2 rfl (ndef_free (sc := defScope sFirsts) (fr := ["offers"]) (by decide +kernel))) fun _ v H2 _ _ ⟨f, c', e, _, h1, h2⟩ => ⟨f, c', e, h1, h2⟩
    · exact nscope_by (by decide +kernel)
    · exact ndef_free (sc := defScope sFirsts) (fr := ["offers"]) (by decide +kernel)
    · exact ndef_fr (sc := defScope sFirsts) (by decide +kernel)
    · intro A' outer' s' H'' f' c' i hi g' t' hr'
      obtain ⟨v, k, hv, hk, iv⟩ := FF.rep.get hqs (hgetq i hi)
      have e : (valV kvo (.inl ((qs.getD i 0 : Nat) : Int))).getD .non = v := by rw [hv]; rfl
      show EX T _ _ _ _ (fun _ v' _ => v' = (valV kvo (.inl ((qs.getD i 0 : Nat) : Int))).getD .non)
      rw [e]
      exact ex_dgetKv (room_u1 hr') (ee_v (pv 1) rfl (.ref _)) (g'.dK FF.o) (ee_v (pv 0) rfl (.int _)) hv
    · intro i hi
      obtain ⟨v, k, hv, hk, iv⟩ := FF.rep.get hqs (hgetq i hi)
      show Is _ (keyD ((off (qs.getD i 0)).getD (0, 0, 0, 0))) ((valV kvo (.inl ((qs.getD i 0 : Nat) : Int))).getD .non)
      rw [hv, hk]
      exact iv
    · obtain ⟨i, hi, ev, hmin⟩ := hmin
      subst ev
      obtain ⟨v, k, hv, hk, iv⟩ := FF.rep.get hqs (hgetq i hi)
      have hmin2 : ∀ q' k', off q' = some k' → ¬ Klt k' k := fun q' k' h => by
        have hm := FF.rep.mem hqs h
        obtain ⟨j, hj, ej⟩ := List.mem_iff_getElem.mp hm
        have := hmin j hj
        have e2 : qs.getD j 0 = q' := by rw [List.getD_eq_getElem?_getD, List.getElem?_eq_getElem hj, ej]; rfl
        rw [e2, h, hk] at this
        exact this
      generalize qs.getD i 0 = q at hv hk iv ⊢
      clear hmin
      have FF := FF.step g2
      obtain ⟨hnq, ii, jj, x, ⟨hi', hj', hx⟩, hrm, hkk⟩ := OO.some_ q k hk
      have FIn := FIr.step OO (fun i j x h1 h2 h3 => ⟨h1, h2, h3⟩) hk hkk hi' hj' hx hrm hmin2
      have hlenN := rows_le FIn hrun
      rw [List.length_append, List.length_singleton] at hlenN
      subst hkk
      refine b_popN (js := [5, 6, 7, 8]) (ks := [1 + (at_ Ts ii).size + (at_ Ts jj).size, ii, jj, x]) (n := q) (ps_asg (pe_dpop1 wE_pe wE_pe ⟨rfl, rfl, rfl, rfl⟩) (pg_tup rfl (pgs_cons (pg_name (i := 5) sc_firsts.nd rfl (Or.inl rfl)) (pgs_cons (pg_name (i := 6) sc_firsts.nd rfl (Or.inl rfl)) (pgs_cons (pg_name (i := 7) sc_firsts.nd rfl (Or.inl rfl)) (pgs_cons (pg_name (i := 8) sc_firsts.nd rfl (Or.inl rfl)) pgs_nil)))))) t2 (ee_v (pv 3) rfl (.ref _)) FF.o (ee_v (pv 4) rfl (.int _)) hv (iv.mono g2.ti) rfl rfl fun H3 g3 t3 h3 => ?_
      have FF := FF.step g3
      obtain ⟨xs, hx1, hx2⟩ := FF.r
      have tO := Ti.dK (o := .dK (dropK kvo (.inl (q : Int)))) h3
      have FD : FHp T M H (upd H3 pO (.dK (dropK kvo (.inl (q : Int))))) pR pK pO Ts kvr (dropK kvo (.inl (q : Int))) (fun r => if r = q then none else off r) :=
        ⟨FF.g.mutK nO h3, ⟨xs, by rw [upd_ne hRO]; exact hx1, hx2.mono tO⟩, by rw [upd_ne hKO]; exact FF.k, FF.ks, FF.kl, upd_same, (FF.rep.drop q).mono tO⟩
      generalize upd H3 pO (.dK (dropK kvo (.inl (q : Int)))) = H3' at FD ⊢
      have t3' := FD.g.tab hT
      obtain ⟨xs, hx1, hx2⟩ := FD.r
      have hxl : xs.length = Ts.length := by have := hx2.length; simpa using this.symm
      refine b_dputK (ps_dput hu wE_pe wE_pe wE_pe rfl) t3' (EE.is (d' := .int (Ts.length : Nat)) (ee_lenL rfl G.len (ee_v (pv 1) rfl (.ref _)) hx1) (by rw [hxl])) (ee_v (pv 2) rfl (.ref _)) FD.k (sz_lt (by have := FD.kl; omega)) (n := q) (ee_v (pv 4) rfl (.int _)) fun v4' H4 H5 g4 g5 t5 iv4 h5 => ?_
      rw [iv4.int_eq]
      have FD := FD.step (g4.trans g5)
      have hx1 := (g4.trans g5).lst hx1
      have hx2 := hx2.mono (g4.trans g5).ti
      have tK := Ti.dK (o := .dK (putK kvr (.inl (q : Int)) (.int (Ts.length : Nat)))) h5
      have hx1' : upd H5 pK (.dK (putK kvr (.inl (q : Int)) (.int (Ts.length : Nat)))) pR = some (.lst xs) := by rw [upd_ne hRK]; exact hx1
      have hx2' := hx2.mono tK
      have gK : Gx T H (upd H5 pK (.dK (putK kvr (.inl (q : Int)) (.int (Ts.length : Nat))))) := FD.g.mutK nK h5
      have kK : upd H5 pK (.dK (putK kvr (.inl (q : Int)) (.int (Ts.length : Nat)))) pK = some (.dK (putK kvr (.inl (q : Int)) (.int (Ts.length : Nat)))) := upd_same
      have kO : upd H5 pK (.dK (putK kvr (.inl (q : Int)) (.int (Ts.length : Nat)))) pO = some (.dK (dropK kvo (.inl (q : Int)))) := by rw [upd_ne hKO.symm]; exact FD.o
      have repK := FD.rep.mono tK
      generalize upd H5 pK (.dK (putK kvr (.inl (q : Int)) (.int (Ts.length : Nat)))) = H6 at hx1' hx2' gK kK kO repK ⊢
      obtain ⟨va, hva, iva⟩ := at_row hx2' hi'
      obtain ⟨vb, hvb, ivb⟩ := at_row hx2' hj'
      refine b_apD (gK.tab hT) (ee_v (pv 1) rfl (.ref _)) hx1' (sz_lt (by omega)) (d := rowT M.d (kt Ts ii jj x)) (EE.is (ee_tup (ea_cons (ee_v (pv 4) rfl (.int _)) (ea_cons (ee_v (pv 5) rfl (.int _)) (ea_cons (ee_tup (ea_cons
        (ee_ixT (ds := [.int (run M.d (at_ Ts ii) : Nat), .int ((at_ Ts ii).size : Nat), whyD M.d (at_ Ts ii)]) (i := 0) (ee_ixL (ee_v (pv 1) rfl (.ref _)) hx1' (ee_v (pv 6) rfl (.int _)) (atI_nat hva) iva) ee_int rfl) (ea_cons
        (ee_ixT (ds := [.int (run M.d (at_ Ts jj) : Nat), .int ((at_ Ts jj).size : Nat), whyD M.d (at_ Ts jj)]) (i := 0) (ee_ixL (ee_v (pv 1) rfl (.ref _)) hx1' (ee_v (pv 7) rfl (.int _)) (atI_nat hvb) ivb) ee_int rfl) (ea_cons (ee_v (pv 8) rfl (.int _)) ea_nil))) (sz_ok (by show 3 ≤ 1000000; decide))) ea_nil))) (sz_ok (by show 3 ≤ 1000000; decide))) ?_) fun v7' H7 g7 t7 i7 h7 => ?_
      · show D.tup [.int (q : Nat), .int ((1 + (at_ Ts ii).size + (at_ Ts jj).size : Nat) : Int), .tup (natsD [run M.d (at_ Ts ii), run M.d (at_ Ts jj), x])] = D.tup [.int (run M.d (kt Ts ii jj x) : Nat), .int ((kt Ts ii jj x).size : Nat), .tup (natsD [run M.d (at_ Ts ii), run M.d (at_ Ts jj), x])]
        have e1 : run M.d (kt Ts ii jj x) = q := hrm
        have e2 : (kt Ts ii jj x).size = 1 + (at_ Ts ii).size + (at_ Ts jj).size := by unfold kt; simp only [Tree.size]
        rw [e1, e2]
      · have tR := Ti.lst (o := .lst (xs ++ [v7'])) h7
        have FN : FHp T M H (upd H7 pR (.lst (xs ++ [v7']))) pR pK pO (Ts ++ [kt Ts ii jj x]) (putK kvr (.inl (q : Int)) (.int (Ts.length : Nat))) (dropK kvo (.inl (q : Int))) (fun r => if r = q then none else off r) := by
          refine ⟨(gK.trans g7).mutL nR h7, ⟨_, upd_same, by rw [List.map_append]; exact (hx2'.mono (g7.ti.trans tR)).snoc (i7.mono tR)⟩, by rw [upd_ne hRK.symm]; exact g7.dK kK, fun r => ?_, ?_, by rw [upd_ne hRO.symm]; exact g7.dK kO, repK.mono (g7.ti.trans tR)⟩
          · rw [valV_put]
            have e1 : run M.d (kt Ts ii jj x) = q := hrm
            have hmem : r ∈ rooms M.d (Ts ++ [kt Ts ii jj x]) ↔ r ∈ rooms M.d Ts ∨ r = q := by
              unfold rooms
              rw [List.map_append, List.mem_append]
              simp [e1]
            by_cases e : r = q
            · subst e
              rw [if_pos rfl]
              simp [hmem]
            · rw [if_neg (fun z => e (inlN_inj z)), FF.ks, decide_eq_decide, hmem]
              simp [e]
          · have := length_putK kvr (.inl (q : Int)) (.int (Ts.length : Nat))
            have := FF.kl
            rw [List.length_append, List.length_singleton]
            omega
        have ON : OffOk M.d M.letters (Ts ++ [kt Ts ii jj x]) (fun i j x => i < Ts.length ∧ j < Ts.length ∧ x < M.letters) (fun r => if r = q then none else off r) := OO.push fun r => by
          have e1 : run M.d (kt Ts ii jj x) = q := hrm
          rw [e1]
        generalize upd H7 pR (.lst (xs ++ [v7'])) = H8 at FN ⊢
        refine b_callW OF hr (by decide) rfl (FN.g.tab hT) (ea_cons (mach_table (ee_v (pv 0) rfl (im.mono FN.g.ti))) (ea_cons (ee_v (pv 1) rfl (.ref _)) (ea_cons (ee_v (pv 2) rfl (.ref _)) (ea_cons (ee_v (pv 3) rfl (.ref _)) ea_nil)))) fun H9 g9 t9 => ?_
        obtain ⟨post', hp1', hp2'⟩ := hcall FIn (FN.step g9) (ON.weak fun i j x => by rw [List.length_append, List.length_singleton, Nat.add_sub_cancel])
        refine ⟨post', hp1', fun v9 H10 hq' => b_nil ?_⟩
        obtain ⟨kvo2, off2, F2, O2⟩ := hp2' v9 H10 hq'
        exact ⟨(Ts ++ [kt Ts ii jj x], _, kvo2, off2), by show M.rooms + 1 - (Ts ++ [kt Ts ii jj x]).length < M.rooms + 1 - Ts.length; rw [List.length_append, List.length_singleton]; omega, _, _, _, _, _, rfl, FIn, F2, O2⟩
  · rintro ⟨Ts, kvr, kvo, off⟩ σ' H' H1' ⟨v4, v5, v6, v7, v8, rfl, FIr, FF, OO⟩ hc g0 t0
    have FF : FHp T M H H1' pR pK pO Ts kvr kvo off := FF.step g0
    have FIr : FI M.d M.letters Ts := FIr
    have OO : OffOk M.d M.letters Ts (fun i j x => i < Ts.length ∧ j < Ts.length ∧ x < M.letters) off := OO
    have hlen0 : ¬ 0 < kvo.length := of_decide_eq_false hc
    have hk0 : kvo = [] := List.length_eq_zero_iff.mp (by omega)
    have hoff : ∀ q, off q = none := fun q => by
      have := FF.rep.at_ q
      rw [hk0] at this
      cases ho : off q with
      | none => rfl
      | some k => rw [ho] at this; exact this.elim
    obtain ⟨xs, hx1, hx2⟩ := FF.r
    refine b_ret t0 (ee_tupP rfl G.tuple (ee_v (pv 1) rfl (.ref _)) hx1 hx2) fun v H2 g2 t2 i => ⟨FF.g.trans g2, Ts, ⟨FIr, fun t ot => FIr.full OO (fun i j x h1 h2 h3 => ⟨h1, h2, h3⟩) hoff ot⟩, i⟩
end
end Tk
set_option Elab.async false
set_option linter.all false
set_option maxRecDepth 100000
/-! numbered_looks. -/
namespace Tk
open PySem PySem.Spec PyProof.Rows L2 LamX NdefX
section
variable {T : List NTab} {X : Cx} {σ : L2.St} {H : Hp} {e a : Expr} {es : List Expr} {pos : Pos}
/-- arguments of which P is true -/
def EAX (T : List NTab) (X : Cx) (σ : L2.St) (H : Hp) (es : List Expr) (P : Hp → List V → Hp → Prop) : Prop := ∀ H1, Gx T H H1 → TabsN T H1 → wA X es σ H1 fun vs H2 => Gx T H1 H2 ∧ P H1 vs H2
theorem eax_nil : EAX T X σ H [] (fun _ vs _ => vs = []) := fun H1 g t => PA_to pa_nil ⟨Gx.refl H1, rfl⟩
theorem eax_cons {P : Hp → V → Hp → Prop} {Pr : Hp → List V → Hp → Prop} (ha : EX T X σ H e P) (hr : EAX T X σ H es Pr) (hs : starEach (e :: es) X.env = (false, eval e X.env) :: starEach es X.env := by rfl) : EAX T X σ H (e :: es) (fun H1 vs H3 => ∃ v r H2, vs = v :: r ∧ P H1 v H2 ∧ Gx T H1 H2 ∧ Gx T H2 H3 ∧ Pr H2 r H3) := fun H1 g t =>
  PA_to (pa_cons wE_pe wA_pa hs) (wE_imp (ha H1 g t) fun u H2 ⟨g2, i2⟩ => wA_imp (hr H2 (g.trans g2) (g2.tab t)) fun vs H3 ⟨g3, i3⟩ => ⟨g2.trans g3, u, vs, H2, rfl, i2, g2, g3, i3⟩)
theorem ex_callX {k j : Nat} {x1 : Str} {p1 : Pos} {ps : List Str} {R : Hp → List D → (Hp → V → Prop) → Prop} {Pa : Hp → List V → Hp → Prop} {P : Hp → V → Hp → Prop} (F : DefOk X.prog X.w X.K X.mg X.base T k x1 ps R) (hr : Room j X.A) (hk : k ≤ j) (hg : Gl X x1) (ha : EAX T X σ H (e :: es) Pa)
    (hR : ∀ H1 vs H2, Gx T H H1 → Gx T H1 H2 → Pa H1 vs H2 → ∃ ds post, IsAll H2 ds vs ∧ R H2 ds post ∧ ∀ v H3, Gx T H2 H3 → post H3 v → P H1 v H3) (hdb : (x1 == ("__debug__" : Str)) = false := by decide)
    (he : starEach (e :: es) X.env = (false, eval e X.env) :: starEach es X.env := by rfl) (hpl : (backTo pos (starEach es X.env)).any (·.1) = false := by rfl) : EX T X σ H (.Call (.Name x1 p1) (e :: es) [] pos) P := fun H1 g t => by
  obtain ⟨f, fd, hm, hkp, hb, F⟩ := F
  refine PE_to (pe_call (E := E0) F (hr.mono hk) hg hm hkp hb .nil pass0 wA_pa hdb he hpl) (wA_imp (ha H1 g t) fun vs H2 ⟨g2, i2⟩ => ?_)
  obtain ⟨ds, post, h0, h1, h2⟩ := hR H1 vs H2 g g2 i2
  exact ⟨g2.tab t, ds, post, by rw [List.append_nil]; exact h0, h1, fun v H' g' q => ⟨g2.trans g', h2 v H' g' q⟩⟩
theorem ee_neg {i : Int} (h : EE T X σ H e (.int i)) : EE T X σ H (.UnaryOp .USub e pos) (.int (-i)) := fun H1 g t =>
  PE_to (pe_un un_neg wE_pe) (wE_imp (h H1 g t) fun v H2 ⟨g2, i2⟩ => ⟨i, i2.int_eq, g2, .int _⟩)
end

/-! ### a dict by its keys' kind -/
structure DI (T : List NTab) (X : Cx) (κ : Type) [DecidableEq κ] (ob : Addr → List (κ × V) → HO) (kd : κ → D) : Prop where
  new : ∀ {σ : L2.St} {H : Hp} {pos : Pos}, EX T X σ H (.Dict [] [] pos) (fun H1 v H2 => ∃ p, v = .ref p ∧ H1 p = none ∧ H2 p = some (ob p []))
  nt : ∀ {σ : L2.St} {H : Hp} {i o : Expr} {pos : Pos} {p : Addr} {kvs : List (κ × V)} {k : κ}, EE T X σ H i (kd k) → EE T X σ H o (.ref p) → H p = some (ob p kvs) → behindInMarks .NotIn o = false → ET T X σ H (.Compare i [.NotIn] [o] pos) (!(valV kvs k).isSome)
  get : ∀ {σ : L2.St} {H : Hp} {i o : Expr} {pos : Pos} {p : Addr} {kvs : List (κ × V)} {k : κ} {n : Nat}, EE T X σ H i (kd k) → EE T X σ H o (.ref p) → H p = some (ob p kvs) → valV kvs k = some (.int (n : Nat)) → NoSl i → EE T X σ H (.Subscript o i pos) (.int (n : Nat))
  put : ∀ {σ : L2.St} {H : Hp} {i o e : Expr} {pos pos' : Pos} {rest : List Stmt} {D' : Ends} {p : Addr} {kvs : List (κ × V)} {k : κ} {n : Nat}, TabsN T H → EE T X σ H e (.int (n : Nat)) → EE T X σ H o (.ref p) → H p = some (ob p kvs) → kvs.length < sizeLine → EE T X σ H i (kd k) → swapsWith e (some (.Subscript o i pos')) pos.line X.env = pure false →
    (∀ H2, Gx T H H2 → TabsN T H2 → H2 p = some (ob p kvs) → TabKeep H2 (upd H2 p (ob p (putK kvs k (.int (n : Nat))))) → wB X rest D' σ (upd H2 p (ob p (putK kvs k (.int (n : Nat)))))) → wB X (.Assign [.Subscript o i pos'] e pos :: rest) D' σ H
  len : ∀ {σ : L2.St} {H : Hp} {e : Expr} {p1 pos : Pos} {p : Addr} {kvs : List (κ × V)}, EE T X σ H e (.ref p) → H p = some (ob p kvs) → starEach [e] X.env = (false, eval e X.env) :: starEach [] X.env → (backTo pos (starEach [] X.env)).any (·.1) = false → EE T X σ H (.Call (.Name "len" p1) [e] [] pos) (.int (kvs.length : Nat))
  tbl : ∀ p kvs ps, ob p kvs ≠ .tbl ps
  tup : ∀ p kvs xs, ob p kvs ≠ .tup xs
theorem di_nats {T : List NTab} {X : Cx} (hu : X.A.units + 1 < cLine) (hg : Gl X "len") (hm : X.mg "len" = none) : DI T X (List Nat) (fun _ kvs => .dT (kvs.map fun q => (kN q.1, q.2))) (fun k => .tup (natsD k)) := by
  have hv : ∀ (kvs : List (List Nat × V)) (k : List Nat), valV (kvs.map fun q => (kN q.1, q.2)) (kN k) = valV kvs k := by
    intro kvs k
    induction kvs with
    | nil => rfl
    | cons p r ih =>
      rw [List.map_cons]
      by_cases e : p.1 = k
      · rw [valV_pos (p := (kN p.1, p.2)) (by rw [e]), valV_pos e]
      · rw [valV_neg (p := (kN p.1, p.2)) (fun z => e (kN_inj z)), valV_neg e, ih]
  have hput : ∀ (kvs : List (List Nat × V)) (k : List Nat) (v : V), putK (kvs.map fun q => (kN q.1, q.2)) (kN k) v = (putK kvs k v).map fun q => (kN q.1, q.2) := by
    intro kvs k v
    have h1 : ((kvs.map fun q => (kN q.1, q.2)).any fun kv => decide (kv.1 = kN k)) = (kvs.any fun kv => decide (kv.1 = k)) := by
      rw [valV_any, valV_any, hv]
    unfold putK
    rw [h1]
    split
    · rw [List.map_map, List.map_map]
      refine List.map_congr_left fun q _ => ?_
      show (if kN q.1 = kN k then (kN q.1, v) else (kN q.1, q.2)) = (kN (if q.1 = k then (q.1, v) else q).1, (if q.1 = k then (q.1, v) else q).2)
      by_cases e : q.1 = k
      · rw [if_pos (by rw [e]), if_pos e]
      · rw [if_neg (fun z => e (kN_inj z)), if_neg e]
    · rw [List.map_append]; rfl
  exact {
    new := fun {σ H pos} => ex_newT
    nt := fun {σ H i o pos p kvs k} hi ho hp hm => ET.is (et_dnotT hu hi ho hp hm) (by rw [hv])
    get := fun {σ H i o pos p kvs k n} hi ho hp hk hs => ee_dgetT hu ho hp hi (by rw [hv]; exact hk) (.int _) hs
    put := fun {σ H i o e pos pos' rest D' p kvs k n} hT he ho hp hz hi hsw kk => b_dputT (ps_dput hu wE_pe wE_pe wE_pe hsw) hT he ho hp (by rw [List.length_map]; exact hz) hi fun v H1 H2 g1 g2 t2 iv h2 => by
      rw [iv.int_eq, hput]
      have := kk H2 (g1.trans g2) t2 h2
      exact this fun T t => tabs_dT t h2
    len := fun {σ H e p1 pos p kvs} he hp hs hpl => EE.is (ee_lenDT hg hm he hp hs hpl) (by rw [List.length_map])
    tbl := fun _ _ _ e => by cases e
    tup := fun _ _ _ e => by cases e }
theorem di_bool {T : List NTab} {X : Cx} (hg : Gl X "len") (hm : X.mg "len" = none) : DI T X Bool (dB X.prog X.w) (fun c => .bl c) := {
    new := fun {σ H pos} => ex_newB
    nt := fun {σ H i o pos p kvs k} hi ho hp hm => et_dnotB hi ho hp hm
    get := fun {σ H i o pos p kvs k n} hi ho hp hk hs => ee_dgetB ho hp hi hk (.int _) hs
    put := fun {σ H i o e pos pos' rest D' p kvs k n} hT he ho hp hz hi hsw kk => b_dputB hT he ho hp hz hi hsw fun v H1 H2 g1 g2 t2 iv h2 tk => by
      rw [iv.int_eq] at tk ⊢
      exact kk H2 (g1.trans g2) t2 h2 tk
    len := fun {σ H e p1 pos p kvs} he hp hs hpl => ee_lenB hg hm he hp hs hpl
    tbl := fun _ _ _ e => by cases e
    tup := fun _ _ _ e => by cases e }

/-! ### numbers by first appearance -/
def shK (met : List Nat) (sh : Nat → Nat) : List (L2.Key × V) := met.map fun q : Nat => ((Sum.inl (q : Int) : L2.Key), V.int (sh q : Nat))
theorem shK_get {met : List Nat} {sh : Nat → Nat} {q : Nat} (h : q ∈ met) : valV (shK met sh) (.inl (q : Int)) = some (.int (sh q : Nat)) := by
  induction met with
  | nil => cases h
  | cons a r ih =>
    unfold shK
    rw [List.map_cons]
    by_cases e : a = q
    · subst e
      exact valV_pos (p := ((Sum.inl (a : Int) : L2.Key), V.int (sh a : Nat))) rfl
    · rw [valV_neg (fun z => e (inlN_inj z))]
      exact ih ((List.mem_cons.mp h).resolve_left (fun z => e z.symm))
theorem shK_none {met : List Nat} {sh : Nat → Nat} {q : Nat} (h : q ∉ met) : valV (shK met sh) (.inl (q : Int)) = none := by
  induction met with
  | nil => rfl
  | cons a r ih =>
    unfold shK
    rw [List.map_cons, valV_neg (fun z => h (by rw [inlN_inj z]; exact List.mem_cons_self))]
    exact ih fun z => h (List.mem_cons_of_mem _ z)
theorem place_more {α : Type} [DecidableEq α] {a : α} {l : List α} (h : a ∈ l) (r : List α) : place a (met1 (l ++ r)) = place a (met1 l) := by
  induction r using snocInd with
  | h0 => rw [List.append_nil]
  | hs r b ih =>
    rw [← List.append_assoc, met1_snoc, metS_place ((mem_met1 _ _).mpr (List.mem_append_left _ h)), ih]
/-- the number of the looks -/
def shOf {κ : Type} [DecidableEq κ] (met : List Nat) (lk : Nat → κ) (q : Nat) : Nat := place (lk q) (met1 (met.map lk))
/-- the dict of what is seen -/
def SeenOk {κ : Type} [DecidableEq κ] (l : List κ) (kvs : List (κ × V)) : Prop := kvs.length = (met1 l).length ∧ ∀ a : κ, valV kvs a = if a ∈ l then some (.int (place a (met1 l) : Nat)) else none
theorem SeenOk.start {κ : Type} [DecidableEq κ] : SeenOk ([] : List κ) [] := ⟨rfl, fun a => by simp [valV]⟩
theorem SeenOk.old {κ : Type} [DecidableEq κ] {l : List κ} {kvs : List (κ × V)} (S : SeenOk l kvs) {b : κ} (h : b ∈ l) : SeenOk (l ++ [b]) kvs := by
  have e : met1 (l ++ [b]) = met1 l := by rw [met1_snoc]; unfold metS; rw [if_pos ((mem_met1 _ _).mpr h)]
  refine ⟨by rw [e]; exact S.1, fun a => ?_⟩
  rw [S.2, e]
  have : (a ∈ l ++ [b]) ↔ a ∈ l := by
    rw [List.mem_append]
    constructor
    · rintro (z | z)
      · exact z
      · simp at z; rw [z]; exact h
    · exact .inl
  by_cases q : a ∈ l
  · rw [if_pos q, if_pos (this.mpr q)]
  · rw [if_neg q, if_neg (fun z => q (this.mp z))]
theorem SeenOk.new {κ : Type} [DecidableEq κ] {l : List κ} {kvs : List (κ × V)} (S : SeenOk l kvs) {b : κ} (h : b ∉ l) : SeenOk (l ++ [b]) (putK kvs b (.int (kvs.length : Nat))) := by
  have e : met1 (l ++ [b]) = met1 l ++ [b] := by rw [met1_snoc]; unfold metS; rw [if_neg (fun z => h ((mem_met1 _ _).mp z))]
  have hn : valV kvs b = none := by rw [S.2, if_neg h]
  refine ⟨by rw [putK_new _ hn, e, List.length_append, List.length_append, S.1]; rfl, fun a => ?_⟩
  rw [valV_put, S.2, e]
  by_cases q : a = b
  · subst q
    rw [if_pos rfl, if_pos (by simp), place_new (fun z => h ((mem_met1 _ _).mp z)), S.1]
  · rw [if_neg q]
    by_cases q2 : a ∈ l
    · rw [if_pos q2, if_pos (by simp [q2]), place_app ((mem_met1 _ _).mpr q2)]
    · rw [if_neg q2, if_neg (by simp [q2, q])]
theorem met1_le {α : Type} [DecidableEq α] (l : List α) : (met1 l).length ≤ l.length := by
  induction l using snocInd with
  | h0 => exact Nat.le_refl _
  | hs l b ih =>
    rw [met1_snoc, List.length_append]
    unfold metS
    split
    · omega
    · rw [List.length_append]; simp; omega
section
variable {P : Program} {w : World} {K : PySem.W.Frag} {mg : Str → Option Value} {base : Heap} {T : List NTab} {f : Addr} {fd : FuncData}
abbrev sNumbered : Stmt := topS 42
abbrev nNumbered : List Str := ["met", "looks", "seen", "shades", "k"]
theorem sc_numbered : FnScope nNumbered ["met", "looks"] (defScope sNumbered) := ⟨rfl, rfl, rfl, by decide +kernel, rfl, by decide +kernel, by decide +kernel⟩
/-- met, the looks' data: the numbers by looks -/
def NumPost (met : List Nat) (sh : Nat → Nat) (H H' : Hp) (v : V) : Prop := ∃ p, v = .ref p ∧ H p = none ∧ H' p = some (.dK (shK met sh))
def R_numbered : Hp → List D → (Hp → V → Prop) → Prop := fun H ds post => ∃ (met : List Nat) (pM pL : Addr) (xs : List V), met.Nodup ∧ met.length ≤ 10000 ∧ ds = [.ref pM, .ref pL] ∧ H pM = some (.lst (natsV met)) ∧ H pL = some (.lst xs) ∧
  ((∃ lk : Nat → Bool, IsAll H (met.map fun q => .bl (lk q)) xs ∧ post = NumPost met (shOf met lk) H) ∨ (∃ lk : Nat → List Nat, IsAll H (met.map fun q => .tup (natsD (lk q))) xs ∧ post = NumPost met (shOf met lk) H))
set_option maxHeartbeats 1000000 in
theorem numbered_body {κ : Type} [DecidableEq κ] {ob : Addr → List (κ × V) → HO} {kd : κ → D} {cdv : Value} {A : Around} {outer : List Env} {s : Shared} {H : Hp} {E : XK} (G : Glo mg) (I : DI T (cx0 P w K mg base nNumbered "numbered_looks" sNumbered f cdv A outer s H E) κ ob kd) (hr : Room 0 (A.deeper (envOfC "numbered_looks" (defScope sNumbered) s.heap.objs.size f cdv))) (hT : TabsN T H)
    {met : List Nat} {lk : Nat → κ} {pM pL : Addr} {xs : List V} (hnd : met.Nodup) (hml : met.length ≤ 10000) (hM : H pM = some (.lst (natsV met))) (hL : H pL = some (.lst xs)) (ixs : IsAll H (met.map fun q => kd (lk q)) xs) :
    wB (cx0 P w K mg base nNumbered "numbered_looks" sNumbered f cdv A outer s H E) (defBody sNumbered) (Dn T H (NumPost met (shOf met lk) H)) (start nNumbered [.ref pM, .ref pL]) H := by
  have hu := room_u1 hr
  refine b_asg (ps_set (i := 2) sc_numbered.nd rfl (.inl rfl) wE_pe) hT I.new fun v H1 g1 t1 ⟨pS, ev, hpS, h1⟩ => ?_
  subst ev
  refine b_asg (ps_set (i := 3) sc_numbered.nd rfl (.inl rfl) wE_pe) t1 ex_newK fun v H2 g2 t2 ⟨pD, ev, hpD, h2⟩ => ?_
  subst ev
  have nS : H pS = none := hpS
  have nD : H pD = none := g1.low _ hpD
  have hSD : pS ≠ pD := fun e => by rw [e] at h1; rw [h1] at hpD; cases hpD
  have hobany : ∀ {Ha Hb : Hp} {kvs : List (κ × V)}, Gx T Ha Hb → Ha pS = some (ob pS kvs) → Hb pS = some (ob pS kvs) := fun g h => g.any h fun ps e => I.tbl _ _ ps e
  refine b_forN (j := 4) (n := met.length) sc_numbered.nd rfl G.range rfl PassesOwn.never t2 (EE.is (ee_lenL rfl G.len (ee_v (pv 0) rfl (.ref _)) ((g1.trans g2).lst hM)) (by simp [natsV])) (by omega)
    (fun i σ' H' => ∃ (kvs : List (κ × V)) (v4 : Option V), σ' = [some (.ref pM), some (.ref pL), some (.ref pS), some (.ref pD), v4] ∧ Gx T H H' ∧ H' pS = some (ob pS kvs) ∧ SeenOk ((met.take i).map lk) kvs ∧ H' pD = some (.dK (shK (met.take i) (shOf met lk))))
    (fun H3 g3 t3 => ⟨[], none, rfl, (g1.trans g2).trans g3, hobany (g2.trans g3) h1, SeenOk.start, g3.dK h2⟩) ?_ ?_
  · rintro i σ' H' hi ⟨kvs, v4, rfl, g, hS, S, hD⟩
    have t := g.tab hT
    have hmi : met[i]? = some met[i] := List.getElem?_eq_getElem hi
    generalize met[i] = q at hmi
    obtain ⟨vl, hvl, ivl⟩ := ixs.get (i := i) (d := kd (lk q)) (by rw [List.getElem?_map, hmi]; rfl)
    have hqv : (natsV met)[i]? = some (.int (q : Nat)) := by unfold natsV; rw [List.getElem?_map, hmi]; rfl
    have htake : met.take (i + 1) = met.take i ++ [q] := take_succ hmi
    have hklen : kvs.length ≤ 10000 := by
      rw [S.1]
      have h1 := met1_le ((met.take i).map lk)
      have h2 : ((met.take i).map lk).length ≤ met.length := by rw [List.length_map, List.length_take]; omega
      omega
    have hlook : ∀ {Ha : Hp} {p1 p2 p3 : Pos}, Gx T H Ha → EE T (cx0 P w K mg base nNumbered "numbered_looks" sNumbered f cdv A outer s H E) [some (.ref pM), some (.ref pL), some (.ref pS), some (.ref pD), some (.int (i : Nat))] Ha (.Subscript (.Name "looks" p1) (.Name "k" p2) p3) (kd (lk q)) := fun {Ha p1 p2 p3} ga =>
      ee_ixL (ee_v (pv 1) rfl (.ref _)) (ga.lst hL) (ee_v (pv 4) rfl (.int _)) (atI_nat hvl) (ivl.mono ga.ti)
    refine b_whenI (fun σ' H' => ∃ kvs : List (κ × V), σ' = [some (.ref pM), some (.ref pL), some (.ref pS), some (.ref pD), some (.int (i : Nat))] ∧ Gx T H H' ∧ H' pS = some (ob pS kvs) ∧ SeenOk ((met.take (i + 1)).map lk) kvs ∧ H' pD = some (.dK (shK (met.take i) (shOf met lk)))) t
      (ET.is (I.nt (hlook g) (ee_v (pv 2) rfl (.ref _)) hS rfl) (c' := !decide (lk q ∈ (met.take i).map lk)) (by rw [S.2]; by_cases hh : lk q ∈ (met.take i).map lk; (rw [if_pos hh, decide_eq_true hh]; rfl); (rw [if_neg hh, decide_eq_false hh]; rfl))) (fun hc H3 g3 t3 => ?_) (fun hc H3 g3 t3 => ?_) ?_
    · have hnot : lk q ∉ (met.take i).map lk := by simpa using hc
      have hS3 := hobany g3 hS
      refine I.put t3 (I.len (ee_v (pv 2) rfl (.ref _)) hS3 rfl rfl) (ee_v (pv 2) rfl (.ref _)) hS3 (sz_lt (by omega)) (hlook (g.trans g3)) rfl fun H4 g4 t4 h4 tk => b_nil ?_
      refine ⟨_, rfl, Gx.mutX (u' := .lst []) ((g.trans g3).trans g4) nS tk, upd_same, ?_, ?_⟩
      · rw [htake, List.map_append]
        exact S.new hnot
      · rw [upd_ne hSD.symm]; exact (g3.trans g4).dK hD
    · have hin : lk q ∈ (met.take i).map lk := by simpa using hc
      refine ⟨kvs, rfl, g.trans g3, hobany g3 hS, ?_, g3.dK hD⟩
      rw [htake, List.map_append]
      exact S.old hin
    · rintro σ' H' ⟨kvs, rfl, g, hS, S, hD⟩
      have t := g.tab hT
      have hpl : place (lk q) (met1 ((met.take (i + 1)).map lk)) = shOf met lk q := by
        unfold shOf
        have : met.map lk = (met.take (i + 1)).map lk ++ (met.drop (i + 1)).map lk := by rw [← List.map_append, List.take_append_drop]
        rw [this, place_more]
        rw [htake]; simp
      have hv : valV kvs (lk q) = some (.int (shOf met lk q : Nat)) := by
        rw [S.2, if_pos (by rw [htake]; simp), hpl]
      refine b_dputK (ps_dput hu wE_pe wE_pe wE_pe rfl) t (I.get (hlook g) (ee_v (pv 2) rfl (.ref _)) hS hv (fun _ _ => rfl)) (ee_v (pv 3) rfl (.ref _)) hD (sz_lt (by simp [shK]; omega)) (n := q) (ee_ixL (ee_v (pv 0) rfl (.ref _)) (g.lst hM) (ee_v (pv 4) rfl (.int _)) (atI_nat hqv) (.int _)) fun v H3 H4 g3 g4 t4 iv h4 => b_nil ?_
      rw [iv.int_eq]
      have gm := (g.trans (g3.trans g4)).mutK nD h4 (o := .dK (putK (shK (met.take i) (shOf met lk)) (.inl (q : Int)) (.int (shOf met lk q : Nat))))
      refine ⟨kvs, _, rfl, gm, ?_, S, ?_⟩
      · rw [upd_ne hSD]; exact hobany (g3.trans g4) hS
      · rw [upd_same]
        have hnq : q ∉ met.take i := by
          intro z
          obtain ⟨j, hj, ej⟩ := List.mem_iff_getElem.mp z
          have hj2 : j < i := by simp at hj; omega
          rw [List.getElem_take] at ej
          have e1 : met[i]'hi = q := by rw [List.getElem?_eq_getElem hi] at hmi; exact Option.some.inj hmi
          have hpw := List.pairwise_iff_getElem.mp hnd j i (by omega) hi hj2
          exact hpw (ej.trans e1.symm)
        rw [putK_new _ (shK_none hnq), htake]
        simp [shK]
  · rintro σ' H' ⟨kvs, v4, rfl, g, hS, S, hD⟩
    refine b_ret (g.tab hT) (ee_v (pv 3) rfl (.ref _)) fun v H1 g1 t1 i => ⟨g.trans g1, pD, i.ref_eq, nD, ?_⟩
    rw [List.take_length] at hD
    exact g1.dK hD
theorem ok_numbered (F : Fun K "numbered_looks" "numbered_looks" sNumbered f fd) (hm : mg "numbered_looks" = some (.ref f)) (G : Glo mg) : DefOk P w K mg base T 1 "numbered_looks" ["met", "looks"] R_numbered := by
  refine def_ok F hm sc_numbered (fun _ _ _ _ _ _ us hl => match us, hl with | [_, _], _ => rfl) (fun H ds post ⟨_, _, _, _, _, _, e, _⟩ => by rw [e]; rfl) fun cdv A outer s H E vs ds post hr hT hi ⟨met, pM, pL, xs, hnd, hml, e1, hM, hL, hh⟩ => ?_
  subst e1
  obtain ⟨_, _, rfl, i1, i2⟩ := isAll2 hi
  cases i1; cases i2
  rcases hh with ⟨lk, ixs, e2⟩ | ⟨lk, ixs, e2⟩
  · subst e2
    exact numbered_body (kd := fun c => .bl c) G (di_bool rfl G.len) hr hT hnd hml hM hL ixs
  · subst e2
    exact numbered_body (kd := fun k => .tup (natsD k)) G (di_nats (room_u1 hr) rfl G.len) hr hT hnd hml hM hL ixs
end
end Tk
set_option Elab.async false
set_option linter.all false
set_option maxRecDepth 100000
/-! look_of, class_rounds. -/
namespace Tk
open PySem PySem.Spec PyProof.Rows L2 LamX NdefX
section
variable {X : Cx} {o : Expr} {p pos apos mpos : Pos} {td : TE}
/-- max(o.values()), a dict with int values, one at least -/
def tMaxVals (td : TE) : TE := fun σ H Q => td σ H fun x H1 => ∃ a kvs is, x = V.ref a ∧ H1 a = some (.dK kvs) ∧ kvs.map (·.2) = is.map V.int ∧ is ≠ [] ∧ ∀ m, m ∈ is → (∀ j ∈ is, j ≤ m) → Q (.int m) H1
theorem pe_maxVals (hc : X.calm = true) (hg : Gl X "max") (hm : X.mg "max" = none) (hd : PE X o td) (hbase : attributeBase o "values" X.env (eval o X.env) = eval o X.env := by rfl) (hline : (apos.endLine == mpos.line) = true := by rfl)
    (hse : starEach [Expr.Call (.Attribute o "values" apos) [] [] mpos] X.env = [(false, eval (Expr.Call (.Attribute o "values" apos) [] [] mpos) X.env)] := by rfl) :
    PE X (.Call (.Name "max" p) [.Call (.Attribute o "values" apos) [] [] mpos] [] pos) (tMaxVals td) := by
  refine ⟨fun pins s σ H Q I h => ?_⟩
  refine wpAny_Call_Name_kw (ld_blt I hg hm (u := .builtin "max") (by first | rfl | decide +kernel) ?_ (by first | decide +kernel | decide) (by first | decide +kernel | decide))
  rw [hse]
  refine PySem.callWith_builtin1 (wpAny_Call_method0_late hbase hline (thn (hd.run pins s σ H _ I h) fun v s1 ⟨x, H1, I1, r1, a, kvs, is, ex, ha, hv, hne, q⟩ => ?_))
  subst ex
  obtain rfl : v = Value.ref a := r1
  obtain ⟨_, hsys, vs, rel, dof⟩ := dk_of I1.hok ha
  obtain ⟨ep, dat⟩ := dof.dictAt
  obtain ⟨ob, es, ho, ex, hdat, hko, hpr, hnd⟩ := id dat
  refine ⟨"dict", "dict.values", PySem.F.plainAttrs_dict, PySem.F.slot_dict_values, PySem.F.type_dict_values, ⟨ob, ho, ex.1⟩, fun b e => ?_, Calls.callWith_builtin rfl (PySem.evalArgs_none ?_)⟩
  · cases e
    exact ⟨ob, ho, ex.2.1⟩
  refine call_meetsIn PySem.F.slot_dict_values ⟨ob, ho, ex.1⟩ PySem.F.entry_dict_values (PySem.F.args_dict_values_1 _) (meets_dict_values (mixKind X.prog X.w) a hsys) ⟨⟨vs, dof⟩, ?_⟩
  have k1 : ∀ b u, s1.heap.get? b = some u → (s1.heap.push { cls := .type "dict_values", data := .fields #[.ref a] }).get? b = some u := fun b u e => Heap.get?_push_of_some _ e
  have dat1 : (s1.heap.push { cls := .type "dict_values", data := .fields #[.ref a] }).DictAt (mixKind X.prog X.w) a vs ep := dat.keep k1
  have hlv : vs.length = is.length := by
    have e1 := congrArg List.length hv
    rw [List.length_map, List.length_map] at e1
    rw [← e1]
    exact (KV.length rel).symm
  have hlen : 0 < vs.length := by
    rw [hlv]
    exact List.length_pos_iff.mpr hne
  have hval : ∀ (i : Nat) (v : Value), (∃ k, vs[i]? = some (k, v)) → ∃ t, v = Value.int (is.getD i 0) t := fun i v ⟨k, hk⟩ => by
    obtain ⟨x, h1, h2⟩ := KV.at' rel hk
    have e1 : (kvs.map (·.2))[i]? = some x := by rw [List.getElem?_map, h1] <;> rfl
    rw [hv, List.getElem?_map] at e1
    obtain ⟨j, hj, e2⟩ := Option.map_eq_some_iff.mp e1
    subst e2
    obtain ⟨t, e3⟩ := h2
    refine ⟨t, ?_⟩
    rw [e3, List.getD_eq_getElem?_getD, hj] <;> rfl
  have hlt : a < s1.heap.objs.size := Heap.lt_size ho
  have hsz : (s1.heap.push { cls := .type "dict_values", data := .fields #[.ref a] }).objs.size = s1.heap.objs.size + 1 := Heap.size_push _ _
  refine call_max_walk (wpAny_pyIter_values (v := s1.heap.objs.size) (d := a) ⟨_, Heap.get?_push_size _ rfl, rfl, rfl⟩ dat1 ?_)
  refine ⟨_, _, _, _, _, _, _, rfl, Walks.dictValues (knd := mixKind X.prog X.w) (A := X.A.in1) (I.ok.hd hc) (s1.heap.push { cls := .type "dict_values", data := .fields #[.ref a] }).objs.size a (by rw [hsz]; exact Nat.ne_of_lt (Nat.lt_succ_of_lt hlt)) vs ep,
    ⟨⟨_, Heap.get?_push_size _ rfl, rfl, rfl⟩, dat1.keep fun b u e => Heap.get?_push_of_some _ e⟩, fun b hb => ?_, hlen, CmpOf.ints_gt (fun i => is.getD i 0) hval, fun v h' tk hP hk => ?_⟩
  · show b < ((s1.heap.push _).push _).objs.size
    rw [Heap.size_push, Heap.size_push]
    rw [hsz] at hb
    rcases List.mem_cons.mp hb with e | hb
    · rw [e]
      exact Nat.lt_succ_self _
    · have e : b = a := List.mem_singleton.mp hb
      rw [e]
      exact Nat.lt_succ_of_lt (Nat.lt_succ_of_lt hlt)
  · obtain ⟨t, rfl⟩ := hval _ v hP
    obtain ⟨b1, b2⟩ := argBest_gt (fun i => is.getD i 0) (vs.length - 1)
    refine ⟨.int _, H1, I1.kept (t' := tk) fun b u e => hk b u (fun hmem => ?_) (Heap.get?_push_of_some _ (k1 b u e)), ⟨t, rfl⟩, q _ ?_ fun j hj => ?_⟩
    · have e1 : b = (s1.heap.push { cls := .type "dict_values", data := .fields #[.ref a] }).objs.size := List.mem_singleton.mp hmem
      have e2 := Heap.lt_size e
      rw [hsz] at e1
      rw [e1] at e2
      exact absurd e2 (Nat.not_lt.mpr (Nat.le_succ _))
    · have hb : argBest (fun i j => decide (is.getD i 0 > is.getD j 0)) (vs.length - 1) < is.length := by omega
      rw [List.getD_eq_getElem?_getD, List.getElem?_eq_getElem hb]
      exact List.getElem_mem hb
    · obtain ⟨i, hi, e⟩ := List.mem_iff_getElem.mp hj
      have e2 : is.getD i 0 = j := by rw [List.getD_eq_getElem?_getD, List.getElem?_eq_getElem hi, ← e] <;> rfl
      rw [← e2]
      exact b2 i (by omega)
end
section
variable {T : List NTab} {X : Cx} {σ : L2.St} {H : Hp} {o : Expr} {es : List Expr} {p1 pos apos mpos : Pos} {p : Addr} {met : List Nat} {sh : Nat → Nat} {m : Nat}
theorem ee_maxV (hc : X.calm = true) (hg : Gl X "max") (hm : X.mg "max" = none) (ho : EE T X σ H o (.ref p)) (hp : H p = some (.dK (shK met sh))) (h1 : ∃ q ∈ met, sh q = m) (h2 : ∀ q ∈ met, sh q ≤ m) (hbase : attributeBase o "values" X.env (eval o X.env) = eval o X.env := by rfl) (hline : (apos.endLine == mpos.line) = true := by rfl)
    (hse : starEach [Expr.Call (.Attribute o "values" apos) [] [] mpos] X.env = [(false, eval (Expr.Call (.Attribute o "values" apos) [] [] mpos) X.env)] := by rfl) :
    EE T X σ H (.Call (.Name "max" p1) [.Call (.Attribute o "values" apos) [] [] mpos] [] pos) (.int (m : Nat)) := fun H1 g t =>
  PE_to (pe_maxVals hc hg hm wE_pe hbase hline hse) (wE_imp (ho H1 g t) fun v H2 ⟨g2, i⟩ => by
    obtain ⟨q0, hq0, e0⟩ := h1
    refine ⟨p, _, met.map fun q => ((sh q : Nat) : Int), i.ref_eq, (g.trans g2).dK hp, by rw [shK, List.map_map, List.map_map]; rfl, fun e => ?_, fun mm hm1 hm2 => ⟨g2, ?_⟩⟩
    · rw [List.map_eq_nil_iff] at e
      rw [e] at hq0; cases hq0
    · obtain ⟨q, hq, e⟩ := List.mem_map.mp hm1
      have a1 := hm2 _ (List.mem_map_of_mem hq0)
      have a2 := h2 q hq
      have : mm = (m : Int) := by omega
      rw [this]; exact .int _)
/-- [e, ..], new -/
theorem ex_lstX {Pa : Hp → List V → Hp → Prop} (h : EAX T X σ H es Pa) (hz : es.length ≤ 1000) (hl : ∀ H1 vs H2, Pa H1 vs H2 → vs.length ≤ 1000) : EX T X σ H (.List es pos) (fun H1 v H3 => ∃ p vs H2, v = .ref p ∧ H1 p = none ∧ Pa H1 vs H2 ∧ Gx T H1 H2 ∧ Gx T H2 H3 ∧ H3 p = some (.lst vs)) := fun H1 g t =>
  PE_to (pe_lst wA_pa) (wA_imp (h H1 g t) fun vs H2 ⟨g2, i2⟩ => ⟨sz_ok (by have := hl _ _ _ i2; omega), fun p hp => ⟨g2.trans (Gx.new hp), p, vs, H2, rfl, g2.low p hp, i2, g2, Gx.new hp, upd_same⟩⟩)
end
/-- what is small -/
structure Sm (M : Mach) : Prop where
  r : M.rooms ≤ 9000
  l : M.letters ≤ 8192
  p : M.rooms * M.letters ≤ 1000000
section
variable {P : Program} {w : World} {K : PySem.W.Frag} {mg : Str → Option Value} {base : Heap} {T : List NTab} {f : Addr} {fd : FuncData}
abbrev sLook : Stmt := topS 43
abbrev nLook : List Str := ["machine", "met", "shades", "room", "found", "rows", "third"]
theorem sc_look : FnScope nLook ["machine", "met", "shades", "room"] (defScope sLook) := ⟨rfl, rfl, rfl, by decide +kernel, rfl, by decide +kernel, by decide +kernel⟩
theorem natsV_app (a b : List Nat) : natsV (a ++ b) = natsV a ++ natsV b := by simp [natsV]
def R_look : Hp → List D → (Hp → V → Prop) → Prop := fun H ds post => ∃ (M : Mach) (met : List Nat) (sh : Nat → Nat) (pM pS : Addr) (a : Nat), M.Ok ∧ Sm M ∧ MetOk M.d M.letters met ∧ (∀ q ∈ met, q < M.rooms) ∧ met.length ≤ M.rooms ∧ a ∈ met ∧ ds = [machD M, .ref pM, .ref pS, .int (a : Nat)] ∧ H pM = some (.lst (natsV met)) ∧ H pS = some (.dK (shK met sh)) ∧
  post = fun H' v => Is H' (.tup (natsD (look M.d M.letters met sh a))) v
abbrev look1 (M : Mach) (met : List Nat) (sh : Nat → Nat) (a x : Nat) (l : List Nat) : List Nat := l.flatMap fun c => [sh (M.d x a c), sh (M.d x c a)]
theorem look1_len (M : Mach) (met : List Nat) (sh : Nat → Nat) (a x : Nat) (l : List Nat) : (look1 M met sh a x l).length = 2 * l.length := by
  induction l with
  | nil => rfl
  | cons b r ih => unfold look1 at ih ⊢; rw [List.flatMap_cons, List.length_append, ih, List.length_cons]; simp; omega
theorem look2_len (M : Mach) (met : List Nat) (sh : Nat → Nat) (a x : Nat) : ((List.range x).flatMap fun x => look1 M met sh a x met).length = 2 * (x * met.length) := by
  induction x with
  | zero => simp
  | succ x ih => rw [List.range_succ, List.flatMap_append, List.length_append, ih, List.flatMap_cons, List.flatMap_nil, List.append_nil, look1_len]; have := Nat.succ_mul x met.length; rw [Nat.succ_eq_add_one] at this; omega
theorem ok_look (F : Fun K "look_of" "look_of" sLook f fd) (hm : mg "look_of" = some (.ref f)) (G : Glo mg) : DefOk P w K mg base T 1 "look_of" ["machine", "met", "shades", "room"] R_look := by
  refine def_ok F hm sc_look (fun _ _ _ _ _ _ us hl => match us, hl with | [_, _, _, _], _ => rfl) (fun H ds post ⟨_, _, _, _, _, _, _, _, _, _, _, _, e, _⟩ => by rw [e]; rfl) fun cdv A outer s H E vs ds post hr hT hi ⟨M, met, sh, pM, pS, a, hO, hS, hMet, hlt, hml, ha, e1, hM, hSh, e2⟩ => ?_
  subst e1 e2
  obtain ⟨vm, _, _, _, rfl, im, i2, i3, i4⟩ := isAll4 hi
  cases i2; cases i3; cases i4
  have hu := room_u1 hr
  have hbound : ∀ x, x ≤ M.letters → x * met.length ≤ 1000000 := fun x hx => by
    have h1 := Nat.mul_le_mul hx hml
    have := hS.p
    rw [Nat.mul_comm M.rooms] at this
    omega
  refine b_asg (ps_set (i := 4) sc_look.nd rfl (.inl rfl) wE_pe) hT (el_lst (ea_cons (ee_dgetK hu (ee_v (pv 2) rfl (.ref _)) hSh (ee_v (pv 3) rfl (.int _)) (shK_get ha) (.int _)) ea_nil) (sz_ok (by show 1 ≤ 1000000; decide))) fun v H1 g1 t1 ⟨pF, xs0, ev, hpF, h1, i1⟩ => ?_
  subst ev
  have hx0 : xs0 = natsV [sh a] := (show IsAll H1 (natsD [sh a]) xs0 from i1).nats
  subst hx0
  refine b_forT (ds := M.table.map rowsD) (gT := gName 5) (ps_for PassesOwn.never rfl (pi_tup wE_pe) (pg_name (i := 5) sc_look.nd rfl (Or.inl rfl)) wB_pss) t1 (mach_table (ee_v (pv 0) rfl (im.mono g1.ti))) fun H2 g2 t2 => ?_
  refine ⟨fun x σ' H' => ∃ v5 v6 : Option V, σ' = [some vm, some (.ref pM), some (.ref pS), some (.int (a : Nat)), some (.ref pF), v5, v6] ∧ x ≤ M.letters ∧ Gx T H H' ∧ Ti H2 H' ∧ H' pF = some (.lst (natsV (sh a :: (List.range x).flatMap fun x => look1 M met sh a x met))), ⟨none, none, rfl, Nat.zero_le _, g1.trans g2, Ti.refl _, g2.lst h1⟩, fun x σ' H' ⟨_, _, _, _, _, ti, _⟩ => ti, ?_, ?_⟩
  · rintro x di v σ' H' hdi iv ⟨v5, v6, rfl, hxl, g, ti, hF⟩
    rw [List.getElem?_map] at hdi
    obtain ⟨rows, hrows, rfl⟩ := Option.map_eq_some_iff.mp hdi
    have hx : x < M.letters := by rw [← hO.tl]; exact (List.getElem?_eq_some_iff.mp hrows).1
    refine b_forL (p := pM) (xs := natsV met) (gT := gName 6) (ps_for PassesOwn.never rfl (pi_list wE_pe) (pg_name (i := 6) sc_look.nd rfl (Or.inl rfl)) wB_pss) (g.tab hT) (ee_v (pv 1) rfl (.ref _)) (SqL.of (g.lst hM)) (fun H3 g3 => SqL.of ((g.trans g3).lst hM))
      (fun j σ' H' => ∃ v6 : Option V, σ' = [some vm, some (.ref pM), some (.ref pS), some (.int (a : Nat)), some (.ref pF), some v, v6] ∧ Gx T H H' ∧ Ti H2 H' ∧ Is H' (rowsD rows) v ∧ H' pF = some (.lst (natsV ((sh a :: (List.range x).flatMap fun x => look1 M met sh a x met) ++ look1 M met sh a x (met.take j)))))
      (fun H3 g3 t3 => ⟨v6, rfl, g.trans g3, ti.trans g3.ti, iv.mono g3.ti, by rw [List.take_zero]; show H3 pF = some (.lst (natsV (_ ++ []))); rw [List.append_nil]; exact g3.lst hF⟩) (fun j σ' H' _ ⟨_, _, g, _, _, _⟩ => SqL.of (g.lst hM)) ?_ ?_
    · rintro j vc σ' H' hj ⟨v6, rfl, g, ti, iv, hF⟩
      unfold natsV at hj
      rw [List.getElem?_map] at hj
      obtain ⟨c, hc, rfl⟩ := Option.map_eq_some_iff.mp hj
      have hcm : c ∈ met := List.mem_of_getElem? hc
      have hjl : j < met.length := (List.getElem?_eq_some_iff.mp hc).1
      show wB _ _ _ ([some vm, some (.ref pM), some (.ref pS), some (.int (a : Nat)), some (.ref pF), some v, some (.int (c : Nat))]) H'
      have hlen : ((sh a :: (List.range x).flatMap fun x => look1 M met sh a x met) ++ look1 M met sh a x (met.take j)).length + 2 < 16000000 := by
        rw [List.length_append, List.length_cons, look2_len, look1_len, List.length_take]
        have := hbound x hxl
        have := hS.r
        omega
      have hent : ∀ {Ha : Hp} {p1 p2 p3 p4 p5 : Pos} {b c' : Expr} {nb nc : Nat} {σ' : L2.St}, Is Ha (rowsD rows) v → EE T (cx0 P w K mg base nLook "look_of" sLook f cdv A outer s H E) σ' Ha b (.int (nb : Nat)) → EE T (cx0 P w K mg base nLook "look_of" sLook f cdv A outer s H E) σ' Ha c' (.int (nc : Nat)) → nb ∈ met → nc ∈ met → σ'[5]? = some (some v) → σ'[2]? = some (some (.ref pS)) → Gx T H Ha → PlainIx b → PlainIx c' → NoSl (.Subscript (.Subscript (.Name "rows" p1) b p2) c' p3) →
          EE T (cx0 P w K mg base nLook "look_of" sLook f cdv A outer s H E) σ' Ha (.Subscript (.Name "shades" p4) (.Subscript (.Subscript (.Name "rows" p1) b p2) c' p3) p5) (.int (sh (M.d x nb nc) : Nat)) := fun ir hb hc' hbm hcm' h5 h2 ga pb pc ns =>
        ee_dgetK hu (ee_v (pv 2) h2 (.ref _)) (ga.dK hSh) (mach_entry hO (ee_v (pv 5) h5 ir) hrows hx hb (hlt _ hbm) hc' (hlt _ hcm') pb pc) (shK_get (hMet.shut _ _ _ hx hbm hcm')) (.int _) ns
      refine b_apD (g.tab hT) (ee_v (pv 4) rfl (.ref _)) hF (by rw [sizeLine_eq, natsV, List.length_map]; omega) (hent iv (ee_v (pv 3) rfl (.int _)) (ee_v (pv 6) rfl (.int _)) ha hcm rfl rfl g (fun _ _ => rfl) (fun _ _ => rfl) (fun _ _ => rfl)) fun v7 H3 g3 t3 i7 h7 => ?_
      rw [i7.int_eq]
      have tF := Ti.lst (o := .lst (natsV ((sh a :: (List.range x).flatMap fun x => look1 M met sh a x met) ++ look1 M met sh a x (met.take j)) ++ [.int (sh (M.d x a c) : Nat)])) h7
      have gF := (g.trans g3).mutL hpF h7 (o := .lst (natsV ((sh a :: (List.range x).flatMap fun x => look1 M met sh a x met) ++ look1 M met sh a x (met.take j)) ++ [.int (sh (M.d x a c) : Nat)]))
      have iv := iv.mono (g3.ti.trans tF)
      have ti := ti.trans (g3.ti.trans tF)
      have hF : upd H3 pF (.lst (natsV ((sh a :: (List.range x).flatMap fun x => look1 M met sh a x met) ++ look1 M met sh a x (met.take j)) ++ [.int (sh (M.d x a c) : Nat)])) pF = some (.lst (natsV ((sh a :: (List.range x).flatMap fun x => look1 M met sh a x met) ++ look1 M met sh a x (met.take j)) ++ [.int (sh (M.d x a c) : Nat)])) := upd_same
      generalize upd H3 pF _ = H4 at gF iv ti hF ⊢
      refine b_apD (gF.tab hT) (ee_v (pv 4) rfl (.ref _)) hF (by rw [sizeLine_eq, List.length_append, natsV, List.length_map, List.length_singleton]; omega) (hent iv (ee_v (pv 6) rfl (.int _)) (ee_v (pv 3) rfl (.int _)) hcm ha rfl rfl gF (fun _ _ => rfl) (fun _ _ => rfl) (fun _ _ => rfl)) fun v8 H5 g5 t5 i8 h8 => b_nil ?_
      rw [i8.int_eq]
      refine ⟨_, rfl, (gF.trans g5).mutL hpF h8, ti.trans (g5.ti.trans (Ti.lst h8)), iv.mono (g5.ti.trans (Ti.lst h8)), ?_⟩
      rw [upd_same, take_succ hc]
      simp [natsV, look1, List.flatMap_append]
    · rintro σ' H' ⟨v6, rfl, g, ti, iv, hF⟩
      have e : (natsV met).length = met.length := by simp [natsV]
      rw [e, List.take_length] at hF
      refine b_nil ⟨_, _, rfl, hx, g, ti, ?_⟩
      rw [List.range_succ, List.flatMap_append, List.flatMap_cons, List.flatMap_nil, List.append_nil]
      exact hF
  · rintro σ' H' ⟨v5, v6, rfl, hxl, g, ti, hF⟩
    rw [List.length_map, hO.tl] at hF
    refine b_ret (g.tab hT) (ee_tupP (ds := natsD (look M.d M.letters met sh a)) rfl G.tuple (ee_v (pv 4) rfl (.ref _)) hF (isAll_nats _)) fun v H3 g3 t3 i => ⟨g.trans g3, i⟩
end
end Tk
set_option Elab.async false
set_option linter.all false
set_option maxRecDepth 100000
/-! class_rounds. -/
namespace Tk
open PySem PySem.Spec PyProof.Rows L2 LamX NdefX
section
variable {P : Program} {w : World} {K : PySem.W.Frag} {mg : Str → Option Value} {base : Heap} {T : List NTab} {f : Addr} {fd : FuncData}
abbrev sRounds : Stmt := topS 44
abbrev nRounds : List Str := ["machine", "met", "rounds", "shades", "finer", "room"]
theorem sc_rounds : FnScope nRounds ["machine", "met"] (defScope sRounds) := ⟨rfl, rfl, rfl, by decide +kernel, rfl, by decide +kernel, by decide +kernel⟩
def R_rounds : Hp → List D → (Hp → V → Prop) → Prop := fun H ds post => ∃ (M : Mach) (met : List Nat) (pM : Addr), M.Ok ∧ Sm M ∧ MetOk M.d M.letters met ∧ (∀ q ∈ met, q < M.rooms) ∧ met ≠ [] ∧ ds = [machD M, .ref pM] ∧ H pM = some (.lst (natsV met)) ∧
  post = fun H' v => ∃ (p pS : Addr) (xs : List V) (sh : Nat → Nat) (Kn : Nat), v = .ref p ∧ H' p = some (.lst (xs ++ [.ref pS])) ∧ H' pS = some (.dK (shK met sh)) ∧ RI M.d M.letters M.g met sh Kn ∧ Stable M.d M.letters met sh
theorem fa_max {l : List Nat} {n : Nat} (h : FAn l n) (hl : l ≠ []) : 1 ≤ n ∧ (∃ a ∈ l, a = n - 1) ∧ ∀ a ∈ l, a ≤ n - 1 := by
  obtain ⟨a, ha⟩ := List.exists_mem_of_ne_nil l hl
  have h1 := h.lt a ha
  refine ⟨by omega, ⟨n - 1, h.mem (n - 1) (by omega), rfl⟩, fun b hb => ?_⟩
  have := h.lt b hb
  omega
theorem sh_max {met : List Nat} {sh : Nat → Nat} {n : Nat} (h : FAn (met.map sh) n) (hl : met ≠ []) : 1 ≤ n ∧ (∃ q ∈ met, sh q = n - 1) ∧ ∀ q ∈ met, sh q ≤ n - 1 := by
  obtain ⟨h1, ⟨a, ha, e⟩, h3⟩ := fa_max h (by simpa using hl)
  obtain ⟨q, hq, e2⟩ := List.mem_map.mp ha
  exact ⟨h1, ⟨q, hq, by omega⟩, fun q hq => h3 _ (List.mem_map_of_mem hq)⟩
theorem map_range {α : Type} {l : List Nat} (f : Nat → α) : (List.range l.length).map (fun i => f (l.getD i 0)) = l.map f := by
  refine List.ext_getElem? fun i => ?_
  rw [List.getElem?_map, List.getElem?_map]
  by_cases hi : i < l.length
  · rw [List.getElem?_range hi, List.getElem?_eq_getElem hi]
    simp [List.getD_eq_getElem?_getD, List.getElem?_eq_getElem hi]
  · have q1 : (List.range l.length)[i]? = none := List.getElem?_eq_none (by simpa using hi)
    have q2 : l[i]? = none := List.getElem?_eq_none (by omega)
    rw [q1, q2]; rfl
theorem nats_at {l : List Nat} {i : Nat} {d : D} (h : (natsD l)[i]? = some d) : l[i]? = some (l.getD i 0) ∧ d = .int ((l.getD i 0 : Nat) : Int) := by
  unfold natsD at h
  rw [List.getElem?_map] at h
  cases e : l[i]? with
  | none => rw [e] at h; cases h
  | some c => rw [e] at h; simp [List.getD_eq_getElem?_getD, e] at h ⊢; exact h.symm
set_option maxHeartbeats 1000000 in
theorem ok_rounds (F : Fun K "class_rounds" "class_rounds" sRounds f fd) (hm : mg "class_rounds" = some (.ref f)) (G : Glo mg) (NU : DefOk P w K mg base T 1 "numbered_looks" ["met", "looks"] R_numbered) (LO : DefOk P w K mg base T 1 "look_of" ["machine", "met", "shades", "room"] R_look) :
    DefOk P w K mg base T 2 "class_rounds" ["machine", "met"] R_rounds := by
  refine def_ok F hm sc_rounds (fun _ _ _ _ _ _ us hl => match us, hl with | [_, _], _ => rfl) (fun H ds post ⟨_, _, _, _, _, _, _, _, e, _⟩ => by rw [e]; rfl) fun cdv A outer s H E vs ds post hr hT hi ⟨M, met, pM, hO, hS, hMet, hlt, hne, e1, hM, e2⟩ => ?_
  subst e1 e2
  obtain ⟨vm, _, rfl, im, i2⟩ := isAll2 hi
  cases i2
  have hml : met.length ≤ M.rooms := nodup_le hMet.nd hlt
  have hr9 := hS.r
  have hmet : ∀ i di, (natsD met)[i]? = some di → met.getD i 0 ∈ met ∧ di = .int ((met.getD i 0 : Nat) : Int) := fun i di h => by
    obtain ⟨h1, h2⟩ := nats_at h
    exact ⟨List.mem_of_getElem? h1, h2⟩
  have hlenD : (natsD met).length = met.length := by simp [natsD]
  -- one call of numbered_looks: over truths, over looks
  have hcall1 : ∀ {σ' : L2.St} {H' : Hp} {p1 p2 pos : Pos} {ce : Expr}, σ'[1]? = some (some (.ref pM)) → Gx T H H' → EL T (cx0 P w K mg base nRounds "class_rounds" sRounds f cdv A outer s H E) σ' H' ce (met.map fun q => .bl (M.g q)) →
      (∀ {X : Cx}, X = cx0 P w K mg base nRounds "class_rounds" sRounds f cdv A outer s H E → starEach [.Name "met" p2, ce] X.env = (false, eval (.Name "met" p2) X.env) :: starEach [ce] X.env ∧ starEach [ce] X.env = (false, eval ce X.env) :: starEach [] X.env ∧ (backTo pos (starEach [ce] X.env)).any (·.1) = false) →
      EX T (cx0 P w K mg base nRounds "class_rounds" sRounds f cdv A outer s H E) σ' H' (.Call (.Name "numbered_looks" p1) [.Name "met" p2, ce] [] pos) (fun H1 v H2 => ∃ p, v = .ref p ∧ H2 p = some (.dK (shK met (shOf met M.g)))) := fun {σ' H' p1 p2 pos ce} h1 g hc hst =>
    ex_callX NU hr (by decide) rfl (eax_cons (ev_v (pv 1) h1) (eax_cons hc eax_nil (hst rfl).2.1) (hst rfl).1) (fun H1 vs H2 ga gb ⟨v, r, H3, e1, e2, g3, g4, v', r', H4, e3, ⟨p, xs, e4, e5, e6, i6⟩, g5, g6, e7⟩ => by
      subst e7 e3 e4 e2 e1
      have gH2 := (g.trans ga).trans gb
      exact ⟨[.ref pM, .ref p], _, .cons (.ref _) (.cons (.ref _) .nil), ⟨met, pM, p, xs, hMet.nd, by omega, rfl, gH2.lst hM, g6.lst e6, .inl ⟨M.g, i6.mono g6.ti, rfl⟩⟩, fun v H3 g3 ⟨p, h1, h2, h3⟩ => ⟨p, h1, h3⟩⟩) (by decide) (hst rfl).1 (hst rfl).2.2
  have hcall2 : ∀ {σ' : L2.St} {H' : Hp} {p1 p2 pos : Pos} {ce : Expr} {sh : Nat → Nat}, σ'[1]? = some (some (.ref pM)) → Gx T H H' → EL T (cx0 P w K mg base nRounds "class_rounds" sRounds f cdv A outer s H E) σ' H' ce (met.map fun q => .tup (natsD (look M.d M.letters met sh q))) →
      (∀ {X : Cx}, X = cx0 P w K mg base nRounds "class_rounds" sRounds f cdv A outer s H E → starEach [.Name "met" p2, ce] X.env = (false, eval (.Name "met" p2) X.env) :: starEach [ce] X.env ∧ starEach [ce] X.env = (false, eval ce X.env) :: starEach [] X.env ∧ (backTo pos (starEach [ce] X.env)).any (·.1) = false) →
      EX T (cx0 P w K mg base nRounds "class_rounds" sRounds f cdv A outer s H E) σ' H' (.Call (.Name "numbered_looks" p1) [.Name "met" p2, ce] [] pos) (fun H1 v H2 => ∃ p, v = .ref p ∧ H2 p = some (.dK (shK met (shOf met (look M.d M.letters met sh))))) := fun {σ' H' p1 p2 pos ce sh} h1 g hc hst =>
    ex_callX NU hr (by decide) rfl (eax_cons (ev_v (pv 1) h1) (eax_cons hc eax_nil (hst rfl).2.1) (hst rfl).1) (fun H1 vs H2 ga gb ⟨v, r, H3, e1, e2, g3, g4, v', r', H4, e3, ⟨p, xs, e4, e5, e6, i6⟩, g5, g6, e7⟩ => by
      subst e7 e3 e4 e2 e1
      have gH2 := (g.trans ga).trans gb
      exact ⟨[.ref pM, .ref p], _, .cons (.ref _) (.cons (.ref _) .nil), ⟨met, pM, p, xs, hMet.nd, by omega, rfl, gH2.lst hM, g6.lst e6, .inr ⟨look M.d M.letters met sh, i6.mono g6.ti, rfl⟩⟩, fun v H3 g3 ⟨p, h1, h2, h3⟩ => ⟨p, h1, h3⟩⟩) (by decide) (hst rfl).1 (hst rfl).2.2
  have N0 : Nums met M.g (shOf met M.g) := fun a _ => rfl
  have R0 := RI.start (d := M.d) (m := M.letters) N0
  refine b_asg (ps_set (i := 2) sc_rounds.nd rfl (.inl rfl) wE_pe) hT (ex_lstX (eax_cons (hcall1 rfl (Gx.refl _) (el_map (es := met.map fun q => .bl (M.g q)) (pe_lc (own := [("room", 5)]) (g := gName 5) (tt := tYes) rfl sc_rounds.nd wI_pi (blkOk_by (N := nRounds) (sc := defScope sRounds) (by decide +kernel)) (fun _ _ _ _ _ => pg_name (i := 5) sc_rounds.nd rfl (Or.inl rfl)) (fun _ _ _ _ _ => pts_nil) (fun _ _ _ _ _ => tB_pe _ _ _ _ _))
    (ei_list (ds := natsD met) (ee_v (pv 1) rfl (.ref _)) hM (isAll_nats _)) (by rw [hlenD]; exact sz_lt (by omega)) (fun i => .bl (M.g (met.getD i 0))) (fun _ => rfl) ?_ (by rw [hlenD]; exact (map_range fun q => D.bl (M.g q)).symm)) (fun h => by subst h; exact ⟨rfl, rfl, rfl⟩)) eax_nil) (by show 1 ≤ 1000; decide) (fun H1 vs H2 ⟨_, _, _, e, _, _, _, e2⟩ => by rw [e, e2]; show 1 ≤ 1000; decide)) fun v H1 g1 t1 ⟨pR, vs, H2, ev, hpR, ⟨v0, r0, H3, e1, ⟨pS, e2, hpS⟩, g4, g5, e6⟩, g2, g3, h1⟩ => ?_
  · intro i di v H1 h1 h2 g1 s0 H0 C cl fp
    obtain ⟨hq, rfl⟩ := hmet i di h1
    cases h2
    exact mach_room (ee_v (pv 0) rfl (im.mono g1.ti)) (ee_v (pv 5) rfl (.int _)) (hlt _ hq)
  · subst ev e6 e1 e2
    have hpS := g3.dK (g5.dK hpS)
    refine b_whileG (α := List V × Addr × (Nat → Nat) × Nat) PassesOwn.never
      (fun a σ' H' => ∃ v3 v4 : Option V, σ' = [some vm, some (.ref pM), some (.ref pR), v3, v4, none] ∧ Gx T H H' ∧ H' pR = some (.lst (a.1 ++ [.ref a.2.1])) ∧ H' a.2.1 = some (.dK (shK met a.2.2.1)) ∧ RI M.d M.letters M.g met a.2.2.1 a.2.2.2 ∧ a.1.length ≤ a.2.2.2)
      (fun a => met.length + 1 - a.2.2.2) ([], pS, shOf met M.g, (met1 (met.map M.g)).length) ⟨none, none, rfl, g1, h1, hpS, R0, Nat.zero_le _⟩ (fun a σ' H' ⟨_, _, _, g, _⟩ => g.tab hT) (fun _ => true) (fun a σ' H' _ => et_val ee_bl) ?_ (fun _ _ _ _ _ h => nomatch h)
    rintro ⟨rl, pS, sh, Kn⟩ σ' H' H1' ⟨v3, v4, rfl, g, hR, hSd, RR, hrl⟩ _ g0 t0
    have gg : Gx T H H1' := g.trans g0
    have hR : H1' pR = some (.lst (rl ++ [.ref pS])) := g0.lst hR
    have hSd : H1' pS = some (.dK (shK met sh)) := g0.dK hSd
    have RR : RI M.d M.letters M.g met sh Kn := RR
    have hrl : rl.length ≤ Kn := hrl
    have hKb := RR.bound
    obtain ⟨m1, m2, m3⟩ := sh_max RR.fa hne
    refine b_asgA (u := .ref pS) (d := .ref pS) (ps_set (i := 3) sc_rounds.nd rfl (Or.inr rfl) wE_pe) t0 (ee_ixL (ee_v (pv 2) rfl (.ref _)) hR (ee_neg ee_int) (atI_last _ _) (.ref _)) rfl fun H2 g2 t2 => ?_
    have gg2 := gg.trans g2
    refine b_asg (ps_set (i := 4) sc_rounds.nd rfl (Or.inl rfl) wE_pe) t2 (hcall2 rfl gg2 (el_map (es := met.map fun q => .tup (natsD (look M.d M.letters met sh q))) (pe_lc (own := [("room", 5)]) (g := gName 5) (tt := tYes) rfl sc_rounds.nd wI_pi (blkOk_by (N := nRounds) (sc := defScope sRounds) (by decide +kernel)) (fun _ _ _ _ _ => pg_name (i := 5) sc_rounds.nd rfl (Or.inl rfl)) (fun _ _ _ _ _ => pts_nil) (fun _ _ _ _ _ => tB_pe _ _ _ _ _))
      (ei_list (ds := natsD met) (ee_v (pv 1) rfl (.ref _)) (gg2.lst hM) (isAll_nats _)) (by rw [hlenD]; exact sz_lt (by omega)) (fun i => .tup (natsD (look M.d M.letters met sh (met.getD i 0)))) (fun _ => rfl) ?_ (by rw [hlenD]; exact (map_range fun q => D.tup (natsD (look M.d M.letters met sh q))).symm)) (fun h => by subst h; exact ⟨rfl, rfl, rfl⟩)) fun v H3 g3 t3 ⟨pF, ev, hF⟩ => ?_
    · intro i di v H3 h1 h2 g3 s0 H0 C cl fp
      obtain ⟨hq, rfl⟩ := hmet i di h1
      cases h2
      exact ex_call LO hr (by decide) rfl (ea_cons (ee_v (pv 0) rfl (im.mono (gg2.trans g3).ti)) (ea_cons (ee_v (pv 1) rfl (.ref _)) (ea_cons (ee_v (pv 3) rfl (.ref _)) (ea_cons (ee_v (pv 5) rfl (.int _)) ea_nil)))) (fun Ha Hb ga gb => ⟨_, ⟨M, met, sh, pM, pS, _, hO, hS, hMet, hlt, hml, hq, rfl, ((gg2.trans g3).trans (ga.trans gb)).lst hM, ((g2.trans g3).trans (ga.trans gb)).dK hSd, rfl⟩, fun v H4 g4 q => q⟩)
    · subst ev
      have N1 : Nums met (look M.d M.letters met sh) (shOf met (look M.d M.letters met sh)) := fun a _ => rfl
      have R1 := RR.next hMet N1
      obtain ⟨hle, hst⟩ := RR.more N1 rfl
      obtain ⟨n1, n2, n3⟩ := sh_max R1.fa hne
      generalize (met1 (met.map (look M.d M.letters met sh))).length = Kn' at *
      have hSd3 := (g2.trans g3).dK hSd
      refine b_when t3 (et_eqI (ee_maxV rfl rfl G.max (ee_v (pv 4) rfl (.ref _)) hF n2 n3) (ee_maxV rfl rfl G.max (ee_v (pv 3) rfl (.ref _)) hSd3 m2 m3)) (fun hc H4 g4 t4 => ?_) (fun hc H4 g4 t4 => ?_)
      · have hK : Kn' = Kn := by have := of_decide_eq_true hc; omega
        refine b_ret t4 (ee_v (pv 2) rfl (.ref _)) fun v H5 g5 t5 i => ⟨((gg2.trans g3).trans g4).trans g5, pR, pS, rl, sh, Kn, i.ref_eq, ((((g2.trans g3).trans g4).trans g5).lst hR), ((g4.trans g5).dK hSd3), RR, hst hK⟩
      · have hK : Kn' ≠ Kn := by have := of_decide_eq_false hc; intro e; exact this (by rw [e])
        have hR4 := (((g2.trans g3).trans g4).lst hR)
        refine b_apD (d := .ref pF) t4 (ee_v (pv 2) rfl (.ref _)) hR4 (sz_lt (by rw [List.length_append, List.length_singleton]; omega)) (ee_v (pv 4) rfl (.ref _)) fun v5 H5 g5 t5 i5 h5 => b_nil ?_
        rw [i5.ref_eq]
        have hFR : pF ≠ pR := fun e => by
          rw [e, ((g2.trans g3).lst hR)] at hF; cases hF
        have hKb' := R1.bound
        refine ⟨(rl ++ [.ref pS], pF, shOf met (look M.d M.letters met sh), Kn'), show met.length + 1 - Kn' < met.length + 1 - Kn by omega, _, _, rfl, (((gg2.trans g3).trans g4).trans g5).mutL hpR h5, upd_same, ?_, R1, ?_⟩
        · show upd H5 pR _ pF = _
          rw [upd_ne hFR]; exact (g4.trans g5).dK hF
        · show (rl ++ [V.ref pS]).length ≤ Kn'
          rw [List.length_append, List.length_singleton]; omega
end
end Tk
set_option Elab.async false
set_option linter.all false
set_option maxRecDepth 100000
/-! Rules that tell of what comes, not which; sorted. -/
namespace Tk
open PySem PySem.Spec PyProof.Rows L2 LamX NdefX
section
variable {T : List NTab} {X : Cx} {σ : L2.St} {H : Hp} {e a b tg iter : Expr} {pos p1 : Pos} {Qd : List D → Prop}
/-- a list, a tuple of which Qd is true -/
abbrev isL (Qd : List D → Prop) : Hp → V → Hp → Prop := fun _ v H2 => ∃ p xs ds, v = .ref p ∧ H2 p = some (.lst xs) ∧ IsAll H2 ds xs ∧ Qd ds
abbrev isT (Qd : List D → Prop) : Hp → V → Hp → Prop := fun _ v H2 => ∃ ds, Qd ds ∧ Is H2 (.tup ds) v
def EIX (T : List NTab) (X : Cx) (σ : L2.St) (H : Hp) (tg iter : Expr) (Qd : List D → Prop) : Prop := ∀ H1, Gx T H H1 → TabsN T H1 → wI X tg iter σ H1 fun J H2 => Gx T H1 H2 ∧ ∃ ds, Qd ds ∧ Walk J ds.length (Gx T H2) fun i H x H' => H' = H ∧ ∃ d, ds[i]? = some d ∧ Is H d x
theorem eix_tup (he : EX T X σ H e (isT Qd)) : EIX T X σ H tg e Qd := fun H1 g t =>
  PI_to (pi_tup wE_pe) (wE_imp (he H1 g t) fun v H2 ⟨g2, ds, q, i⟩ => by
    cases i with
    | @tup p xs _ hp hx =>
      refine ⟨p, rfl, ⟨xs, SqT.of hp⟩, g2, ds, q, ?_⟩
      rw [hx.length]
      exact (walk_tup (K := X.K) (a := p) (xs := xs)).mono (fun H3 g3 => SqT.of (g3.tup hp)) fun i H3 x H4 hi g3 y => ⟨y.1, by
        obtain ⟨dd, e1, e2⟩ := hx.get' y.2
        exact ⟨dd, e1, e2.mono g3.ti⟩⟩)
theorem eix_list (he : EX T X σ H e (isL Qd)) : EIX T X σ H tg e Qd := fun H1 g t =>
  PI_to (pi_list wE_pe) (wE_imp (he H1 g t) fun v H2 ⟨g2, p, xs, ds, e1, hp, hx, q⟩ => by
    refine ⟨p, e1, ⟨xs, SqL.of hp⟩, g2, ds, q, ?_⟩
    rw [hx.length]
    exact (walk_list (K := X.K) (a := p) (xs := xs)).mono (fun H3 g3 => SqL.of (g3.lst hp)) fun i H3 x H4 hi g3 y => ⟨y.1, by
      obtain ⟨dd, e1, e2⟩ := hx.get' y.2
      exact ⟨dd, e1, e2.mono g3.ti⟩⟩)
/-- [elt for x in ..] -/
theorem lcX_core {scope : Scope} {elt : Expr} {j : Nat} {vs : List Nat} {Qe : List D → Prop} (hi : EIX T X σ H tg iter Qd) (hz : ∀ ds, Qd ds → ds.length < sizeLine) (f : List D → Nat → D) (hw : ∀ v, wipe ((wipe σ vs).set j (some v)) vs = wipe σ vs)
    (turn : ∀ ds, Qd ds → ∀ (i : Nat) di v H1, ds[i]? = some di → Is H1 di v → Gx T H H1 → EB T X scope ((wipe σ vs).set j (some v)) H1 elt (f ds i)) (q : ∀ ds, Qd ds → Qe ((List.range ds.length).map (f ds))) {H1 : Hp} (g : Gx T H H1) (t : TabsN T H1) (Kv : VK)
    (hK : ∀ v H2, Gx T H1 H2 → (∃ p xs ds, v = .ref p ∧ H1 p = none ∧ H2 p = some (.lst xs) ∧ IsAll H2 ds xs ∧ Qe ds) → Kv v H2) : tLc (wI X tg iter) (gName j) tYes (tB X scope elt) vs σ H1 Kv := by
  refine wI_imp (hi H1 g t) fun J H2 ⟨g2, ds, hq, w⟩ Dl hD => ?_
  have hzz := hz ds hq
  refine lc_it w (fun i H' => Gx T H2 H' ∧ ∃ acc, H' Dl = some (.lst acc) ∧ IsAll H' ((List.range i).map (f ds)) acc) ⟨Gx.new hD, [], upd_same, .nil⟩ (fun i H' _ q => q.1) (fun i x H3 H4 hlt q y => ?_) (fun H3 ⟨q3, acc, q1, q2⟩ => hK _ _ (g2.trans q3) ⟨Dl, acc, _, rfl, g2.low _ hD, q1, q2, q ds hq⟩)
  obtain ⟨y1, di, y2, y3⟩ := y
  subst y1
  obtain ⟨q, acc, q1, q2⟩ := q
  have g03 := g.trans (g2.trans q)
  refine ⟨hw x, ?_⟩
  show tYes _ _ _
  unfold tYes
  dsimp only
  rw [if_pos rfl]
  intro s0 H0 C cl fp
  refine wE_imp (turn ds hq i di x _ y2 y3 g03 s0 H0 C cl fp _ (Gx.refl _) ((g2.trans q).tab t)) fun y H6 ⟨g6, iy⟩ => ?_
  have h6 := g6.lst q1
  have hl : acc.length = i := by have := q2.length; simpa using this.symm
  refine ⟨acc, h6, by omega, (q.trans g6).mutL hD h6, acc ++ [y], upd_same, ?_⟩
  have tm := Ti.lst (o := .lst (acc ++ [y])) h6
  rw [List.range_succ, List.map_append]
  exact (q2.mono (g6.ti.trans tm)).snoc (iy.mono tm)
theorem ex_mapX {scope : Scope} {elt : Expr} {j : Nat} {vs : List Nat} {Qe : List D → Prop} (p : PE X e (tLc (wI X tg iter) (gName j) tYes (tB X scope elt) vs)) (hi : EIX T X σ H tg iter Qd) (hz : ∀ ds, Qd ds → ds.length < sizeLine) (f : List D → Nat → D) (hw : ∀ v, wipe ((wipe σ vs).set j (some v)) vs = wipe σ vs)
    (turn : ∀ ds, Qd ds → ∀ (i : Nat) di v H1, ds[i]? = some di → Is H1 di v → Gx T H H1 → EB T X scope ((wipe σ vs).set j (some v)) H1 elt (f ds i)) (q : ∀ ds, Qd ds → Qe ((List.range ds.length).map (f ds))) : EX T X σ H e (fun H1 v H2 => ∃ p xs ds, v = .ref p ∧ H1 p = none ∧ H2 p = some (.lst xs) ∧ IsAll H2 ds xs ∧ Qe ds) := fun H1 g t =>
  PE_to p (lcX_core hi hz f hw turn q g t _ fun v H2 g2 h => ⟨g2, h⟩)
/-- x = [elt for y in ..], on one row -/
theorem b_setLc {st : Stmt} {rest : List Stmt} {D' : Ends} {scope : Scope} {elt : Expr} {i j : Nat} {vs : List Nat} {Qe : List D → Prop} (p : PS X st (tAsg (tLc (wI X tg iter) (gName j) tYes (tB X scope elt) vs) (gName i))) (hT : TabsN T H) (hi : EIX T X σ H tg iter Qd) (hz : ∀ ds, Qd ds → ds.length < sizeLine) (f : List D → Nat → D) (hw : ∀ v, wipe ((wipe σ vs).set j (some v)) vs = wipe σ vs)
    (turn : ∀ ds, Qd ds → ∀ (i : Nat) di v H1, ds[i]? = some di → Is H1 di v → Gx T H H1 → EB T X scope ((wipe σ vs).set j (some v)) H1 elt (f ds i)) (q : ∀ ds, Qd ds → Qe ((List.range ds.length).map (f ds)))
    (k : ∀ p xs ds H1, Gx T H H1 → TabsN T H1 → H p = none → H1 p = some (.lst xs) → IsAll H1 ds xs → Qe ds → wB X rest D' (σ.set i (some (.ref p))) H1) : wB X (st :: rest) D' σ H :=
  b_ps p (lcX_core hi hz f hw turn q (Gx.refl _) hT _ fun v H2 g2 ⟨p, xs, ds, e, h1, h2, h3, h4⟩ => by
    subst e
    exact k p xs ds H2 g2 (g2.tab hT) h1 h2 h3 h4)
/-- .. with a tuple of names -/
theorem lcT_core {scope : Scope} {elt : Expr} {n : Nat} {js vs : List Nat} {Qe : List D → Prop} (hi : EIX T X σ H tg iter Qd) (hz : ∀ ds, Qd ds → ds.length < sizeLine) (f : List D → Nat → D) (hj : js.length = n) (hw : ∀ us, us.length = n → wipe (setAll (wipe σ vs) js us) vs = wipe σ vs)
    (turn : ∀ ds, Qd ds → ∀ (i : Nat) di H1, ds[i]? = some di → Gx T H H1 → ∃ es, di = .tup es ∧ es.length = n ∧ ∀ us, IsAll H1 es us → EB T X scope (setAll (wipe σ vs) js us) H1 elt (f ds i)) (q : ∀ ds, Qd ds → Qe ((List.range ds.length).map (f ds))) {H1 : Hp} (g : Gx T H H1) (t : TabsN T H1) (Kv : VK)
    (hK : ∀ v H2, Gx T H1 H2 → (∃ p xs ds, v = .ref p ∧ H1 p = none ∧ H2 p = some (.lst xs) ∧ IsAll H2 ds xs ∧ Qe ds) → Kv v H2) : tLc (wI X tg iter) (gTup X.K n (gNs js)) tYes (tB X scope elt) vs σ H1 Kv := by
  refine wI_imp (hi H1 g t) fun J H2 ⟨g2, ds, hq, w⟩ Dl hD => ?_
  have hzz := hz ds hq
  refine lc_it w (fun i H' => Gx T H2 H' ∧ ∃ acc, H' Dl = some (.lst acc) ∧ IsAll H' ((List.range i).map (f ds)) acc) ⟨Gx.new hD, [], upd_same, .nil⟩ (fun i H' _ q => q.1) (fun i x H3 H4 hlt q y => ?_) (fun H3 ⟨q3, acc, q1, q2⟩ => hK _ _ (g2.trans q3) ⟨Dl, acc, _, rfl, g2.low _ hD, q1, q2, q ds hq⟩)
  obtain ⟨y1, di, y2, y3⟩ := y
  subst y1
  obtain ⟨q, acc, q1, q2⟩ := q
  have g03 := g.trans (g2.trans q)
  obtain ⟨es, e1, e2, h3⟩ := turn ds hq i di _ y2 g03
  subst e1
  refine tgt_tup y3 e2 hj _ fun σ2 ⟨us, hu, e3⟩ => ?_
  subst e3
  refine ⟨hw us (by rw [← hu.length, e2]), ?_⟩
  show tYes _ _ _
  unfold tYes
  dsimp only
  rw [if_pos rfl]
  intro s0 H0 C cl fp
  refine wE_imp (h3 us hu s0 H0 C cl fp _ (Gx.refl _) ((g2.trans q).tab t)) fun y H6 ⟨g6, iy⟩ => ?_
  have h6 := g6.lst q1
  have hl : acc.length = i := by have := q2.length; simpa using this.symm
  refine ⟨acc, h6, by omega, (q.trans g6).mutL hD h6, acc ++ [y], upd_same, ?_⟩
  have tm := Ti.lst (o := .lst (acc ++ [y])) h6
  rw [List.range_succ, List.map_append]
  exact (q2.mono (g6.ti.trans tm)).snoc (iy.mono tm)
theorem b_setLcT {st : Stmt} {rest : List Stmt} {D' : Ends} {scope : Scope} {elt : Expr} {i n : Nat} {js vs : List Nat} {Qe : List D → Prop} (p : PS X st (tAsg (tLc (wI X tg iter) (gTup X.K n (gNs js)) tYes (tB X scope elt) vs) (gName i))) (hT : TabsN T H) (hi : EIX T X σ H tg iter Qd) (hz : ∀ ds, Qd ds → ds.length < sizeLine) (f : List D → Nat → D) (hj : js.length = n) (hw : ∀ us, us.length = n → wipe (setAll (wipe σ vs) js us) vs = wipe σ vs)
    (turn : ∀ ds, Qd ds → ∀ (i : Nat) di H1, ds[i]? = some di → Gx T H H1 → ∃ es, di = .tup es ∧ es.length = n ∧ ∀ us, IsAll H1 es us → EB T X scope (setAll (wipe σ vs) js us) H1 elt (f ds i)) (q : ∀ ds, Qd ds → Qe ((List.range ds.length).map (f ds)))
    (k : ∀ p xs ds H1, Gx T H H1 → TabsN T H1 → H p = none → H1 p = some (.lst xs) → IsAll H1 ds xs → Qe ds → wB X rest D' (σ.set i (some (.ref p))) H1) : wB X (st :: rest) D' σ H :=
  b_ps p (lcT_core hi hz f hj hw turn q (Gx.refl _) hT _ fun v H2 g2 ⟨p, xs, ds, e, h1, h2, h3, h4⟩ => by
    subst e
    exact k p xs ds H2 g2 (g2.tab hT) h1 h2 h3 h4)
/-- tuple(a list) -/
theorem ex_tupX (hg : Gl X "tuple") (hm : X.mg "tuple" = none) (h : EX T X σ H e (isL Qd)) (na : starEach [e] X.env = (false, eval e X.env) :: starEach [] X.env := by rfl) : EX T X σ H (.Call (.Name "tuple" p1) [e] [] pos) (isT Qd) := fun H1 g t =>
  PE_to (pe_tupleOf hg hm wE_pe na) (wE_imp (h H1 g t) fun v H2 ⟨g2, p, xs, ds, e1, h2, i2, q⟩ => .inl ⟨p, xs, e1, SqL.of h2, fun r hr => ⟨g2.trans (Gx.new hr), ds, q, .tup upd_same (i2.mono (Gx.new (T := T) hr).ti)⟩⟩)
/-- sorted(numbers) -/
theorem ex_sortN {P : List Nat → Prop} (hg : Gl X "sorted") (hm : X.mg "sorted" = none) (h : EX T X σ H e (fun _ v H2 => ∃ p l, v = .ref p ∧ H2 p = some (.lst (natsV l)) ∧ P l)) (hb : bootBuiltins "sorted" = some (.builtin "sorted") := by decide +kernel) (he : starEach (e :: []) X.env = (false, eval e X.env) :: starEach [] X.env := by rfl) (hpl : (backTo pos (starEach [] X.env)).any (·.1) = false := by rfl) :
    EX T X σ H (.Call (.Name "sorted" p1) [e] [] pos) (fun _ v H2 => ∃ p l l', v = .ref p ∧ H2 p = some (.lst (natsV l')) ∧ l'.Perm l ∧ P l) := fun H1 g t =>
  PE_to (pe_callB cr_sortedI hg hm hb (pa_cons wE_pe pa_nil he) (by decide) (by decide) he hpl) (wE_imp (h H1 g t) fun v H2 ⟨g2, p, l, e1, h2, q⟩ => by
    subst e1
    refine ⟨p, l.map fun n => ((n : Nat) : Int), rfl, SqL.of (by rw [List.map_map]; exact h2), fun ns' r hp _ hr => ⟨g2.trans (Gx.new hr), r, l, ns'.map Int.toNat, rfl, ?_, ?_, q⟩⟩
    · rw [upd_same]
      congr 2
      unfold natsV
      rw [List.map_map]
      refine List.map_congr_left fun z hz => ?_
      obtain ⟨n, _, e⟩ := List.mem_map.mp (hp.mem_iff.mp hz)
      show V.int z = V.int ((z.toNat : Nat) : Int)
      rw [← e]; rfl
    · have := hp.map Int.toNat
      rw [List.map_map] at this
      have e : l.map (Int.toNat ∘ fun n => ((n : Nat) : Int)) = l := by
        have : (Int.toNat ∘ fun n : Nat => ((n : Nat) : Int)) = id := by funext n; rfl
        rw [this, List.map_id]
      rwa [e] at this)
end
/-! sorted(rows of three numbers): some order -/
section
variable {X : Cx}
def enc3 (k : V → Int × Int × Int) (y : V) : PyData := .tuple [.int (k y).1, .int (k y).2.1, .int (k y).2.2]
theorem cr_sorted3 (hu : X.A.units + 64 < cLine) : CallR X (.builtin "sorted") (fun vs H Q => ∃ (a : Addr) (xs : List V) (k : V → Int × Int × Int), vs = [V.ref a] ∧ SqL X.K H a xs ∧ (∀ x ∈ xs, ∃ t, x = V.ref t ∧ H t = some (.tup [.int (k x).1, .int (k x).2.1, .int (k x).2.2])) ∧
    ∀ ys p, ys.Perm xs → H p = none → Q (.ref p) (upd H p (.lst ys))) := by
  intro pins s σ H vs us Q I r h
  obtain ⟨a, xs, k, rfl, hs, hx, q⟩ := h
  obtain ⟨its, rv, hl, hz⟩ := I.list hs
  rw [Vals.ref1 r]
  have each : ∀ {xs : List V} {its : List Value}, Vals xs its → (∀ x ∈ xs, ∃ t, x = V.ref t ∧ H t = some (.tup [.int (k x).1, .int (k x).2.1, .int (k x).2.2])) → PySem.W.EachIs (fun (v : Value) (y : V) => RelV y v) its xs ∧ PySem.W.EachIs (fun v y => ∃ as, Reads s.heap v (enc3 k y) as) its xs := by
    intro xs its rv
    induction rv with
    | nil => intro _; exact ⟨.nil, .nil⟩
    | @cons x u xs us h t ih =>
      intro hx
      obtain ⟨i1, i2⟩ := ih fun y hy => hx y (List.mem_cons_of_mem _ hy)
      refine ⟨.cons h i1, .cons ?_ i2⟩
      obtain ⟨tt, e1, e2⟩ := hx x List.mem_cons_self
      exact Dp.reads I (enc3 k x) x u (by rw [e1] at e2 ⊢; exact .tup (SqT.of e2) (.cons (.int _) (.cons (.int _) (.cons (.int _) .nil)))) h
  obtain ⟨e1, e2⟩ := each rv hx
  refine PySem.W.sorted_data (R := fun (v : Value) (y : V) => RelV y v) (enc := enc3 k) (vs := its) (bs := xs) hl.isList e1 e2 (PySem.W.AllAlike.of fun _ _ => by simp [PySem.W.alike, PySem.W.alikeAll, enc3]) (PySem.W.Sortable.tuples fun _ => ⟨_, _, rfl⟩) hz (fun b _ => ?_) fun out h1 h2 => ?_
  · show X.A.units + 2 + (enc3 k b).depth < cLine
    have : (enc3 k b).depth ≤ 2 := by simp [enc3, PyData.depth, PyData.depthAll]
    omega
  · have hv : Vals (xs.mergeSort (PySem.W.dataLe false (enc3 k))) out := by
      generalize xs.mergeSort (PySem.W.dataLe false (enc3 k)) = ys at h2
      clear h1
      induction h2 with
      | nil => exact .nil
      | cons h t ih => exact .cons h ih
    obtain ⟨ep, he'⟩ := PyProof.Rows.sortedAll_at s.heap its out.toArray
    have hp := List.mergeSort_perm xs (PySem.W.dataLe false (enc3 k))
    exact ⟨.ref _, upd H (s.heap.objs.size + 1) (.lst (xs.mergeSort (PySem.W.dataLe false (enc3 k)))), I.laid (t' := s.toks) (fun _ _ => PyProof.Rows.sortedAll_old) (Nat.le_succ _) ⟨by rw [hp.length_eq]; exact hz, out, ep, hv, he'⟩, rfl, q _ _ hp (I.hok.fresh (Nat.le_succ _))⟩
end
end Tk
set_option Elab.async false
set_option linter.all false
set_option maxRecDepth 100000
/-! least_of. -/
namespace Tk
open PySem PySem.Spec PyProof.Rows L2 LamX NdefX
theorem FAn.uniq' {l : List Nat} {n n' : Nat} (h : FAn l n) (h' : FAn l n') : n = n' := by
  rcases Nat.lt_trichotomy n n' with z | z | z
  · have := h.lt n (h'.mem n z); omega
  · exact z
  · have := h'.lt n' (h.mem n' z); omega
theorem FAn.inv {l : List Nat} {x n : Nat} (h : FAn (l ++ [x]) n) : ∃ n0, FAn l n0 ∧ ((x < n0 ∧ n = n0) ∨ (x = n0 ∧ n = n0 + 1)) := by
  generalize e : l ++ [x] = l' at h
  cases h with
  | nil => simp at e
  | old h1 h2 =>
    have e1 := List.append_inj' e rfl
    obtain ⟨rfl, e2⟩ := e1
    cases e2
    exact ⟨n, h1, .inl ⟨h2, rfl⟩⟩
  | new h1 =>
    have e1 := List.append_inj' e rfl
    obtain ⟨rfl, e2⟩ := e1
    cases e2
    exact ⟨_, h1, .inr ⟨rfl, rfl⟩⟩
theorem FAn.take {l : List Nat} {n : Nat} (h : FAn l n) : ∀ j, ∃ n', FAn (l.take j) n' := by
  induction h with
  | nil => intro j; exact ⟨0, by rw [List.take_nil]; exact .nil⟩
  | @old l n k h1 h2 ih =>
    intro j
    rcases Nat.lt_or_ge l.length j with z | z
    · rw [List.take_of_length_le (by simp; omega)]
      exact ⟨n, .old h1 h2⟩
    · rw [List.take_append_of_le_length z]
      exact ih j
  | @new l n h1 ih =>
    intro j
    rcases Nat.lt_or_ge l.length j with z | z
    · rw [List.take_of_length_le (by simp; omega)]
      exact ⟨n + 1, .new h1⟩
    · rw [List.take_append_of_le_length z]
      exact ih j
section
variable {T : List NTab} {X : Cx} {σ : L2.St} {H : Hp} {e : Expr} {pos p1 p2 : Pos}
/-- e[-1], e a list of which something is true -/
theorem ex_last {Pe : V → Hp → Prop} {k : Nat} (h : EX T X σ H e (fun _ v H2 => ∃ p xs u, v = .ref p ∧ H2 p = some (.lst (xs ++ [u])) ∧ Pe u H2)) (hs : PlainIx (.UnaryOp .USub (.Constant (.int 1) k p1) p2) := by exact fun _ _ => rfl) : EX T X σ H (.Subscript e (.UnaryOp .USub (.Constant (.int 1) k p1) p2) pos) (fun _ v H2 => Pe v H2) := fun H1 g t =>
  PE_to (pe_ix ix_list wE_pe (pe_un un_neg pe_int) hs) (wE_imp (h H1 g t) fun v H2 ⟨g2, p, xs, u, e1, h2, q⟩ => ⟨1, rfl, p, xs ++ [u], -1, u, e1, rfl, SqL.of h2, atI_last _ _, g2, q⟩)
end
section
variable {P : Program} {w : World} {K : PySem.W.Frag} {mg : Str → Option Value} {base : Heap} {T : List NTab} {f : Addr} {fd : FuncData}
abbrev sLeast : Stmt := topS 46
abbrev nLeast : List Str := ["machine", "met", "shades", "owners", "room", "table", "rows", "made", "left", "good", "paper", "row", "right"]
theorem sc_least : FnScope nLeast ["machine"] (defScope sLeast) := ⟨rfl, rfl, rfl, by decide +kernel, rfl, by decide +kernel, by decide +kernel⟩
def pap (ps : List (Nat × Nat)) : D := .tup (ps.map fun p => .tup (natsD [p.1, p.2]))
def LeastPost (M : Mach) (H' : Hp) (v : V) : Prop := ∃ (R : Mach) (c : Tree → Nat) (ps : List (Nat × Nat)), IsLeast M.letters M.L R c ∧ R.names = M.names ∧ R.rooms ≤ M.rooms ∧ Is H' (.tup [machD R, pap ps]) v ∧ (∀ p ∈ ps, p.1 < M.rooms) ∧ ps.length ≤ M.rooms
def R_least : Hp → List D → (Hp → V → Prop) → Prop := fun _ ds post => ∃ M : Mach, M.Ok ∧ Sm M ∧ ds = [machD M] ∧ post = LeastPost M
def hd0 : D → D
  | .tup (d :: _) => d
  | d => d
set_option maxHeartbeats 1000000 in
theorem ok_least (F : Fun K "least_of" "least_of" sLeast f fd) (hm : mg "least_of" = some (.ref f)) (G : Glo mg) (FI_ : DefOk P w K mg base T 3 "firsts_of" ["machine"] R_firsts) (CR : DefOk P w K mg base T 2 "class_rounds" ["machine", "met"] R_rounds) : DefOk P w K mg base T 4 "least_of" ["machine"] R_least := by
  refine def_ok F hm sc_least (fun _ _ _ _ _ _ us hl => match us, hl with | [_], _ => rfl) (fun H ds post ⟨_, _, _, e, _⟩ => by rw [e]; rfl) fun cdv A outer s H E vs ds post hr hT hi ⟨M, hO, hS, e1, e2⟩ => ?_
  subst e1 e2
  obtain ⟨vm, rfl, im⟩ := isAll1 hi
  have hu := room_u1 hr
  have hr9 := hS.r
  have hl8 := hS.l
  have hrun : ∀ t : Tree, t.ok M.letters → run M.d t < M.rooms := fun t o => hO.run o
  have hrl : ∀ Ts, Firsts M.d M.letters Ts → Ts.length ≤ M.rooms := fun Ts Fr => rows_le Fr.fi hrun
  -- met
  refine b_setLc (Qd := fun ds => ∃ Ts, Firsts M.d M.letters Ts ∧ ds = Ts.map (rowT M.d)) (Qe := fun ds => ∃ Ts, Firsts M.d M.letters Ts ∧ ds = natsD (rooms M.d Ts)) (ps_setLc (i := 1) (own := [("row", 11)]) (g := gName 11) (tt := tYes) rfl sc_least.nd rfl rfl (sw_true rfl rfl rfl rfl) wI_pi (blkOk_by (N := nLeast) (sc := defScope sLeast) (by decide +kernel)) (fun _ _ _ _ _ => pg_name (i := 11) sc_least.nd rfl (Or.inl rfl)) (fun _ _ _ _ _ => pts_nil) (fun _ _ _ _ _ => tB_pe _ _ _ _ _)) hT
    (eix_tup (ex_call FI_ hr (by decide) rfl (ea_cons (ee_v (pv 0) rfl im) ea_nil) (fun Ha Hb ga gb => ⟨_, ⟨M, hO, hr9, by omega, rfl, rfl⟩, fun v H3 g3 ⟨Ts, h1, h2⟩ => ⟨_, ⟨Ts, h1, rfl⟩, h2⟩⟩)))
    (fun ds ⟨Ts, h1, e⟩ => by rw [e, List.length_map]; have := hrl Ts h1; exact sz_lt (by omega)) (fun ds i => hd0 (ds.getD i .non)) (fun _ => rfl) ?_ ?_ fun pM xs ds H1 g1 t1 hpM hM ixs ⟨Ts, Fr, eds⟩ => ?_
  · rintro ds ⟨Ts, Fr, rfl⟩ i di v H1 h1 h2 g1 s0 H0 C cl fp
    rw [List.getElem?_map] at h1
    obtain ⟨t, ht, rfl⟩ := Option.map_eq_some_iff.mp h1
    have e : hd0 ((Ts.map (rowT M.d)).getD i .non) = .int (run M.d t : Nat) := by
      rw [List.getD_eq_getElem?_getD, List.getElem?_map, ht]; rfl
    rw [e]
    exact ee_ixT (ds := [.int (run M.d t : Nat), .int (t.size : Nat), whyD M.d t]) (i := 0) (ee_v (pv 11) rfl h2) ee_int rfl
  · rintro ds ⟨Ts, Fr, rfl⟩
    refine ⟨Ts, Fr, ?_⟩
    refine List.ext_getElem? fun i => ?_
    rw [List.getElem?_map]
    unfold natsD rooms
    rw [List.map_map, List.getElem?_map]
    by_cases hi : i < Ts.length
    · rw [List.getElem?_range (by rw [List.length_map]; exact hi), List.getElem?_eq_getElem hi]
      simp only [Option.map_some]
      rw [List.getD_eq_getElem?_getD, List.getElem?_map, List.getElem?_eq_getElem hi]
      rfl
    · have q1 : (List.range (Ts.map (rowT M.d)).length)[i]? = none := List.getElem?_eq_none (by simpa using hi)
      have q2 : Ts[i]? = none := List.getElem?_eq_none (by omega)
      rw [q1, q2]; rfl
  · subst eds
    have hxs := ixs.nats
    subst hxs
    have hTl := hrl Ts Fr
    have hMet := Fr.metOk
    have hnd := Fr.fi.rooms_nodup
    have hne : rooms M.d Ts ≠ [] := fun e => by
      have := Fr.all .nil trivial
      rw [e] at this; cases this
    have hltm : ∀ q ∈ rooms M.d Ts, q < M.rooms := fun q hq => by
      obtain ⟨t, ht, e⟩ := List.mem_map.mp hq
      rw [← e]; exact hrun t (Fr.fi.ok_ ht)
    have hmlen : (rooms M.d Ts).length ≤ M.rooms := by unfold rooms; rw [List.length_map]; exact hTl
    have hLeast := fun {sh : Nat → Nat} {Kn : Nat} {own : Nat → Nat} {R : Mach} (RR : RI M.d M.letters M.g (rooms M.d Ts) sh Kn) (Sb : Stable M.d M.letters (rooms M.d Ts) sh) => isLeast_of (own := own) (R := R) Fr RR Sb
    have hall : ∀ t : Tree, t.ok M.letters → run M.d t ∈ rooms M.d Ts := Fr.all
    generalize hmet : rooms M.d Ts = met at *
    -- shades
    refine b_asg (ps_set (i := 2) sc_least.nd rfl (Or.inr rfl) wE_pe) t1 (ex_last (Pe := fun u H2 => ∃ pS sh Kn, u = .ref pS ∧ H2 pS = some (.dK (shK met sh)) ∧ RI M.d M.letters M.g met sh Kn ∧ Stable M.d M.letters met sh) (ex_call CR hr (by decide) rfl (ea_cons (ee_v (pv 0) rfl (im.mono g1.ti)) (ea_cons (ee_v (pv 1) rfl (.ref _)) ea_nil))
      (fun Ha Hb ga gb => ⟨_, ⟨M, met, pM, hO, hS, hMet, hltm, hne, rfl, (ga.trans gb).lst hM, rfl⟩, fun v H3 g3 ⟨p, pS, xs, sh, Kn, q1, q2, q3, q4, q5⟩ => ⟨p, xs, .ref pS, q1, q2, pS, sh, Kn, rfl, q3, q4, q5⟩⟩))) fun v H2 g2 t2 ⟨pS, sh, Kn, ev, hSd, RR, Stb⟩ => ?_
    subst ev
    have g12 := g1.trans g2
    have hM2 := g2.lst hM
    refine b_asg (ps_set (i := 3) sc_least.nd rfl (Or.inl rfl) wE_pe) t2 (el_lst ea_nil (Nat.zero_le _)) fun v H3 g3 t3 ⟨pO, xs0, ev, hpO, h3, i3⟩ => ?_
    subst ev
    cases i3
    have nO : H pO = none := g12.low _ hpO
    have hMne : pO ≠ pM := fun e => by rw [e, hM2] at hpO; cases hpO
    have hSne : pO ≠ pS := fun e => by rw [e, hSd] at hpO; cases hpO
    -- owners
    refine b_forL (p := pM) (xs := natsV met) (gT := gName 4) (ps_for PassesOwn.never rfl (pi_list wE_pe) (pg_name (i := 4) sc_least.nd rfl (Or.inl rfl)) wB_pss) t3 (ee_v (pv 1) rfl (.ref _)) (SqL.of (g3.lst hM2)) (fun H4 g4 => SqL.of ((g3.trans g4).lst hM2))
      (fun j σ' H' => ∃ (v4 : Option V) (os : List Nat), σ' = [some vm, some (.ref pM), some (.ref pS), some (.ref pO), v4, none, none, none, none, none, none, none, none] ∧ Gx T H2 H' ∧ H' pO = some (.lst (natsV os)) ∧ FAn ((met.take j).map sh) os.length ∧ ∀ i o, os[i]? = some o → o ∈ met ∧ sh o = i)
      (fun H4 g4 t4 => ⟨none, [], rfl, g3.trans g4, g4.lst h3, .nil, fun i o h => by simp at h⟩) (fun j σ' H' _ ⟨_, _, _, g, _⟩ => SqL.of (g.lst hM2)) ?_ ?_
    · rintro j vc σ' H' hj ⟨v4, os, rfl, g, hOs, hFA, hos⟩
      unfold natsV at hj
      rw [List.getElem?_map] at hj
      obtain ⟨q, hq, rfl⟩ := Option.map_eq_some_iff.mp hj
      have hqm : q ∈ met := List.mem_of_getElem? hq
      obtain ⟨n', hn'⟩ := RR.fa.take (j + 1)
      have e1 : (met.map sh).take (j + 1) = (met.take j).map sh ++ [sh q] := by
        rw [← List.map_take, take_succ hq, List.map_append]; rfl
      rw [e1] at hn'
      obtain ⟨n0, hn0, hcase⟩ := hn'.inv
      have hn0' := hFA.uniq' hn0
      subst hn0'
      have hol : os.length ≤ met.length := by
        have := hFA.le
        simp at this
        omega
      have tT := g.tab t2
      show wB _ _ _ ([some vm, some (.ref pM), some (.ref pS), some (.ref pO), some (.int (q : Nat)), none, none, none, none, none, none, none, none]) H'
      refine b_when tT (et_eqI (ee_dgetK hu (ee_v (pv 2) rfl (.ref _)) (g.dK hSd) (ee_v (pv 4) rfl (.int _)) (shK_get hqm) (.int _)) (EE.is (d' := .int (os.length : Nat)) (ee_lenL rfl G.len (ee_v (pv 3) rfl (.ref _)) hOs) (by simp [natsV]))) (fun hc H4 g4 t4 => ?_) (fun hc H4 g4 t4 => b_nil ?_)
      · have heq : sh q = os.length := by have := of_decide_eq_true hc; omega
        refine b_apD (d := .int (q : Nat)) t4 (ee_v (pv 3) rfl (.ref _)) (g4.lst hOs) (sz_lt (by simp [natsV]; omega)) (ee_v (pv 4) rfl (.int _)) fun v5 H5 g5 t5 i5 h5 => b_nil (b_nil ?_)
        rw [i5.int_eq]
        refine ⟨_, os ++ [q], rfl, ((g.trans g4).trans g5).mutL hpO h5, by rw [upd_same, natsV_app]; rfl, ?_, fun i o h => ?_⟩
        · rw [take_succ hq, List.map_append, List.length_append]
          show FAn (_ ++ [sh q]) (os.length + 1)
          rw [heq]
          exact .new hFA
        · rcases Nat.lt_or_ge i os.length with z | z
          · rw [List.getElem?_append_left z] at h
            exact hos i o h
          · rw [List.getElem?_append_right z] at h
            have hi0 : i - os.length = 0 := by
              rcases Nat.eq_zero_or_pos (i - os.length) with z2 | z2
              · exact z2
              · rw [List.getElem?_eq_none (by simp; omega)] at h; cases h
            rw [hi0] at h
            cases h
            exact ⟨hqm, by omega⟩
      · have hlt : sh q < os.length := by
          have h1 : ¬ ((sh q : Nat) : Int) = (os.length : Nat) := of_decide_eq_false hc
          rcases hcase with ⟨z, _⟩ | ⟨z, _⟩
          · exact z
          · exact absurd (by rw [z]) h1
        refine ⟨_, os, rfl, g.trans g4, g4.lst hOs, ?_, hos⟩
        rw [take_succ hq, List.map_append]
        exact .old hFA hlt
    · rintro σ' H' ⟨v4, os, rfl, g, hOs, hFA, hos⟩
      have el : (natsV met).length = met.length := by simp [natsV]
      rw [el, List.take_length] at hFA
      have hK := RR.fa.uniq' hFA
      subst hK
      have hol : os.length ≤ met.length := by have := hFA.le; simpa using this
      have hown : ∀ k, k < os.length → os.getD k 0 ∈ met ∧ sh (os.getD k 0) = k := fun k hk => by
        have e : os[k]? = some (os.getD k 0) := by rw [List.getD_eq_getElem?_getD, List.getElem?_eq_getElem hk]; rfl
        exact hos k _ e
      have g02 := g12.trans g
      have tT := g02.tab hT
      clear hFA
      generalize hov : os.length = Kn at *
      have hovV : ∀ i, (natsV os)[i]? = (os[i]?).map fun n => V.int (n : Nat) := fun i => by unfold natsV; rw [List.getElem?_map]
      have hoD : (natsD os).length = Kn := by simp [natsD, hov]
      refine b_asg (ps_set (i := 5) sc_least.nd rfl (Or.inl rfl) wE_pe) tT (el_lst ea_nil (Nat.zero_le _)) fun v H4 g4 t4 ⟨pT, xs0, ev, hpT, h4, i4⟩ => ?_
      subst ev
      cases i4
      have nT : H pT = none := g02.low _ hpT
      refine b_forT (ds := M.table.map rowsD) (gT := gName 6) (ps_for PassesOwn.never rfl (pi_tup wE_pe) (pg_name (i := 6) sc_least.nd rfl (Or.inr rfl)) wB_pss) t4 (mach_table (ee_v (pv 0) rfl (im.mono (g02.trans g4).ti))) fun H5 g5 t5 => ?_
      have g05 := (g02.trans g4).trans g5
      refine ⟨fun x σ' H' => ∃ (v6 v7 v8 : Option V) (xs : List V), σ' = [some vm, some (.ref pM), some (.ref pS), some (.ref pO), v4, some (.ref pT), v6, v7, v8, none, none, none, none] ∧ x ≤ M.letters ∧ Gx T H H' ∧ Ti H5 H' ∧ H' pT = some (.lst xs) ∧ IsAll H' ((List.range x).map fun x => rowsD (rowsF (fun x l r => sh (M.d x (os.getD l 0) (os.getD r 0))) Kn x)) xs ∧ H' pO = some (.lst (natsV os)) ∧ H' pS = some (.dK (shK met sh)) ∧ H' pM = some (.lst (natsV met)),
        ⟨none, none, none, [], rfl, Nat.zero_le _, g05, Ti.refl _, g5.lst h4, .nil, (g4.trans g5).lst hOs, ((g.trans g4).trans g5).dK hSd, ((g.trans g4).trans g5).lst hM2⟩, fun x σ' H' ⟨_, _, _, _, _, _, _, ti, _⟩ => ti, ?_, ?_⟩
      · rintro x di v σ' H' hdi iv ⟨v6, v7, v8, xs, rfl, hxl, gx, ti, hTt, iT, hOx, hSx, hMx⟩
        rw [List.getElem?_map] at hdi
        obtain ⟨rows, hrows, rfl⟩ := Option.map_eq_some_iff.mp hdi
        have hx : x < M.letters := by rw [← hO.tl]; exact (List.getElem?_eq_some_iff.mp hrows).1
        show wB _ _ _ ([some vm, some (.ref pM), some (.ref pS), some (.ref pO), v4, some (.ref pT), some v, v7, v8, none, none, none, none]) H'
        refine b_asg (ps_set (i := 7) sc_least.nd rfl (Or.inl rfl) wE_pe) (gx.tab hT) (el_lst ea_nil (Nat.zero_le _)) fun v9 H6 g6 t6 ⟨pR, xs0, ev, hpR, h6, i6⟩ => ?_
        subst ev
        cases i6
        have nR : H pR = none := gx.low _ hpR
        have hRT : pR ≠ pT := fun e => by rw [e, hTt] at hpR; cases hpR
        have hRO : pR ≠ pO := fun e => by rw [e, hOx] at hpR; cases hpR
        have hRS : pR ≠ pS := fun e => by rw [e, hSx] at hpR; cases hpR
        have hRM : pR ≠ pM := fun e => by rw [e, hMx] at hpR; cases hpR
        refine b_forL (p := pO) (xs := natsV os) (gT := gName 8) (ps_for PassesOwn.never rfl (pi_list wE_pe) (pg_name (i := 8) sc_least.nd rfl (Or.inr rfl)) wB_pss) t6 (ee_v (pv 3) rfl (.ref _)) (SqL.of (g6.lst hOx)) (fun H7 g7 => SqL.of ((g6.trans g7).lst hOx))
          (fun l σ' H' => ∃ (v8 : Option V) (ys : List V), σ' = [some vm, some (.ref pM), some (.ref pS), some (.ref pO), v4, some (.ref pT), some v, some (.ref pR), v8, none, none, none, none] ∧ Gx T H H' ∧ Ti H5 H' ∧ Is H' (rowsD rows) v ∧ H' pT = some (.lst xs) ∧ IsAll H' ((List.range x).map fun x => rowsD (rowsF (fun x l r => sh (M.d x (os.getD l 0) (os.getD r 0))) Kn x)) xs ∧ H' pO = some (.lst (natsV os)) ∧ H' pS = some (.dK (shK met sh)) ∧ H' pM = some (.lst (natsV met)) ∧ H' pR = some (.lst ys) ∧ IsAll H' ((List.range l).map fun l => rowD (rowF (fun x l r => sh (M.d x (os.getD l 0) (os.getD r 0))) Kn x l)) ys)
          (fun H7 g7 t7 => ⟨v8, [], rfl, (gx.trans g6).trans g7, ti.trans (g6.trans g7).ti, iv.mono (g6.trans g7).ti, (g6.trans g7).lst hTt, iT.mono (g6.trans g7).ti, (g6.trans g7).lst hOx, (g6.trans g7).dK hSx, (g6.trans g7).lst hMx, g7.lst h6, .nil⟩) (fun j σ' H' _ ⟨_, _, _, _, _, _, _, _, hOx, _⟩ => SqL.of hOx) ?_ ?_
        · rintro l vl σ' H' hl ⟨v8, ys, rfl, gx, ti, iv, hTt, iT, hOx, hSx, hMx, hRr, iR⟩
          rw [hovV] at hl
          obtain ⟨ol, hol', rfl⟩ := Option.map_eq_some_iff.mp hl
          have hlK : l < Kn := by rw [← hov]; exact (List.getElem?_eq_some_iff.mp hol').1
          have eol : os.getD l 0 = ol := by rw [List.getD_eq_getElem?_getD, hol']; rfl
          obtain ⟨hol1, hol2⟩ := hos l ol hol'
          show wB _ _ _ ([some vm, some (.ref pM), some (.ref pS), some (.ref pO), v4, some (.ref pT), some v, some (.ref pR), some (.int (ol : Nat)), none, none, none, none]) H'
          refine b_apD (gx.tab hT) (ee_v (pv 7) rfl (.ref _)) hRr (sz_lt (by have := iR.length; simp at this; omega)) (d := rowD (rowF (fun x l r => sh (M.d x (os.getD l 0) (os.getD r 0))) Kn x l)) (ee_tupL rfl G.tuple (el_map (es := natsD (rowF (fun x l r => sh (M.d x (os.getD l 0) (os.getD r 0))) Kn x l)) (pe_lc (own := [("right", 12)]) (g := gName 12) (tt := tYes) rfl sc_least.nd wI_pi (blkOk_by (N := nLeast) (sc := defScope sLeast) (by decide +kernel)) (fun _ _ _ _ _ => pg_name (i := 12) sc_least.nd rfl (Or.inl rfl)) (fun _ _ _ _ _ => pts_nil) (fun _ _ _ _ _ => tB_pe _ _ _ _ _))
            (ei_list (ds := natsD os) (ee_v (pv 3) rfl (.ref _)) hOx (isAll_nats _)) (by rw [hoD]; exact sz_lt (by omega)) (fun r => .int (sh (M.d x (os.getD l 0) (os.getD r 0)) : Nat)) (fun _ => rfl) ?_ (by rw [hoD]; simp [natsD, rowF]))) fun v9 H7 g7 t7 i7 h7 => ?_
          · intro r di v9 H7 h1 h2 g7 s0 H0 C cl fp
            obtain ⟨e1, e2⟩ := nats_at h1
            subst e2
            cases h2
            obtain ⟨hor1, hor2⟩ := hos r _ e1
            rw [eol]
            exact ee_dgetK hu (ee_v (pv 2) rfl (.ref _)) (g7.dK hSx) (mach_entry hO (ee_v (pv 6) rfl (iv.mono g7.ti)) hrows hx (ee_v (pv 8) rfl (.int _)) (hltm _ hol1) (ee_v (pv 12) rfl (.int _)) (hltm _ hor1)) (shK_get (hMet.shut _ _ _ hx hol1 hor1)) (.int _)
          · have tR := Ti.lst (o := .lst (ys ++ [v9])) h7
            refine b_nil ⟨_, ys ++ [v9], rfl, (gx.trans g7).mutL nR h7, ti.trans (g7.ti.trans tR), iv.mono (g7.ti.trans tR), by rw [upd_ne hRT.symm]; exact g7.lst hTt, iT.mono (g7.ti.trans tR), by rw [upd_ne hRO.symm]; exact g7.lst hOx, by rw [upd_ne hRS.symm]; exact g7.dK hSx, by rw [upd_ne hRM.symm]; exact g7.lst hMx, upd_same, ?_⟩
            rw [List.range_succ, List.map_append]
            exact (iR.mono (g7.ti.trans tR)).snoc (i7.mono tR)
        · rintro σ' H' ⟨v8, ys, rfl, gx, ti, iv, hTt, iT, hOx, hSx, hMx, hRr, iR⟩
          have el2 : (natsV os).length = Kn := by simp [natsV, hov]
          rw [el2] at iR
          refine b_apD (gx.tab hT) (ee_v (pv 5) rfl (.ref _)) hTt (sz_lt (by have := iT.length; simp at this; omega)) (d := rowsD (rowsF (fun x l r => sh (M.d x (os.getD l 0) (os.getD r 0))) Kn x)) (ee_tupP rfl G.tuple (ee_v (pv 7) rfl (.ref _)) hRr (by rw [rowsF, List.map_map]; exact iR)) fun v9 H7 g7 t7 i7 h7 => b_nil ?_
          have tR := Ti.lst (o := .lst (xs ++ [v9])) h7
          have hTO : pT ≠ pO := fun e => by rw [e, hOs] at hpT; cases hpT
          have hTS : pT ≠ pS := fun e => by rw [e, g.dK hSd] at hpT; cases hpT
          have hTM : pT ≠ pM := fun e => by rw [e, g.lst hM2] at hpT; cases hpT
          refine ⟨_, _, _, xs ++ [v9], rfl, hx, (gx.trans g7).mutL nT h7, ti.trans (g7.ti.trans tR), upd_same, ?_, by rw [upd_ne hTO.symm]; exact g7.lst hOx, by rw [upd_ne hTS.symm]; exact g7.dK hSx, by rw [upd_ne hTM.symm]; exact g7.lst hMx⟩
          rw [List.range_succ, List.map_append]
          exact (iT.mono (g7.ti.trans tR)).snoc (i7.mono tR)
      · rintro σ' H' ⟨v6, v7, v8, xs, rfl, hxl, gx, ti, hTt, iT, hOx, hSx, hMx⟩
        rw [List.length_map, hO.tl] at iT
        refine b_asg (ps_set (i := 9) sc_least.nd rfl (Or.inl rfl) wE_pe) (gx.tab hT) (ee_tupL (ds := ((List.range Kn).map fun k => M.g (os.getD k 0)).map .bl) rfl G.tuple (el_map (es := ((List.range Kn).map fun k => M.g (os.getD k 0)).map .bl) (pe_lc (own := [("room", 4)]) (g := gName 4) (tt := tYes) rfl sc_least.nd wI_pi (blkOk_by (N := nLeast) (sc := defScope sLeast) (by decide +kernel)) (fun _ _ _ _ _ => pg_name (i := 4) sc_least.nd rfl (Or.inl rfl)) (fun _ _ _ _ _ => pts_nil) (fun _ _ _ _ _ => tB_pe _ _ _ _ _))
          (ei_list (ds := natsD os) (ee_v (pv 3) rfl (.ref _)) hOx (isAll_nats _)) (by rw [hoD]; exact sz_lt (by omega)) (fun k => .bl (M.g (os.getD k 0))) (fun _ => rfl) ?_ (by rw [hoD, List.map_map]; rfl))) fun vg H6 g6 t6 ig => ?_
        · intro k di v H6 h1 h2 g6 s0 H0 C cl fp
          obtain ⟨e1, e2⟩ := nats_at h1
          subst e2
          cases h2
          exact mach_room (ee_v (pv 0) rfl (im.mono (gx.trans g6).ti)) (ee_v (pv 4) rfl (.int _)) (hltm _ (hos k _ e1).1)
        · refine b_asg (P := fun _ v H2 => ∃ ps : List (Nat × Nat), Is H2 (pap ps) v ∧ (∀ p ∈ ps, p.1 < M.rooms) ∧ ps.length ≤ M.rooms) (ps_set (i := 10) sc_least.nd rfl (Or.inl rfl) wE_pe) t6 (EX.imp (ex_tupX (Qd := fun ds => ∃ ps : List (Nat × Nat), ds = ps.map (fun p => .tup (natsD [p.1, p.2])) ∧ (∀ p ∈ ps, p.1 < M.rooms) ∧ ps.length ≤ M.rooms) rfl G.tuple
            (EX.imp (ex_mapX (Qd := fun ds => ∃ l : List Nat, ds = natsD l ∧ l.Perm met) (Qe := fun ds => ∃ ps : List (Nat × Nat), ds = ps.map (fun p => .tup (natsD [p.1, p.2])) ∧ (∀ p ∈ ps, p.1 < M.rooms) ∧ ps.length ≤ M.rooms) (pe_lc (own := [("room", 4)]) (g := gName 4) (tt := tYes) rfl sc_least.nd wI_pi (blkOk_by (N := nLeast) (sc := defScope sLeast) (by decide +kernel)) (fun _ _ _ _ _ => pg_name (i := 4) sc_least.nd rfl (Or.inl rfl)) (fun _ _ _ _ _ => pts_nil) (fun _ _ _ _ _ => tB_pe _ _ _ _ _))
              (eix_list (EX.imp (ex_sortN (P := fun l => l = met) rfl G.sorted (EX.imp (ev_v (pv 1) rfl) fun Ha v Hb ga gb e => ⟨pM, met, e, ((g6.trans ga).trans gb).lst hMx, rfl⟩)) fun Ha v Hb ga gb ⟨p, l, l', q1, q2, q3, q4⟩ => ⟨p, _, _, q1, q2, isAll_nats _, l', rfl, by rw [← q4]; exact q3⟩))
              (fun ds ⟨l, e, hp⟩ => by rw [e]; simp only [natsD, List.length_map]; rw [hp.length_eq]; exact sz_lt (by omega))
              (fun ds i => match ds.getD i .non with
                | .int n => .tup (natsD [n.toNat, sh n.toNat])
                | d => d) (fun _ => rfl) ?_ ?_) fun Ha v Hb ga gb ⟨p, xs, ds, q1, q2, q3, q4, q5⟩ => ⟨p, xs, ds, q1, q3, q4, q5⟩)) fun Ha v Hb ga gb ⟨ds, ⟨ps, e, q1, q2⟩, q3⟩ => ⟨ps, by unfold pap; rw [← e]; exact q3, q1, q2⟩) fun vp H7 g7 t7 ⟨ps, ip, hps, hpl⟩ => ?_
          · rintro ds ⟨l, rfl, hp⟩ i di v H7 h1 h2 g7 s0 H0 C cl fp
            obtain ⟨e1, e2⟩ := nats_at h1
            subst e2
            cases h2
            have hq : l.getD i 0 ∈ met := hp.mem_iff.mp (List.mem_of_getElem? e1)
            have e : (natsD l).getD i .non = .int ((l.getD i 0 : Nat) : Int) := by rw [List.getD_eq_getElem?_getD, h1]; rfl
            rw [e]
            exact ee_tup (ds := natsD [l.getD i 0, sh (l.getD i 0)]) (ea_cons (ee_v (pv 4) rfl (.int _)) (ea_cons (ee_dgetK hu (ee_v (pv 2) rfl (.ref _)) ((g6.trans g7).dK hSx) (ee_v (pv 4) rfl (.int _)) (shK_get hq) (.int _)) ea_nil)) (sz_ok (by show 2 ≤ 1000000; decide))
          · rintro ds ⟨l, rfl, hp⟩
            refine ⟨l.map fun q => (q, sh q), ?_, fun p hp' => ?_, by rw [List.length_map, hp.length_eq]; omega⟩
            · refine List.ext_getElem? fun i => ?_
              rw [List.getElem?_map, List.map_map, List.getElem?_map]
              by_cases hi : i < l.length
              · rw [List.getElem?_range (by simpa [natsD] using hi), List.getElem?_eq_getElem hi]
                simp only [Option.map_some]
                have e : (natsD l).getD i .non = .int ((l[i] : Nat) : Int) := by rw [List.getD_eq_getElem?_getD, natsD, List.getElem?_map, List.getElem?_eq_getElem hi]; rfl
                rw [e]
                rfl
              · have q1 : (List.range (natsD l).length)[i]? = none := List.getElem?_eq_none (by simpa [natsD] using hi)
                have q2 : l[i]? = none := List.getElem?_eq_none (by omega)
                rw [q1, q2]; rfl
            · obtain ⟨q, hq, e⟩ := List.mem_map.mp hp'
              rw [← e]
              exact hltm q (hp.mem_iff.mp hq)
          · have g67 := g6.trans g7
            refine b_ret t7 (ee_tup (ds := [machD ⟨M.names, (List.range Kn).map fun k => M.g (os.getD k 0), tableF (fun x l r => sh (M.d x (os.getD l 0) (os.getD r 0))) Kn M.letters⟩, pap ps]) (ea_cons (ee_tup (ea_cons (mach_names (M := M) (ee_v (pv 0) rfl (im.mono (gx.trans g67).ti))) (ea_cons (ee_v (pv 9) rfl (ig.mono g7.ti)) (ea_cons (ee_tupP (ds := (tableF (fun x l r => sh (M.d x (os.getD l 0) (os.getD r 0))) Kn M.letters).map rowsD) rfl G.tuple (ee_v (pv 5) rfl (.ref _)) (g67.lst hTt) (by rw [tableF, List.map_map]; exact iT.mono g67.ti)) ea_nil))) (sz_ok (by show 3 ≤ 1000000; decide))) (ea_cons (ee_v (pv 10) rfl ip) ea_nil)) (sz_ok (by show 2 ≤ 1000000; decide))) fun v8 H8 g8 t8 i8 => ⟨(gx.trans g67).trans g8, ?_⟩
            exact ⟨⟨M.names, (List.range Kn).map fun k => M.g (os.getD k 0), tableF (fun x l r => sh (M.d x (os.getD l 0) (os.getD r 0))) Kn M.letters⟩, _, ps, hLeast RR Stb (fun k hk => hown k hk) rfl rfl, rfl, by show ((List.range Kn).map fun k => M.g (os.getD k 0)).length ≤ _; rw [List.length_map, List.length_range]; omega, i8, hps, hpl⟩
end
end Tk
set_option Elab.async false
set_option linter.all false
set_option maxRecDepth 100000
/-! differing_pairs, least_pairs, both, either, flipped, widened. -/
namespace Tk
open PySem PySem.Spec PyProof.Rows L2 LamX NdefX
/-- two machines that may be paired -/
structure PairOk (A B : Mach) : Prop where
  a : A.Ok
  b : B.Ok
  na : A.names.length ≤ 100
  nb : B.names.length ≤ 100
  n : (both_ A B).length ≤ 13
  bd : ∃ Bn, Bd (ledP A B (both_ A B)) (2 ^ (both_ A B).length) Bn ∧ Bn * Bn * 2 ^ (both_ A B).length ≤ 10000
def PairPost (A B : Mach) (op : Bool → Bool → Bool) (H H' : Hp) (v : V) : Prop := ∃ W sts ps xs, Made (both_ A B) (ledP A B (both_ A B)) (gdP A B op) W sts ∧ Is H' (.tup [machD W, .ref ps]) v ∧ H ps = none ∧ H' ps = some (.lst xs) ∧ IsAll H' (sts.map prD) xs
theorem paired_at {P : Program} {w : World} {K : PySem.W.Frag} {mg : Str → Option Value} {base : Heap} {T : List NTab} {H : Hp} {A B : Mach} {op : Bool → Bool → Bool} {f : Addr} (h : PairOk A B) (F : FvOk P w K mg base T 1 H f (OpC op)) : R_paired P w K mg base T H [machD A, machD B, .ref f] (PairPost A B op H) := by
  obtain ⟨Bn, h1, h2⟩ := h.bd
  exact ⟨A, B, op, f, Bn, h.a, h.b, h.na, h.nb, rfl, F, h.n, h1, h2, rfl⟩
theorem made_small {A B : Mach} {op : Bool → Bool → Bool} {W : Mach} {sts : List Pr} (h : PairOk A B) (M : Made (both_ A B) (ledP A B (both_ A B)) (gdP A B op) W sts) : W.Ok ∧ Sm W ∧ W.rooms = sts.length ∧ sts.length ≤ 100 := by
  obtain ⟨Bn, h1, h2⟩ := h.bd
  have hl := h1.le M.nd M.reach
  have hr : W.rooms = sts.length := by unfold Mach.rooms; rw [M.good_, List.length_map]
  have h100 := bound_B h2
  have h13 := pow13 h.n
  refine ⟨M.ok, ⟨by omega, by rw [M.letters_]; omega, ?_⟩, hr, by omega⟩
  rw [M.letters_, hr]
  have a1 : sts.length * 2 ^ (both_ A B).length ≤ 100 * 8192 := Nat.mul_le_mul (by omega) (by omega)
  omega
section
variable {T : List NTab} {X : Cx} {σ : L2.St} {H : Hp} {e : Expr} {es : List Expr} {pos p1 : Pos}
/-- (e, ..), new -/
theorem ex_tupE {k : Nat} {Pa : Hp → List V → Hp → Prop} (h : EAX T X σ H es Pa) (hz : es.length ≤ 1000) (hl : ∀ H1 vs H2, Pa H1 vs H2 → vs.length ≤ 1000) : EX T X σ H (.Tuple es k pos) (fun H1 v H3 => ∃ p vs H2, v = .ref p ∧ Pa H1 vs H2 ∧ Gx T H1 H2 ∧ Gx T H2 H3 ∧ H3 p = some (.tup vs)) := fun H1 g t =>
  PE_to (pe_tup wA_pa) (wA_imp (h H1 g t) fun vs H2 ⟨g2, i2⟩ => ⟨sz_ok (by have := hl _ _ _ i2; omega), fun p hp => ⟨g2.trans (Gx.new hp), p, vs, H2, rfl, i2, g2, Gx.new hp, upd_same⟩⟩)
/-- sorted(rows of three numbers) -/
theorem ex_sort3 {p : Addr} {xs : List V} {l : List (Nat × Nat × Nat)} (hu : X.A.units + 64 < cLine) (hg : Gl X "sorted") (hm : X.mg "sorted" = none) (he : EE T X σ H e (.ref p)) (hp : H p = some (.lst xs)) (hx : IsAll H (l.map fun t => .tup (natsD [t.1, t.2.1, t.2.2])) xs) (hst : starEach (e :: []) X.env = (false, eval e X.env) :: starEach [] X.env := by rfl) (hpl : (backTo pos (starEach [] X.env)).any (·.1) = false := by rfl) :
    EX T X σ H (.Call (.Name "sorted" p1) [e] [] pos) (isL fun _ => True) := by
  have hk : ∃ k : V → Int × Int × Int, ∀ x ∈ xs, ∃ t, x = V.ref t ∧ H t = some (.tup [.int (k x).1, .int (k x).2.1, .int (k x).2.2]) := by
    have : ∀ x ∈ xs, ∃ q : Int × Int × Int, ∃ t, x = V.ref t ∧ H t = some (.tup [.int q.1, .int q.2.1, .int q.2.2]) := fun x hx' => by
      obtain ⟨i, hi⟩ := List.mem_iff_getElem?.mp hx'
      obtain ⟨d, hd, id⟩ := hx.get' hi
      rw [List.getElem?_map] at hd
      obtain ⟨q, hq, rfl⟩ := Option.map_eq_some_iff.mp hd
      cases id with
      | @tup p us _ h1 h2 => exact ⟨((q.1 : Int), (q.2.1 : Int), (q.2.2 : Int)), p, rfl, by rw [h2.nats] at h1; exact h1⟩
    classical
    refine ⟨fun x => if h : ∃ q : Int × Int × Int, ∃ t, x = V.ref t ∧ H t = some (.tup [.int q.1, .int q.2.1, .int q.2.2]) then h.choose else (0, 0, 0), fun x hx => ?_⟩
    have h := this x hx
    simp only [dif_pos h]
    exact h.choose_spec
  obtain ⟨k, hk⟩ := hk
  exact fun Ha ga ta => PE_to (pe_callB (cr_sorted3 hu) hg hm (by decide +kernel) (pa_cons wE_pe pa_nil hst) (by decide) (by decide) hst hpl) (wE_imp (he Ha ga ta) fun u7 H7 ⟨g7, i7⟩ => by
    rw [i7.ref_eq]
    refine ⟨p, xs, k, rfl, SqL.of ((ga.trans g7).lst hp), fun x hx => ?_, fun ys p hp hn => ⟨g7.trans (Gx.new hn), p, ys, ys.map (fun y => match y with | .ref a => .ref a | _ => .non), rfl, upd_same, ?_, trivial⟩⟩
    · obtain ⟨t, e1, e2⟩ := hk x hx
      exact ⟨t, e1, (ga.trans g7).tup e2⟩
    · have hall : ∀ y ∈ ys, ∃ t, y = V.ref t := fun y hy => by
        obtain ⟨t, e1, _⟩ := hk y (hp.mem_iff.mp hy)
        exact ⟨t, e1⟩
      clear hp
      generalize upd H7 p (HO.lst ys) = Hz
      induction ys with
      | nil => exact .nil
      | cons y ys ih =>
        obtain ⟨t, rfl⟩ := hall y List.mem_cons_self
        exact .cons (.ref _) (ih fun z hz => hall z (List.mem_cons_of_mem _ hz)))
end
section
variable {P : Program} {w : World} {K : PySem.W.Frag} {mg : Str → Option Value} {base : Heap} {T : List NTab} {f c Pt : Addr} {fd : FuncData}
theorem tup2 {H : Hp} {a b : D} {v : V} (h : Is H (.tup [a, b]) v) : ∃ p v1 v2, v = .ref p ∧ H p = some (.tup [v1, v2]) ∧ Is H a v1 ∧ Is H b v2 := by
  cases h with
  | @tup p us _ h1 h2 =>
    obtain ⟨v1, v2, rfl, i1, i2⟩ := isAll2 h2
    exact ⟨p, v1, v2, rfl, h1, i1, i2⟩
theorem tup3 {H : Hp} {a b c : D} {v : V} (h : Is H (.tup [a, b, c]) v) : ∃ p v1 v2 v3, v = .ref p ∧ H p = some (.tup [v1, v2, v3]) ∧ Is H a v1 ∧ Is H b v2 ∧ Is H c v3 := by
  cases h with
  | @tup p us _ h1 h2 =>
    obtain ⟨v1, v2, v3, rfl, i1, i2, i3⟩ := isAll3 h2
    exact ⟨p, v1, v2, v3, rfl, h1, i1, i2, i3⟩

abbrev sDiff : Stmt := topS 38
theorem sc_diff : FnScope ["one", "other"] ["one", "other"] (defScope sDiff) := ⟨rfl, rfl, rfl, by decide +kernel, rfl, by decide +kernel, by decide +kernel⟩
def nmDiff : Nat → Nat → Str := fun _ _ => "differing_pairs.<locals>.<lambda>"
def R_diff : Hp → List D → (Hp → V → Prop) → Prop := fun H ds post => ∃ A B : Mach, PairOk A B ∧ ds = [machD A, machD B] ∧ post = PairPost A B (fun a b => a != b) H
/-- what the lambda argument comes to -/
theorem ok_diff (F : FunC K "differing_pairs" sDiff f fd c) (hm : mg "differing_pairs" = some (.ref f)) (G : Glo mg) (tb : TabB base mg c Pt) (hT1 : (Pt, nmDiff) ∈ T) (hT2 : ∀ p ∈ T, p.1 = Pt → p.2 = nmDiff)
    (PM : DefOk P w K mg base T 4 "paired_machine" ["one", "other", "is_good"] (R_paired P w K mg base T)) : DefOk P w K mg base T 5 "differing_pairs" ["one", "other"] R_diff := by
  refine def_okC F hm sc_diff (fun _ _ _ _ _ _ us hl => match us, hl with | [_, _], _ => rfl) (fun H ds post ⟨_, _, _, e, _⟩ => by rw [e]; rfl) fun A outer s H E vs ds post hr hT hi ⟨MA, MB, hP, e1, e2⟩ => ?_
  subst e1 e2
  obtain ⟨va, vb, rfl, ia, ib⟩ := isAll2 hi
  refine b_ret hT (ex_callX (P := fun H1 v H2 => PairPost MA MB (fun a b => a != b) H1 H2 v) PM hr (by decide) rfl (eax_cons (ee_v (pv 0) rfl ia) (eax_cons (ee_v (pv 1) rfl ib) (eax_cons (ex_lambda tb rfl hT1 rfl hT2 rfl (ndef_free (sc := defScope sDiff) (fr := []) (by decide +kernel))) eax_nil))) ?_) fun v H1 g1 t1 ⟨W, sts, ps, xs, h1, h2, h3, h4, h5⟩ => ⟨g1, W, sts, ps, xs, h1, h2, h3, h4, h5⟩
  rintro H1 vs H2 g1 g2 ⟨v1, r1, H3, e1, i1, g3, g4, v2, r2, H4, e2, i2, g5, g6, v3, r3, H5, e3, ⟨fl, c', e4, hfn, hf, hc⟩, g7, g8, e5⟩
  subst e5 e3 e2 e1 e4
  have Fv : FvOk P w K mg base T 1 H2 fl (OpC fun a b => a != b) := by
    refine (fv_lambda (k := 0) (N := ["first", "second"]) (ps := ["first", "second"]) ?_ rfl (fun _ _ us hl => match us, hl with | [_, _], _ => rfl) hf hc (fun ds d ⟨_, _, e, _⟩ => by rw [e]; rfl) fun A' outer' s' H' vs' ds' d' hr' t' i' ⟨a, b, e1, e2⟩ => ?_).ext g8
    · dsimp only
      exact nscope_by (by decide +kernel)
    subst e1 e2
    obtain ⟨_, _, rfl, j1, j2⟩ := isAll2 i'
    cases j1; cases j2
    exact EE.is (ee_ne (ee_v (pv 0) rfl (.bl a)) (ee_v (pv 1) rfl (.bl b)) rfl rfl rfl) (by cases a <;> cases b <;> rfl)
  exact ⟨[machD MA, machD MB, .ref fl], _, .cons (i1.mono (g4.ti)) (.cons (i2.mono g6.ti) (.cons (.ref _) .nil)), paired_at hP Fv, fun v H6 g6' ⟨W, sts, ps, xs, h1, h2, h3, h4, h5⟩ => ⟨W, sts, ps, xs, h1, h2, g2.low _ h3, h4, h5⟩⟩

abbrev sLP : Stmt := topS 49
abbrev nLP : List Str := ["one", "other", "is_good", "wide", "pairs", "made", "homes", "rows", "room", "home"]
theorem sc_lp : FnScope nLP ["one", "other", "is_good"] (defScope sLP) := ⟨rfl, rfl, rfl, by decide +kernel, rfl, by decide +kernel, by decide +kernel⟩
def LPPost (A B : Mach) (op : Bool → Bool → Bool) (H' : Hp) (v : V) : Prop := ∃ (W : Mach) (sts : List Pr) (R : Mach) (cl : Tree → Nat) (d2 : D), Made (both_ A B) (ledP A B (both_ A B)) (gdP A B op) W sts ∧ IsLeast W.letters W.L R cl ∧ R.names = W.names ∧ R.rooms ≤ W.rooms ∧ Is H' (.tup [machD R, d2]) v
def R_lp (P : Program) (w : World) (K : PySem.W.Frag) (mg : Str → Option Value) (base : Heap) (T : List NTab) : Hp → List D → (Hp → V → Prop) → Prop := fun H ds post => ∃ (A B : Mach) (op : Bool → Bool → Bool) (f : Addr), PairOk A B ∧ ds = [machD A, machD B, .ref f] ∧ FvOk P w K mg base T 1 H f (OpC op) ∧ post = LPPost A B op
def trD (a b c : Nat) : D := .tup (natsD [a, b, c])
set_option maxHeartbeats 1000000 in
theorem ok_lp (F : Fun K "least_pairs" "least_pairs" sLP f fd) (hm : mg "least_pairs" = some (.ref f)) (G : Glo mg) (PM : DefOk P w K mg base T 4 "paired_machine" ["one", "other", "is_good"] (R_paired P w K mg base T)) (LE : DefOk P w K mg base T 4 "least_of" ["machine"] R_least) :
    DefOk P w K mg base T 5 "least_pairs" ["one", "other", "is_good"] (R_lp P w K mg base T) := by
  refine def_ok F hm sc_lp (fun _ _ _ _ _ _ us hl => match us, hl with | [_, _, _], _ => rfl) (fun H ds post ⟨_, _, _, _, _, e, _⟩ => by rw [e]; rfl) fun cdv A outer s H E vs ds post hr hT hi ⟨MA, MB, op, fo, hP, e1, Fo, e2⟩ => ?_
  subst e1 e2
  obtain ⟨va, vb, _, rfl, ia, ib, i3⟩ := isAll3 hi
  cases i3
  have hu : (A.deeper (envOfC "least_pairs" (defScope sLP) s.heap.objs.size f cdv)).units + 64 < cLine := hr.units
  refine b_unpack (n := 2) (js := [3, 4]) (ps_asg wE_pe (pg_tup rfl (pgs_cons (pg_name (i := 3) sc_lp.nd rfl (Or.inl rfl)) (pgs_cons (pg_name (i := 4) sc_lp.nd rfl (Or.inr rfl)) pgs_nil)))) hT (ex_call (P := fun _ v H2 => ∃ W sts ps xs, Made (both_ MA MB) (ledP MA MB (both_ MA MB)) (gdP MA MB op) W sts ∧ Is H2 (.tup [machD W, .ref ps]) v ∧ H2 ps = some (.lst xs) ∧ IsAll H2 (sts.map prD) xs) PM hr (by decide) rfl (ea_cons (ee_v (pv 0) rfl ia) (ea_cons (ee_v (pv 1) rfl ib) (ea_cons (ee_v (pv 2) rfl (.ref _)) ea_nil)))
    (fun Ha Hb ga gb => ⟨_, paired_at hP (Fo.ext (ga.trans gb)), fun v H3 g3 ⟨W, sts, ps, xs, h1, h2, h3, h4, h5⟩ => ⟨W, sts, ps, xs, h1, h2, h4, h5⟩⟩)) rfl fun v H1 g1 t1 ⟨W, sts, ps, xs, hMd, iv, hps, ixs⟩ => ?_
  obtain ⟨pt, vW, _, e, hpt, iW, ips⟩ := tup2 iv
  cases ips
  refine ⟨pt, _, e, hpt, rfl, ?_⟩
  show wB _ _ _ ([some va, some vb, some (.ref fo), some vW, some (.ref ps), none, none, none, none, none]) H1
  obtain ⟨oW, sW, hWr, h100⟩ := made_small hP hMd
  refine b_unpack (n := 2) (js := [5, 6]) (ps_asg wE_pe (pg_tup rfl (pgs_cons (pg_name (i := 5) sc_lp.nd rfl (Or.inl rfl)) (pgs_cons (pg_name (i := 6) sc_lp.nd rfl (Or.inl rfl)) pgs_nil)))) t1 (ex_call (P := fun _ v H2 => LeastPost W H2 v) LE hr (by decide) rfl (ea_cons (ee_v (pv 3) rfl iW) ea_nil)
    (fun Ha Hb ga gb => ⟨_, ⟨W, oW, sW, rfl, rfl⟩, fun v H3 g3 q => q⟩)) rfl fun v2 H2 g2 t2 ⟨R, cl, pp, hIs, hRn, hRr, iv2, hpp, hpl⟩ => ?_
  obtain ⟨pt2, vR, vP, e2, hpt2, iR, iP⟩ := tup2 iv2
  refine ⟨pt2, _, e2, hpt2, rfl, ?_⟩
  show wB _ _ _ ([some va, some vb, some (.ref fo), some vW, some (.ref ps), some vR, some vP, none, none, none]) H2
  have hps2 := g2.lst hps
  have ixs2 := ixs.mono g2.ti
  refine b_setLcT (Qd := fun ds => ds = pp.map (fun p => .tup (natsD [p.1, p.2]))) (Qe := fun ds => ∃ l : List (Nat × Nat × Nat), ds = l.map (fun t => trD t.1 t.2.1 t.2.2)) (n := 2) (js := [8, 9]) (ps_setLc (i := 7) (own := [("room", 8), ("home", 9)]) (g := gTup _ 2 (gNs [8, 9])) (tt := tYes) rfl sc_lp.nd rfl rfl (sw_true rfl rfl rfl rfl) wI_pi (blkOk_by (N := nLP) (sc := defScope sLP) (by decide +kernel)) (fun _ _ _ _ _ => pg_tup rfl (pgs_cons (pg_name (i := 8) sc_lp.nd rfl (Or.inl rfl)) (pgs_cons (pg_name (i := 9) sc_lp.nd rfl (Or.inl rfl)) pgs_nil))) (fun _ _ _ _ _ => pts_nil) (fun _ _ _ _ _ => tB_pe _ _ _ _ _)) t2
    (eix_tup (EX.imp (ee_v (pv 6) rfl iP) fun Ha v Hb ga gb i => ⟨_, rfl, i⟩)) (fun ds e => by rw [e, List.length_map]; exact sz_lt (by omega))
    (fun _ i => match pp[i]? with
      | some p => trD (sts.getD p.1 (0, 0)).1 (sts.getD p.1 (0, 0)).2 p.2
      | none => .non) rfl (fun us hl => match us, hl with | [_, _], _ => rfl) ?_ ?_ ?_
  · rintro ds rfl i di H3 h1 g3
    rw [List.getElem?_map] at h1
    obtain ⟨p, hp, rfl⟩ := Option.map_eq_some_iff.mp h1
    refine ⟨natsD [p.1, p.2], rfl, rfl, fun us hus => ?_⟩
    have hlt : p.1 < sts.length := by have := hpp p (List.mem_of_getElem? hp); omega
    have hst : sts[p.1]? = some (sts.getD p.1 (0, 0)) := by rw [List.getD_eq_getElem?_getD, List.getElem?_eq_getElem hlt]; rfl
    have e0 : us = natsV [p.1, p.2] := hus.nats
    subst e0
    intro s0 H0 C cl' fp
    simp only [hp]
    generalize sts.getD p.1 (0, 0) = st at hst ⊢
    obtain ⟨vs', hvs, ivs⟩ := ixs2.get (i := p.1) (d := prD st) (by rw [List.getElem?_map, hst]; rfl)
    exact ee_tup (ds := natsD [st.1, st.2, p.2]) (ea_cons (ee_ixT (ds := natsD [st.1, st.2]) (i := 0) (ee_ixL (ee_v (pv 4) rfl (.ref _)) (g3.lst hps2) (ee_v (pv 8) rfl (.int _)) (atI_nat hvs) (ivs.mono g3.ti)) ee_int rfl) (ea_cons (ee_ixT (ds := natsD [st.1, st.2]) (i := 1) (ee_ixL (ee_v (pv 4) rfl (.ref _)) (g3.lst hps2) (ee_v (pv 8) rfl (.int _)) (atI_nat hvs) (ivs.mono g3.ti)) ee_int rfl) (ea_cons (ee_v (pv 9) rfl (.int _)) ea_nil))) (sz_ok (by show 3 ≤ 1000000; decide))
  · rintro ds rfl
    refine ⟨pp.map fun p => ((sts.getD p.1 (0, 0)).1, (sts.getD p.1 (0, 0)).2, p.2), ?_⟩
    refine List.ext_getElem? fun i => ?_
    rw [List.getElem?_map, List.map_map, List.getElem?_map]
    by_cases hi : i < pp.length
    · rw [List.getElem?_range (by simpa using hi)]
      simp only [Option.map_some, List.getElem?_eq_getElem hi]
      rfl
    · have q1 : (List.range (pp.map fun p => D.tup (natsD [p.1, p.2])).length)[i]? = none := List.getElem?_eq_none (by simpa using hi)
      have q2 : pp[i]? = none := List.getElem?_eq_none (by omega)
      rw [q1, q2]; rfl
  · rintro pL xs3 ds3 H3 g3 t3 hpL hL i3 ⟨l, rfl⟩
    show wB _ _ _ ([some va, some vb, some (.ref fo), some vW, some (.ref ps), some vR, some vP, some (.ref pL), none, none]) H3
    refine b_ret t3 (ex_tupE (eax_cons (ee_v (pv 5) rfl (iR.mono g3.ti)) (eax_cons (ex_tupX rfl G.tuple (ex_sort3 (l := l) hu rfl G.sorted (ee_v (pv 7) rfl (.ref _)) hL i3)) eax_nil)) (by show 2 ≤ 1000; decide) (fun H1 vs H2 ⟨_, _, _, e, _, _, _, _, _, _, e2, _, _, _, e3⟩ => by rw [e, e2, e3]; show 2 ≤ 1000; decide)) fun v4 H4 g4 t4 ⟨p, vs, H5, e, ⟨v5, r5, H6, e5, i5, g5, g6, v7, r7, H7, e7, ⟨ds7, _, i7⟩, g7, g8, e8⟩, g9, g10, hp4⟩ => ?_
    subst e8 e7 e5 e
    exact ⟨((g1.trans g2).trans g3).trans g4, W, sts, R, cl, .tup ds7, hMd, hIs, hRn, hRr, .tup hp4 (.cons ((i5.mono g6.ti).mono g10.ti) (.cons ((i7.mono g8.ti).mono g10.ti) .nil))⟩
end
end Tk
set_option Elab.async false
set_option linter.all false
set_option maxRecDepth 100000
/-! both, either, flipped, widened, alike_rows. -/
namespace Tk
open PySem PySem.Spec PyProof.Rows L2 LamX NdefX
section
variable {P : Program} {w : World} {K : PySem.W.Frag} {mg : Str → Option Value} {base : Heap} {T : List NTab} {f c Pt : Addr} {fd : FuncData}
abbrev sBoth : Stmt := topS 50
abbrev sEither : Stmt := topS 51
theorem sc_both : FnScope ["one", "other"] ["one", "other"] (defScope sBoth) := ⟨rfl, rfl, rfl, by decide +kernel, rfl, by decide +kernel, by decide +kernel⟩
theorem sc_either : FnScope ["one", "other"] ["one", "other"] (defScope sEither) := ⟨rfl, rfl, rfl, by decide +kernel, rfl, by decide +kernel, by decide +kernel⟩
def nmBoth : Nat → Nat → Str := fun _ _ => "both.<locals>.<lambda>"
def nmEither : Nat → Nat → Str := fun _ _ => "either.<locals>.<lambda>"
def R_op (op : Bool → Bool → Bool) : Hp → List D → (Hp → V → Prop) → Prop := fun H ds post => ∃ A B : Mach, PairOk A B ∧ ds = [machD A, machD B] ∧ post = LPPost A B op
theorem ok_both (F : FunC K "both" sBoth f fd c) (hm : mg "both" = some (.ref f)) (G : Glo mg) (tb : TabB base mg c Pt) (hT1 : (Pt, nmBoth) ∈ T) (hT2 : ∀ p ∈ T, p.1 = Pt → p.2 = nmBoth)
    (LP : DefOk P w K mg base T 5 "least_pairs" ["one", "other", "is_good"] (R_lp P w K mg base T)) : DefOk P w K mg base T 6 "both" ["one", "other"] (R_op fun a b => a && b) := by
  refine def_okC F hm sc_both (fun _ _ _ _ _ _ us hl => match us, hl with | [_, _], _ => rfl) (fun H ds post ⟨_, _, _, e, _⟩ => by rw [e]; rfl) fun A outer s H E vs ds post hr hT hi ⟨MA, MB, hP, e1, e2⟩ => ?_
  subst e1 e2
  obtain ⟨va, vb, rfl, ia, ib⟩ := isAll2 hi
  refine b_ret hT (ex_callX (P := fun H1 v H2 => LPPost MA MB (fun a b => a && b) H2 v) LP hr (by decide) rfl (eax_cons (ee_v (pv 0) rfl ia) (eax_cons (ee_v (pv 1) rfl ib) (eax_cons (ex_lambda tb rfl hT1 rfl hT2 rfl (ndef_free (sc := defScope sBoth) (fr := []) (by decide +kernel))) eax_nil))) ?_) fun v H1 g1 t1 h => ⟨g1, h⟩
  rintro H1 vs H2 g1 g2 ⟨v1, r1, H3, e1, i1, g3, g4, v2, r2, H4, e2, i2, g5, g6, v3, r3, H5, e3, ⟨fl, c', e4, hfn, hf, hc⟩, g7, g8, e5⟩
  subst e5 e3 e2 e1 e4
  have Fv : FvOk P w K mg base T 1 H2 fl (OpC fun a b => a && b) := by
    refine (fv_lambda (k := 0) (N := ["first", "second"]) (ps := ["first", "second"]) ?_ rfl (fun _ _ us hl => match us, hl with | [_, _], _ => rfl) hf hc (fun ds d ⟨_, _, e, _⟩ => by rw [e]; rfl) fun A' outer' s' H' vs' ds' d' hr' t' i' ⟨a, b, e1, e2⟩ => ?_).ext g8
    · dsimp only
      exact nscope_by (by decide +kernel)
    subst e1 e2
    obtain ⟨_, _, rfl, j1, j2⟩ := isAll2 i'
    cases j1; cases j2
    exact ee_and2 (ee_v (pv 0) rfl (.bl a)) fun _ => ee_v (pv 1) rfl (.bl b)
  exact ⟨[machD MA, machD MB, .ref fl], _, .cons (i1.mono (g4.ti)) (.cons (i2.mono g6.ti) (.cons (.ref _) .nil)), ⟨MA, MB, _, fl, hP, rfl, Fv, rfl⟩, fun v H6 g6' h => h⟩
theorem ok_either (F : FunC K "either" sEither f fd c) (hm : mg "either" = some (.ref f)) (G : Glo mg) (tb : TabB base mg c Pt) (hT1 : (Pt, nmEither) ∈ T) (hT2 : ∀ p ∈ T, p.1 = Pt → p.2 = nmEither)
    (LP : DefOk P w K mg base T 5 "least_pairs" ["one", "other", "is_good"] (R_lp P w K mg base T)) : DefOk P w K mg base T 6 "either" ["one", "other"] (R_op fun a b => a || b) := by
  refine def_okC F hm sc_either (fun _ _ _ _ _ _ us hl => match us, hl with | [_, _], _ => rfl) (fun H ds post ⟨_, _, _, e, _⟩ => by rw [e]; rfl) fun A outer s H E vs ds post hr hT hi ⟨MA, MB, hP, e1, e2⟩ => ?_
  subst e1 e2
  obtain ⟨va, vb, rfl, ia, ib⟩ := isAll2 hi
  refine b_ret hT (ex_callX (P := fun H1 v H2 => LPPost MA MB (fun a b => a || b) H2 v) LP hr (by decide) rfl (eax_cons (ee_v (pv 0) rfl ia) (eax_cons (ee_v (pv 1) rfl ib) (eax_cons (ex_lambda tb rfl hT1 rfl hT2 rfl (ndef_free (sc := defScope sEither) (fr := []) (by decide +kernel))) eax_nil))) ?_) fun v H1 g1 t1 h => ⟨g1, h⟩
  rintro H1 vs H2 g1 g2 ⟨v1, r1, H3, e1, i1, g3, g4, v2, r2, H4, e2, i2, g5, g6, v3, r3, H5, e3, ⟨fl, c', e4, hfn, hf, hc⟩, g7, g8, e5⟩
  subst e5 e3 e2 e1 e4
  have Fv : FvOk P w K mg base T 1 H2 fl (OpC fun a b => a || b) := by
    refine (fv_lambda (k := 0) (N := ["first", "second"]) (ps := ["first", "second"]) ?_ rfl (fun _ _ us hl => match us, hl with | [_, _], _ => rfl) hf hc (fun ds d ⟨_, _, e, _⟩ => by rw [e]; rfl) fun A' outer' s' H' vs' ds' d' hr' t' i' ⟨a, b, e1, e2⟩ => ?_).ext g8
    · dsimp only
      exact nscope_by (by decide +kernel)
    subst e1 e2
    obtain ⟨_, _, rfl, j1, j2⟩ := isAll2 i'
    cases j1; cases j2
    exact ee_or2 (ee_v (pv 0) rfl (.bl a)) fun _ => ee_v (pv 1) rfl (.bl b)
  exact ⟨[machD MA, machD MB, .ref fl], _, .cons (i1.mono (g4.ti)) (.cons (i2.mono g6.ti) (.cons (.ref _) .nil)), ⟨MA, MB, _, fl, hP, rfl, Fv, rfl⟩, fun v H6 g6' h => h⟩

abbrev sFlip : Stmt := topS 48
abbrev nFlip : List Str := ["machine", "names", "good", "table", "truth"]
theorem sc_flip : FnScope nFlip ["machine"] (defScope sFlip) := ⟨rfl, rfl, rfl, by decide +kernel, rfl, by decide +kernel, by decide +kernel⟩
def flipM (M : Mach) : Mach := ⟨M.names, M.good.map not, M.table⟩
theorem flip_ok {M : Mach} (h : M.Ok) : (flipM M).Ok := by
  have e : (flipM M).rooms = M.rooms := by unfold flipM Mach.rooms; rw [List.length_map]
  refine ⟨by rw [e]; exact h.pos, h.tl, fun x rows hx => ?_⟩
  rw [e]
  exact h.rl x rows hx
theorem flip_sm {M : Mach} (h : Sm M) : Sm (flipM M) := by
  have e : (flipM M).rooms = M.rooms := by unfold flipM Mach.rooms; rw [List.length_map]
  exact ⟨by rw [e]; exact h.r, h.l, by rw [e]; exact h.p⟩
def R_flip : Hp → List D → (Hp → V → Prop) → Prop := fun _ ds post => ∃ M : Mach, M.Ok ∧ Sm M ∧ ds = [machD M] ∧ post = LeastPost (flipM M)
theorem ok_flip (F : Fun K "flipped" "flipped" sFlip f fd) (hm : mg "flipped" = some (.ref f)) (G : Glo mg) (LE : DefOk P w K mg base T 4 "least_of" ["machine"] R_least) : DefOk P w K mg base T 5 "flipped" ["machine"] R_flip := by
  refine def_ok F hm sc_flip (fun _ _ _ _ _ _ us hl => match us, hl with | [_], _ => rfl) (fun H ds post ⟨_, _, _, e, _⟩ => by rw [e]; rfl) fun cdv A outer s H E vs ds post hr hT hi ⟨M, hO, hS, e1, e2⟩ => ?_
  subst e1 e2
  obtain ⟨vm, rfl, im⟩ := isAll1 hi
  refine b_unpackD (n := 3) (js := [1, 2, 3]) (ds := [.str (tx M.names), blsD M.good, tabD M.table]) (ps_asg wE_pe (pg_tup rfl (pgs_cons (pg_name (i := 1) sc_flip.nd rfl (Or.inl rfl)) (pgs_cons (pg_name (i := 2) sc_flip.nd rfl (Or.inl rfl)) (pgs_cons (pg_name (i := 3) sc_flip.nd rfl (Or.inl rfl)) pgs_nil))))) hT (ee_v (pv 0) rfl im) rfl rfl fun us H1 g1 t1 hus => ?_
  obtain ⟨v1, v2, v3, rfl, i1, i2, i3⟩ := isAll3 hus
  show wB _ _ _ ([some vm, some v1, some v2, some v3, none]) H1
  refine b_ret t1 (ex_call (P := fun _ v H2 => LeastPost (flipM M) H2 v) LE hr (by decide) rfl (ea_cons (d := machD (flipM M)) (ee_tup (ea_cons (ee_v (pv 1) rfl i1) (ea_cons (ee_tupL rfl G.tuple (el_map (es := (M.good.map not).map .bl) (pe_lc (own := [("truth", 4)]) (g := gName 4) (tt := tYes) rfl sc_flip.nd wI_pi (blkOk_by (N := nFlip) (sc := defScope sFlip) (by decide +kernel)) (fun _ _ _ _ _ => pg_name (i := 4) sc_flip.nd rfl (Or.inl rfl)) (fun _ _ _ _ _ => pts_nil) (fun _ _ _ _ _ => tB_pe _ _ _ _ _))
    (ei_tup (ds := M.good.map .bl) (ee_v (pv 2) rfl i2)) (by rw [List.length_map]; have := hS.r; unfold Mach.rooms at this; exact sz_lt (by omega)) (fun i => .bl (!M.good.getD i false)) (fun _ => rfl) ?_ ?_)) (ea_cons (ee_v (pv 3) rfl i3) ea_nil))) (sz_ok (by show 3 ≤ 1000000; decide))) ea_nil)
    (fun Ha Hb ga gb => ⟨_, ⟨flipM M, flip_ok hO, flip_sm hS, rfl, rfl⟩, fun v H3 g3 q => q⟩)) fun v H2 g2 t2 q => ⟨g1.trans g2, q⟩
  · intro i di v H2 h1 h2 g2 s0 H0 C cl fp
    rw [List.getElem?_map] at h1
    obtain ⟨b, hb, rfl⟩ := Option.map_eq_some_iff.mp h1
    have e : M.good.getD i false = b := by rw [List.getD_eq_getElem?_getD, hb]; rfl
    rw [e]
    exact ee_not (ee_v (pv 4) rfl h2)
  · rw [List.length_map, List.map_map]
    refine List.ext_getElem? fun i => ?_
    rw [List.getElem?_map, List.getElem?_map]
    by_cases hi : i < M.good.length
    · rw [List.getElem?_range hi, List.getElem?_eq_getElem hi]
      simp [List.getD_eq_getElem?_getD, List.getElem?_eq_getElem hi]
    · have q1 : (List.range M.good.length)[i]? = none := List.getElem?_eq_none (by simpa using hi)
      have q2 : M.good[i]? = none := List.getElem?_eq_none (by omega)
      rw [q1, q2]; rfl

abbrev sWid : Stmt := topS 54
abbrev nWid : List Str := ["machine", "names", "many", "table", "letter"]
theorem sc_wid : FnScope nWid ["machine", "names"] (defScope sWid) := ⟨rfl, rfl, rfl, by decide +kernel, rfl, by decide +kernel, by decide +kernel⟩
def widM (M : Mach) (N : List Nat) : Mach := ⟨N, M.good, (List.range (2 ^ N.length)).map fun x => M.table.getD (thin M.names N x) []⟩
def R_wid : Hp → List D → (Hp → V → Prop) → Prop := fun _ ds post => ∃ (M : Mach) (N : List Nat), M.Ok ∧ M.rooms ≤ 100 ∧ N.length ≤ 13 ∧ M.rooms * M.rooms * 2 ^ N.length ≤ 10000 ∧ ds = [machD M, .str (tx N)] ∧ post = fun H' v => Is H' (machD (widM M N)) v
theorem ok_wid (F : Fun K "widened" "widened" sWid f fd) (hm : mg "widened" = some (.ref f)) (G : Glo mg) (L : DefOk P w K mg base T 1 "letter_of" ["names", "marks"] R_letter_of) (Mk : DefOk P w K mg base T 1 "marks_of" ["names", "number"] R_marks_of) : DefOk P w K mg base T 2 "widened" ["machine", "names"] R_wid := by
  refine def_ok F hm sc_wid (fun _ _ _ _ _ _ us hl => match us, hl with | [_, _], _ => rfl) (fun H ds post ⟨_, _, _, _, _, _, e, _⟩ => by rw [e]; rfl) fun cdv A outer s H E vs ds post hr hT hi ⟨M, N, hO, hR, hN, hB, e1, e2⟩ => ?_
  subst e1 e2
  obtain ⟨vm, _, rfl, im, i2⟩ := isAll2 hi
  cases i2
  have h13 := pow13 hN
  have hgl : M.good.length = M.rooms := rfl
  have hshl : ∀ {H' : Hp} {σ' : L2.St} {pp p2 p3 p4 : Pos} {j : Nat} {q : Pos}, σ'[1]? = some (some (.str (tx N))) → EE T (cx0 P w K mg base nWid "widened" sWid f cdv A outer s H E) σ' H' (.BinOp (.Constant (.int 1) j q) .LShift (.Call (.Name "len" pp) [.Name "names" p2] [] p3) p4) (.int ((2 ^ N.length : Nat) : Int)) := fun {H' σ' pp p2 p3 p4 j q} h =>
    EE.is (ee_shl ee_int (ee_lenS rfl G.len (ee_v (pv 1) h (.str _)) (by rw [tx_len]; exact sz_ok (by omega))) ⟨by omega, by rw [tx_len]; omega, by decide⟩) (by rw [tx_len, Int.toNat_natCast, Int.one_mul, Int.natCast_pow]; rfl)
  refine b_asgA (d := .int (M.rooms : Nat)) (ps_set (i := 2) sc_wid.nd rfl (.inl rfl) wE_pe) hT (EE.is (ee_lenT rfl G.len (mach_good (ee_v (pv 0) rfl im))) (by rw [List.length_map]; rfl)) rfl fun H1 g1 t1 => ?_
  have hmm : (M.rooms : Int) * M.rooms ≤ 10000 := by
    have : M.rooms * M.rooms ≤ 100 * 100 := Nat.mul_le_mul hR hR
    have h2 : ((M.rooms * M.rooms : Nat) : Int) = (M.rooms : Int) * M.rooms := Int.natCast_mul _ _
    omega
  have hmm0 : (0 : Int) ≤ (M.rooms : Int) * M.rooms := Int.mul_nonneg (by omega) (by omega)
  refine b_when (c := false) t1 (ET.is (et_gt (ee_mul (ee_mul (ee_v (pv 2) rfl (.int _)) (ee_v (pv 2) rfl (.int _)) (.inl ⟨by omega, by omega⟩)) (hshl rfl) (.inl ⟨by omega, by omega⟩)) (ee_gI rfl G.entriesW)) (by
    rw [decide_eq_false_iff_not]
    have h2 : ((M.rooms * M.rooms * 2 ^ N.length : Nat) : Int) = (M.rooms : Int) * M.rooms * ((2 ^ N.length : Nat) : Int) := by rw [Int.natCast_mul, Int.natCast_mul]
    rw [← h2]
    omega)) (fun h => nomatch h) fun _ H2 g2 t2 => ?_
  refine b_asg (ps_set (i := 3) sc_wid.nd rfl (.inl rfl) wE_pe) t2 (el_lst ea_nil (Nat.zero_le _)) fun v H3 g3 t3 ⟨pT, xs0, ev, hpT, h3, i3⟩ => ?_
  subst ev
  cases i3
  have g02 := g1.trans g2
  have nT : H pT = none := g02.low _ hpT
  refine b_forN (j := 4) (n := 2 ^ N.length) sc_wid.nd rfl G.range rfl PassesOwn.never t3 (hshl rfl) (by omega)
    (fun x σ' H' => ∃ (v4 : Option V) (xs : List V), σ' = [some vm, some (.str (tx N)), some (.int (M.rooms : Nat)), some (.ref pT), v4] ∧ Gx T H H' ∧ H' pT = some (.lst xs) ∧ IsAll H' ((List.range x).map fun x => rowsD (M.table.getD (thin M.names N x) [])) xs)
    (fun H4 g4 t4 => ⟨none, [], rfl, (g02.trans g3).trans g4, g4.lst h3, .nil⟩) ?_ ?_
  · rintro x σ' H' hx ⟨v4, xs, rfl, g, hT', iT⟩
    obtain ⟨rows, hrows, _⟩ := hO.rows (x := thin M.names N x) (thin_lt _ _ _)
    have er : M.table.getD (thin M.names N x) [] = rows := by rw [List.getD_eq_getElem?_getD, hrows]; rfl
    refine b_apD (g.tab hT) (ee_v (pv 3) rfl (.ref _)) hT' (sz_lt (by have := iT.length; simp at this; omega)) (d := rowsD rows) (ee_ixT (mach_table (ee_v (pv 0) rfl (im.mono g.ti))) (ee_callA (u := .int (thin M.names N x : Nat)) (d := .int (thin M.names N x : Nat)) L hr (by decide) rfl (ea_cons (mach_names (ee_v (pv 0) rfl (im.mono g.ti))) (ea_cons (ee_callA (d := .str (tx (marksOf N x))) (u := .str (tx (marksOf N x))) Mk hr (by decide) rfl (ea_cons (ee_v (pv 1) rfl (.str _)) (ea_cons (ee_v (pv 4) rfl (.int _)) ea_nil)) (fun H2 => ⟨N, x, by omega, rfl, rfl⟩) rfl) ea_nil)) (fun H2 => ⟨M.names, marksOf N x, rfl, rfl⟩) rfl) (by rw [List.getElem?_map, hrows]; rfl)) fun v5 H5 g5 t5 i5 h5 => b_nil ?_
    have tR := Ti.lst (o := .lst (xs ++ [v5])) h5
    refine ⟨_, xs ++ [v5], rfl, (g.trans g5).mutL nT h5, upd_same, ?_⟩
    rw [List.range_succ, List.map_append]
    refine (iT.mono (g5.ti.trans tR)).snoc ?_
    show Is _ (rowsD (M.table.getD (thin M.names N x) [])) _
    rw [er]
    exact i5.mono tR
  · rintro σ' H' ⟨v4, xs, rfl, g, hT', iT⟩
    refine b_ret (g.tab hT) (ee_tup (ds := [.str (tx N), blsD M.good, tabD (widM M N).table]) (ea_cons (ee_v (pv 1) rfl (.str _)) (ea_cons (mach_good (M := M) (ee_v (pv 0) rfl (im.mono g.ti))) (ea_cons (ee_tupP (ds := (widM M N).table.map rowsD) rfl G.tuple (ee_v (pv 3) rfl (.ref _)) hT' (by unfold widM; rw [List.map_map]; exact iT)) ea_nil))) (sz_ok (by show 3 ≤ 1000000; decide))) fun v H5 g5 t5 i => ⟨g.trans g5, i⟩
end
end Tk
set_option Elab.async false
set_option linter.all false
set_option maxRecDepth 100000
/-! alike_rows. -/
namespace Tk
open PySem PySem.Spec PyProof.Rows L2 LamX NdefX
section
variable {X : Cx}
/-- any(a tuple of truths) -/
theorem cr_anyT (hc : X.calm = true) : CallR X (.builtin "any") (fun vs H Q => ∃ (a : Addr) (bs : List Bool), vs = [V.ref a] ∧ SqT X.K H a (bs.map V.bl) ∧ Q (.bl (bs.any id)) H) := by
  intro pins s σ H vs us Q I r h
  obtain ⟨a, bs, rfl, hs, q⟩ := h
  obtain ⟨its, rv, ht, _⟩ := I.tuple hs
  rw [Vals.ref1 r]
  have hb := rv.bls
  have hT : s.heap.IsTuple a its.toArray := ht
  have hlt : a < s.heap.objs.size := ht.lt
  refine call_any_walk (wpAny_pyIter_tuple hT ?_)
  refine ⟨_, _, _, _, _, _, _, rfl, Walks.tuple (A := X.A.in1) (I.ok.hd hc) s.heap.objs.size a (Nat.ne_of_lt hlt) its.toArray, ⟨⟨_, Heap.get?_push_size _ rfl, rfl, rfl⟩, hT.push _⟩, truth_bools hb, fun h' tk hk => ?_⟩
  refine ⟨.bl _, H, I.kept fun b o eo => hk b o (fun hmem => ?_) (Heap.get?_push_of_some _ eo), ?_, q⟩
  · rcases List.mem_cons.mp hmem with e1 | hmem
    · exact absurd (e1 ▸ Heap.lt_size eo) (Nat.lt_irrefl _)
    · cases hmem
  · show Value.bool _ = Value.bool _
    rw [← L2.any_range, hb, List.size_toArray, List.length_map]
end
section
variable {T : List NTab} {X : Cx} {σ : L2.St} {H : Hp} {e : Expr} {pos p1 : Pos}
theorem ee_any {bs : List Bool} (hc : X.calm = true) (hg : Gl X "any") (hm : X.mg "any" = none) (h : EE T X σ H e (blsD bs)) (he : starEach (e :: []) X.env = (false, eval e X.env) :: starEach [] X.env := by rfl) (hpl : (backTo pos (starEach [] X.env)).any (·.1) = false := by rfl) :
    EE T X σ H (.Call (.Name "any" p1) [e] [] pos) (.bl (bs.any id)) :=
  ex_blt (cr_anyT hc) hg hm PyProof.Rows.boot_any (ea_cons h ea_nil he) (fun H1 H2 vs g1 g2 _ i Q q => by
    obtain ⟨_, rfl, i1⟩ := isAll1 i
    cases i1 with
    | @tup p us _ h1 h2 =>
      have := h2.bls_eq
      subst this
      exact ⟨p, bs, rfl, SqT.of h1, q _ _ (Gx.refl _) (.bl _)⟩) (by decide) (by decide) he hpl
def Plt (p q : Pr) : Prop := p.1 < q.1 ∨ (p.1 = q.1 ∧ p.2 < q.2)
/-- sorted(pairs) -/
theorem ex_sortP {p : Addr} {xs : List V} {l : List Pr} (hg : Gl X "sorted") (hm : X.mg "sorted" = none) (he : EE T X σ H e (.ref p)) (hp : H p = some (.lst xs)) (hx : IsAll H (l.map prD) xs) (hnd : l.Nodup) (hst : starEach (e :: []) X.env = (false, eval e X.env) :: starEach [] X.env := by rfl) (hpl : (backTo pos (starEach [] X.env)).any (·.1) = false := by rfl) :
    EX T X σ H (.Call (.Name "sorted" p1) [e] [] pos) (isL fun ds => ∃ l' : List Pr, ds = l'.map prD ∧ l'.Perm l ∧ l'.Pairwise Plt) := by
  have hk0 : ∀ x ∈ xs, ∃ q : Pr, ∃ t, x = V.ref t ∧ H t = some (.tup [.int (q.1 : Nat), .int (q.2 : Nat)]) := fun x hx' => by
    obtain ⟨i, hi⟩ := List.mem_iff_getElem?.mp hx'
    obtain ⟨d, hd, id⟩ := hx.get' hi
    rw [List.getElem?_map] at hd
    obtain ⟨q, hq, rfl⟩ := Option.map_eq_some_iff.mp hd
    cases id with
    | @tup p us _ h1 h2 => exact ⟨q, p, rfl, by rw [h2.nats] at h1; exact h1⟩
  have hk : ∃ k : V → Pr, ∀ x ∈ xs, ∃ t, x = V.ref t ∧ H t = some (.tup [.int ((k x).1 : Nat), .int ((k x).2 : Nat)]) := by
    classical
    refine ⟨fun x => if h : ∃ q : Pr, ∃ t, x = V.ref t ∧ H t = some (.tup [.int (q.1 : Nat), .int (q.2 : Nat)]) then h.choose else (0, 0), fun x hx => ?_⟩
    have h := hk0 x hx
    simp only [dif_pos h]
    exact h.choose_spec
  obtain ⟨k, hk⟩ := hk
  have hmap : xs.map k = l := by
    have : ∀ (l : List Pr) (xs : List V), IsAll H (l.map prD) xs → (∀ x ∈ xs, ∃ t, x = V.ref t ∧ H t = some (.tup [.int ((k x).1 : Nat), .int ((k x).2 : Nat)])) → xs.map k = l := by
      intro l
      induction l with
      | nil => intro xs h _; cases h; rfl
      | cons a r ih =>
        intro xs h hh
        cases h with
        | @cons _ v _ vs h1 h2 =>
          rw [List.map_cons, ih vs h2 fun x hx => hh x (List.mem_cons_of_mem _ hx)]
          congr 1
          obtain ⟨t, e1, e2⟩ := hh v List.mem_cons_self
          subst e1
          cases h1 with
          | @tup _ us _ h3 h4 =>
            rw [e2] at h3
            have h5 := h4.nats
            have h6 : [V.int ((k (.ref t)).1 : Nat), V.int ((k (.ref t)).2 : Nat)] = natsV [a.1, a.2] := by
              cases h3
              exact h5
            simp [natsV] at h6
            exact Prod.ext (by omega) (by omega)
    exact this l xs hx hk
  exact fun Ha ga ta => PE_to (pe_callB cr_sortedPO hg hm (by decide +kernel) (pa_cons wE_pe pa_nil hst) (by decide) (by decide) hst hpl) (wE_imp (he Ha ga ta) fun u7 H7 ⟨g7, i7⟩ => by
    rw [i7.ref_eq]
    refine ⟨p, xs, fun x => (((k x).1 : Int), ((k x).2 : Int)), rfl, SqL.of ((ga.trans g7).lst hp), fun x hx => ?_, fun ys p hs hb hn => ⟨g7.trans (Gx.new hn), p, ys, (ys.map k).map prD, rfl, upd_same, ?_, ys.map k, rfl, ?_, ?_⟩⟩
    · obtain ⟨t, e1, e2⟩ := hk x hx
      exact ⟨t, e1, (ga.trans g7).tup e2⟩
    · have hall : ∀ y ∈ ys, ∃ t, y = V.ref t ∧ upd H7 p (.lst ys) t = some (.tup [.int ((k y).1 : Nat), .int ((k y).2 : Nat)]) := fun y hy => by
        obtain ⟨t, e1, e2⟩ := hk y (hb.perm.mem_iff.mp hy)
        exact ⟨t, e1, (Gx.new (T := T) hn).tup ((ga.trans g7).tup e2)⟩
      clear hb hs
      generalize upd H7 p (HO.lst ys) = Hz at hall ⊢
      induction ys with
      | nil => exact .nil
      | cons y ys ih =>
        obtain ⟨t, e1, e2⟩ := hall y List.mem_cons_self
        refine .cons ?_ (ih fun z hz => hall z (List.mem_cons_of_mem _ hz))
        subst e1
        exact .tup e2 (isAll_nats [_, _])
    · rw [← hmap]; exact hb.perm.map k
    · have hnd' : (ys.map k).Nodup := (List.Perm.nodup_iff (hb.perm.map k)).mpr (by rw [hmap]; exact hnd)
      rw [List.pairwise_map]
      have hn2 : ys.Pairwise fun a b => k a ≠ k b := by
        have := hnd'
        unfold List.Nodup at this
        rwa [List.pairwise_map] at this
      refine (List.Pairwise.and hs hn2).imp fun {a b} ⟨h1, h2⟩ => ?_
      have h3 := SrtO.lexB_no.mp h1
      unfold Plt
      have h4 : ¬ ((k a).1 = (k b).1 ∧ (k a).2 = (k b).2) := fun z => h2 (Prod.ext z.1 z.2)
      simp only at h3
      omega)
end
section
variable {P : Program} {w : World} {K : PySem.W.Frag} {mg : Str → Option Value} {base : Heap} {T : List NTab} {f c Pt : Addr} {fd : FuncData}
abbrev sAlike : Stmt := topS 39
abbrev nAlike : List Str := ["one", "other", "wide", "pairs"]
theorem sc_alike : FnScope nAlike ["one", "other"] (defScope sAlike) := ⟨rfl, rfl, rfl, by decide +kernel, rfl, by decide +kernel, by decide +kernel⟩
def AlikePost (A B : Mach) (H' : Hp) (v : V) : Prop := ∃ W sts, Made (both_ A B) (ledP A B (both_ A B)) (gdP A B fun a b => a != b) W sts ∧ ((W.good.any id = true ∧ v = .non) ∨ (W.good.any id = false ∧ ∃ l : List Pr, l.Perm sts ∧ l.Pairwise Plt ∧ Is H' (.tup (l.map prD)) v))
def R_alike : Hp → List D → (Hp → V → Prop) → Prop := fun H ds post => ∃ A B : Mach, PairOk A B ∧ ds = [machD A, machD B] ∧ post = AlikePost A B
theorem ok_alike (F : Fun K "alike_rows" "alike_rows" sAlike f fd) (hm : mg "alike_rows" = some (.ref f)) (G : Glo mg) (DP : DefOk P w K mg base T 5 "differing_pairs" ["one", "other"] R_diff) : DefOk P w K mg base T 6 "alike_rows" ["one", "other"] R_alike := by
  refine def_ok F hm sc_alike (fun _ _ _ _ _ _ us hl => match us, hl with | [_, _], _ => rfl) (fun H ds post ⟨_, _, _, e, _⟩ => by rw [e]; rfl) fun cdv A outer s H E vs ds post hr hT hi ⟨MA, MB, hP, e1, e2⟩ => ?_
  subst e1 e2
  obtain ⟨va, vb, rfl, ia, ib⟩ := isAll2 hi
  refine b_unpack (n := 2) (js := [2, 3]) (ps_asg wE_pe (pg_tup rfl (pgs_cons (pg_name (i := 2) sc_alike.nd rfl (Or.inl rfl)) (pgs_cons (pg_name (i := 3) sc_alike.nd rfl (Or.inl rfl)) pgs_nil)))) hT (ex_call (P := fun _ v H2 => ∃ W sts ps xs, Made (both_ MA MB) (ledP MA MB (both_ MA MB)) (gdP MA MB fun a b => a != b) W sts ∧ Is H2 (.tup [machD W, .ref ps]) v ∧ H2 ps = some (.lst xs) ∧ IsAll H2 (sts.map prD) xs) DP hr (by decide) rfl (ea_cons (ee_v (pv 0) rfl ia) (ea_cons (ee_v (pv 1) rfl ib) ea_nil))
    (fun Ha Hb ga gb => ⟨_, ⟨MA, MB, hP, rfl, rfl⟩, fun v H3 g3 ⟨W, sts, ps, xs, h1, h2, h3, h4, h5⟩ => ⟨W, sts, ps, xs, h1, h2, h4, h5⟩⟩)) rfl fun v H1 g1 t1 ⟨W, sts, ps, xs, hMd, iv, hps, ixs⟩ => ?_
  obtain ⟨pt, vW, _, e, hpt, iW, ips⟩ := tup2 iv
  cases ips
  refine ⟨pt, _, e, hpt, rfl, ?_⟩
  show wB _ _ _ ([some va, some vb, some vW, some (.ref ps)]) H1
  refine b_when t1 (et_val (ee_any rfl rfl G.any (mach_good (M := W) (ee_v (pv 2) rfl iW)))) (fun hc H2 g2 t2 => ?_) (fun hc H2 g2 t2 => ?_)
  · refine b_ret t2 ee_non fun v H3 g3 t3 i => ⟨(g1.trans g2).trans g3, W, sts, hMd, .inl ⟨hc, i.non_eq⟩⟩
  · refine b_ret t2 (ex_tupX rfl G.tuple (ex_sortP rfl G.sorted (ee_v (pv 3) rfl (.ref _)) (g2.lst hps) (ixs.mono g2.ti) hMd.nd)) fun v H3 g3 t3 ⟨ds, ⟨l, e1, e2, e3⟩, i⟩ => ⟨(g1.trans g2).trans g3, W, sts, hMd, .inr ⟨hc, l, e2, e3, by rw [← e1]; exact i⟩⟩
end
end Tk
set_option Elab.async false
set_option linter.all false
set_option maxRecDepth 10000
/-! Defs that may raise TooGreat: first_tree, first_let, apart_tree. -/
namespace Tk
open PySem PySem.Spec PyProof.Rows L2 LamX NdefX
/-- what the written part says of an own error class -/
structure ErrTxt (K : PySem.W.Frag) (mg : Str → Option Value) (C : Addr) (x : Str) : Prop where
  g : mg x = some (.ref C)
  q : PySem.W.excIn K C [.type "ValueError", .type "Exception", .type "BaseException", .type "object"] "ValueError.__new__" = true
  k : PySem.W.keepIn K (.ref C) = true
  b : PySem.W.subIn K (.ref C) (.type "BaseException") = some true
  t : PySem.W.typeIn K (.ref C) = some (.type "type")
/-- a promise by data; ra: it may raise the error of the class at CT -/
def spX (T : List NTab) (CT : Addr) (R : Hp → List D → (Hp → V → Prop) → Prop → Prop) : Sp := fun vs H Q E => TabsN T H ∧ ∃ ds post ra, IsAll H ds vs ∧ R H ds post ra ∧ (∀ v H', Gx T H H' → post H' v → Q v H') ∧ (ra → ∀ H', Gx T H H' → E (.ref CT) none H')
def DefOkX (P : Program) (w : World) (K : PySem.W.Frag) (mg : Str → Option Value) (base : Heap) (T : List NTab) (CT : Addr) (k : Nat) (x : Str) (ps : List Str) (R : Hp → List D → (Hp → V → Prop) → Prop → Prop) : Prop :=
  ∃ f fd, mg x = some (.ref f) ∧ PySem.W.keepIn K (.ref f) = true ∧ Binds K fd ps [] ∧ FnOk P w K mg base (L2N.CX P w) k f fd ps (spX T CT R)
abbrev cxX (P : Program) (w : World) (K : PySem.W.Frag) (mg : Str → Option Value) (base : Heap) (N : List Str) (x : Str) (st : Stmt) (f : Addr) (cdv : Value) (A : Around) (outer : List Env) (s : Shared) (H : Hp) (E : XK) : Cx := cxOf (L2N.CX P w) P w K mg base N x (defScope st) f cdv A outer s H E
section
variable {P : Program} {w : World} {K : PySem.W.Frag} {mg : Str → Option Value} {base : Heap} {T : List NTab} {CT : Addr}
theorem def_okX {x : Str} {st : Stmt} {f : Addr} {fd : FuncData} {N ps : List Str} {k : Nat} {R : Hp → List D → (Hp → V → Prop) → Prop → Prop} (F : Fun K x x st f fd) (hm : mg x = some (.ref f)) (S : FnScope N ps (defScope st))
    (hb : ∀ (kV doc pm : Value) (an : Option Addr) (cdv ct : Value) (us : List Value), us.length = ps.length → bindArgs (PySem.W.fnOf x x (defArgs st) (defBody st) (defScope st) .none kV doc pm an cdv ct) ⟨us, []⟩ = pure (ps.zip us))
    (len : ∀ H ds post ra, R H ds post ra → ds.length = ps.length)
    (body : ∀ (cdv : Value) (A : Around) (outer : List Env) (s : Shared) (H : Hp) (E : XK) (vs : List V) (ds : List D) (post : Hp → V → Prop) (ra : Prop), Room k (A.deeper (envOfC x (defScope st) s.heap.objs.size f cdv)) → TabsN T H → IsAll H ds vs → R H ds post ra → (ra → ∀ H', Gx T H H' → E (.ref CT) none H') →
      wB (cxX P w K mg base N x st f cdv A outer s H E) (defBody st) (Dn T H post) (start N vs) H) : DefOkX P w K mg base T CT (k + 1) x ps R := by
  refine ⟨f, fd, hm, F.kp, F.binds hb, ?_⟩
  obtain ⟨oc, od, kV, doc, pm, an, cdv, ct, osl, rfl, lk, hcd⟩ := F.ex
  refine fn_of lk hcd S (fun vs H Q E ⟨_, ds, post, ra, h1, h2, _⟩ => by rw [← h1.length]; exact len H ds post ra h2) fun A outer s H vs Q E hr ⟨hT, ds, post, ra, h1, h2, h3, h4⟩ => ⟨_, wB_pss, ?_⟩
  exact wB_imp (body cdv A outer s H E vs ds post ra hr hT h1 h2 h4) (fun _ H' q => h3 _ _ q.1 q.2) (fun v H' q => h3 _ _ q.1 q.2) (fun _ _ z => z) (fun _ _ z => z)
/-- a call of a def that may raise, where that is taken -/
theorem ex_callR {X : Cx} {σ : L2.St} {H : Hp} {e : Expr} {es : List Expr} {p1 pos : Pos} {ds : List D} {k j : Nat} {x1 : Str} {ps : List Str} {R : Hp → List D → (Hp → V → Prop) → Prop → Prop} {Po : Hp → V → Hp → Prop} {W : WX} {CT : Addr} (F : DefOkX X.prog X.w X.K X.mg X.base T CT k x1 ps R) (hr : Room j X.A) (hk : k ≤ j) (hg : Gl X x1) (tk : L2N.Takes X W) (ha : EA T X σ H (e :: es) ds)
    (hR : ∀ H1 H2, Gx T H H1 → Gx T H1 H2 → ∃ post ra, R H2 ds post ra ∧ (∀ v H3, Gx T H2 H3 → post H3 v → Po H1 v H3) ∧ (ra → ∀ H3, Gx T H2 H3 → W (.ref CT) none σ H3)) (hdb : (x1 == ("__debug__" : Str)) = false := by decide)
    (he : starEach (e :: es) X.env = (false, eval e X.env) :: starEach es X.env := by rfl) (hpl : (backTo pos (starEach es X.env)).any (·.1) = false := by rfl) : EX T X σ H (.Call (.Name x1 p1) (e :: es) [] pos) Po := fun H1 g t => by
  obtain ⟨f, fd, hm, hkp, hb, F⟩ := F
  refine PE_to (pe_callS (E := WE W) F (hr.mono hk) hg hm hkp hb (fun σ => L2N.passAt tk σ) wA_pa hdb he hpl) (wA_imp (ha H1 g t) fun vs H2 ⟨g2, i2⟩ => ?_)
  obtain ⟨post, ra, h1, h2, h3⟩ := hR H1 H2 g g2
  exact ⟨g2.tab t, ds, post, ra, i2, h1, fun v H' g' q => ⟨g2.trans g', h2 v H' g' q⟩, h3⟩
theorem b_raise {X : Cx} {σ : L2.St} {H : Hp} {W : WX} {x m : Str} {j : Nat} {p p2 pos pos2 : Pos} {rest : List Stmt} {D' : Ends} {C : Addr} (hc : X.calm = true) (tk : L2N.Takes X W) (E : ErrTxt X.K X.mg C x) (hg : Gl X x) (h : W (.ref C) none σ H) (hdb : (x == ("__debug__" : Str)) = false := by decide) : wB X (.Raise (some (.Call (.Name x p) [.Constant (.str m) j p2] [] pos)) none pos2 :: rest) D' σ H :=
  b_ps (L2N.ps_raise hc tk (L2N.pmk_own PySem.F.excBase_ValueError E.q E.g E.k (raises_own E.b E.t) hg hdb)) h
end
theorem find_at {α : Type} {p : α → Bool} {l : List α} {i : Nat} {a : α} (h : ∀ j b, j < i → l[j]? = some b → p b = false) (ha : l[i]? = some a) (hp : p a = true) : l.find? p = some a := by
  induction l generalizing i with
  | nil => simp at ha
  | cons b r ih =>
    cases i with
    | zero =>
      simp at ha
      subst ha
      rw [List.find?_cons, hp]
    | succ i =>
      have hb := h 0 b (by omega) rfl
      rw [List.find?_cons, hb]
      exact ih (i := i) (fun j c hj e => h (j + 1) c (Nat.succ_lt_succ hj) (by simpa using e)) (by simpa using ha)
theorem find_no {α : Type} {p : α → Bool} {l : List α} (h : ∀ j b, j < l.length → l[j]? = some b → p b = false) : l.find? p = none := by
  rw [List.find?_eq_none]
  intro a ha
  obtain ⟨j, hj, e⟩ := List.mem_iff_getElem.mp ha
  rw [h j a hj (by rw [List.getElem?_eq_getElem hj, e])]
  decide
section
variable {P : Program} {w : World} {K : PySem.W.Frag} {mg : Str → Option Value} {base : Heap} {T : List NTab} {f c Pt CT : Addr} {fd : FuncData}
abbrev sRoom : Stmt := topS 35
abbrev nRoom : List Str := ["machine", "wanted", "room", "size", "why"]
theorem sc_room : FnScope nRoom ["machine", "wanted"] (defScope sRoom) := ⟨rfl, rfl, rfl, by decide +kernel, rfl, by decide +kernel, by decide +kernel⟩
def RoomPost (M : Mach) (v : V) : Prop := (∃ t, Least (fun t => t.ok M.letters ∧ M.L t = true) t ∧ First M.d M.letters (run M.d t) t ∧ v = .int (run M.d t : Nat)) ∨ ((∀ t : Tree, t.ok M.letters → M.L t = false) ∧ v = .non)
def R_room : Hp → List D → (Hp → V → Prop) → Prop := fun _ ds post => ∃ M : Mach, M.Ok ∧ Sm M ∧ ds = [machD M, .bl true] ∧ post = fun _ v => RoomPost M v
theorem ok_room (F : Fun K "first_room" "first_room" sRoom f fd) (hm : mg "first_room" = some (.ref f)) (FI_ : DefOk P w K mg base T 3 "firsts_of" ["machine"] R_firsts) : DefOk P w K mg base T 4 "first_room" ["machine", "wanted"] R_room := by
  refine def_ok F hm sc_room (fun _ _ _ _ _ _ us hl => match us, hl with | [_, _], _ => rfl) (fun H ds post ⟨_, _, _, e, _⟩ => by rw [e]; rfl) fun cdv A outer s H E vs ds post hr hT hi ⟨M, hO, hS, e1, e2⟩ => ?_
  subst e1 e2
  obtain ⟨vm, _, rfl, im, i2⟩ := isAll2 hi
  cases i2
  refine b_forTG (P := isT fun ds => ∃ Ts, Firsts M.d M.letters Ts ∧ ds = Ts.map (rowT M.d)) (gT := gTup _ 3 (gNs [2, 3, 4])) (ps_for PassesOwn.never rfl (pi_tup wE_pe) (pg_tup rfl (pgs_cons (pg_name (i := 2) sc_room.nd rfl (Or.inl rfl)) (pgs_cons (pg_name (i := 3) sc_room.nd rfl (Or.inl rfl)) (pgs_cons (pg_name (i := 4) sc_room.nd rfl (Or.inl rfl)) pgs_nil)))) wB_pss) hT
    (ex_call FI_ hr (by decide) rfl (ea_cons (ee_v (pv 0) rfl im) ea_nil) (fun Ha Hb ga gb => ⟨_, ⟨M, hO, hS.r, by have := hS.l; omega, rfl, rfl⟩, fun v H3 g3 ⟨Ts, h1, h2⟩ => ⟨_, ⟨Ts, h1, rfl⟩, h2⟩⟩)) fun v H1 g1 t1 ⟨ds, ⟨Ts, Fr, eds⟩, iv⟩ => ?_
  subst eds
  refine ⟨_, fun i σ' H' => ∃ v2 v3 v4 : Option V, σ' = [some vm, some (.bl true), v2, v3, v4] ∧ Gx T H1 H' ∧ ∀ j t, j < i → Ts[j]? = some t → M.g (run M.d t) = false, iv, ⟨none, none, none, rfl, Gx.refl _, fun j t h => by omega⟩, fun i σ' H' ⟨_, _, _, _, g, _⟩ => g.ti, ?_, ?_⟩
  · rintro i di u σ' H' hdi iu ⟨v2, v3, v4, rfl, g, hno⟩
    rw [List.getElem?_map] at hdi
    obtain ⟨t, ht, rfl⟩ := Option.map_eq_some_iff.mp hdi
    refine tgt_tup (js := [2, 3, 4]) (ds := [.int (run M.d t : Nat), .int (t.size : Nat), whyD M.d t]) iu rfl rfl _ fun σ2 ⟨us, hus, e⟩ => ?_
    obtain ⟨_, _, vw, rfl, j1, j2, j3⟩ := isAll3 hus
    cases j1; cases j2
    subst e
    have htm := List.mem_of_getElem? ht
    have hlt : run M.d t < M.rooms := hO.run (Fr.fi.ok_ htm)
    have gH := g1.trans g
    show wB _ _ _ ([some vm, some (.bl true), some (.int (run M.d t : Nat)), some (.int (t.size : Nat)), some vw]) H'
    refine b_when (gH.tab hT) (et_eqB (mach_room (M := M) (ee_v (pv 0) rfl (im.mono gH.ti)) (ee_v (pv 2) rfl (.int _)) hlt) (ee_v (pv 1) rfl (.bl _))) (fun hc H2 g2 t2 => ?_) (fun hc H2 g2 t2 => b_nil ?_)
    · have hg : M.g (run M.d t) = true := of_decide_eq_true hc
      refine b_ret t2 (ee_v (pv 2) rfl (.int _)) fun v3 H3 g3 t3 i3 => ⟨(gH.trans g2).trans g3, .inl ⟨t, ?_, Fr.fi.first t htm, i3.int_eq⟩⟩
      exact (Fr.least M.g).1 t (find_at (p := fun t => M.g (run M.d t)) hno ht hg)
    · have hg : M.g (run M.d t) = false := by
        have := of_decide_eq_false hc
        cases h : M.g (run M.d t)
        · rfl
        · exact absurd h this
      refine ⟨_, _, _, rfl, g.trans g2, fun j t' hj ht' => ?_⟩
      rcases Nat.lt_or_ge j i with z | z
      · exact hno j t' z ht'
      · obtain rfl : j = i := by omega
        rw [ht] at ht'
        cases ht'
        exact hg
  · rintro σ' H' ⟨v2, v3, v4, rfl, g, hno⟩
    rw [List.length_map] at hno
    refine b_ret ((g1.trans g).tab hT) ee_non fun v3 H3 g3 t3 i3 => ⟨(g1.trans g).trans g3, .inr ⟨fun t ot => ?_, i3.non_eq⟩⟩
    exact (Fr.least M.g).2 (find_no (p := fun t => M.g (run M.d t)) fun j b hj hb => hno j b hj hb) t ot

abbrev sTree : Stmt := topS 33
abbrev nTree : List Str := ["machine", "room", "trees", "one", "size", "why"]
theorem sc_tree : FnScope nTree ["machine", "room"] (defScope sTree) := ⟨rfl, rfl, rfl, by decide +kernel, rfl, by decide +kernel, by decide +kernel⟩
def R_tree : Hp → List D → (Hp → V → Prop) → Prop → Prop := fun _ ds post ra => ∃ (M : Mach) (q : Nat) (t : Tree), M.Ok ∧ Sm M ∧ First M.d M.letters q t ∧ ds = [machD M, .int (q : Nat)] ∧ post = (fun H' v => t.size ≤ 100 ∧ Is H' (treeD (enc M.names t)) v) ∧ ra = (100 < t.size)
theorem names_le {M : Mach} (h : M.letters ≤ 8192) : M.names.length ≤ 14 := by
  have h2 : M.names.length < 2 ^ M.names.length := Nat.lt_two_pow_self
  unfold Mach.letters at h
  rcases Nat.lt_or_ge 14 M.names.length with z | z
  · have h3 : 2 ^ 14 ≤ 2 ^ M.names.length := Nat.pow_le_pow_right (by decide) (by omega)
    have h4 : (8192 : Nat) < 2 ^ 14 := by decide +kernel
    omega
  · exact z
set_option maxHeartbeats 1000000 in
theorem ok_tree (F : Fun K "first_tree" "first_tree" sTree f fd) (hm : mg "first_tree" = some (.ref f)) (G : Glo mg) (Er : ErrTxt K mg CT "TooGreat") (FI_ : DefOk P w K mg base T 3 "firsts_of" ["machine"] R_firsts) (JO : DefOk P w K mg base T 2 "joined" ["left", "right", "marks"] R_joined) (Mk : DefOk P w K mg base T 1 "marks_of" ["names", "number"] R_marks_of) :
    DefOkX P w K mg base T CT 4 "first_tree" ["machine", "room"] R_tree := by
  refine def_okX F hm sc_tree (fun _ _ _ _ _ _ us hl => match us, hl with | [_, _], _ => rfl) (fun H ds post ra ⟨_, _, _, _, _, _, e, _⟩ => by rw [e]; rfl) fun cdv A outer s H E vs ds post ra hr hT hi ⟨M, q, tq, hO, hS, hFq, e1, e2, e3⟩ hra => ?_
  subst e1 e2 e3
  obtain ⟨vm, _, rfl, im, i2⟩ := isAll2 hi
  cases i2
  have hu := room_u1 hr
  have hnl := names_le hS.l
  have tk : L2N.Takes (cxX P w K mg base nTree "first_tree" sTree f cdv A outer s H E) (fun cls d _ H => E cls d H) := L2N.takes_of rfl rfl rfl rfl
  have hpo : PassesOwn (model (cxX P w K mg base nTree "first_tree" sTree f cdv A outer s H E).prog (cxX P w K mg base nTree "first_tree" sTree f cdv A outer s H E).w) (cxX P w K mg base nTree "first_tree" sTree f cdv A outer s H E).A (cxX P w K mg base nTree "first_tree" sTree f cdv A outer s H E).env (cxX P w K mg base nTree "first_tree" sTree f cdv A outer s H E).xe := L2.passes_of rfl
  refine b_asg (ps_set (i := 2) sc_tree.nd rfl (Or.inl rfl) wE_pe) hT ex_newK fun v H1 g1 t1 ⟨pT, ev, hpT, h1⟩ => ?_
  subst ev
  refine b_forTG (P := isT fun ds => ∃ Ts, Firsts M.d M.letters Ts ∧ ds = Ts.map (rowT M.d)) (gT := gTup _ 3 (gNs [3, 4, 5])) (ps_for hpo rfl (pi_tup wE_pe) (pg_tup rfl (pgs_cons (pg_name (i := 3) sc_tree.nd rfl (Or.inl rfl)) (pgs_cons (pg_name (i := 4) sc_tree.nd rfl (Or.inl rfl)) (pgs_cons (pg_name (i := 5) sc_tree.nd rfl (Or.inl rfl)) pgs_nil)))) wB_pss) t1
    (ex_call FI_ hr (by decide) rfl (ea_cons (ee_v (pv 0) rfl (im.mono g1.ti)) ea_nil) (fun Ha Hb ga gb => ⟨_, ⟨M, hO, hS.r, by have := hS.l; omega, rfl, rfl⟩, fun v H3 g3 ⟨Ts, h1, h2⟩ => ⟨_, ⟨Ts, h1, rfl⟩, h2⟩⟩)) fun v H2 g2 t2 ⟨ds, ⟨Ts, Fr, eds⟩, iv⟩ => ?_
  subst eds
  have hTl : Ts.length ≤ M.rooms := rows_le Fr.fi fun t o => hO.run o
  have hr9 := hS.r
  have htq : tq ∈ Ts := by
    refine Fr.fi.uniq ?_ (Fr.all tq hFq.1.1)
    rw [hFq.1.2]; exact hFq
  refine ⟨_, fun i σ' H' => ∃ (v3 v4 v5 : Option V) (kvs : List (L2.Key × V)), σ' = [some vm, some (.int (q : Nat)), some (.ref pT), v3, v4, v5] ∧ Gx T H H' ∧ Ti H2 H' ∧ H' pT = some (.dK kvs) ∧ kvs.length ≤ i ∧ (∀ j t, j < i → Ts[j]? = some t → t.size ≤ 100 → ∃ v, valV kvs (.inl (run M.d t : Int)) = some v ∧ Is H' (treeD (enc M.names t)) v) ∧ (∀ j t, j < i → Ts[j]? = some t → 100 < t.size → t ≠ tq), iv,
    ⟨none, none, none, [], rfl, g1.trans g2, Ti.refl _, g2.dK h1, Nat.le_refl _, fun j t h => by omega, fun j t h => by omega⟩, fun i σ' H' ⟨_, _, _, _, _, _, ti, _⟩ => ti, ?_, ?_⟩
  · rintro i di u σ' H' hdi iu ⟨v3, v4, v5, kvs, rfl, g, ti, hD, hkl, htr, hbig⟩
    rw [List.getElem?_map] at hdi
    obtain ⟨t, ht, rfl⟩ := Option.map_eq_some_iff.mp hdi
    refine tgt_tup (js := [3, 4, 5]) (ds := [.int (run M.d t : Nat), .int (t.size : Nat), whyD M.d t]) iu rfl rfl _ fun σ2 ⟨us, hus, e⟩ => ?_
    obtain ⟨_, _, vw, rfl, j1, j2, j3⟩ := isAll3 hus
    cases j1; cases j2
    subst e
    have hil : i < Ts.length := (List.getElem?_eq_some_iff.mp ht).1
    have htm := List.mem_of_getElem? ht
    show wB _ _ _ ([some vm, some (.int (q : Nat)), some (.ref pT), some (.int (run M.d t : Nat)), some (.int (t.size : Nat)), some vw]) H'
    -- a tree is put down
    have put : ∀ {H3 : Hp} {vt : V} (kvs' : List (L2.Key × V)), Gx T H' H3 → Is H3 (treeD (enc M.names t)) vt → t.size ≤ 100 → H3 pT = some (.dK kvs) → kvs' = putK kvs (.inl (run M.d t : Int)) vt → ∃ (v3 v4 v5 : Option V) (kvs' : List (L2.Key × V)), [some vm, some (.int (q : Nat)), some (.ref pT), some (.int (run M.d t : Nat)), some (.int (t.size : Nat)), some vw] = [some vm, some (.int (q : Nat)), some (.ref pT), v3, v4, v5] ∧ Gx T H (upd H3 pT (.dK (putK kvs (.inl (run M.d t : Int)) vt))) ∧ Ti H2 (upd H3 pT (.dK (putK kvs (.inl (run M.d t : Int)) vt))) ∧ upd H3 pT (.dK (putK kvs (.inl (run M.d t : Int)) vt)) pT = some (.dK kvs') ∧ kvs'.length ≤ i + 1 ∧
        (∀ j t', j < i + 1 → Ts[j]? = some t' → t'.size ≤ 100 → ∃ v, valV kvs' (.inl (run M.d t' : Int)) = some v ∧ Is (upd H3 pT (.dK (putK kvs (.inl (run M.d t : Int)) vt))) (treeD (enc M.names t')) v) ∧ (∀ j t', j < i + 1 → Ts[j]? = some t' → 100 < t'.size → t' ≠ tq) := by
      intro H3 vt kvs' g3 it hs h3 _
      have tm := Ti.dK (o := .dK (putK kvs (.inl (run M.d t : Int)) vt)) h3
      refine ⟨_, _, _, _, rfl, (g.trans g3).mutK hpT h3, ti.trans (g3.ti.trans tm), upd_same, ?_, fun j t' hj ht' hs' => ?_, fun j t' hj ht' hs' => ?_⟩
      · have := length_putK kvs (.inl (run M.d t : Int)) vt
        omega
      · rcases Nat.lt_or_ge j i with z | z
        · obtain ⟨v0, h1, h2⟩ := htr j t' z ht' hs'
          by_cases e : run M.d t' = run M.d t
          · have : t' = t := by
              have f1 := Fr.fi.first t' (List.mem_of_getElem? ht')
              have f2 := Fr.fi.first t htm
              rw [e] at f1
              exact f1.uniq f2
            subst this
            exact ⟨vt, by rw [valV_put, if_pos rfl], it.mono tm⟩
          · exact ⟨v0, by rw [valV_put, if_neg (fun z => e (inlN_inj z))]; exact h1, h2.mono (g3.ti.trans tm)⟩
        · obtain rfl : j = i := by omega
          rw [ht] at ht'
          cases ht'
          exact ⟨vt, by rw [valV_put, if_pos rfl], it.mono tm⟩
      · rcases Nat.lt_or_ge j i with z | z
        · exact hbig j t' z ht' hs'
        · obtain rfl : j = i := by omega
          rw [ht] at ht'
          cases ht'
          omega
    refine b_if (c := decide ((t.size : Int) > 100)) (g.tab hT) ?_ (fun hc H3 g3 t3 => ?_) (fun hc H3 g3 t3 => ?_)
    · exact et_gt (ee_v (pv 4) rfl (.int _)) (ee_gI rfl G.places2)
    · have hbg : 100 < t.size := by have := of_decide_eq_true hc; omega
      refine b_when t3 (et_eqI (ee_v (pv 3) rfl (.int _)) (ee_v (pv 1) rfl (.int _))) (fun hc2 H4 g4 t4 => ?_) (fun hc2 H4 g4 t4 => b_nil (b_nil ?_))
      · have hq : run M.d t = q := by have := of_decide_eq_true hc2; omega
        have htt : t = tq := by
          have f1 := Fr.fi.first t htm
          rw [hq] at f1
          exact f1.uniq hFq
        subst htt
        exact b_raise rfl tk Er rfl (hra hbg _ ((g.trans g3).trans g4))
      · have hq : run M.d t ≠ q := by have := of_decide_eq_false hc2; omega
        refine ⟨_, _, _, kvs, rfl, (g.trans g3).trans g4, ti.trans (g3.trans g4).ti, (g3.trans g4).dK hD, by omega, fun j t' hj ht' hs' => ?_, fun j t' hj ht' hs' => ?_⟩
        · rcases Nat.lt_or_ge j i with z | z
          · obtain ⟨v0, h1, h2⟩ := htr j t' z ht' hs'
            exact ⟨v0, h1, h2.mono (g3.trans g4).ti⟩
          · obtain rfl : j = i := by omega
            rw [ht] at ht'
            cases ht'
            omega
        · rcases Nat.lt_or_ge j i with z | z
          · exact hbig j t' z ht' hs'
          · obtain rfl : j = i := by omega
            rw [ht] at ht'
            cases ht'
            intro e
            subst e
            exact hq hFq.1.2
    · have hsm : t.size ≤ 100 := by have := of_decide_eq_false hc; omega
      have hD3 := g3.dK hD
      have j3' := j3.mono g3.ti
      cases t with
      | nil =>
        refine b_if (c := true) t3 ?_ (fun _ H4 g4 t4 => ?_) (fun h => nomatch h)
        · exact ET.is (et_eqI (ee_lenT rfl G.len (ee_v (pv 5) rfl (show Is H3 (.tup (natsD [])) vw from j3'))) ee_int) rfl
        refine b_dputK (P := fun _ v H2 => Is H2 (treeD (enc M.names .nil)) v) (ps_dput hu wE_pe wE_pe wE_pe rfl) t4 (ee_tup ea_nil (sz_ok (by show 0 ≤ 1000000; decide))) (ee_v (pv 2) rfl (.ref _)) (g4.dK hD3) (sz_lt (by omega)) (ee_v (pv 3) rfl (.int _)) fun v5 H5 H6 g5 g6 t6 i5 h6 => b_nil (b_nil (b_nil ?_))
        exact put _ (((g3.trans g4).trans g5).trans g6) (i5.mono g6.ti) hsm h6 rfl
      | node l r x =>
        have hw : Is H3 (.tup (natsD [run M.d l, run M.d r, x])) vw := j3'
        have fT := Fr.fi.first _ htm
        have hsz : (Tree.node l r x).size = 1 + l.size + r.size := rfl
        have hok := Fr.fi.ok_ htm
        have hin : ∀ u : Tree, First M.d M.letters (run M.d u) u → u.size < (Tree.node l r x).size → ∃ v, valV kvs (.inl (run M.d u : Int)) = some v ∧ Is H' (treeD (enc M.names u)) v := fun u hf hs => by
          have hmem := Fr.fi.down _ htm u hf (.sz hs)
          obtain ⟨j, hj, ej⟩ := mem_at hmem
          have hi2 : at_ Ts i = .node l r x := at_get ht
          have hji : j < i := (sorted_iff Fr.fi.sorted hj hil).mp (by rw [ej, hi2]; exact .sz hs)
          refine htr j u hji ?_ (by omega)
          rw [← ej]
          unfold at_
          rw [List.getD_eq_getElem?_getD, List.getElem?_eq_getElem hj]; rfl
        obtain ⟨vl, hvl, ivl⟩ := hin l fT.left (by omega)
        obtain ⟨vr, hvr, ivr⟩ := hin r fT.right (by omega)
        refine b_if (c := false) t3 ?_ (fun h => nomatch h) (fun _ H4 g4 t4 => ?_)
        · exact ET.is (et_eqI (ee_lenT rfl G.len (ee_v (pv 5) rfl hw)) ee_int) rfl
        have g34 := g3.trans g4
        have hD4 := g4.dK hD3
        refine b_dputK (P := fun _ v H2 => Is H2 (treeD (enc M.names (.node l r x))) v) (ps_dput hu wE_pe wE_pe wE_pe rfl) t4 (ex_call JO hr (by decide) rfl (ea_cons (d := treeD (enc M.names l)) (ee_dgetK hu (ee_v (pv 2) rfl (.ref _)) hD4 (ee_ixT (ds := natsD [run M.d l, run M.d r, x]) (i := 0) (ee_v (pv 5) rfl (hw.mono g4.ti)) ee_int rfl) hvl (ivl.mono g34.ti)) (ea_cons (d := treeD (enc M.names r)) (ee_dgetK hu (ee_v (pv 2) rfl (.ref _)) hD4 (ee_ixT (ds := natsD [run M.d l, run M.d r, x]) (i := 1) (ee_v (pv 5) rfl (hw.mono g4.ti)) ee_int rfl) hvr (ivr.mono g34.ti))
          (ea_cons (ee_callA (d := .str (tx (marksOf M.names x))) (u := .str (tx (marksOf M.names x))) Mk hr (by decide) rfl (ea_cons (mach_names (M := M) (ee_v (pv 0) rfl (im.mono (g.trans g34).ti))) (ea_cons (ee_ixT (ds := natsD [run M.d l, run M.d r, x]) (i := 2) (ee_v (pv 5) rfl (hw.mono g4.ti)) ee_int rfl) ea_nil)) (fun H2 => ⟨M.names, x, by omega, rfl, rfl⟩) rfl) ea_nil)))
          (fun Ha Hb ga gb => ⟨_, ⟨enc M.names l, enc M.names r, marksOf M.names x, by rw [enc_len, enc_len]; omega, rfl, rfl⟩, fun v H3 g3 q => by
            have e : enc M.names (.node l r x) = enc M.names l ++ enc M.names r ++ [(brs (enc M.names l).length (enc M.names r).length, marksOf M.names x)] := by
              rw [enc_len, enc_len]; rfl
            rw [e]; exact q⟩)) (ee_v (pv 2) rfl (.ref _)) hD4 (sz_lt (by omega)) (ee_v (pv 3) rfl (.int _)) fun v5 H5 H6 g5 g6 t6 i5 h6 => b_nil (b_nil (b_nil ?_))
        exact put _ ((g34.trans g5).trans g6) (i5.mono g6.ti) hsm h6 rfl
  · rintro σ' H' ⟨v3, v4, v5, kvs, rfl, g, ti, hD, hkl, htr, hbig⟩
    rw [List.length_map] at htr hbig
    obtain ⟨j, hj, ej⟩ := List.mem_iff_getElem.mp htq
    have htj : Ts[j]? = some tq := by rw [List.getElem?_eq_getElem hj, ej]
    have hsm : tq.size ≤ 100 := by
      rcases Nat.lt_or_ge 100 tq.size with z | z
      · exact absurd rfl (hbig j tq hj htj z)
      · exact z
    obtain ⟨v0, h1, h2⟩ := htr j tq hj htj hsm
    rw [hFq.1.2] at h1
    refine b_ret (g.tab hT) (ee_get1 (d := treeD (enc M.names tq)) hu (ee_v (pv 2) rfl (.ref _)) hD (ee_v (pv 1) rfl (.int _)) (by rw [h1]; exact h2) ⟨rfl, rfl, rfl, rfl⟩) fun v6 H6 g6 t6 i6 => ⟨g.trans g6, hsm, i6⟩
end
end Tk
set_option Elab.async false
set_option linter.all false
set_option maxRecDepth 10000
/-! first_let and apart_tree. -/
namespace Tk
open PySem PySem.Spec PyProof.Rows L2 LamX NdefX
def OutV : Out → Hp → V → Prop
  | .none, _, v => v = .non
  | .told ps, H, v => Is H (treeD ps) v
  | .refused, _, _ => False
section
variable {P : Program} {w : World} {K : PySem.W.Frag} {mg : Str → Option Value} {base : Heap} {T : List NTab} {f c Pt CT : Addr} {fd : FuncData}
abbrev sLet : Stmt := topS 36
abbrev nLet : List Str := ["machine", "room"]
theorem sc_let : FnScope nLet ["machine"] (defScope sLet) := ⟨rfl, rfl, rfl, by decide +kernel, rfl, by decide +kernel, by decide +kernel⟩
def R_let : Hp → List D → (Hp → V → Prop) → Prop → Prop := fun _ ds post ra => ∃ (M : Mach) (o : Out), M.Ok ∧ Sm M ∧ OutR M.names M.L o ∧ ds = [machD M] ∧ post = OutV o ∧ ra = (o = .refused)
theorem ok_let (F : Fun K "first_let" "first_let" sLet f fd) (hm : mg "first_let" = some (.ref f)) (FR : DefOk P w K mg base T 4 "first_room" ["machine", "wanted"] R_room) (FT : DefOkX P w K mg base T CT 4 "first_tree" ["machine", "room"] R_tree) :
    DefOkX P w K mg base T CT 5 "first_let" ["machine"] R_let := by
  refine def_okX F hm sc_let (fun _ _ _ _ _ _ us hl => match us, hl with | [_], _ => rfl) (fun H ds post ra ⟨_, _, _, _, _, e, _⟩ => by rw [e]; rfl) fun cdv A outer s H E vs ds post ra hr hT hi ⟨M, o, hO, hS, hR, e1, e2, e3⟩ hra => ?_
  subst e1 e2 e3
  obtain ⟨vm, rfl, im⟩ := isAll1 hi
  have tk : L2N.Takes (cxX P w K mg base nLet "first_let" sLet f cdv A outer s H E) (fun cls d _ H => E cls d H) := L2N.takes_of rfl rfl rfl rfl
  refine b_asg (ps_set (i := 1) sc_let.nd rfl (Or.inl rfl) wE_pe) hT (ex_call (P := fun _ v _ => RoomPost M v) FR hr (by decide) rfl (ea_cons (ee_v (pv 0) rfl im) (ea_cons ee_bl ea_nil)) (fun Ha Hb ga gb => ⟨_, ⟨M, hO, hS, rfl, rfl⟩, fun v H3 g3 q => q⟩)) fun v H1 g1 t1 hv => ?_
  show wB _ _ _ ([some vm, some v]) H1
  refine b_when (c := decide (v = .non)) t1 ?_ (fun hc H2 g2 t2 => ?_) (fun hc H2 g2 t2 => ?_)
  · exact et_isN (ev_v (pv 1) rfl)
  · have hc := of_decide_eq_true hc
    rcases hv with ⟨t, h1, h2, h3⟩ | ⟨h1, h2⟩
    · rw [hc] at h3; cases h3
    · refine b_ret t2 ee_non fun v H3 g3 t3 i => ⟨(g1.trans g2).trans g3, ?_⟩
      have e : o = .none := (hR.none_iff).mpr h1
      rw [e]
      exact i.non_eq
  · have hc := of_decide_eq_false hc
    rcases hv with ⟨t, h1, h2, h3⟩ | ⟨h1, h2⟩
    · subst h3
      have ho : (t.size ≤ 100 ∧ o = .told (enc M.names t)) ∨ (100 < t.size ∧ o = .refused) := by
        rcases hR with ⟨q1, q2⟩ | ⟨t', q1, q2⟩
        · have := q2 t h1.1.1
          rw [h1.1.2] at this
          cases this
        · have : t' = t := Least.uniq q1 h1
          rw [← this]; exact q2
      refine b_ret t2 (ex_callR (Po := fun _ v H' => OutV o H' v) FT hr (by decide) rfl tk (ea_cons (ee_v (pv 0) rfl (im.mono (g1.trans g2).ti)) (ea_cons (ee_v (pv 1) rfl (.int _)) ea_nil)) (fun Ha Hb ga gb => ⟨_, _, ⟨M, run M.d t, t, hO, hS, h2, rfl, rfl, rfl⟩, fun v H3 g3 ⟨q1, q2⟩ => ?_, fun hx H3 g3 => hra ?_ _ ((((g1.trans g2).trans ga).trans gb).trans g3)⟩)) fun v H3 g3 t3 i => ⟨(g1.trans g2).trans g3, i⟩
      · rcases ho with ⟨_, e⟩ | ⟨e, _⟩
        · rw [e]; exact q2
        · omega
      · rcases ho with ⟨e, _⟩ | ⟨_, e⟩
        · omega
        · exact e
    · exact absurd h2 hc
abbrev sApart : Stmt := topS 40
abbrev nApart : List Str := ["one", "other", "wide", "pairs"]
theorem sc_apart : FnScope nApart ["one", "other"] (defScope sApart) := ⟨rfl, rfl, rfl, by decide +kernel, rfl, by decide +kernel, by decide +kernel⟩
/-- where the two machines part -/
def Lx (A B : Mach) (t : Tree) : Bool := LN A (both_ A B) t != LN B (both_ A B) t
def R_apart : Hp → List D → (Hp → V → Prop) → Prop → Prop := fun _ ds post ra => ∃ (A B : Mach) (o : Out), PairOk A B ∧ OutR (both_ A B) (Lx A B) o ∧ ds = [machD A, machD B] ∧ post = OutV o ∧ ra = (o = .refused)
theorem made_lang {A B : Mach} {op : Bool → Bool → Bool} {W : Mach} {sts : List Pr} (h : Made (both_ A B) (ledP A B (both_ A B)) (gdP A B op) W sts) {t : Tree} (o : t.ok (2 ^ (both_ A B).length)) : W.L t = op (LN A (both_ A B) t) (LN B (both_ A B) t) := by
  rw [h.lang o, runG_pair]; rfl
theorem OutR.congr {N : List Nat} {L L' : Tree → Bool} {o : Out} (h : OutR N L o) (e : ∀ t : Tree, t.ok (2 ^ N.length) → L t = L' t) : OutR N L' o := by
  rcases h with ⟨h1, h2⟩ | ⟨t, h1, h2⟩
  · exact .inl ⟨h1, fun t ot => by rw [← e t ot]; exact h2 t ot⟩
  · refine .inr ⟨t, h1.congr fun u => ?_, h2⟩
    constructor
    · rintro ⟨q1, q2⟩; exact ⟨q1, by rw [← e u q1]; exact q2⟩
    · rintro ⟨q1, q2⟩; exact ⟨q1, by rw [e u q1]; exact q2⟩
theorem ok_apart (F : Fun K "apart_tree" "apart_tree" sApart f fd) (hm : mg "apart_tree" = some (.ref f)) (DP : DefOk P w K mg base T 5 "differing_pairs" ["one", "other"] R_diff) (FL : DefOkX P w K mg base T CT 5 "first_let" ["machine"] R_let) :
    DefOkX P w K mg base T CT 6 "apart_tree" ["one", "other"] R_apart := by
  refine def_okX F hm sc_apart (fun _ _ _ _ _ _ us hl => match us, hl with | [_, _], _ => rfl) (fun H ds post ra ⟨_, _, _, _, _, e, _⟩ => by rw [e]; rfl) fun cdv A outer s H E vs ds post ra hr hT hi ⟨MA, MB, o, hP, hR, e1, e2, e3⟩ hra => ?_
  subst e1 e2 e3
  obtain ⟨va, vb, rfl, ia, ib⟩ := isAll2 hi
  have tk : L2N.Takes (cxX P w K mg base nApart "apart_tree" sApart f cdv A outer s H E) (fun cls d _ H => E cls d H) := L2N.takes_of rfl rfl rfl rfl
  refine b_unpack (n := 2) (js := [2, 3]) (ps_asg wE_pe (pg_tup rfl (pgs_cons (pg_name (i := 2) sc_apart.nd rfl (Or.inl rfl)) (pgs_cons (pg_name (i := 3) sc_apart.nd rfl (Or.inl rfl)) pgs_nil)))) hT (ex_call (P := fun _ v H2 => ∃ W sts ps, Made (both_ MA MB) (ledP MA MB (both_ MA MB)) (gdP MA MB fun a b => a != b) W sts ∧ Is H2 (.tup [machD W, .ref ps]) v) DP hr (by decide) rfl (ea_cons (ee_v (pv 0) rfl ia) (ea_cons (ee_v (pv 1) rfl ib) ea_nil))
    (fun Ha Hb ga gb => ⟨_, ⟨MA, MB, hP, rfl, rfl⟩, fun v H3 g3 ⟨W, sts, ps, xs, h1, h2, h3, h4, h5⟩ => ⟨W, sts, ps, h1, h2⟩⟩)) rfl fun v H1 g1 t1 ⟨W, sts, ps, hMd, iv⟩ => ?_
  obtain ⟨pt, vW, _, e, hpt, iW, ips⟩ := tup2 iv
  cases ips
  refine ⟨pt, _, e, hpt, rfl, ?_⟩
  show wB _ _ _ ([some va, some vb, some vW, some (.ref ps)]) H1
  obtain ⟨wO, wS, _, _⟩ := made_small hP hMd
  have hR' : OutR W.names W.L o := by
    rw [hMd.names_]
    exact hR.congr fun t ot => (made_lang hMd ot).symm
  refine b_ret t1 (ex_callR (Po := fun _ v H' => OutV o H' v) FL hr (by decide) rfl tk (ea_cons (ee_v (pv 2) rfl iW) ea_nil) (fun Ha Hb ga gb => ⟨_, _, ⟨W, o, wO, wS, hR', rfl, rfl, rfl⟩, fun v H3 g3 q => q, fun hx H3 g3 => hra hx _ (((g1.trans ga).trans gb).trans g3)⟩)) fun v H3 g3 t3 i => ⟨g1.trans g3, i⟩
end
end Tk
set_option Elab.async false
set_option linter.all false
set_option maxRecDepth 10000
/-! The law's own builders: cell, mixed, draws, pool. -/
namespace Tk
open PySem PySem.Spec PyProof.Rows L2 LamX NdefX
section
variable {T : List NTab} {X : Cx} {σ : L2.St} {H : Hp} {e a b : Expr} {body rest : List Stmt} {D' : Ends} {pos : Pos} {P : Hp → V → Hp → Prop}
theorem sqlGx {K : PySem.W.Frag} {H H1 : Hp} {p : Addr} {xs : List V} (h : SqL K H p xs) (g : Gx T H H1) : SqL K H1 p xs := by
  rcases h with (h | ⟨o, h⟩) | h
  · exact .inl (.inl (g.ext _ _ h fun ps e => by cases e))
  · exact .inl (.inr ⟨o, g.ext _ _ h fun ps e => by cases e⟩)
  · exact .inr h
theorem b_forLX {tg : Expr} {gT : TG} (s : PS X (.For tg e body [] pos) (tFor (iList X.K (wE X e)) gT (wB X body))) (hT : TabsN T H) (he : EX T X σ H e P)
    (k : ∀ v H1, Gx T H H1 → TabsN T H1 → P H v H1 → ∃ (p : Addr) (xs : List V) (Pv : Nat → L2.St → Hp → Prop), v = .ref p ∧ Pv 0 σ H1 ∧ (∀ i σ' H', Pv i σ' H' → H' p = some (.lst xs)) ∧ H1 p = some (.lst xs) ∧
      (∀ (i : Nat) v σ' H', xs[i]? = some v → Pv i σ' H' → gT v σ' H' fun σ2 H2 => wB X body { D' with nx := Pv (i + 1), ct := Pv (i + 1), bk := wB X rest D' } σ2 H2) ∧ (∀ σ' H', Pv xs.length σ' H' → wB X rest D' σ' H')) :
    wB X (.For tg e body [] pos :: rest) D' σ H :=
  b_ps s (wE_imp (he H (Gx.refl H) hT) fun v H1 ⟨g, q⟩ => by
    obtain ⟨p, xs, Pv, e1, h0, hl, hp, hs, hd⟩ := k v H1 g (g.tab hT) q
    subst e1
    exact ⟨p, rfl, ⟨xs, SqL.of hp⟩, for_list (K := X.K) (a := p) (xs := xs) Pv h0 (fun i σ' H' _ q => SqL.of (hl i σ' H' q)) hs hd⟩)
/-- xs.append(e), any e -/
theorem b_ap {l : Expr} {p : Addr} {xs : List V} {apos cpos pos' : Pos} (hT : TabsN T H) (hl : EE T X σ H l (.ref p)) (hp : H p = some (.lst xs)) (hz : xs.length < sizeLine) (he : EX T X σ H e P) (hP : ∀ H1 H2 v, Gx T H H1 → P H1 v H2 → P H v H2)
    (k : ∀ v H1, Gx T H H1 → TabsN T H1 → P H v H1 → H1 p = some (.lst xs) → wB X rest D' σ (upd H1 p (.lst (xs ++ [v]))))
    (hs : swapsWith (.Call (.Attribute l "append" apos) [e] [] cpos) none pos'.line X.env = pure false := by rfl) (hbase : attributeBase l "append" X.env (eval l X.env) = eval l X.env := by rfl) (hline : (apos.endLine == cpos.line) = true := by rfl)
    (hst : starEach (e :: []) X.env = (false, eval e X.env) :: starEach [] X.env := by rfl)
    (hfew : ((backTo cpos (starEach [e] X.env)).all (fun x => !x.1) && (backToKw cpos (keywordEach [] X.env)).all (fun x => x.1.isSome) && decide (([e] : List Expr).length + ([] : List Keyword).length + (if ([] : List Keyword).isEmpty then 0 else 1) < 30)) = true := by rfl) :
    wB X (.Expr (.Call (.Attribute l "append" apos) [e] [] cpos) pos' :: rest) D' σ H :=
  b_app (ps_expr (pe_bm (es := []) PySem.F.plainAttrs_list PySem.F.slot_list_append PySem.F.type_list_append mt_append wE_pe (pa_cons wE_pe pa_nil hst) (hbase := hbase) (hline := hline) (hs := hst) (hfew := hfew)) hs) hT hl hp hz he k hP
/-- an item of a list that is given -/
theorem ee_ixQ {p : Addr} {xs : List V} {i : Int} {v : V} {d : D} (ha : EE T X σ H a (.ref p)) (hp : SqL X.K H p xs) (hb : EE T X σ H b (.int i)) (hi : atI xs i = some v) (hd : Is H d v) (hs : PlainIx b := by exact fun _ _ => rfl) : EE T X σ H (.Subscript a b pos) d :=
  ex_op2 (pe_ix ix_list wE_pe wE_pe hs) ha hb fun H1 H2 u w g1 g2 _ iu iv Q q => by
    rw [iu.ref_eq, iv.int_eq]
    exact ⟨_, _, _, v, rfl, rfl, sqlGx hp (g1.trans g2), hi, q _ _ (Gx.refl _) (hd.mono (g1.trans g2).ti)⟩
end
section
variable {P : Program} {w : World} {K : PySem.W.Frag} {mg : Str → Option Value} {base : Heap} {T : List NTab} {f c Pt CT : Addr} {fd : FuncData}
abbrev sCell : Stmt := topS 56
abbrev nCell : List Str := ["_law_script", "_law_k"]
theorem sc_cell : FnScope nCell nCell (defScope sCell) := ⟨rfl, rfl, rfl, by decide +kernel, rfl, by decide +kernel, by decide +kernel⟩
def R_cell (K : PySem.W.Frag) : Hp → List D → (Hp → V → Prop) → Prop := fun H ds post => ∃ (a : Addr) (ns : List Int) (k : Nat), SqL K H a (ns.map V.int) ∧ ds = [.ref a, .int (k : Nat)] ∧ post = fun _ v => ∃ c : Int, v = .int c
theorem ok_cell (F : Fun K "_law_cell" "_law_cell" sCell f fd) (hm : mg "_law_cell" = some (.ref f)) (G : Glo mg) : DefOk P w K mg base T 1 "_law_cell" nCell (R_cell K) := by
  refine def_ok F hm sc_cell (fun _ _ _ _ _ _ us hl => match us, hl with | [_, _], _ => rfl) (fun H ds post ⟨_, _, _, _, e, _⟩ => by rw [e]; rfl) fun cdv A outer s H E vs ds post hr hT hi ⟨a, ns, k, hs, e1, e2⟩ => ?_
  subst e1 e2
  obtain ⟨_, _, rfl, i1, i2⟩ := isAll2 hi
  cases i1; cases i2
  refine b_when hT (et_eqI (ee_lenQ (X := cx0 P w K mg base nCell "_law_cell" sCell f cdv A outer s H E) rfl G.len (ee_v (pv 0) rfl (.ref _)) fun H1 g => sqlGx hs g) ee_int) (fun hc H1 g1 t1 => ?_) (fun hc H1 g1 t1 => ?_)
  · exact b_ret t1 ee_int fun v H2 g2 t2 i => ⟨g1.trans g2, _, i.int_eq⟩
  · have hc := of_decide_eq_false hc
    have hl : 0 < (ns.map V.int).length := by omega
    have hlt : k % (ns.map V.int).length < ns.length := by rw [List.length_map]; exact Nat.mod_lt _ (by rwa [List.length_map] at hl)
    refine b_ret t1 (ee_ixQ (X := cx0 P w K mg base nCell "_law_cell" sCell f cdv A outer s H E) (d := .int (ns[k % (ns.map V.int).length]'hlt)) (i := ((k % (ns.map V.int).length : Nat) : Int)) (ee_v (pv 0) rfl (.ref _)) (sqlGx hs g1) (EE.is (ee_mod (ee_v (pv 1) rfl (.int _)) (ee_lenQ (X := cx0 P w K mg base nCell "_law_cell" sCell f cdv A outer s H E) rfl G.len (ee_v (pv 0) rfl (.ref _)) fun H2 g => sqlGx hs (g1.trans g)) (by omega)) (by congr 1)) (atI_nat (by rw [List.getElem?_map, List.getElem?_eq_getElem hlt]; rfl)) (.int _)) fun v H2 g2 t2 i => ⟨g1.trans g2, _, i.int_eq⟩

abbrev sMixed : Stmt := topS 57
abbrev nMixed : List Str := ["_law_cell_here", "_law_k", "_law_salt", "_law_first_here"]
theorem sc_mixed : FnScope nMixed ["_law_cell_here", "_law_k", "_law_salt"] (defScope sMixed) := ⟨rfl, rfl, rfl, by decide +kernel, rfl, by decide +kernel, by decide +kernel⟩
def R_mixed : Hp → List D → (Hp → V → Prop) → Prop := fun H ds post => ∃ (c : Int) (k s : Nat), k ≤ 1000 ∧ s ≤ 1000000 ∧ ds = [.int c, .int (k : Nat), .int (s : Nat)] ∧ post = fun _ v => ∃ n : Nat, v = .int (n : Nat) ∧ n < 1000000007
theorem ok_mixed (F : Fun K "_law_mixed" "_law_mixed" sMixed f fd) (hm : mg "_law_mixed" = some (.ref f)) : DefOk P w K mg base T 1 "_law_mixed" ["_law_cell_here", "_law_k", "_law_salt"] R_mixed := by
  refine def_ok F hm sc_mixed (fun _ _ _ _ _ _ us hl => match us, hl with | [_, _, _], _ => rfl) (fun H ds post ⟨_, _, _, _, _, e, _⟩ => by rw [e]; rfl) fun cdv A outer s H E vs ds post hr hT hi ⟨c, k, sl, hk, hsl, e1, e2⟩ => ?_
  subst e1 e2
  obtain ⟨_, _, _, rfl, i1, i2, i3⟩ := isAll3 hi
  cases i1; cases i2; cases i3
  refine b_asgA (ps_set (i := 3) sc_mixed.nd rfl (Or.inl rfl) wE_pe) hT (ee_mod (ee_mul (ee_add (ee_add (ee_add (ee_v (pv 0) rfl (.int _)) (ee_mul (ee_mul ee_int (ee_v (pv 1) rfl (.int _)) (.inl ⟨by decide, by decide⟩)) (ee_v (pv 1) rfl (.int _)) (.inr ⟨by omega, by omega⟩))) (ee_mul ee_int (ee_v (pv 1) rfl (.int _)) (.inl ⟨by decide, by decide⟩))) (ee_v (pv 2) rfl (.int _))) ee_int (.inr ⟨by decide, by decide⟩)) ee_int (by decide)) rfl fun H1 g1 t1 => ?_
  generalize hq : ((c + 7 * (k : Nat) * (k : Nat) + 13 * (k : Nat) + (sl : Nat)) * 69621 % 2147483647 : Int) = q
  have hq2 : 0 ≤ q ∧ q < 2147483647 := by
    rw [← hq]
    exact ⟨Int.emod_nonneg _ (by decide), Int.emod_lt_of_pos _ (by decide)⟩
  show wB _ _ _ ([some (.int c), some (.int (k : Nat)), some (.int (sl : Nat)), some (.int q)]) H1
  refine b_ret t1 (ee_mod (ee_mul (ee_mod (ee_add (ee_add (ee_mul (ee_v (pv 3) rfl (.int _)) (ee_add (ee_fdiv (ee_v (pv 3) rfl (.int _)) ee_int ⟨by decide, by decide⟩) ee_int) (.inl ⟨by omega, by omega⟩)) (ee_mul ee_int (ee_v (pv 1) rfl (.int _)) (.inl ⟨by decide, by decide⟩))) (ee_v (pv 2) rfl (.int _))) ee_int (by decide)) ee_int (.inr ⟨by decide, by decide⟩)) ee_int (by decide)) fun v H2 g2 t2 i => ⟨g1.trans g2, ?_⟩
  rw [i.int_eq]
  generalize hz : ((q * (q / 1009 + 3) + 31 * (k : Nat) + (sl : Nat)) % 2147483629 * 48271 : Int) = z
  have h1 : 0 ≤ z % 1000000007 := Int.emod_nonneg _ (by decide)
  have h2 : z % 1000000007 < 1000000007 := Int.emod_lt_of_pos _ (by decide)
  exact ⟨(z % 1000000007).toNat, by rw [Int.toNat_of_nonneg h1], by omega⟩

abbrev sDraws : Stmt := topS 58
abbrev nDraws : List Str := ["_law_cell_here", "_law_many", "_law_salt", "_law_found", "_law_rest", "_law_k"]
theorem sc_draws : FnScope nDraws ["_law_cell_here", "_law_many", "_law_salt"] (defScope sDraws) := ⟨rfl, rfl, rfl, by decide +kernel, rfl, by decide +kernel, by decide +kernel⟩
def DrawsAt (m : Nat) (H H' : Hp) (v : V) : Prop := ∃ p l, v = .ref p ∧ H p = none ∧ H' p = some (.lst (natsV l)) ∧ l.length = m ∧ ∀ n ∈ l, n < 1000000007
def R_draws : Hp → List D → (Hp → V → Prop) → Prop := fun H ds post => ∃ (c : Int) (m s : Nat), m ≤ 1000 ∧ s ≤ 1000000 ∧ ds = [.int c, .int (m : Nat), .int (s : Nat)] ∧ post = DrawsAt m H
theorem ok_draws (F : Fun K "_law_draws" "_law_draws" sDraws f fd) (hm : mg "_law_draws" = some (.ref f)) (G : Glo mg) (Mx : DefOk P w K mg base T 1 "_law_mixed" ["_law_cell_here", "_law_k", "_law_salt"] R_mixed) : DefOk P w K mg base T 2 "_law_draws" ["_law_cell_here", "_law_many", "_law_salt"] R_draws := by
  refine def_ok F hm sc_draws (fun _ _ _ _ _ _ us hl => match us, hl with | [_, _, _], _ => rfl) (fun H ds post ⟨_, _, _, _, _, e, _⟩ => by rw [e]; rfl) fun cdv A outer s H E vs ds post hr hT hi ⟨c, m, sl, hm1, hsl, e1, e2⟩ => ?_
  subst e1 e2
  obtain ⟨_, _, _, rfl, i1, i2, i3⟩ := isAll3 hi
  cases i1; cases i2; cases i3
  refine b_asg (ps_set (i := 3) sc_draws.nd rfl (Or.inl rfl) wE_pe) hT (el_lst ea_nil (Nat.zero_le _)) fun v H1 g1 t1 ⟨p, xs0, ev, hpn, h1, i1⟩ => ?_
  subst ev
  cases i1
  refine b_asgA (ps_set (i := 4) sc_draws.nd rfl (Or.inl rfl) wE_pe) t1 ee_int rfl fun H2 g2 t2 => ?_
  have hmain : ∀ (r : Int) (H3 : Hp), 0 ≤ r → Gx T H1 H3 → TabsN T H3 → wB (cx0 P w K mg base nDraws "_law_draws" sDraws f cdv A outer s H E) ((defBody sDraws).drop 3) (Dn T H (DrawsAt m H)) [some (.int c), some (.int (m : Nat)), some (.int (sl : Nat)), some (.ref p), some (.int r), none] H3 := fun r H3 h0 g3 t3 => by
    refine b_forN (j := 5) sc_draws.nd rfl G.range rfl PassesOwn.never t3 (ee_v (pv 1) rfl (.int _)) (by omega)
      (fun i σ' H' => ∃ (v5 : Option V) (r : Int) (l : List Nat), σ' = [some (.int c), some (.int (m : Nat)), some (.int (sl : Nat)), some (.ref p), some (.int r), v5] ∧ 0 ≤ r ∧ Gx T H H' ∧ H' p = some (.lst (natsV l)) ∧ l.length = i ∧ ∀ n ∈ l, n < 1000000007)
      (fun H4 g4 t4 => ⟨none, r, [], rfl, h0, (g1.trans g3).trans g4, (g3.trans g4).lst h1, rfl, fun n h => by cases h⟩) ?_ ?_
    · rintro i σ' H' hi ⟨v5, r, l, rfl, hr0, g, hp, hl, hlt⟩
      have tH := g.tab hT
      have hsz : (natsV l).length < sizeLine := by unfold natsV; rw [List.length_map]; exact sz_lt (by omega)
      show wB _ _ _ ([some (.int c), some (.int (m : Nat)), some (.int (sl : Nat)), some (.ref p), some (.int r), some (.int (i : Nat))]) H'
      refine b_if (c := decide ((0 : Int) < r)) tH ?_ (fun hc H4 g4 t4 => ?_) (fun hc H4 g4 t4 => ?_)
      · exact et_gt (ee_v (pv 4) rfl (.int _)) ee_int
      · have h1 : 0 ≤ r % 64 := Int.emod_nonneg _ (by decide)
        have h2 : r % 64 < 64 := Int.emod_lt_of_pos _ (by decide)
        refine b_apD t4 (d := .int (((r % 64).toNat : Nat) : Int)) (ee_v (pv 3) rfl (.ref _)) (g4.lst hp) hsz (EE.is (ee_mod (ee_v (pv 4) rfl (.int _)) ee_int (by decide)) (by rw [Int.toNat_of_nonneg h1])) ?_
        refine fun v5 H5 g5 t5 i5 h5 => ?_
        cases i5
        refine b_asgA (ps_set (i := 4) sc_draws.nd rfl (Or.inl rfl) wE_pe) (tabs_lst t5 h5) (ee_fdiv (ee_v (pv 4) rfl (.int _)) ee_int ⟨by decide, by decide⟩) rfl fun H6 g6 t6 => b_nil (b_nil ?_)
        refine ⟨_, _, l ++ [(r % 64).toNat], rfl, Int.ediv_nonneg hr0 (by decide), (((g.trans g4).trans g5).mutL hpn h5).trans g6, ?_, by simp [hl], fun n hn => ?_⟩
        · have h6 : H6 p = some (.lst (natsV l ++ [.int (((r % 64).toNat : Nat) : Int)])) := g6.lst upd_same
          rw [h6]; simp [natsV]
        · rcases List.mem_append.mp hn with q | q
          · exact hlt n q
          · have := List.mem_singleton.mp q
            omega
      · refine b_ap t4 (ee_v (pv 3) rfl (.ref _)) (g4.lst hp) hsz (ex_call (P := fun _ v _ => ∃ n : Nat, v = .int (n : Nat) ∧ n < 1000000007) Mx hr (by decide) rfl (ea_cons (ee_v (pv 0) rfl (.int _)) (ea_cons (ee_v (pv 5) rfl (.int _)) (ea_cons (ee_v (pv 2) rfl (.int _)) ea_nil))) (fun Ha Hb ga gb => ⟨_, ⟨c, i, sl, by omega, hsl, rfl, rfl⟩, fun v H3 g3 q => q⟩)) (fun _ _ _ _ q => q) ?_
        refine fun v5 H5 g5 t5 ⟨n, e, hn⟩ h5 => b_nil (b_nil ?_)
        subst e
        refine ⟨_, r, l ++ [n], rfl, hr0, ((g.trans g4).trans g5).mutL hpn h5, ?_, by simp [hl], fun n' hn' => ?_⟩
        · rw [upd_same]; simp [natsV]
        · rcases List.mem_append.mp hn' with q | q
          · exact hlt n' q
          · have := List.mem_singleton.mp q
            omega
    · rintro σ' H' ⟨v5, r, l, rfl, hr0, g, hp, hl, hlt⟩
      refine b_ret (g.tab hT) (ee_v (pv 3) rfl (.ref _)) fun v H4 g4 t4 i => ⟨g.trans g4, p, l, i.ref_eq, hpn, g4.lst hp, hl, hlt⟩
  refine b_when (c := decide ((10 : Int) ^ (18 : Int).toNat ≤ c)) t2 ?_ (fun hc H3 g3 t3 => ?_) (fun hc H3 g3 t3 => ?_)
  · exact et_ge (ee_v (pv 0) rfl (.int _)) (ee_pow ee_int ee_int ⟨by decide, by decide, by decide⟩)
  · have hc := of_decide_eq_true hc
    refine b_asgA (ps_set (i := 4) sc_draws.nd rfl (Or.inl rfl) wE_pe) t3 (ee_v (pv 0) rfl (.int _)) rfl fun H4 g4 t4 => b_nil ?_
    exact hmain c H4 (Int.le_trans (by decide) hc) ((g2.trans g3).trans g4) t4
  · exact hmain 0 H3 (Int.le_refl _) (g2.trans g3) t3
end
end Tk
set_option Elab.async false
set_option linter.all false
set_option maxRecDepth 10000
/-! Slices; the law's pool and marks. -/
namespace Tk
open PySem PySem.Spec PyProof.Rows L2 LamX NdefX
theorem take_min {α : Type} (l : List α) (k : Nat) : l.take (min k l.length) = l.take k := by
  rcases Nat.le_total k l.length with z | z
  · rw [Nat.min_eq_left z]
  · rw [Nat.min_eq_right z, List.take_length, List.take_of_length_le z]
section
variable {T : List NTab} {X : Cx} {σ : L2.St} {H : Hp} {a b c : Expr} {pos p2 : Pos} {l : List Nat} {ds : List D}
theorem cut_tx (l : List Nat) (lo hi : Option Int) : cutS (tx l) lo hi = tx ((l.drop (HT.sIx l.length 0 lo)).take (HT.sIx l.length l.length hi - HT.sIx l.length 0 lo)) := by
  unfold cutS
  rw [tx_len]
/-- s[:b] -/
theorem ee_slTo {k : Nat} (ha : EE T X σ H a (.str (tx l))) (hb : EE T X σ H b (.int (k : Nat))) (hz : l.length ≤ 1000000) : EE T X σ H (.Subscript a (.Slice none (some b) none p2) pos) (.str (tx (l.take k))) := fun H1 g t =>
  PE_to (pe_slice sl_str wE_pe po_none (po_some wE_pe)) (wE_imp (ha H1 g t) fun u H2 ⟨g2, i2⟩ => wE_imp (hb H2 (g.trans g2) (g2.tab t)) fun v H3 ⟨g3, i3⟩ => ⟨_, i3.int_eq, by
    rw [i2.str_eq]
    refine ⟨tx l, rfl, by rw [tx_len]; exact sz_ok hz, g2.trans g3, ?_⟩
    rw [cut_tx, HT.sIx_none, HT.sIx_nat, List.drop_zero, Nat.sub_zero, take_min]
    exact .str _⟩)
theorem ee_slFrom {k : Nat} (ha : EE T X σ H a (.str (tx l))) (hb : EE T X σ H b (.int (k : Nat))) (hz : l.length ≤ 1000000) (hk : k ≤ l.length) : EE T X σ H (.Subscript a (.Slice (some b) none none p2) pos) (.str (tx (l.drop k))) := fun H1 g t =>
  PE_to (pe_slice sl_str wE_pe (po_some wE_pe) po_none) (wE_imp (ha H1 g t) fun u H2 ⟨g2, i2⟩ => wE_imp (hb H2 (g.trans g2) (g2.tab t)) fun v H3 ⟨g3, i3⟩ => ⟨_, i3.int_eq, by
    rw [i2.str_eq]
    refine ⟨tx l, rfl, by rw [tx_len]; exact sz_ok hz, g2.trans g3, ?_⟩
    rw [cut_tx, HT.sIx_none, HT.sIx_nat, Nat.min_eq_left hk, List.take_of_length_le (by rw [List.length_drop]; omega)]
    exact .str _⟩)
theorem ee_slBoth {k m : Nat} (ha : EE T X σ H a (.str (tx l))) (hb : EE T X σ H b (.int (k : Nat))) (hc : EE T X σ H c (.int (m : Nat))) (hz : l.length ≤ 1000000) (hk : k ≤ l.length) (hm : m ≤ l.length) : EE T X σ H (.Subscript a (.Slice (some b) (some c) none p2) pos) (.str (tx ((l.drop k).take (m - k)))) := fun H1 g t =>
  PE_to (pe_slice sl_str wE_pe (po_some wE_pe) (po_some wE_pe)) (wE_imp (ha H1 g t) fun u H2 ⟨g2, i2⟩ => wE_imp (hb H2 (g.trans g2) (g2.tab t)) fun v H3 ⟨g3, i3⟩ => ⟨_, i3.int_eq, wE_imp (hc H3 ((g.trans g2).trans g3) ((g2.trans g3).tab t)) fun v4 H4 ⟨g4, i4⟩ => ⟨_, i4.int_eq, by
    rw [i2.str_eq]
    refine ⟨tx l, rfl, by rw [tx_len]; exact sz_ok hz, (g2.trans g3).trans g4, ?_⟩
    rw [cut_tx, HT.sIx_nat, HT.sIx_nat, Nat.min_eq_left hk, Nat.min_eq_left hm]
    exact .str _⟩⟩)
theorem isAll_cut {H : Hp} {ds : List D} {vs : List V} (h : IsAll H ds vs) (n m : Nat) : IsAll H ((ds.drop n).take m) ((vs.drop n).take m) := by
  have e : ∀ {ds : List D} {vs : List V} (n : Nat), IsAll H ds vs → IsAll H (ds.drop n) (vs.drop n) := by
    intro ds vs n h
    induction n generalizing ds vs with
    | zero => exact h
    | succ n ih =>
      cases h with
      | nil => exact .nil
      | cons h1 h2 => exact ih h2
  have e2 : ∀ {ds : List D} {vs : List V} (n : Nat), IsAll H ds vs → IsAll H (ds.take n) (vs.take n) := by
    intro ds vs n h
    induction n generalizing ds vs with
    | zero => exact .nil
    | succ n ih =>
      cases h with
      | nil => exact .nil
      | cons h1 h2 => exact .cons h1 (ih h2)
  exact e2 m (e n h)
/-- t[:b] -/
theorem ee_tlTo {k : Nat} (ha : EE T X σ H a (.tup ds)) (hb : EE T X σ H b (.int (k : Nat))) : EE T X σ H (.Subscript a (.Slice none (some b) none p2) pos) (.tup (ds.take k)) := fun H1 g t =>
  PE_to (pe_slice sl_tupA wE_pe po_none (po_some wE_pe)) (wE_imp (ha H1 g t) fun u H2 ⟨g2, i2⟩ => wE_imp (hb H2 (g.trans g2) (g2.tab t)) fun v H3 ⟨g3, i3⟩ => ⟨_, i3.int_eq, by
    cases i2 with
    | @tup p us _ h1 h2 =>
      refine ⟨p, us, rfl, SqT.of (g3.tup h1), fun hw => ⟨g2.trans g3, ?_⟩, fun _ q hq => ⟨(g2.trans g3).trans (Gx.new hq), ?_⟩⟩
      · have hw := hw.2
        rw [HT.sIx_nat] at hw
        have := h2.length
        rw [List.take_of_length_le (by omega)]
        exact (Is.tup h1 h2).mono g3.ti
      · refine .tup upd_same ?_
        unfold cutV
        rw [HT.sIx_none, HT.sIx_nat]
        have e := isAll_cut (h2.mono (g3.ti.trans (Gx.new (T := T) (o := HO.tup ((us.drop 0).take (min k us.length - 0))) hq).ti)) 0 (min k us.length - 0)
        rw [← take_min ds k, h2.length]
        exact e⟩)
/-- t[b:] -/
theorem ee_tlFrom {k : Nat} (ha : EE T X σ H a (.tup ds)) (hb : EE T X σ H b (.int (k : Nat))) : EE T X σ H (.Subscript a (.Slice (some b) none none p2) pos) (.tup (ds.drop k)) := fun H1 g t =>
  PE_to (pe_slice sl_tupA wE_pe (po_some wE_pe) po_none) (wE_imp (ha H1 g t) fun u H2 ⟨g2, i2⟩ => wE_imp (hb H2 (g.trans g2) (g2.tab t)) fun v H3 ⟨g3, i3⟩ => ⟨_, i3.int_eq, by
    cases i2 with
    | @tup p us _ h1 h2 =>
      have hl := h2.length
      refine ⟨p, us, rfl, SqT.of (g3.tup h1), fun hw => ⟨g2.trans g3, ?_⟩, fun _ q hq => ⟨(g2.trans g3).trans (Gx.new hq), ?_⟩⟩
      · have hw := hw.1
        rw [HT.sIx_nat] at hw
        rcases Nat.eq_zero_or_pos k with z | z
        · subst z
          exact (Is.tup h1 h2).mono g3.ti
        · have : ds.length = 0 := by omega
          have e := List.eq_nil_of_length_eq_zero this
          subst e
          rw [List.drop_nil]
          exact (Is.tup h1 h2).mono g3.ti
      · refine .tup upd_same ?_
        unfold cutV
        rw [HT.sIx_none, HT.sIx_nat]
        have e := isAll_cut (h2.mono (g3.ti.trans (Gx.new (T := T) (o := HO.tup ((us.drop (min k us.length)).take (us.length - min k us.length))) hq).ti)) (min k us.length) (us.length - min k us.length)
        have e2 : (ds.drop (min k us.length)).take (us.length - min k us.length) = ds.drop k := by
          rw [← hl, List.take_of_length_le (by rw [List.length_drop]; omega)]
          rcases Nat.le_total k ds.length with z | z
          · rw [Nat.min_eq_left z]
          · rw [Nat.min_eq_right z, List.drop_of_length_le z, List.drop_of_length_le (Nat.le_refl _)]
        rw [e2] at e
        exact e⟩)
end
end Tk
set_option Elab.async false
set_option linter.all false
set_option maxRecDepth 10000
/-! The law's pool. -/
namespace Tk
open PySem PySem.Spec PyProof.Rows L2 LamX NdefX
section
variable {P : Program} {w : World} {K : PySem.W.Frag} {mg : Str → Option Value} {base : Heap} {T : List NTab} {f c Pt CT : Addr} {fd : FuncData}
abbrev sPool : Stmt := topS 60
abbrev nPool : List Str := ["_law_cell_here", "_law_many", "_law_salt", "_law_rest", "_law_found", "_law_d", "_law_at"]
theorem sc_pool : FnScope nPool ["_law_cell_here", "_law_many", "_law_salt"] (defScope sPool) := ⟨rfl, rfl, rfl, by decide +kernel, rfl, by decide +kernel, by decide +kernel⟩
/-- n letters, no two alike -/
structure Lets (l : List Nat) (n : Nat) : Prop where
  len : l.length = n
  nd : l.Nodup
  mem : ∀ c ∈ l, c ∈ letters
def R_pool : Hp → List D → (Hp → V → Prop) → Prop := fun H ds post => ∃ (c : Int) (m s : Nat), m ≤ 50 ∧ s ≤ 1000000 ∧ ds = [.int c, .int (m : Nat), .int (s : Nat)] ∧ post = fun _ v => ∃ l, v = .str (tx l) ∧ Lets l m
theorem letters_len : letters.length = 52 := by decide
theorem perm_move {fs rs : List Nat} {k : Nat} {c : Nat} (h : (fs ++ rs).Perm letters) (hc : rs[k]? = some c) : ((fs ++ [c]) ++ (rs.take k ++ rs.drop (k + 1))).Perm letters := by
  refine List.Perm.trans ?_ h
  have e : rs = rs.take k ++ c :: rs.drop (k + 1) := by
    rw [← drop_eq hc, List.take_append_drop]
  have h2 : (c :: (rs.take k ++ rs.drop (k + 1))).Perm (rs.take k ++ c :: rs.drop (k + 1)) := List.perm_middle.symm
  rw [← e] at h2
  rw [List.append_assoc]
  exact h2.append_left fs
set_option maxHeartbeats 1000000 in
theorem ok_pool (F : Fun K "_law_pool" "_law_pool" sPool f fd) (hm : mg "_law_pool" = some (.ref f)) (G : Glo mg) (Dr : DefOk P w K mg base T 2 "_law_draws" ["_law_cell_here", "_law_many", "_law_salt"] R_draws) : DefOk P w K mg base T 3 "_law_pool" ["_law_cell_here", "_law_many", "_law_salt"] R_pool := by
  refine def_ok F hm sc_pool (fun _ _ _ _ _ _ us hl => match us, hl with | [_, _, _], _ => rfl) (fun H ds post ⟨_, _, _, _, _, e, _⟩ => by rw [e]; rfl) fun cdv A outer s H E vs ds post hr hT hi ⟨c, m, sl, hm1, hsl, e1, e2⟩ => ?_
  subst e1 e2
  obtain ⟨_, _, _, rfl, i1, i2, i3⟩ := isAll3 hi
  cases i1; cases i2; cases i3
  refine b_asgA (d := .str (tx letters)) (ps_set (i := 3) sc_pool.nd rfl (Or.inl rfl) wE_pe) hT (EE.is ee_str (by rfl)) rfl fun H1 g1 t1 => ?_
  refine b_asgA (d := .str (tx [])) (ps_set (i := 4) sc_pool.nd rfl (Or.inl rfl) wE_pe) t1 (EE.is ee_str (by rfl)) rfl fun H2 g2 t2 => ?_
  refine b_forLX (gT := gName 5) (ps_for PassesOwn.never rfl (pi_list wE_pe) (pg_name (i := 5) sc_pool.nd rfl (Or.inl rfl)) wB_pss) t2 (ex_call (P := fun _ v H' => ∃ p l, v = .ref p ∧ H' p = some (.lst (natsV l)) ∧ l.length = m) Dr hr (by decide) rfl (ea_cons (ee_v (pv 0) rfl (.int _)) (ea_cons (ee_v (pv 1) rfl (.int _)) (ea_cons (ee_v (pv 2) rfl (.int _)) ea_nil))) (fun Ha Hb ga gb => ⟨_, ⟨c, m, sl, by omega, hsl, rfl, rfl⟩, fun v H3 g3 ⟨p, l, q1, _, q2, q3, _⟩ => ⟨p, l, q1, q2, q3⟩⟩)) fun v H3 g3 t3 ⟨p, l, e, hp, hl⟩ => ?_
  refine ⟨p, natsV l, fun i σ' H' => ∃ (v5 v6 : Option V) (rs fs : List Nat), σ' = [some (.int c), some (.int (m : Nat)), some (.int (sl : Nat)), some (.str (tx rs)), some (.str (tx fs)), v5, v6] ∧ Gx T H3 H' ∧ fs.length = i ∧ (fs ++ rs).Perm letters, e, ⟨none, none, letters, [], rfl, Gx.refl _, rfl, List.Perm.refl _⟩, fun i σ' H' ⟨_, _, _, _, _, g, _⟩ => g.lst hp, hp, ?_, ?_⟩
  · rintro i v σ' H' hv ⟨v5, v6, rs, fs, rfl, g, hf, hpm⟩
    have hil : i < m := by
      have := (List.getElem?_eq_some_iff.mp hv).1
      unfold natsV at this
      rw [List.length_map] at this
      omega
    obtain ⟨n, e⟩ : ∃ n : Nat, v = .int (n : Nat) := by
      unfold natsV at hv
      rw [List.getElem?_map] at hv
      obtain ⟨n, _, e⟩ := Option.map_eq_some_iff.mp hv
      exact ⟨n, e.symm⟩
    subst e
    have gH := ((g1.trans g2).trans g3).trans g
    have tH := gH.tab hT
    have hlen : rs.length = 52 - i := by
      have := hpm.length_eq
      rw [List.length_append, letters_len] at this
      omega
    show wB _ _ _ ([some (.int c), some (.int (m : Nat)), some (.int (sl : Nat)), some (.str (tx rs)), some (.str (tx fs)), some (.int (n : Nat)), v6]) H'
    have hk : n % rs.length < rs.length := Nat.mod_lt _ (by omega)
    have hc : rs[n % rs.length]? = some (rs[n % rs.length]) := List.getElem?_eq_getElem hk
    generalize hcc : rs[n % rs.length] = cc at hc
    refine b_asgA (d := .int ((n % rs.length : Nat) : Int)) (ps_set (i := 6) sc_pool.nd rfl (Or.inl rfl) wE_pe) tH (EE.is (ee_mod (ee_v (pv 5) rfl (.int _)) (ee_lenS rfl G.len (ee_v (pv 3) rfl (.str _)) (by rw [tx_len]; exact sz_ok (by omega))) (by rw [tx_len]; omega)) (by rw [tx_len]; congr 1)) rfl fun H4 g4 t4 => ?_
    refine b_asgA (d := .str (tx (fs ++ [cc]))) (ps_set (i := 4) sc_pool.nd rfl (Or.inl rfl) wE_pe) t4 (EE.is (ee_catS (ee_v (pv 4) rfl (.str _)) (ee_ixS (c := cc) (ee_v (pv 3) rfl (.str _)) (ee_v (pv 6) rfl (.int _)) (by rw [tx_len]; exact sz_ok (by omega)) hc) (by rw [tx_len]; exact sz_ok (by show fs.length + 1 ≤ _; omega))) (by congr 1; exact tx_app fs [cc])) rfl fun H5 g5 t5 => ?_
    refine b_asgA (d := .str (tx (rs.take (n % rs.length) ++ rs.drop (n % rs.length + 1)))) (ps_set (i := 3) sc_pool.nd rfl (Or.inl rfl) wE_pe) t5 (EE.is (ee_catS (ee_slTo (ee_v (pv 3) rfl (.str _)) (ee_v (pv 6) rfl (.int _)) (by omega)) (ee_slFrom (k := n % rs.length + 1) (ee_v (pv 3) rfl (.str _)) (EE.is (ee_add (ee_v (pv 6) rfl (.int _)) ee_int) (by congr 1)) (by omega) (by omega)) (by rw [tx_len, tx_len, List.length_take, List.length_drop]; exact sz_ok (by omega))) (by congr 1; exact tx_app _ _)) rfl fun H6 g6 t6 => b_nil ?_
    exact ⟨_, _, _, fs ++ [cc], rfl, ((g.trans g4).trans g5).trans g6, by simp [hf], perm_move hpm hc⟩
  · rintro σ' H' ⟨v5, v6, rs, fs, rfl, g, hf, hpm⟩
    refine b_ret ((((g1.trans g2).trans g3).trans g).tab hT) (ee_v (pv 4) rfl (.str _)) fun v H4 g4 t4 i => ⟨(((g1.trans g2).trans g3).trans g).trans g4, fs, i.str_eq, ?_, ?_, ?_⟩
    · rw [hf]; unfold natsV; rw [List.length_map, hl]
    · have h1 : (fs ++ rs).Nodup := hpm.symm.nodup (sorted_nodup letters_sorted)
      exact h1.sublist (List.sublist_append_left fs rs)
    · exact fun c hc => hpm.mem_iff.mp (List.mem_append_left _ hc)
end
end Tk
set_option Elab.async false
set_option linter.all false
set_option maxRecDepth 10000
/-! sorted(signs), join; the law's marks. -/
namespace Tk
open PySem PySem.Spec PyProof.Rows L2 LamX NdefX
theorem sorted_signs : ∀ {cs : List Nat}, sortedS (cs.map fun c => (⟨#[c]⟩ : Str)) = true → cs.Pairwise (· ≤ ·)
  | [], _ => .nil
  | [a], _ => List.pairwise_singleton _ _
  | a :: b :: r, h => by
    have h : (!ltCps [b] [a] && risingS ⟨#[b]⟩ (r.map fun c => (⟨#[c]⟩ : Str))) = true := h
    rw [Bool.and_eq_true] at h
    obtain ⟨h1, h2⟩ := h
    have ih := sorted_signs (cs := b :: r) h2
    have hab : a ≤ b := by
      rcases Nat.lt_or_ge b a with z | z
      · have : ltCps [b] [a] = true := by
          show (decide (b < a) || _) = true
          rw [decide_eq_true z]; rfl
        rw [this] at h1
        cases h1
      · exact z
    refine List.Pairwise.cons (fun x hx => ?_) ih
    rcases List.mem_cons.mp hx with e | e
    · rw [e]; exact hab
    · exact Nat.le_trans hab ((List.pairwise_cons.mp ih).1 x e)
section
variable {T : List NTab} {X : Cx} {σ : L2.St} {H : Hp} {e : Expr} {pos p1 apos : Pos}
/-- sorted(a list of signs) -/
theorem ex_sortSg {Pp : List Nat → Prop} (hg : Gl X "sorted") (hm : X.mg "sorted" = none) (h : EX T X σ H e (isL fun ds => ∃ cs, ds = signsD cs ∧ Pp cs ∧ cs.length < 64)) (hb : bootBuiltins "sorted" = some (.builtin "sorted") := by decide +kernel) (he : starEach (e :: []) X.env = (false, eval e X.env) :: starEach [] X.env := by rfl) (hpl : (backTo pos (starEach [] X.env)).any (·.1) = false := by rfl) :
    EX T X σ H (.Call (.Name "sorted" p1) [e] [] pos) (isL fun ds => ∃ cs cs', ds = signsD cs' ∧ Pp cs ∧ cs'.Perm cs ∧ cs'.Pairwise (· ≤ ·)) := fun H1 g t =>
  PE_to (pe_callB cr_sortedS hg hm hb (pa_cons wE_pe pa_nil he) (by decide) (by decide) he hpl) (wE_imp (h H1 g t) fun v H2 ⟨g2, p, xs, ds, e1, h2, i2, cs, e2, q, h64⟩ => by
    subst e1 e2
    have ex : xs = (cs.map fun c => (⟨#[c]⟩ : Str)).map V.str := IsAll.strs_eq (H := H2) (ns := cs.map fun c => (⟨#[c]⟩ : Str)) (by rw [List.map_map]; exact i2)
    rw [ex] at h2
    refine ⟨p, cs.map fun c => (⟨#[c]⟩ : Str), rfl, SqL.of h2, by rw [List.length_map]; exact h64, fun ys r hp hs hr => ⟨g2.trans (Gx.new hr), r, _, signsD (ys.map fun y => y.cps.toList.getD 0 0), rfl, upd_same, ?_, cs, _, rfl, q, ?_, ?_⟩⟩
    · have hy : ∀ y ∈ ys, y = (⟨#[y.cps.toList.getD 0 0]⟩ : Str) := fun y hy => by
        obtain ⟨c, _, e⟩ := List.mem_map.mp (hp.mem_iff.mp hy)
        rw [← e]; rfl
      clear hp hs hr
      generalize upd H2 r (HO.lst (ys.map V.str)) = Hz
      induction ys with
      | nil => exact .nil
      | cons y ys ih =>
        have e := hy y List.mem_cons_self
        refine .cons ?_ (ih fun z hz => hy z (List.mem_cons_of_mem _ hz))
        rw [e]; exact .str _
    · have := hp.map fun y : Str => y.cps.toList.getD 0 0
      rw [List.map_map] at this
      have e : cs.map ((fun y : Str => y.cps.toList.getD 0 0) ∘ fun c => (⟨#[c]⟩ : Str)) = cs := by
        have : ((fun y : Str => y.cps.toList.getD 0 0) ∘ fun c : Nat => (⟨#[c]⟩ : Str)) = id := by funext c; rfl
        rw [this, List.map_id]
      rwa [e] at this
    · refine sorted_signs ?_
      have hy : ∀ y ∈ ys, y = (⟨#[y.cps.toList.getD 0 0]⟩ : Str) := fun y hy => by
        obtain ⟨c, _, e⟩ := List.mem_map.mp (hp.mem_iff.mp hy)
        rw [← e]; rfl
      rw [List.map_map]
      have e : ys.map ((fun c => (⟨#[c]⟩ : Str)) ∘ fun y : Str => y.cps.toList.getD 0 0) = ys := by
        conv => rhs; rw [← List.map_id ys]
        exact List.map_congr_left fun y h => (hy y h).symm
      rw [e]; exact hs)
/-- "".join(a list of signs, told by a promise) -/
theorem ex_joinX {k : Nat} {p0 : Pos} {Pp : List Nat → Prop} (h : EX T X σ H e (isL fun ds => ∃ cs, ds = signsD cs ∧ Pp cs ∧ cs.length ≤ 1000000)) (hs : starEach [e] X.env = [(false, eval e X.env)] := by rfl) (hbase : attributeBase (.Constant (.str "") k p0) "join" X.env (eval (.Constant (.str "") k p0) X.env) = eval (.Constant (.str "") k p0) X.env := by rfl) (hline : (apos.endLine == pos.line) = true := by rfl) :
    EX T X σ H (.Call (.Attribute (.Constant (.str "") k p0) "join" apos) [e] [] pos) (fun _ v _ => ∃ cs, v = .str (tx cs) ∧ Pp cs) := fun H1 g t =>
  PE_to (pe_join pe_str wE_pe hs hbase hline) ⟨⟨_, rfl⟩, wE_imp (h H1 g t) fun u H2 ⟨g2, p, xs, ds, e1, h2, i2, cs, e2, q, hz⟩ => by
    subst e2
    have ex : xs = (cs.map fun c => (⟨#[c]⟩ : Str)).map V.str := IsAll.strs_eq (H := H2) (ns := cs.map fun c => (⟨#[c]⟩ : Str)) (by rw [List.map_map]; exact i2)
    rw [ex] at h2
    refine ⟨_, p, cs.map fun c => (⟨#[c]⟩ : Str), rfl, by rw [e1], .inl (SqL.of h2), ?_, g2, cs, ?_, q⟩
    · have h0 : ∀ l : List Nat, ((l.map fun c => (⟨#[c]⟩ : Str)).map (·.length)).sum = l.length := by
        intro l
        induction l with
        | nil => rfl
        | cons a r ih => simp only [List.map_cons, List.sum_cons, List.length_cons, ih]; show 1 + r.length = _; omega
      rw [h0, List.length_map]
      show cs.length + cs.length * 0 ≤ _
      omega
    · have := txt_join_signs cs
      rw [show (PySem.Str.ofString "") = Str.ofString "" from rfl]
      rw [show Txt.join (Str.ofString "") (cs.map fun c => (⟨#[c]⟩ : Str)) = tx cs from this]⟩
end
section
variable {P : Program} {w : World} {K : PySem.W.Frag} {mg : Str → Option Value} {base : Heap} {T : List NTab} {f c Pt CT : Addr} {fd : FuncData}
abbrev sMarks : Stmt := topS 61
abbrev nMarks : List Str := ["_law_pool_here", "_law_number", "_law_k"]
theorem sc_marks : FnScope nMarks ["_law_pool_here", "_law_number"] (defScope sMarks) := ⟨rfl, rfl, rfl, by decide +kernel, rfl, by decide +kernel, by decide +kernel⟩
/-- letters out of l -/
def Sub (l r : List Nat) : Prop := r.length ≤ l.length ∧ ∀ c ∈ r, c ∈ l
def R_marks : Hp → List D → (Hp → V → Prop) → Prop := fun H ds post => ∃ (l : List Nat) (n : Nat), l.length ≤ 50 ∧ ds = [.str (tx l), .int (n : Nat)] ∧ post = fun _ v => ∃ r, v = .str (tx r) ∧ Sub l r
theorem ok_marks (F : Fun K "_law_marks" "_law_marks" sMarks f fd) (hm : mg "_law_marks" = some (.ref f)) (G : Glo mg) : DefOk P w K mg base T 1 "_law_marks" ["_law_pool_here", "_law_number"] R_marks := by
  refine def_ok F hm sc_marks (fun _ _ _ _ _ _ us hl => match us, hl with | [_, _], _ => rfl) (fun H ds post ⟨_, _, _, e, _⟩ => by rw [e]; rfl) fun cdv A outer s H E vs ds post hr hT hi ⟨l, n, hl, e1, e2⟩ => ?_
  subst e1 e2
  obtain ⟨_, _, rfl, i1, i2⟩ := isAll2 hi
  cases i1; cases i2
  let c : Nat → Bool := fun i => decide (Builtin.bitAnd ((n : Int) / 2 ^ ((i : Nat) : Int).toNat) 1 = 1)
  refine b_ret hT (ex_joinX (Pp := Sub l) (EX.imp (ex_sortSg (Pp := Sub l) rfl G.sorted (EX.imp (el_filter (c := c) (f := fun i => .str ⟨#[l.getD i 0]⟩) (pe_lc (own := [("_law_k", 2)]) (g := gName 2) rfl sc_marks.nd wI_pi (blkOk_by (N := nMarks) (sc := defScope sMarks) (by decide +kernel)) (fun _ _ _ _ _ => pg_name (i := 2) sc_marks.nd rfl (Or.inl rfl)) (fun _ _ _ _ _ => pts_one (ttB_pt _ _ _ _ _)) (fun _ _ _ _ _ => tB_pe _ _ _ _ _))
    (ei_range (n := l.length) rfl G.range (EE.is (ee_lenS rfl G.len (ee_v (pv 0) rfl (.str _)) (by rw [tx_len]; exact sz_ok (by omega))) (by rw [tx_len])) (by omega)) (by rw [rangeD_len]; exact sz_lt (by omega)) (fun _ => rfl) ?_ rfl) ?_)) ?_)) fun v H1 g1 t1 ⟨cs, e, hs⟩ => ⟨g1, cs, e, hs⟩
  · intro i di v H1 h1 h2 g1
    obtain ⟨hil, rfl⟩ := rangeD_get h1
    cases h2
    refine ⟨fun s0 H0 C cl fp => ?_, fun hcc s0 H0 C cl fp => ?_⟩
    · exact et_eqI (ee_and (ee_shr (ee_v (pv 1) rfl (.int _)) (ee_v (pv 2) rfl (.int _)) (by omega)) ee_int) ee_int
    · exact ee_ixS (z := tx l) (ee_v (pv 0) rfl (.str _)) (ee_v (pv 2) rfl (.int _)) (by rw [tx_len]; exact sz_ok (by omega)) (by show l[i]? = some (l.getD i 0); rw [List.getD_eq_getElem?_getD, List.getElem?_eq_getElem hil]; rfl)
  · rintro H1 v H2 g1 g2 ⟨p, xs, e1, h1, h2, i2⟩
    refine ⟨p, xs, _, e1, h2, i2, ((List.range l.length).filter c).map (fun i => l.getD i 0), ?_, ⟨?_, ?_⟩, ?_⟩
    · unfold sel signsD
      rw [rangeD_len, List.map_map]; rfl
    · rw [List.length_map]
      have := List.length_filter_le c (List.range l.length)
      rw [List.length_range] at this
      exact this
    · intro x hx
      obtain ⟨i, hi, rfl⟩ := List.mem_map.mp hx
      have hi := List.mem_range.mp (List.mem_filter.mp hi).1
      rw [List.getD_eq_getElem?_getD, List.getElem?_eq_getElem hi]
      exact List.getElem_mem hi
    · rw [List.length_map]
      have := List.length_filter_le c (List.range l.length)
      rw [List.length_range] at this
      omega
  · rintro H1 v H2 g1 g2 ⟨p, xs, ds, e1, h1, h2, cs, cs', e2, q, hp, hs⟩
    refine ⟨p, xs, ds, e1, h1, h2, cs', e2, ⟨by rw [hp.length_eq]; exact q.1, fun x hx => q.2 x (hp.mem_iff.mp hx)⟩, by have := q.1; rw [hp.length_eq]; omega⟩
end
end Tk
set_option Elab.async false
set_option linter.all false
set_option maxRecDepth 10000
/-! The law's machine. -/
namespace Tk
open PySem PySem.Spec PyProof.Rows L2 LamX NdefX
theorem tab_ok {names : List Nat} {good : List Bool} {g : Nat → Nat → Nat → Nat} {c : Nat} (h0 : 0 < c) (hg : good.length = c) (h : ∀ x l r, x < 2 ^ names.length → l < c → r < c → g x l r < c) : (⟨names, good, tableF g c (2 ^ names.length)⟩ : Mach).Ok := by
  refine ⟨by show 0 < good.length; omega, by show (tableF g c (2 ^ names.length)).length = 2 ^ names.length; unfold tableF; simp, fun x rows e => ?_⟩
  have e : (tableF g c (2 ^ names.length))[x]? = some rows := e
  unfold tableF at e
  rw [List.getElem?_map] at e
  obtain ⟨y, hy, rfl⟩ := Option.map_eq_some_iff.mp e
  have hx : x < 2 ^ names.length := by
    have := (List.getElem?_eq_some_iff.mp hy).1
    simpa using this
  rw [List.getElem?_range hx] at hy
  injection hy with hy
  subst hy
  refine ⟨by show (rowsF g c x).length = good.length; unfold rowsF; simp [hg], fun l row e2 => ?_⟩
  unfold rowsF at e2
  rw [List.getElem?_map] at e2
  obtain ⟨y, hy, rfl⟩ := Option.map_eq_some_iff.mp e2
  have hl : l < c := by
    have := (List.getElem?_eq_some_iff.mp hy).1
    simpa using this
  rw [List.getElem?_range hl] at hy
  injection hy with hy
  subst hy
  refine ⟨by show (rowF g c x l).length = good.length; unfold rowF; simp [hg], fun v hv => ?_⟩
  unfold rowF at hv
  obtain ⟨r, hr, rfl⟩ := List.mem_map.mp hv
  have := h x l r hx hl (List.mem_range.mp hr)
  show g x l r < good.length
  omega
theorem idx_lt {c x l r n : Nat} (hx : x < n) (hl : l < c) (hr : r < c) : c + (x * c + l) * c + r < c + n * c * c := by
  have h1 : x * c + l + 1 ≤ n * c := by
    have : (x + 1) * c ≤ n * c := Nat.mul_le_mul_right c hx
    rw [Nat.add_mul, Nat.one_mul] at this
    omega
  have h2 : (x * c + l + 1) * c ≤ n * c * c := Nat.mul_le_mul_right c h1
  rw [Nat.add_mul, Nat.one_mul] at h2
  omega
section
variable {P : Program} {w : World} {K : PySem.W.Frag} {mg : Str → Option Value} {base : Heap} {T : List NTab} {f c Pt CT : Addr} {fd : FuncData}
/-- an item of a list of naturals -/
theorem nat_at {l : List Nat} {i : Nat} (h : i < l.length) : atI (natsV l) (i : Nat) = some (.int (l.getD i 0 : Nat)) := by
  refine atI_nat ?_
  unfold natsV
  rw [List.getElem?_map, List.getElem?_eq_getElem h, List.getD_eq_getElem?_getD, List.getElem?_eq_getElem h]; rfl
abbrev sMach : Stmt := topS 62
abbrev nMach : List Str := ["_law_names", "_law_many", "_law_top", "_law_draws_here", "_law_good", "_law_table", "_law_at", "_law_letter_here", "_law_rows", "_law_l", "_law_k", "_law_r"]
abbrev pMach : List Str := ["_law_names", "_law_many", "_law_top", "_law_draws_here"]
theorem sc_mach : FnScope nMach pMach (defScope sMach) := ⟨rfl, rfl, rfl, by decide +kernel, rfl, by decide +kernel, by decide +kernel⟩
/-- a machine that is well made -/
def IsMach (names : List Nat) (c : Nat) (H' : Hp) (v : V) : Prop := ∃ M : Mach, M.Ok ∧ M.names = names ∧ M.rooms = c ∧ Is H' (machD M) v
def R_mach : Hp → List D → (Hp → V → Prop) → Prop := fun H ds post => ∃ (names : List Nat) (c : Nat) (p : Addr) (l : List Nat), names.length ≤ 10 ∧ 0 < c ∧ c ≤ 100 ∧ H p = some (.lst (natsV l)) ∧ c + 2 ^ names.length * c * c ≤ l.length ∧ l.length ≤ 1000 ∧ ds = [.str (tx names), .int (c : Nat), .int (c : Nat), .ref p] ∧ post = IsMach names c
set_option maxHeartbeats 1000000 in
theorem ok_mach (F : Fun K "_law_machine" "_law_machine" sMach f fd) (hm : mg "_law_machine" = some (.ref f)) (G : Glo mg) : DefOk P w K mg base T 1 "_law_machine" pMach R_mach := by
  refine def_ok F hm sc_mach (fun _ _ _ _ _ _ us hl => match us, hl with | [_, _, _, _], _ => rfl) (fun H ds post ⟨_, _, _, _, _, _, _, _, _, _, e, _⟩ => by rw [e]; rfl) fun cdv A outer s H E vs ds post hr hT hi ⟨names, c, p, l, hn, hc0, hc, hp, hlen, hl1, e1, e2⟩ => ?_
  subst e1 e2
  obtain ⟨_, _, _, _, rfl, i1, i2, i3, i4⟩ := isAll4 hi
  cases i1; cases i2; cases i3; cases i4
  let g : Nat → Nat → Nat → Nat := fun x y r => l.getD (c + (x * c + y) * c + r) 0 % c
  let good : List Bool := (List.range c).map fun k => decide (((l.getD k 0 : Nat) : Int) % 2 = 1)
  have hm2 : 2 ^ names.length ≤ 1024 := by
    have : 2 ^ names.length ≤ 2 ^ 10 := Nat.pow_le_pow_right (by decide) hn
    omega
  refine b_asg (P := fun _ v H' => Is H' (blsD good) v) (ps_set (i := 4) sc_mach.nd rfl (Or.inl rfl) wE_pe) hT (ee_tupL rfl G.tuple (el_map (es := good.map .bl) (pe_lc (own := [("_law_k", 10)]) (g := gName 10) (tt := tYes) rfl sc_mach.nd wI_pi (blkOk_by (N := nMach) (sc := defScope sMach) (by decide +kernel)) (fun _ _ _ _ _ => pg_name (i := 10) sc_mach.nd rfl (Or.inl rfl)) (fun _ _ _ _ _ => pts_nil) (fun _ _ _ _ _ => tB_pe _ _ _ _ _))
    (ei_range (n := c) rfl G.range (ee_v (pv 1) rfl (.int _)) (by omega)) (by rw [rangeD_len]; exact sz_lt (by omega)) (fun k => .bl (decide (((l.getD k 0 : Nat) : Int) % 2 = 1))) (fun _ => rfl) ?_ (by rw [rangeD_len]; simp [good]))) fun v H1 g1 t1 ig => ?_
  · intro i di v H1 h1 h2 g1 s0 H0 C cl fp
    obtain ⟨hil, rfl⟩ := rangeD_get h1
    cases h2
    exact ee_eqI (ee_mod (ee_ixL (p := p) (xs := natsV l) (ee_v (pv 3) rfl (.ref _)) (g1.lst hp) (ee_v (pv 10) rfl (.int _)) (nat_at (by omega)) (.int _)) ee_int (by decide)) ee_int
  refine b_asg (ps_set (i := 5) sc_mach.nd rfl (Or.inl rfl) wE_pe) t1 (el_lst ea_nil (Nat.zero_le _)) fun vT H2 g2 t2 ⟨pT, xs0, ev, hpT, h2, i2⟩ => ?_
  subst ev
  cases i2
  refine b_asgA (ps_set (i := 6) sc_mach.nd rfl (Or.inr rfl) wE_pe) t2 (ee_v (pv 1) rfl (.int _)) rfl fun H3 g3 t3 => ?_
  have hTn : H pT = none := g1.low _ hpT
  refine b_forN (n := 2 ^ names.length) (j := 7) sc_mach.nd rfl G.range rfl PassesOwn.never t3 (EE.is (ee_shl ee_int (ee_lenS rfl G.len (ee_v (pv 0) rfl (.str _)) (by rw [tx_len]; exact sz_ok (by omega))) ⟨by omega, by rw [tx_len]; omega, by decide⟩) (by rw [tx_len, Int.toNat_natCast, Int.one_mul, Int.natCast_pow]; rfl)) (by omega)
    (fun x σ' H' => ∃ (v7 v8 v9 : Option V) (xs : List V), σ' = [some (.str (tx names)), some (.int (c : Nat)), some (.int (c : Nat)), some (.ref p), some v, some (.ref pT), some (.int ((c + (x * c) * c : Nat) : Int)), v7, v8, v9, none, none] ∧ Gx T H H' ∧ Gx T H1 H' ∧ H' pT = some (.lst xs) ∧ IsAll H' ((List.range x).map fun x => rowsD (rowsF g c x)) xs)
    (fun H4 g4 t4 => ⟨none, none, none, [], ?_, ((g1.trans g2).trans g3).trans g4, (g2.trans g3).trans g4, (g3.trans g4).lst h2, .nil⟩) ?_ ?_
  · show _ = [_, _, _, _, _, _, _, _, _, _, _, _]
    rw [Nat.zero_mul, Nat.zero_mul, Nat.add_zero]; rfl
  · rintro x σ' H' hx ⟨v7, v8, v9, xs, rfl, gx, gx1, hxs, ix⟩
    have tx' := gx.tab hT
    refine b_asg (ps_set (i := 8) sc_mach.nd rfl (Or.inl rfl) wE_pe) tx' (el_lst ea_nil (Nat.zero_le _)) fun vR H5 g5 t5 ⟨pR, ys0, ev, hpR, h5, i5⟩ => ?_
    subst ev
    cases i5
    have hne : pR ≠ pT := fun e => by rw [e, hxs] at hpR; cases hpR
    have hRn : H pR = none := gx.low pR hpR
    have hRn1 : H1 pR = none := gx1.low pR hpR
    refine b_forN (j := 9) sc_mach.nd rfl G.range rfl PassesOwn.never t5 (ee_v (pv 1) rfl (.int _)) (by omega)
      (fun y σ' H' => ∃ (v9 : Option V) (ys : List V), σ' = [some (.str (tx names)), some (.int (c : Nat)), some (.int (c : Nat)), some (.ref p), some v, some (.ref pT), some (.int ((c + (x * c + y) * c : Nat) : Int)), some (.int (x : Nat)), some (.ref pR), v9, none, none] ∧ Gx T H H' ∧ Gx T H1 H' ∧ H' pT = some (.lst xs) ∧ IsAll H' ((List.range x).map fun x => rowsD (rowsF g c x)) xs ∧ H' pR = some (.lst ys) ∧ IsAll H' ((List.range y).map fun y => rowD (rowF g c x y)) ys)
      (fun H6 g6 t6 => ⟨v9, [], rfl, (gx.trans g5).trans g6, (gx1.trans g5).trans g6, (g5.trans g6).lst hxs, ix.mono (g5.trans g6).ti, g6.lst h5, .nil⟩) ?_ ?_
    · rintro y σ' H' hy ⟨v9, ys, rfl, gx, gx1, hxs, ix, hys, iy⟩
      have tx' := gx.tab hT
      refine b_apD tx' (ee_v (pv 8) rfl (.ref _)) hys (sz_lt (by have := iy.length; simp at this; omega)) (d := rowD (rowF g c x y)) (ee_tupL rfl G.tuple (el_map (es := natsD (rowF g c x y)) (pe_lc (own := [("_law_r", 11)]) (g := gName 11) (tt := tYes) rfl sc_mach.nd wI_pi (blkOk_by (N := nMach) (sc := defScope sMach) (by decide +kernel)) (fun _ _ _ _ _ => pg_name (i := 11) sc_mach.nd rfl (Or.inl rfl)) (fun _ _ _ _ _ => pts_nil) (fun _ _ _ _ _ => tB_pe _ _ _ _ _))
        (ei_range (n := c) rfl G.range (ee_v (pv 1) rfl (.int _)) (by omega)) (by rw [rangeD_len]; exact sz_lt (by omega)) (fun r => .int (g x y r : Nat)) (fun _ => rfl) ?_ (by rw [rangeD_len]; simp [natsD, rowF]))) fun v2 H7 g7 t7 i7 h7 => ?_
      · intro r di vr H8 h1' h2' g8
        obtain ⟨hrl, rfl⟩ := rangeD_get h1'
        cases h2'
        intro s0 H0 C cl fp
        have hix : c + (x * c + y) * c + r < l.length := Nat.lt_of_lt_of_le (idx_lt hx hy hrl) hlen
        exact EE.is (ee_mod (ee_ixL (p := p) (xs := natsV l) (i := ((c + (x * c + y) * c + r : Nat) : Int)) (ee_v (pv 3) rfl (.ref _)) ((gx.trans g8).lst hp) (EE.is (ee_add (ee_v (pv 6) rfl (.int _)) (ee_v (pv 11) rfl (.int _))) (by congr 1)) (nat_at hix) (.int _)) (ee_v (pv 2) rfl (.int _)) (by omega)) (by congr 1)
      · have tm := Ti.lst (o := .lst (ys ++ [v2])) h7
        refine b_asgA (d := .int ((c + (x * c + (y + 1)) * c : Nat) : Int)) (ps_set (i := 6) sc_mach.nd rfl (Or.inr rfl) wE_pe) (tabs_lst t7 h7) (EE.is (ee_add (ee_v (pv 6) rfl (.int _)) (ee_v (pv 1) rfl (.int _))) (by
          have : c + (x * c + (y + 1)) * c = c + (x * c + y) * c + c := by rw [← Nat.add_assoc (x * c), Nat.add_mul (x * c + y), Nat.one_mul, Nat.add_assoc]
          rw [this]; congr 1)) rfl fun H8 g8 t8 => b_nil ?_
        refine ⟨some (.int (y : Nat)), ys ++ [v2], rfl, ((gx.trans g7).mutL hRn h7).trans g8, ((gx1.trans g7).mutL hRn1 h7).trans g8, ?_, ((ix.mono g7.ti).mono tm).mono g8.ti, g8.lst upd_same, ?_⟩
        · refine g8.lst ?_
          rw [upd_ne (Ne.symm hne)]; exact g7.lst hxs
        · rw [List.range_succ, List.map_append]
          exact ((iy.mono (g7.ti.trans tm)).snoc (i7.mono tm)).mono g8.ti
    · rintro σ' H' ⟨v9, ys, rfl, gx, gx1, hxs, ix, hys, iy⟩
      have tx' := gx.tab hT
      have hTn1 : H1 pT = none := hpT
      refine b_apD tx' (ee_v (pv 5) rfl (.ref _)) hxs (sz_lt (by have := ix.length; simp at this; omega)) (d := rowsD (rowsF g c x)) (ee_tupP rfl G.tuple (ee_v (pv 8) rfl (.ref _)) hys (by rw [rowsF, List.map_map]; exact iy)) fun v2 H7 g7 t7 i7 h7 => ?_
      have tm := Ti.lst (o := .lst (xs ++ [v2])) h7
      refine b_nil ⟨some (.int (x : Nat)), some (.ref pR), v9, xs ++ [v2], ?_, (gx.trans g7).mutL hTn h7, (gx1.trans g7).mutL hTn1 h7, upd_same, ?_⟩
      · rw [show (x + 1) * c = x * c + c by rw [Nat.add_mul, Nat.one_mul]]
      · rw [List.range_succ, List.map_append]
        exact (ix.mono (g7.ti.trans tm)).snoc (i7.mono tm)
  · rintro σ' H' ⟨v7, v8, v9, xs, rfl, gx, gx1, hxs, ix⟩
    refine b_ret (gx.tab hT) (ee_tup (ds := [.str (tx names), blsD good, tabD (tableF g c (2 ^ names.length))]) (ea_cons (ee_v (pv 0) rfl (.str _)) (ea_cons (ee_v (pv 4) rfl (ig.mono gx1.ti)) (ea_cons (ee_tupP (ds := (tableF g c (2 ^ names.length)).map rowsD) rfl G.tuple (ee_v (pv 5) rfl (.ref _)) hxs (by rw [tableF, List.map_map]; exact ix)) ea_nil))) (sz_ok (by show 3 ≤ 1000000; decide))) fun v9 H9 g9 t9 i9 => ⟨gx.trans g9, ⟨names, good, tableF g c (2 ^ names.length)⟩, ?_, rfl, by show good.length = c; simp [good], i9⟩
    exact tab_ok hc0 (by simp [good]) fun x y r hx hy hr => Nat.mod_lt _ hc0
end
end Tk
set_option Elab.async false
set_option linter.all false
set_option maxRecDepth 10000
/-! The law's letter and some_marks. -/
namespace Tk
open PySem PySem.Spec PyProof.Rows L2 LamX NdefX
section
variable {P : Program} {w : World} {K : PySem.W.Frag} {mg : Str → Option Value} {base : Heap} {T : List NTab} {f c Pt CT : Addr} {fd : FuncData}
/-- int(flag) -/
theorem ee_intB {X : Cx} {σ : L2.St} {H : Hp} {e : Expr} {pos p1 : Pos} {b : Bool} (hg : Gl X "int") (hm : X.mg "int" = none) (h : EE T X σ H e (.bl b)) (he : starEach (e :: []) X.env = (false, eval e X.env) :: starEach [] X.env := by rfl) (hpl : (backTo pos (starEach [] X.env)).any (·.1) = false := by rfl) :
    EE T X σ H (.Call (.Name "int" p1) [e] [] pos) (.int (if b then 1 else 0)) :=
  ex_ty call_int1 hg hm (by decide +kernel) (ea_cons h ea_nil he) (fun H1 H2 vs _ _ _ i Q q => by
    obtain ⟨v, rfl, i1⟩ := isAll1 i
    exact .inr ⟨b, by rw [i1.bl_eq], q _ _ (Gx.refl _) (.int _)⟩) (by decide) (by decide) he hpl
abbrev sLetter : Stmt := topS 63
abbrev nLetter : List Str := ["_law_names", "_law_marks_here", "_law_found", "_law_name"]
theorem sc_letter : FnScope nLetter ["_law_names", "_law_marks_here"] (defScope sLetter) := ⟨rfl, rfl, rfl, by decide +kernel, rfl, by decide +kernel, by decide +kernel⟩
theorem ok_letter (F : Fun K "_law_letter" "_law_letter" sLetter f fd) (hm : mg "_law_letter" = some (.ref f)) (G : Glo mg) : DefOk P w K mg base T 1 "_law_letter" ["_law_names", "_law_marks_here"] R_letter_of := by
  refine def_ok F hm sc_letter (fun _ _ _ _ _ _ us hl => match us, hl with | [_, _], _ => rfl) (fun H ds post ⟨_, _, e, _⟩ => by rw [e]; rfl) fun cdv A outer s H E vs ds post hr hT hi ⟨names, marks, e1, e2⟩ => ?_
  subst e1 e2
  obtain ⟨_, _, rfl, i1, i2⟩ := isAll2 hi
  cases i1; cases i2
  refine b_asgA (ps_set (i := 2) sc_letter.nd rfl (.inl rfl) wE_pe) hT ee_int rfl fun H1 g1 t1 => ?_
  refine b_forS (ps_for PassesOwn.never rfl (pi_str wE_pe) (pg_name (i := 3) sc_letter.nd rfl (.inl rfl)) wB_pss) t1 (ee_v (pv 0) rfl (.str _))
    (fun i σ' H' => ∃ v : Option V, σ' = [some (.str (tx names)), some (.str (tx marks)), some (.int (letterOf (names.take i) marks : Nat)), v] ∧ Gx T H H') (fun H2 g2 t2 => ⟨none, rfl, g1.trans g2⟩) ?_ ?_
  · rintro i c σ' H' hc ⟨v, rfl, g⟩
    have t := g.tab hT
    have hs := letter_step (marks := marks) (show names[i]? = some c by simpa using hc)
    refine b_asgA (d := .int (letterOf (names.take (i + 1)) marks : Nat)) (ps_set (i := 2) sc_letter.nd rfl (.inl rfl) wE_pe) t (EE.is (ee_add (ee_mul ee_int (ee_v (pv 2) rfl (.int _)) (.inl ⟨by decide, by decide⟩)) (ee_intB rfl G.int (ee_inS (ee_v (pv 3) rfl (.str _)) (ee_v (pv 1) rfl (.str _)) (by rfl)))) ?_) rfl fun H2 g2 t2 => b_nil ⟨some (.str ⟨#[c]⟩), rfl, g.trans g2⟩
    rw [hs]
    by_cases hcm : c ∈ marks
    · have : decide (c ∈ (tx marks).cps.toList) = true := decide_eq_true (by simpa using hcm)
      rw [this, if_pos rfl, if_pos hcm]; rfl
    · have : decide (c ∈ (tx marks).cps.toList) = false := decide_eq_false (by simpa using hcm)
      rw [this, if_neg (by decide), if_neg hcm]; rfl
  · rintro σ' H' ⟨v, rfl, g⟩
    refine b_ret (g.tab hT) (ee_v (pv 2) rfl (.int _)) fun v H1 g1 t1 i => ⟨g.trans g1, ?_⟩
    rw [i.int_eq]
    show V.int _ = V.int _
    rw [show (tx names).cps.size = names.length by simp, List.take_length]
abbrev sSome : Stmt := topS 64
abbrev nSome : List Str := ["_law_names", "_law_number", "_law_k"]
theorem sc_some : FnScope nSome ["_law_names", "_law_number"] (defScope sSome) := ⟨rfl, rfl, rfl, by decide +kernel, rfl, by decide +kernel, by decide +kernel⟩
def R_some : Hp → List D → (Hp → V → Prop) → Prop := fun H ds post => ∃ (l : List Nat) (n : Nat), l.length ≤ 50 ∧ ds = [.str (tx l), .int (n : Nat)] ∧ post = fun _ v => ∃ r, v = .str (tx r)
theorem ok_some (F : Fun K "_law_some_marks" "_law_some_marks" sSome f fd) (hm : mg "_law_some_marks" = some (.ref f)) (G : Glo mg) : DefOk P w K mg base T 1 "_law_some_marks" ["_law_names", "_law_number"] R_some := by
  refine def_ok F hm sc_some (fun _ _ _ _ _ _ us hl => match us, hl with | [_, _], _ => rfl) (fun H ds post ⟨_, _, _, e, _⟩ => by rw [e]; rfl) fun cdv A outer s H E vs ds post hr hT hi ⟨l, n, hl, e1, e2⟩ => ?_
  subst e1 e2
  obtain ⟨_, _, rfl, i1, i2⟩ := isAll2 hi
  cases i1; cases i2
  let c : Nat → Bool := fun i => decide (Builtin.bitAnd ((n : Int) / 2 ^ ((l.length : Int) - 1 - (i : Nat)).toNat) 1 = 1)
  refine b_ret hT (ex_joinX (Pp := fun _ => True) (EX.imp (el_filter (c := c) (f := fun i => .str ⟨#[l.getD i 0]⟩) (pe_lc (own := [("_law_k", 2)]) (g := gName 2) rfl sc_some.nd wI_pi (blkOk_by (N := nSome) (sc := defScope sSome) (by decide +kernel)) (fun _ _ _ _ _ => pg_name (i := 2) sc_some.nd rfl (Or.inl rfl)) (fun _ _ _ _ _ => pts_one (ttB_pt _ _ _ _ _)) (fun _ _ _ _ _ => tB_pe _ _ _ _ _))
    (ei_range (n := l.length) rfl G.range (EE.is (ee_lenS rfl G.len (ee_v (pv 0) rfl (.str _)) (by rw [tx_len]; exact sz_ok (by omega))) (by rw [tx_len])) (by omega)) (by rw [rangeD_len]; exact sz_lt (by omega)) (fun _ => rfl) ?_ rfl) ?_)) fun v H1 g1 t1 ⟨cs, e, hs⟩ => ⟨g1, cs, e⟩
  · intro i di v H1 h1 h2 g1
    obtain ⟨hil, rfl⟩ := rangeD_get h1
    cases h2
    refine ⟨fun s0 H0 C cl fp => ?_, fun hcc s0 H0 C cl fp => ?_⟩
    · exact et_eqI (ee_and (ee_shr (ee_v (pv 1) rfl (.int _)) (ee_sub (ee_sub (EE.is (ee_lenS rfl G.len (ee_v (pv 0) rfl (.str _)) (by rw [tx_len]; exact sz_ok (by omega))) (by rw [tx_len])) ee_int) (ee_v (pv 2) rfl (.int _))) (by omega)) ee_int) ee_int
    · exact ee_ixS (z := tx l) (ee_v (pv 0) rfl (.str _)) (ee_v (pv 2) rfl (.int _)) (by rw [tx_len]; exact sz_ok (by omega)) (by show l[i]? = some (l.getD i 0); rw [List.getD_eq_getElem?_getD, List.getElem?_eq_getElem hil]; rfl)
  · rintro H1 v H2 g1 g2 ⟨p, xs, e1, h1, h2, i2⟩
    refine ⟨p, xs, _, e1, h2, i2, ((List.range l.length).filter c).map (fun i => l.getD i 0), ?_, trivial, ?_⟩
    · unfold sel signsD
      rw [rangeD_len, List.map_map]; rfl
    · rw [List.length_map]
      have := List.length_filter_le c (List.range l.length)
      rw [List.length_range] at this
      omega
end
end Tk
set_option Elab.async false
set_option linter.all false
set_option maxRecDepth 100000
/-! set(text), sorted(set(text)), sorted(text). -/
namespace Tk
open PySem PySem.Spec PyProof.Rows L2
abbrev sg (c : Nat) : Str := ⟨#[c]⟩
def cOf (e : Int × Value) : Nat := match e.2 with | .str z _ => z.cps.toList.getD 0 0 | _ => 0
def SgE (w : World) (e : Int × Value) : Prop := ∃ c tk, e.2 = Value.str (sg c) tk ∧ e.1 = hashStr w (sg c)
/-- the set at a: signs, S tells which are in, at most n -/
def SgR (w : World) (h : Heap) (a : Addr) (S : Nat → Bool) (n : Nat) : Prop :=
  ∃ o es ep t, h.get? a = some o ∧ o.ExactSet ∧ o.data = .set es ep t ∧ (∀ e ∈ es.toList, SgE w e) ∧ (es.toList.map cOf).Nodup ∧ (∀ c, S c = true ↔ c ∈ es.toList.map cOf) ∧
    es.size < scanBound ∧ t.fits es.size = true ∧ es.size ≤ n ∧ Ris t.place.toList ∧ (w.params.followText "set-order" = true ∨ t.led = true)
section
variable {P : Program} {w : World} {h h' : Heap} {a : Addr} {S : Nat → Bool} {n : Nat}
theorem SgR.at (R : SgR w h a S n) (k : ∀ o, h.get? a = some o → h'.get? a = some o) : SgR w h' a S n := by
  obtain ⟨o, es, ep, t, ho, r⟩ := R
  exact ⟨o, es, ep, t, k o ho, r⟩
theorem sg_elems {l : List (Int × Value)} (g : ∀ e ∈ l, SgE w e) : ElemsOf (PySem.strKind P w) l := fun e he => by
  obtain ⟨k, tk, h1, h2⟩ := g e he
  exact ⟨⟨sg k, by rw [h1]; exact strKind_is P w (sg k) tk, h2⟩, by rw [h1] <;> rfl⟩
theorem sg_is {e : Int × Value} (g : SgE w e) (c : Nat) : (PySem.strKind P w).is (sg c) e.2 = true ↔ cOf e = c := by
  obtain ⟨k0, tk, h1, _⟩ := g
  unfold cOf
  rw [h1]
  show Value.isStrOf (sg c) (.str (sg k0) tk) = true ↔ k0 = c
  unfold Value.isStrOf
  constructor
  · intro h
    have h : (sg k0) = (sg c) := by simpa using h
    have := congrArg (fun z : Str => z.cps.toList) h
    simpa using this
  · rintro rfl; simp
theorem sg_mem {l : List (Int × Value)} (g : ∀ e ∈ l, SgE w e) (c : Nat) : c ∈ l.map cOf ↔ ∃ e ∈ l, (PySem.strKind P w).is (sg c) e.2 = true := by
  rw [List.mem_map]
  constructor
  · rintro ⟨e, he, q⟩
    exact ⟨e, he, (sg_is (g e he) c).2 q⟩
  · rintro ⟨e, he, q⟩
    exact ⟨e, he, (sg_is (g e he) c).1 q⟩
end
section
variable {P : Program} {w : World} {A : Around} {E : Value → Shared → Prop} {s : Shared} {a : Addr} {S : Nat → Bool} {n : Nat}
theorem sg_add_tail {g : Bool → Sem Unit} (hg : ∀ (b : Bool) (s₁ : Shared) (Q' : Unit → Shared → Prop), Q' () s₁ → wpAny (model P w) A (g b) Q' E s₁)
    {o : Obj} {es : Array (Int × Value)} {ep : Nat} {t : SetTable} (ho : s.heap.get? a = some o) (hex : o.ExactSet) (hd : o.data = .set es ep t)
    {es1 : Array (Int × Value)} {t2 : SetTable} {S' : Nat → Bool} (g1 : ∀ e ∈ es1.toList, SgE w e) (nd1 : (es1.toList.map cOf).Nodup) (m1 : ∀ k, S' k = true ↔ k ∈ es1.toList.map cOf)
    (hb1 : es1.size < scanBound) (hf2 : t2.fits es1.size = true) (hr : Ris t2.place.toList) (hl : w.params.followText "set-order" = true ∨ t2.led = true) {wasDummy : Bool} {R : Option Bool → Shared → Prop}
    (hR : ∀ h', Heap.SameBut a s.heap h' → SgR w h' a S' es1.size → R (some true) { s with heap := h' }) :
    wpAny (model P w) A (do
        storeSet a es1 t2
        if (!wasDummy && t2.tooFull) = true then do
            g (relayAll t2 es1 (SetTable.grown es1.size)).2.2
            storeSet a (relayAll t2 es1 (SetTable.grown es1.size)).1 (relayAll t2 es1 (SetTable.grown es1.size)).2.1
            pure (some true)
          else pure (some true)) R E s := by
  refine wpAny_bind (wpAny_storeSet_of ho hd ?_ (fits_of_scanBound hb1))
  have ho1 := store_at (es' := es1) (t' := t2) ho hd
  have sb1 := Heap.SameBut.update s.heap a (Obj.putSet es1 t2)
  split
  · have pm := relayAll_perm t2 es1 (SetTable.grown es1.size)
    have hf3 := relayAll_fits t2 es1 (SetTable.grown es1.size)
    have hr3 := relayAll_ris t2 es1 (SetTable.grown es1.size)
    have hl3 := relayAll_led t2 es1 (SetTable.grown es1.size)
    generalize relayAll t2 es1 (SetTable.grown es1.size) = Z at pm hf3 hr3 hl3 ⊢
    obtain ⟨es2, t3, gave⟩ := Z
    dsimp only at pm hf3 hr3 hl3 ⊢
    have hsz : es2.size = es1.size := by rw [← Array.length_toList, pm.length_eq, Array.length_toList]
    have hb2 : es2.size < scanBound := by rw [hsz]; exact hb1
    refine wpAny_bind (hg _ _ _ ?_)
    refine wpAny_bind (wpAny_storeSet_of ho1 rfl ?_ (fits_of_scanBound hb2))
    have ho2 := store_at (es' := es2) (t' := t3) ho1 rfl
    refine wpAny_pure (hR _ (sb1.trans (Heap.SameBut.update _ a _)) ?_)
    exact ⟨_, es2, _, t3, ho2, hex, rfl, fun e he => g1 e (pm.mem_iff.mp he), (pm.map cOf).nodup_iff.mpr nd1, fun k => (m1 k).trans (pm.map cOf).mem_iff.symm, hb2, hf3, Nat.le_of_eq hsz, hr3,
      hl.imp id fun z => by rw [hl3]; exact z⟩
  · exact wpAny_pure (hR _ sb1 ⟨_, es1, _, t2, ho1, hex, rfl, g1, nd1, m1, hb1, hf2, Nat.le_refl _, hr, hl⟩)
theorem SgR.le {h : Heap} {m : Nat} (R : SgR w h a S n) (q : n ≤ m) : SgR w h a S m := by
  obtain ⟨o, es, ep, t, h1, h2, h3, h4, h5, h6, h7, h8, h9, r⟩ := R
  exact ⟨o, es, ep, t, h1, h2, h3, h4, h5, h6, h7, h8, Nat.le_trans h9 q, r⟩
theorem sg_add_hashed {c : Nat} {tk : Tok} {Q : Bool → Shared → Prop} (R : SgR w s.heap a S n) (room : n + 1 < scanBound)
    (hQ : ∀ b h', Heap.SameBut a s.heap h' → SgR w h' a (fun j => S j || decide (j = c)) (n + 1) → Q b { s with heap := h' }) :
    wpAny (model P w) A (setAddHashed a (.str (sg c) tk) ((PySem.strKind P w).hash (sg c))) Q E s := by
  obtain ⟨o, es, ep, t, ho, hex, hd, g, nd, hm, hb, hf, hn, hr, hl⟩ := R
  have hkey : (PySem.strKind P w).is (sg c) (.str (sg c) tk) = true := strKind_is P w (sg c) tk
  have hsc : (Value.str (sg c) tk).scannable = true := rfl
  have hel : ElemsOf (PySem.strKind P w) es.toList := sg_elems g
  unfold setAddHashed setAddHashedIn
  refine wpAny_holding (wpAny_bind (wpAny_setState_of ho hd hf ?_))
  dsimp only
  rw [byScan_of hsc hb hel]
  simp only [↓reduceIte]
  unfold setAddByScan
  refine wpAny_bind ?_
  refine wpAny_bind (wpAny_rule ?_)
  refine wpAny_bind (wpAny_setScan_of hkey ho hd hf hel ?_)
  cases hfi : List.findIdx? (fun e => (PySem.strKind P w).is (sg c) e.2) es.toList with
  | some j =>
    dsimp only
    obtain ⟨hj, pj, _⟩ := List.findIdx?_eq_some_iff_getElem.mp hfi
    have hSk : S c = true := (hm c).2 ((sg_mem (P := P) (w := w) g c).2 ⟨es.toList[j], List.getElem_mem hj, pj⟩)
    refine wpAny_pure (wpAny_pure ?_)
    exact hQ _ s.heap (Heap.SameBut.refl a s.heap) ⟨o, es, ep, t, ho, hex, hd, g, nd, fun i => by
      rw [Bool.or_eq_true, decide_eq_true_eq, ← hm i]
      exact ⟨fun z => z.elim id (fun e => e ▸ hSk), .inl⟩, hb, hf, by omega, hr, hl⟩
  | none =>
    dsimp only
    have hnk : c ∉ es.toList.map cOf := fun z => by
      obtain ⟨e, he, q⟩ := (sg_mem (P := P) (w := w) g c).1 z
      have cc := List.findIdx?_eq_none_iff.mp hfi e he
      rw [q] at cc
      cases cc
    have hgw : ∀ (b : Bool) {s₁ : Shared} {Q' : Unit → Shared → Prop}, Q' () s₁ → wpAny (model P w) A (match b with | true => rule "set.scan.the-table-gave-way" | false => pure ()) Q' E s₁ :=
      fun b s₁ Q' q => by cases b <;> first | exact wpAny_pure q | exact wpAny_rule q
    have pm := layNew_perm t es ((PySem.strKind P w).hash (sg c)) (.str (sg c) tk)
    have hf1 := layNew_fits t es ((PySem.strKind P w).hash (sg c)) (.str (sg c) tk)
    have hr1 := layNew_ris t es ((PySem.strKind P w).hash (sg c)) (.str (sg c) tk) hr
    have hl1 := layNew_led t es ((PySem.strKind P w).hash (sg c)) (.str (sg c) tk)
    generalize layNew t es ((PySem.strKind P w).hash (sg c)) (.str (sg c) tk) = Z at pm hf1 hr1 hl1 ⊢
    obtain ⟨es1, t1, wasDummy, gave⟩ := Z
    dsimp only at pm hf1 hr1 hl1 ⊢
    rw [Array.toList_push] at pm
    have pc : es1.toList.Perm (((PySem.strKind P w).hash (sg c), Value.str (sg c) tk) :: es.toList) := pm.trans (List.perm_append_singleton _ _)
    have pk : (es1.toList.map cOf).Perm (c :: es.toList.map cOf) := pc.map cOf
    have g1 : ∀ e ∈ es1.toList, SgE w e := fun e he => by
      rcases List.mem_cons.mp (pc.mem_iff.mp he) with z | z
      · rw [z]; exact ⟨c, tk, rfl, rfl⟩
      · exact g e z
    have nd1 : (es1.toList.map cOf).Nodup := pk.nodup_iff.mpr (List.nodup_cons.mpr ⟨hnk, nd⟩)
    have m1 : ∀ i, (S i || decide (i = c)) = true ↔ i ∈ es1.toList.map cOf := fun i => by
      rw [Bool.or_eq_true, decide_eq_true_eq, hm i, pk.mem_iff, List.mem_cons]
      exact Or.comm
    have hsz : es1.size = es.size + 1 := by rw [← Array.length_toList, pc.length_eq, List.length_cons, Array.length_toList]
    have hb1 : es1.size < scanBound := by rw [hsz]; omega
    have hled : w.params.followText "set-order" = true ∨ t1.led = true := hl.imp id fun z => by rw [hl1]; exact z
    have fin : ∀ h', Heap.SameBut a s.heap h' → SgR w h' a (fun j => S j || decide (j = c)) es1.size → Q true { s with heap := h' } := fun h' sb r => hQ true h' sb (r.le (by omega))
    refine wpAny_bind (hgw _ ?_)
    split
    · refine wpAny_bind ?_
      rw [hashByValue_scannable 8 hsc]
      refine wpAny_pure ?_
      refine sg_add_tail ?_ ho hex hd g1 nd1 m1 hb1 ?_ ?_ ?_ ?_
      · intro b s₁ Q' q; cases b <;> first | exact wpAny_pure q | exact wpAny_rule q
      · first | (split <;> first | exact hf1 | exact SetTable.fits_plain_off hf1) | exact hf1
      · first | (split <;> exact hr1) | exact hr1
      · first | (split <;> exact hled) | exact hled
      · intro h' sb r; dsimp only; exact wpAny_pure (fin h' sb r)
    · refine wpAny_bind (wpAny_pure ?_)
      simp only [↓reduceIte]
      refine sg_add_tail ?_ ho hex hd g1 nd1 m1 hb1 hf1 hr1 hled ?_
      · intro b s₁ Q' q; cases b <;> first | exact wpAny_pure q | exact wpAny_rule q
      · intro h' sb r; dsimp only; exact wpAny_pure (fin h' sb r)
theorem sg_fresh {h : Heap} (w : World) : SgR w (h.push { cls := .type "set", dict := none, data := .set #[] 0 (.fresh 0 0 (!w.params.followText "set-order")) }) h.objs.size (fun _ => false) 0 :=
  ⟨_, #[], 0, _, Heap.get?_push_size _ rfl, ⟨rfl, rfl, rfl⟩, rfl, (fun e he => by simp at he), (by simp), (fun k => by simp), (by decide), (by rfl), Nat.le_refl _, List.Pairwise.nil, by
    show _ ∨ (!w.params.followText "set-order") = true
    cases w.params.followText "set-order"
    · exact .inr rfl
    · exact .inl rfl⟩
end
section
variable {prog : Program} {w : World} {A : Around} {R : Result → Shared → Prop} {I : Addr} {fp wr : List Addr} {G : Array GenState → Array GenState → Prop} {n : Nat} {St : Nat → Shared → Prop} {x : Str}
/-- the signs of x up to i -/
def upTo (x : Str) (i : Nat) (c : Nat) : Bool := decide (c ∈ x.cps.toList.take i)
theorem loopSg (W : WalksS prog w A.in1 I fp wr G n (SignAt x) St) (S : Addr) (hSf : S ∉ fp) (hsz : x.cps.size = n) (hn1 : n + 1 < scanBound) :
    ∀ (k i : Nat) (s : Shared), n - i = k → i ≤ n → St i s → SgR w s.heap S (upTo x i) i →
      (∀ s', Moved (S :: wr) G s s' → SgR w s'.heap S (upTo x n) n → R (.ok (.ret .none)) s') →
      codeAny (model prog w) A (.builtin "set.update.loop" ⟨[.ref S, .ref I], []⟩) R s := by
  have hSw : S ∉ wr := fun h => hSf (W.sub _ h)
  have hsub : ∀ b ∈ wr, b ∈ S :: wr := fun b hb => List.mem_cons_of_mem _ hb
  intro k
  induction k with
  | zero =>
    intro i s hk hi hst hS hR
    have hin : i = n := by omega
    subst hin
    refine codeAny_builtin PyProof.Rows.F.entry_set_update_loop ?_
    rw [Around.under_plainId PyProof.Rows.F.plain_set_update_loop _]
    show wpAny _ A.in1 (pyNext (.ref I) >>= _) _ _ s
    refine wpAny_bind (W.done s _ _ hst fun s' hm => ?_)
    show wpAny _ A.in1 (ret Value.none) _ _ s'
    exact wpAny_pure (hR s' (hm.mono hsub) (hS.at fun o ho => hm.heap S _ hSw ho))
  | succ k ih =>
    intro i s hk hi hst hS hR
    have hlt : i < n := by omega
    refine codeAny_builtin PyProof.Rows.F.entry_set_update_loop ?_
    rw [Around.under_plainId PyProof.Rows.F.plain_set_update_loop _]
    show wpAny _ A.in1 (pyNext (.ref I) >>= _) _ _ s
    refine wpAny_bind (W.item i s _ _ hlt hst fun v s' hP hst' hm => ?_)
    obtain ⟨c, t, hc, rfl⟩ := hP
    have hS' : SgR w s'.heap S (upTo x i) i := hS.at fun o ho => hm.heap S _ hSw ho
    show wpAny _ A.in1 (holding [Value.str (sg c) t] (setAdd S (.str (sg c) t)) >>= _) _ _ s'
    refine wpAny_bind (wpAny_holding ?_)
    unfold setAdd
    refine wpAny_holding ?_
    refine wpAny_bind ((PySem.strKind prog w).pyHash (k := sg c) (strKind_is _ _ _ _) ?_)
    refine sg_add_hashed (s := { s' with toks := s'.toks + 1 }) hS' (by omega) fun b h' hsb hS2 => ?_
    have hSi : SgR w h' S (upTo x (i + 1)) (i + 1) := by
      have e : (fun j => upTo x i j || decide (j = c)) = upTo x (i + 1) := by
        funext j
        unfold upTo
        have hc' : x.cps.toList[i]? = some c := by rw [Array.getElem?_toList]; exact hc
        rw [take_succ hc']
        rw [Bool.eq_iff_iff]
        simp
      rw [← e]; exact hS2
    refine wpAny_pure ⟨plainId_quiet PyProof.Rows.F.plain_set_update_loop _, ih (i + 1) _ (by omega) hlt (W.frame _ s' _ _ hst' (Nat.le_succ _) fun b hb o e => ?_) hSi fun s'' hm'' hS'' => ?_⟩
    · rw [hsb.2 b (fun h : b = S => hSf (by rw [← h]; exact hb))]; exact e
    · refine hR s'' (Moved.trans W.gtrans ((hm.mono hsub).then_heap (Nat.le_succ _) fun b o hb e => ?_) hm'') hS''
      rw [hsb.2 b (fun h : b = S => hb (by rw [h]; exact List.mem_cons_self))]; exact e
end
end Tk
set_option Elab.async false
set_option linter.all false
set_option maxRecDepth 100000
/-! set(text), sorted(set), sorted(text) as calls. -/
namespace Tk
open PySem PySem.Spec PyProof.Rows L2
section
variable {P : Program} {w : World} {A : Around} {E : Value → Shared → Prop} {s : Shared}
set_option maxHeartbeats 3200000 in
theorem call_set_text {x : Str} {t : Tok} {Q : Value → Shared → Prop} (hh : A.handled = none) (hn : x.cps.size + 1 < scanBound)
    (h : ∀ (h' : Heap) (tk : Nat), SgR w h' s.heap.objs.size (upTo x x.cps.size) x.cps.size → (∀ b o, s.heap.get? b = some o → h'.get? b = some o) → Q (.ref s.heap.objs.size) { s with heap := h', toks := tk }) :
    wpAny (model P w) A (call (.type "set") [.str x t]) Q E s := by
  obtain ⟨c, tl, hmro⟩ := PySem.F.called_set.mro
  have hmade := PySem.F.called_set.made
  have hsub := PySem.F.called_set.sub
  refine wpAny_call (codeAny_of_tree ?_)
  show wpAny _ _ (callAny (.type "set") _) _ _ _
  refine wpAny_pure ⟨Code.quiet_builtin _ (by decide +kernel), codeAny_builtin PySem.F.entry_type_call ?_⟩
  rw [Around.under_plain (weight_type_call_type "set" [.str x t] []) rfl]
  have h1 := PySem.F.called_set.notType
  have h2 := PySem.F.called_set.canCreate
  have hct := PySem.F.typeCall_set_1 (.str x t)
  repeat (any_goals (first | assumption | wp_step))
  refine codeAny_mono (code_set_led1 (.str x t) (E := E) (Q₁ := fun obj s₁ => obj = .ref s.heap.objs.size ∧ s₁ = { s with heap := s.heap.push { cls := .type "set", dict := none, data := .set #[] 0 (.fresh 0 0 (!w.params.followText "set-order")) } }) ⟨rfl, rfl⟩) fun r s₁ hr => ?_
  cases r with
  | error e => exact hr
  | ok fl =>
    cases fl with
    | ret obj =>
      obtain ⟨rfl, rfl⟩ := hr
      have hS : (s.heap.push { cls := .type "set", dict := none, data := .set #[] 0 (.fresh 0 0 (!w.params.followText "set-order")) }).get? s.heap.objs.size = some { cls := .type "set", dict := none, data := .set #[] 0 (.fresh 0 0 (!w.params.followText "set-order")) } := Heap.get?_push_size _ rfl
      have hT : Shared.TypeIs { s with heap := s.heap.push { cls := .type "set", dict := none, data := .set #[] 0 (.fresh 0 0 (!w.params.followText "set-order")) } } (.ref s.heap.objs.size) "set" := ⟨_, hS, rfl⟩
      have hli := PySem.F.called_set.init.lookup
      have hbi := PySem.F.called_set.init.bind (.ref s.heap.objs.size)
      repeat (any_goals (first | assumption | wp_step))
      refine codeAny_mono (codeAny_call_builtin (R := wants (fun r s₂ => r = .none ∧ ∃ h' tk, s₂ = { s with heap := h', toks := tk } ∧ SgR w h' s.heap.objs.size (upTo x x.cps.size) x.cps.size ∧
          (∀ b o, s.heap.get? b = some o → h'.get? b = some o)) E) PySem.F.called_set.init.plain PySem.F.entry_set_init (check_set_init_1 hT ?_)) fun r₂ s₂ hr₂ => ?_
      · have hsls : isSubtype (.type "str") (.type "set") = pure false := PySem.F.sub_str_set
        have hslf : isSubtype (.type "str") (.type "frozenset") = pure false := PySem.F.sub_str_frozenset
        have hne : (Value.type "str" == Value.type "dict") = false := by decide
        unfold Builtin.«set.__init__» noKeywords Builtin.Frozenset.updateFrom
        generalize hPI : pyIter = PI
        wp_walk
        subst hPI
        refine wpAny_pyIter_str fun o St W hst => ?_
        refine wpAny_bind (wpAny_runValue ?_)
        have hh3 : A.in1.in1.in1.handled = none := by simp [hh]
        have hz1 : (s.heap.push { cls := .type "set", dict := none, data := .set #[] 0 (.fresh 0 0 (!w.params.followText "set-order")) }).objs.size = s.heap.objs.size + 1 := Heap.size_push ..
        have hSf : s.heap.objs.size ∉ [(s.heap.push { cls := .type "set", dict := none, data := .set #[] 0 (.fresh 0 0 (!w.params.followText "set-order")) }).objs.size] := by
          rw [hz1, List.mem_singleton]
          exact Nat.ne_of_lt (Nat.lt_succ_self _)
        refine loopSg ((W A.in1.in1.in1 hh3).toS) s.heap.objs.size hSf rfl hn (x.cps.size - 0) 0 _ (by omega) (Nat.zero_le _) hst ?hS0 ?hR
        case hS0 =>
          have e : (fun _ : Nat => false) = upTo x 0 := by funext j; simp [upTo]
          have q := sg_fresh (h := s.heap) w
          rw [e] at q
          exact q.at fun u hu => Heap.get?_push_of_some _ hu
        case hR =>
          intro s' hm hS'
          obtain ⟨h', g', d', tk', os'⟩ := s'
          have eg : g' = s.gens := hm.gens
          have ed : d' = s.drawn := hm.drawn
          have eo : os' = s.os := hm.os
          subst eg; subst ed; subst eo
          show wpAny _ _ _ _ _ _
          refine wpAny_pure ?_
          show wpAny _ _ (ret Value.none) _ _ _
          refine wpAny_pure ⟨rfl, h', tk', rfl, hS', fun b o e => ?_⟩
          have hb := Heap.lt_size e
          have hb1 : b ≠ s.heap.objs.size := Nat.ne_of_lt hb
          have hb2 : b ≠ (s.heap.push { cls := .type "set", dict := none, data := .set #[] 0 (.fresh 0 0 (!w.params.followText "set-order")) }).objs.size := by
            rw [hz1]; exact Nat.ne_of_lt (Nat.lt_succ_of_lt hb)
          exact hm.heap b o (by simp only [List.mem_cons, List.mem_singleton, List.not_mem_nil, or_false, not_or]; exact ⟨hb1, hb2⟩) (Heap.get?_push_of_some _ (Heap.get?_push_of_some _ e))
      · cases r₂ with
        | error e => exact hr₂
        | ok fl₂ =>
          cases fl₂ with
          | ret r =>
            obtain ⟨rfl, h', tk, rfl, hS', hk'⟩ := hr₂
            repeat (any_goals (first | assumption | wp_step))
            exact h _ _ hS' hk'
          | _ => exact hr₂.elim
    | _ => exact hr.elim
/-- sorted(the set) -/
theorem sorted_sg {a : Addr} {S : Nat → Bool} {n : Nat} {Q : Value → Shared → Prop} (R : SgR w s.heap a S n) (hh : A.handled = none) (h64 : n < 64)
    (hQ : ∀ s' p (out : Array Value) (c : Nat) (ns : List Nat), (∀ b o, s.heap.get? b = some o → s'.heap.get? b = some o) → s'.gens = s.gens → s'.os = s.os → s.heap.objs.size ≤ p →
      s'.heap.get? p = some (seqObj "list" out c) → StrsAre out.toList (ns.map sg) → ns.Pairwise (· < ·) → (∀ k, k ∈ ns ↔ S k = true) → ns.length ≤ n → Q (.ref p) s') :
    wpAny (model P w) A (call (.builtin "sorted") [.ref a]) Q E s := by
  obtain ⟨o, es, ep, t, ho, hex, hd, g, nd, hm, hb, hf, hn, hr, hl⟩ := R
  refine Calls.call_function_entry kind_sorted plain_sorted entry_sorted (args_sorted1 _) ?_
  unfold Builtin.«sorted»
  refine wpAny_bind (m := checkCount "sorted" 1 1 _) (wpAny_pure ?_)
  refine wpAny_bind (collect_set (A := A.in1) hh ⟨o, ho, hex.1, hd⟩ hf hb hr hl fun s1 vs k1 hz g1 o1 pm => ?_)
  have hvl : vs.length ≤ n := by rw [pm.length_eq, List.length_map, Array.length_toList]; exact hn
  have hstrs : ∀ l : List Value, (∀ v ∈ l, ∃ c tk, v = Value.str (sg c) tk) → ∃ cs : List Nat, StrsAre l (cs.map sg) ∧ cs = l.map (fun v => cOf (0, v)) := by
    intro l
    induction l with
    | nil => intro _; exact ⟨[], .nil, rfl⟩
    | cons v l ih =>
      intro h
      obtain ⟨c, tk, rfl⟩ := h v List.mem_cons_self
      obtain ⟨cs, h1, h2⟩ := ih fun u hu => h u (List.mem_cons_of_mem _ hu)
      exact ⟨c :: cs, .cons (sg c) tk h1, by rw [h2]; rfl⟩
  obtain ⟨cs, hI, ecs⟩ := hstrs vs fun v hv => by
    obtain ⟨e, he, q⟩ := List.mem_map.mp (pm.mem_iff.mp hv)
    obtain ⟨k, tk, h1, _⟩ := g e he
    exact ⟨k, tk, by rw [← q]; exact h1⟩
  have pk : cs.Perm (es.toList.map cOf) := by
    have q := pm.map fun v => cOf (0, v)
    rw [List.map_map] at q
    rw [ecs]
    exact q
  refine wpAny_bind (wpAny_newList ?_ (by rw [sizeLine_eq]; omega))
  have hoL : (s1.heap.push (seqObj "list" vs.toArray 0)).get? s1.heap.objs.size = some (seqObj "list" vs.toArray 0) := Heap.get?_push_size _ rfl
  refine wpAny_bind (wpAny_holding (wpAny_call_entry slot_list_sort ⟨_, hoL, rfl⟩ entry_list_sort (list_sort_treeK PyProof.Rows.strKind_oneLt hoL hI.keysOf (fun v₁ v₂ rest e => keyKind_strs (by rw [← e]; exact hI)) (by omega) fun st' a1 a2 => ⟨_, rfl, ?_⟩) (args_list_sort _)))
  obtain ⟨ss', b1, b2, b3⟩ := sorted_out_str hI a1 a2
  obtain ⟨cc, hc⟩ := sortedHeap_at (vs := vs) (out := (arrOf st').map (·.2)) hoL
  -- the sorted texts are signs again
  have hss : ∀ y ∈ ss', y = sg (y.cps.toList.getD 0 0) := fun y hy => by
    obtain ⟨c, _, e⟩ := List.mem_map.mp (b2.mem_iff.mp hy)
    rw [← e]; rfl
  have ess : ss' = (ss'.map fun y => y.cps.toList.getD 0 0).map sg := by
    rw [List.map_map]
    conv => lhs; rw [← List.map_id ss']
    exact List.map_congr_left fun y h => hss y h
  have pn : (ss'.map fun y => y.cps.toList.getD 0 0).Perm cs := by
    have q := b2.map fun y : Str => y.cps.toList.getD 0 0
    rw [List.map_map] at q
    have e : cs.map ((fun y : Str => y.cps.toList.getD 0 0) ∘ sg) = cs := by
      have : ((fun y : Str => y.cps.toList.getD 0 0) ∘ sg) = id := by funext c; rfl
      rw [this, List.map_id]
    rwa [e] at q
  have pn2 := pn.trans pk
  have le := sorted_signs (cs := ss'.map fun y => y.cps.toList.getD 0 0) (by rw [← ess]; exact b3)
  have lt : (ss'.map fun y => y.cps.toList.getD 0 0).Pairwise (· < ·) := by
    have ndd : (ss'.map fun y => y.cps.toList.getD 0 0).Nodup := pn2.nodup_iff.mpr nd
    refine (le.and ndd).imp fun ⟨h1, h2⟩ => Nat.lt_of_le_of_ne h1 h2
  refine wpAny_pure ⟨_, rfl, hQ _ s1.heap.objs.size _ cc (ss'.map fun y => y.cps.toList.getD 0 0) (fun b u e => ?_) g1 o1 hz hc (by rw [← ess]; exact b1) lt (fun k => by rw [pn2.mem_iff, ← hm k]) ?_⟩
  · have q := k1 b u e
    have hlt := Heap.lt_size q
    show (sortedHeap (s1.heap.push (seqObj "list" vs.toArray 0)) s1.heap.objs.size vs _).get? b = some u
    rw [sortedHeap_old (Nat.ne_of_lt hlt) (by rw [size_push']; exact Nat.lt_succ_of_lt hlt)]
    exact Heap.get?_push_of_some _ q
  · rw [pn2.length_eq, List.length_map, Array.length_toList]; exact hn
/-- the signs of a text, gathered into a list -/
theorem collect_text {Q : List Value → Shared → Prop} (hh : A.handled = none) (x : Str) (t : Tok)
    (hQ : ∀ s' acc, (∀ b o, s.heap.get? b = some o → s'.heap.get? b = some o) → s.heap.objs.size ≤ s'.heap.objs.size → s'.gens = s.gens → s'.os = s.os → ItemsOf (SignAt x) acc x.cps.size → Q acc.toList s') (hn : x.cps.size ≤ sizeLine) :
    wpAny (model P w) A (collect (.str x t)) Q E s := by
  unfold collect
  refine wpAny_bind (wpAny_runValue (codeAny_builtin PySem.F.entry_proto_collect ?_))
  rw [Around.under_plainId PySem.F.plain_proto_collect _]
  show wpAny _ A.in1 (newList [] >>= fun l => again (.builtin "list.__iadd__" ⟨[l, .str x t], []⟩)) _ _ s
  refine wpAny_bind (wpAny_newObj_type ?_)
  refine wpAny_pure ⟨plainId_quiet PySem.F.plain_list_iadd _, codeAny_builtin PySem.F.entry_list_iadd ?_⟩
  rw [Around.under_plainId PySem.F.plain_list_iadd _]
  show wpAny _ A.in1 (Builtin.List.listExtendWith (.ref s.heap.objs.size) (.str x t) (.ref s.heap.objs.size)) _ _ _
  unfold Builtin.List.listExtendWith
  refine wpAny_bind (wpAny_typeOf (T := "str") (v := .str x t) rfl ?_)
  have h1 : Builtin.List.listSameRef (.ref s.heap.objs.size) (.str x t) = false := rfl
  have h2 : (Value.type "str" == Value.type "list") = false := by decide
  have h3 : (Value.type "str" == Value.type "tuple") = false := by decide
  simp only [h1, h2, h3, Bool.or_false, Bool.false_eq_true, if_false]
  refine wpAny_bind (wpAny_pyIter_str fun o St W hst => ?_)
  refine wpAny_bind (wpAny_holding ?_)
  unfold Builtin.List.listLengthHint
  refine wpAny_bind (wpAny_specialOf (T := "str") (v := .str x t) rfl PySem.F.str_len ?_)
  wp_delta
  refine wpAny_bind (wpAny_isInstance (T := "str") (v := .str x t) (b := true) rfl (by rw [isSubtype_type]; kernel_rfl) ?_)
  show wpAny _ A.in1 (typeOf (Value.str x t) >>= _) _ _ _
  refine wpAny_bind (wpAny_typeOf (T := "str") (v := .str x t) rfl ?_)
  refine wpAny_pure ?_
  rw [if_neg (by decide)]
  generalize hH : s.heap.push { cls := .type "list", data := .seq ([] : List Value).toArray } = H at W hst ⊢
  have hHs : H.objs.size = s.heap.objs.size + 1 := by rw [← hH, Heap.size_push]
  have hSf : s.heap.objs.size ∉ [H.objs.size] := fun hm => by rw [List.mem_singleton.mp hm] at hHs; exact absurd hHs (Nat.ne_of_lt (Nat.lt_succ_self _))
  have hS : (H.push o).get? s.heap.objs.size = some { cls := .type "list", data := .seq ([] : List Value).toArray } := Heap.get?_push_of_some _ (hH ▸ Heap.get?_push_size _ rfl)
  refine wpAny_pure ⟨plainId_quiet PySem.F.plain_extend_loop _, codeAny_extend_loopS (W A.in1 hh).toS hn _ hSf _ x.cps.size 0 _ _ _ rfl (Nat.zero_le _) hst hS (ItemsOf.nil _) fun s' acc' c' hm hS' hacc => ?_⟩
  show wpAny _ A (load s.heap.objs.size >>= _) _ _ s'
  refine wpAny_bind (wpAny_load hS' ?_)
  refine wpAny_pure (hQ s' acc' (fun b ob e => hm.heap b ob (fun hb => ?_) (Heap.get?_push_of_some _ (hH ▸ Heap.get?_push_of_some _ e))) (Nat.le_of_lt (Heap.lt_size hS')) hm.gens hm.os hacc)
  have hlt := Heap.lt_size e
  rcases List.mem_cons.mp hb with h | h
  · exact absurd hlt (h ▸ Nat.lt_irrefl _)
  · rw [List.mem_singleton.mp h, hHs] at hlt; exact absurd hlt (Nat.not_lt.mpr (Nat.le_succ _))
/-- sorted(text) -/
theorem sorted_text {x : Str} {t : Tok} {Q : Value → Shared → Prop} (hh : A.handled = none) (h64 : x.cps.size < 64)
    (hQ : ∀ s' p (out : Array Value) (c : Nat) (ns : List Nat), (∀ b o, s.heap.get? b = some o → s'.heap.get? b = some o) → s'.gens = s.gens → s'.os = s.os → s.heap.objs.size ≤ p →
      s'.heap.get? p = some (seqObj "list" out c) → StrsAre out.toList (ns.map sg) → ns.Perm x.cps.toList → Q (.ref p) s') :
    wpAny (model P w) A (call (.builtin "sorted") [.str x t]) Q E s := by
  refine Calls.call_function_entry kind_sorted plain_sorted entry_sorted (args_sorted1 _) ?_
  unfold Builtin.«sorted»
  refine wpAny_bind (m := checkCount "sorted" 1 1 _) (wpAny_pure ?_)
  refine wpAny_bind (collect_text (A := A.in1) hh x t (fun s1 acc k1 hsz g1 o1 hacc => ?_) (by rw [sizeLine_eq]; omega))
  have hlen : acc.toList.length = x.cps.size := by rw [Array.length_toList]; exact hacc.1
  have hat : ∀ (i : Nat), i < x.cps.size → ∃ u, acc.toList[i]? = some (Value.str (sg (x.cps.toList.getD i 0)) u) := fun i hi => by
    have hi2 : i < acc.size := by rw [hacc.1]; exact hi
    obtain ⟨c, u, hc, e⟩ := hacc.2 i _ (Array.getElem?_eq_getElem hi2)
    refine ⟨u, ?_⟩
    rw [Array.getElem?_toList, Array.getElem?_eq_getElem hi2, e]
    have : x.cps.toList.getD i 0 = c := by
      rw [List.getD_eq_getElem?_getD, Array.getElem?_toList, hc]; rfl
    rw [this]
  have hI : StrsAre acc.toList (x.cps.toList.map sg) := by
    have gen : ∀ (l : List Value) (cs : List Nat), l.length = cs.length → (∀ i, i < cs.length → ∃ u, l[i]? = some (Value.str (sg (cs.getD i 0)) u)) → StrsAre l (cs.map sg) := by
      intro l
      induction l with
      | nil =>
        intro cs hl _
        cases cs with
        | nil => exact .nil
        | cons _ _ => cases hl
      | cons v l ih =>
        intro cs hl h
        cases cs with
        | nil => cases hl
        | cons c cs =>
          obtain ⟨u, e⟩ := h 0 (Nat.succ_pos _)
          have e : v = Value.str (sg c) u := by simpa using e
          rw [e]
          refine .cons (sg c) u (ih cs (by simpa using hl) fun i hi => ?_)
          obtain ⟨u2, e2⟩ := h (i + 1) (Nat.succ_lt_succ hi)
          exact ⟨u2, by simpa using e2⟩
    refine gen _ _ (by rw [hlen, Array.length_toList]) fun i hi => hat i (by rw [Array.length_toList] at hi; exact hi)
  refine wpAny_bind (wpAny_newList ?_ (by rw [hlen, sizeLine_eq]; omega))
  have hoL : (s1.heap.push (seqObj "list" acc.toList.toArray 0)).get? s1.heap.objs.size = some (seqObj "list" acc.toList.toArray 0) := Heap.get?_push_size _ rfl
  refine wpAny_bind (wpAny_holding (wpAny_call_entry slot_list_sort ⟨_, hoL, rfl⟩ entry_list_sort (list_sort_treeK PyProof.Rows.strKind_oneLt hoL hI.keysOf (fun v₁ v₂ rest e => keyKind_strs (by rw [← e]; exact hI)) (by rw [hlen]; exact h64) fun st' a1 a2 => ⟨_, rfl, ?_⟩) (args_list_sort _)))
  obtain ⟨ss', b1, b2, b3⟩ := sorted_out_str hI a1 a2
  obtain ⟨cc, hc⟩ := sortedHeap_at (vs := acc.toList) (out := (arrOf st').map (·.2)) hoL
  have hss : ∀ y ∈ ss', y = sg (y.cps.toList.getD 0 0) := fun y hy => by
    obtain ⟨c, _, e⟩ := List.mem_map.mp (b2.mem_iff.mp hy)
    rw [← e]; rfl
  have ess : ss' = (ss'.map fun y => y.cps.toList.getD 0 0).map sg := by
    rw [List.map_map]
    conv => lhs; rw [← List.map_id ss']
    exact List.map_congr_left fun y h => hss y h
  have pn : (ss'.map fun y => y.cps.toList.getD 0 0).Perm x.cps.toList := by
    have q := b2.map fun y : Str => y.cps.toList.getD 0 0
    rw [List.map_map] at q
    have e : x.cps.toList.map ((fun y : Str => y.cps.toList.getD 0 0) ∘ sg) = x.cps.toList := by
      have : ((fun y : Str => y.cps.toList.getD 0 0) ∘ sg) = id := by funext c; rfl
      rw [this, List.map_id]
    rwa [e] at q
  refine wpAny_pure ⟨_, rfl, hQ _ s1.heap.objs.size _ cc (ss'.map fun y => y.cps.toList.getD 0 0) (fun b u e => ?_) g1 o1 hsz hc (by rw [← ess]; exact b1) pn⟩
  have q := k1 b u e
  have hlt := Heap.lt_size q
  show (sortedHeap (s1.heap.push (seqObj "list" acc.toList.toArray 0)) s1.heap.objs.size acc.toList _).get? b = some u
  rw [sortedHeap_old (Nat.ne_of_lt hlt) (by rw [size_push']; exact Nat.lt_succ_of_lt hlt)]
  exact Heap.get?_push_of_some _ q
end
end Tk
set_option Elab.async false
set_option linter.all false
set_option maxRecDepth 10000
/-! set(text), sorted: rules. -/
namespace Tk
open PySem PySem.Spec PyProof.Rows L2 LamX NdefX
/-- the set of signs at a -/
def SgO (w : World) (a : Addr) (S : Nat → Bool) (n : Nat) : HO := .ext fun h => SgR w h a S n
theorem sg_new {w : World} {P : Program} {H : Hp} {h : Heap} {a : Addr} {S : Nat → Bool} {n : Nat} (R : SgR w h a S n) : ObjOk P w H h a (SgO w a S n) := by
  have ⟨o, _, _, _, ho, _⟩ := R
  exact ⟨R, ⟨o, ho⟩, fun h1 h2 p k => SgR.at p k⟩
section
variable {X : Cx}
def rSetTx (w : World) : List V → Hp → VK → Prop := fun xs H Q => ∃ z : Str, xs = [V.str z] ∧ z.cps.size + 1 < scanBound ∧ ∀ p, H p = none → Q (.ref p) (upd H p (SgO w p (upTo z z.cps.size) z.cps.size))
theorem cr_setTx (hc : X.calm = true) : CallR X (.type "set") (rSetTx X.w) := by
  intro pins s σ H xs us Q I r h
  obtain ⟨z, rfl, hz, q⟩ := h
  obtain ⟨u, rfl, tk0, rfl⟩ := vals1 r
  refine call_set_text (I.ok.hd hc) hz fun h' tk R k => ?_
  exact ⟨.ref _, upd H s.heap.objs.size (SgO X.w s.heap.objs.size (upTo z z.cps.size) z.cps.size), I.laid (t' := tk) k (Nat.le_refl _) (sg_new R), rfl, q _ (I.hok.fresh (Nat.le_refl _))⟩
theorem vals_sg : ∀ {ns : List Nat} {us : List Value}, StrsAre us (ns.map sg) → Vals (ns.map fun c => V.str (sg c)) us := by
  intro ns
  induction ns with
  | nil => intro us h; cases h; exact .nil
  | cons n ns ih =>
    intro us h
    rw [List.map_cons] at h
    cases h with
    | cons _ t h => exact .cons ⟨t, rfl⟩ (ih h)
def rSortSg (w : World) : List V → Hp → VK → Prop := fun vs H Q => ∃ (a : Addr) (S : Nat → Bool) (n : Nat), vs = [V.ref a] ∧ H a = some (SgO w a S n) ∧ n < 64 ∧
  ∀ (ns : List Nat) (p : Addr), ns.Pairwise (· < ·) → (∀ k, k ∈ ns ↔ S k = true) → ns.length ≤ n → H p = none → Q (.ref p) (upd H p (.lst (ns.map fun c => V.str (sg c))))
theorem cr_sortSg (hc : X.calm = true) : CallR X (.builtin "sorted") (rSortSg X.w) := by
  intro pins s σ H vs us Q I r h
  obtain ⟨a, S, n, rfl, ha, h64, q⟩ := h
  have R : SgR X.w s.heap a S n := (I.hok a _ ha).1
  rw [Vals.ref1 r]
  refine sorted_sg R (I.ok.hd hc) h64 fun s' p out c ns k g o hp hg hi hs hm hl => ?_
  have hlen : (ns.map fun c => V.str (sg c)).length ≤ sizeLine := by rw [List.length_map, sizeLine_eq]; omega
  have hn : H p = none := I.hok.fresh hp
  have J : Inv X pins σ (upd H p (.lst (ns.map fun c => V.str (sg c)))) { s with heap := s'.heap, gens := s'.gens, drawn := s'.drawn, toks := s'.toks } :=
    I.call (ch := []) (Un.laid k hp hn) (I.hok.laid k hp ⟨hlen, out.toList, c, vals_sg hi, hg⟩) (by rw [g]; exact I.bare) (fun _ z => nomatch z)
  have e : s' = { s with heap := s'.heap, gens := s'.gens, drawn := s'.drawn, toks := s'.toks } := by
    cases s'
    cases s
    cases o
    rfl
  rw [e]
  exact ⟨.ref p, _, J, rfl, q ns p hs hm hl hn⟩
def rSortTx : List V → Hp → VK → Prop := fun vs H Q => ∃ z : Str, vs = [V.str z] ∧ z.cps.size < 64 ∧ ∀ (ns : List Nat) (p : Addr), ns.Perm z.cps.toList → H p = none → Q (.ref p) (upd H p (.lst (ns.map fun c => V.str (sg c))))
theorem cr_sortTx (hc : X.calm = true) : CallR X (.builtin "sorted") rSortTx := by
  intro pins s σ H vs us Q I r h
  obtain ⟨z, rfl, h64, q⟩ := h
  obtain ⟨u, rfl, tk0, rfl⟩ := vals1 r
  refine sorted_text (I.ok.hd hc) h64 fun s' p out c ns k g o hp hg hi hpm => ?_
  have hlen : (ns.map fun c => V.str (sg c)).length ≤ sizeLine := by rw [List.length_map, hpm.length_eq, Array.length_toList, sizeLine_eq]; omega
  have hn : H p = none := I.hok.fresh hp
  have J : Inv X pins σ (upd H p (.lst (ns.map fun c => V.str (sg c)))) { s with heap := s'.heap, gens := s'.gens, drawn := s'.drawn, toks := s'.toks } :=
    I.call (ch := []) (Un.laid k hp hn) (I.hok.laid k hp ⟨hlen, out.toList, c, vals_sg hi, hg⟩) (by rw [g]; exact I.bare) (fun _ z => nomatch z)
  have e : s' = { s with heap := s'.heap, gens := s'.gens, drawn := s'.drawn, toks := s'.toks } := by
    cases s'
    cases s
    cases o
    rfl
  rw [e]
  exact ⟨.ref p, _, J, rfl, q ns p hpm hn⟩
end
section
variable {T : List NTab} {X : Cx} {σ : L2.St} {H : Hp} {e : Expr} {pos p1 p2 q : Pos} {l : List Nat}
theorem isAll_sg {H : Hp} : ∀ ns : List Nat, IsAll H (signsD ns) (ns.map fun c => V.str (sg c))
  | [] => .nil
  | c :: r => .cons (.str _) (isAll_sg r)
/-- sorted(text) -/
theorem ex_sortTx (hc : X.calm = true) (hg : Gl X "sorted") (hm : X.mg "sorted" = none) (h : EE T X σ H e (.str (tx l))) (hz : l.length < 64) (hb : bootBuiltins "sorted" = some (.builtin "sorted") := by decide +kernel) (he : starEach (e :: []) X.env = (false, eval e X.env) :: starEach [] X.env := by rfl) (hpl : (backTo pos (starEach [] X.env)).any (·.1) = false := by rfl) :
    EX T X σ H (.Call (.Name "sorted" p1) [e] [] pos) (isL fun ds => ∃ cs, ds = signsD cs ∧ cs.Perm l) := fun H1 g t =>
  PE_to (pe_callB (cr_sortTx hc) hg hm hb (pa_cons wE_pe pa_nil he) (by decide) (by decide) he hpl) (wE_imp (h H1 g t) fun v H2 ⟨g2, i2⟩ => by
    rw [i2.str_eq]
    exact ⟨_, rfl, by simpa using hz, fun ns p hp hn => ⟨g2.trans (Gx.new hn), p, _, _, rfl, upd_same, isAll_sg ns, ns, rfl, by simpa using hp⟩⟩)
/-- sorted(set(text)) -/
theorem ex_sortSet (hc : X.calm = true) (hg : Gl X "sorted") (hm : X.mg "sorted" = none) (hg2 : Gl X "set") (hm2 : X.mg "set" = none) (h : EE T X σ H e (.str (tx l))) (hz : l.length < 64) (hb : bootBuiltins "sorted" = some (.builtin "sorted") := by decide +kernel) (hb2 : bootBuiltins "set" = some (.type "set") := by decide +kernel)
    (he : starEach (e :: []) X.env = (false, eval e X.env) :: starEach [] X.env := by rfl) (hpl : (backTo q (starEach [] X.env)).any (·.1) = false := by rfl) (he2 : starEach (.Call (.Name "set" p2) [e] [] q :: []) X.env = (false, eval (.Call (.Name "set" p2) [e] [] q) X.env) :: starEach [] X.env := by rfl) (hpl2 : (backTo pos (starEach [] X.env)).any (·.1) = false := by rfl) :
    EX T X σ H (.Call (.Name "sorted" p1) [.Call (.Name "set" p2) [e] [] q] [] pos) (isL fun ds => ∃ cs, ds = signsD cs ∧ cs.Pairwise (· < ·) ∧ ∀ c, c ∈ cs ↔ c ∈ l) := fun H1 g t =>
  PE_to (pe_callB (cr_sortSg hc) hg hm hb (pa_cons (pe_callTy (cr_setTx hc) hg2 hm2 hb2 (pa_cons wE_pe pa_nil he) (by decide) (by decide) he hpl) pa_nil he2) (by decide) (by decide) he2 hpl2) (wE_imp (h H1 g t) fun v H2 ⟨g2, i2⟩ => by
    rw [i2.str_eq]
    refine ⟨_, rfl, ?_, fun a ha => ⟨a, _, _, rfl, upd_same, by simpa using hz, fun ns p hs hmem hl hn => ⟨(g2.trans (Gx.new ha)).trans (Gx.new hn), p, _, _, rfl, upd_same, isAll_sg ns, ns, rfl, hs, fun c => ?_⟩⟩⟩
    · have : (tx l).cps.size = l.length := by simp
      rw [this]; unfold scanBound; omega
    · rw [hmem c]
      unfold upTo
      simp)
end
end Tk
set_option Elab.async false
set_option linter.all false
set_option maxRecDepth 10000
/-! The law's wide and changed. -/
namespace Tk
open PySem PySem.Spec PyProof.Rows L2 LamX NdefX
section
variable {T : List NTab} {X : Cx} {σ : L2.St} {H : Hp} {a b e : Expr} {pos : Pos} {ds : List D}
/-- an item of a tuple, at a place below its length -/
theorem ex_ixTX (ha : EE T X σ H a (.tup ds)) (hb : EX T X σ H b (fun _ v _ => ∃ i : Nat, v = .int (i : Nat) ∧ i < ds.length)) (hs : PlainIx b := by exact fun _ _ => rfl) : EX T X σ H (.Subscript a b pos) (fun _ v H2 => ∃ d ∈ ds, Is H2 d v) := fun H1 g t =>
  PE_to (pe_ix ix_tup wE_pe wE_pe hs) (wE_imp (ha H1 g t) fun u H2 ⟨g2, i2⟩ => wE_imp (hb H2 (g.trans g2) (g2.tab t)) fun v H3 ⟨g3, i, e1, hi⟩ => by
    subst e1
    cases i2 with
    | @tup p us _ h1 h2 =>
      obtain ⟨w, e, hw⟩ := h2.get (List.getElem?_eq_getElem hi)
      exact ⟨_, _, _, w, rfl, rfl, SqT.of (g3.tup h1), atI_nat e, g2.trans g3, _, List.getElem_mem hi, hw.mono g3.ti⟩)
end
/-- a machine over a table of given rows -/
theorem rows_ok {M : Mach} (h : M.Ok) {names : List Nat} {tbl : List (List (List Nat))} (hl : tbl.length = 2 ^ names.length) (hm : ∀ r ∈ tbl, r ∈ M.table) : (⟨names, M.good, tbl⟩ : Mach).Ok := by
  refine ⟨h.pos, hl, fun x rows e => ?_⟩
  obtain ⟨y, hy⟩ := List.mem_iff_getElem?.mp (hm rows (List.mem_of_getElem? e))
  exact h.rl y rows hy
section
variable {P : Program} {w : World} {K : PySem.W.Frag} {mg : Str → Option Value} {base : Heap} {T : List NTab} {f c Pt CT : Addr} {fd : FuncData}
abbrev sWide : Stmt := topS 65
abbrev nWide : List Str := ["_law_machine_here", "_law_letter_here", "_law_names", "_law_table", "_law_number"]
theorem sc_wide : FnScope nWide ["_law_machine_here", "_law_letter_here"] (defScope sWide) := ⟨rfl, rfl, rfl, by decide +kernel, rfl, by decide +kernel, by decide +kernel⟩
def R_wide : Hp → List D → (Hp → V → Prop) → Prop := fun H ds post => ∃ (M : Mach) (c : Nat), M.Ok ∧ M.names.length ≤ 9 ∧ ds = [machD M, .str (tx [c])] ∧
  post = fun H' v => ∃ M' : Mach, M'.Ok ∧ M'.rooms = M.rooms ∧ M'.names.Perm (M.names ++ [c]) ∧ Is H' (machD M') v
set_option maxHeartbeats 1000000 in
theorem ok_wide (F : Fun K "_law_wide" "_law_wide" sWide f fd) (hm : mg "_law_wide" = some (.ref f)) (G : Glo mg) (Le : DefOk P w K mg base T 1 "_law_letter" ["_law_names", "_law_marks_here"] R_letter_of) (So : DefOk P w K mg base T 1 "_law_some_marks" ["_law_names", "_law_number"] R_some) : DefOk P w K mg base T 2 "_law_wide" ["_law_machine_here", "_law_letter_here"] R_wide := by
  refine def_ok F hm sc_wide (fun _ _ _ _ _ _ us hl => match us, hl with | [_, _], _ => rfl) (fun H ds post ⟨_, _, _, _, e, _⟩ => by rw [e]; rfl) fun cdv A outer s H E vs ds post hr hT hi ⟨M, c, hO, hn, e1, e2⟩ => ?_
  subst e1 e2
  obtain ⟨vm, _, rfl, im, i2⟩ := isAll2 hi
  cases i2
  refine b_asg (ps_set (i := 2) sc_wide.nd rfl (Or.inl rfl) wE_pe) hT (ex_joinX (Pp := fun cs => cs.Perm (M.names ++ [c])) (EX.imp (ex_sortTx rfl rfl G.sorted (l := M.names ++ [c]) (EE.is (ee_catS (mach_names (M := M) (ee_v (pv 0) rfl im)) (ee_v (pv 1) rfl (.str _)) (by rw [tx_len, tx_len]; exact sz_ok (by show M.names.length + 1 ≤ _; omega))) (by congr 1; exact tx_app M.names [c])) (by rw [List.length_append]; show M.names.length + 1 < 64; omega)) ?_)) fun v H1 g1 t1 ⟨cs, e, hp⟩ => ?_
  · rintro H1 v H2 g1 g2 ⟨p, xs, ds, e1, h1, h2, cs, e2, hp⟩
    exact ⟨p, xs, ds, e1, h1, h2, cs, e2, hp, by rw [hp.length_eq, List.length_append]; show M.names.length + 1 ≤ _; omega⟩
  subst e
  have hcl : cs.length = M.names.length + 1 := by rw [hp.length_eq, List.length_append]; rfl
  have hm2 : 2 ^ cs.length ≤ 1024 := by
    have : 2 ^ cs.length ≤ 2 ^ 10 := Nat.pow_le_pow_right (by decide) (by omega)
    omega
  refine b_asg (ps_set (i := 3) sc_wide.nd rfl (Or.inl rfl) wE_pe) t1 (el_lst ea_nil (Nat.zero_le _)) fun vT H2 g2 t2 ⟨pT, xs0, ev, hpT, h2, i2⟩ => ?_
  subst ev
  cases i2
  have hTn : H pT = none := g1.low _ hpT
  refine b_forN (n := 2 ^ cs.length) (j := 4) sc_wide.nd rfl G.range rfl PassesOwn.never t2 (EE.is (ee_shl ee_int (ee_lenS rfl G.len (ee_v (pv 2) rfl (.str _)) (by rw [tx_len]; exact sz_ok (by omega))) ⟨by omega, by rw [tx_len]; omega, by decide⟩) (by rw [tx_len, Int.toNat_natCast, Int.one_mul, Int.natCast_pow]; rfl)) (by omega)
    (fun x σ' H' => ∃ (v4 : Option V) (xs : List V) (tbl : List (List (List Nat))), σ' = [some vm, some (.str (tx [c])), some (.str (tx cs)), some (.ref pT), v4] ∧ Gx T H H' ∧ H' pT = some (.lst xs) ∧ IsAll H' (tbl.map rowsD) xs ∧ tbl.length = x ∧ ∀ r ∈ tbl, r ∈ M.table)
    (fun H3 g3 t3 => ⟨none, [], [], rfl, (g1.trans g2).trans g3, g3.lst h2, .nil, rfl, fun r h => by cases h⟩) ?_ ?_
  · rintro x σ' H' hx ⟨v4, xs, tbl, rfl, g, hxs, ix, htl, htm⟩
    have tH := g.tab hT
    show wB _ _ _ ([some vm, some (.str (tx [c])), some (.str (tx cs)), some (.ref pT), some (.int (x : Nat))]) H'
    refine b_ap tH (ee_v (pv 3) rfl (.ref _)) hxs (sz_lt (by have := ix.length; simp at this; omega)) (P := fun _ v H2 => ∃ d ∈ M.table.map rowsD, Is H2 d v) (ex_ixTX (mach_table (M := M) (ee_v (pv 0) rfl (im.mono g.ti))) ?_) (fun _ _ _ _ q => q) fun v5 H5 g5 t5 ⟨d, hd, i5⟩ h5 => b_nil ?_
    · refine ex_callX Le hr (by decide) rfl (eax_cons (mach_names (M := M) (ee_v (pv 0) rfl (im.mono g.ti))) (eax_cons (ex_call (P := fun _ v _ => ∃ r, v = .str (tx r)) So hr (by decide) rfl (ea_cons (ee_v (pv 2) rfl (.str _)) (ea_cons (ee_v (pv 4) rfl (.int _)) ea_nil)) (fun Ha Hb ga gb => ⟨_, ⟨cs, x, by omega, rfl, rfl⟩, fun v H3 g3 q => q⟩)) eax_nil)) ?_
      rintro H1 vs H2 g1 g2 ⟨v1, r1, H3, e1, i1, g3, g4, v2, r2, H4, e2, ⟨r, e3⟩, g5, g6, e4⟩
      subst e4 e2 e1 e3
      refine ⟨[.str (tx M.names), .str (tx r)], _, .cons (i1.mono g4.ti) (.cons (.str _) .nil), ⟨M.names, r, rfl, rfl⟩, fun v H3 g3 q => ⟨_, q, ?_⟩⟩
      rw [List.length_map]
      have := letter_lt r M.names
      have h2 := hO.tl
      unfold Mach.letters at h2
      omega
    · obtain ⟨rows, hrow, rfl⟩ := List.mem_map.mp hd
      have tm := Ti.lst (o := .lst (xs ++ [v5])) h5
      refine ⟨_, xs ++ [v5], tbl ++ [rows], rfl, (g.trans g5).mutL hTn h5, upd_same, ?_, by simp [htl], fun r hr => ?_⟩
      · rw [List.map_append]
        exact (ix.mono (g5.ti.trans tm)).snoc (i5.mono tm)
      · rcases List.mem_append.mp hr with q | q
        · exact htm r q
        · rw [List.mem_singleton.mp q]; exact hrow
  · rintro σ' H' ⟨v4, xs, tbl, rfl, g, hxs, ix, htl, htm⟩
    refine b_ret (g.tab hT) (ee_tup (ds := [.str (tx cs), blsD M.good, tabD tbl]) (ea_cons (ee_v (pv 2) rfl (.str _)) (ea_cons (mach_good (M := M) (ee_v (pv 0) rfl (im.mono g.ti))) (ea_cons (ee_tupP (ds := tbl.map rowsD) rfl G.tuple (ee_v (pv 3) rfl (.ref _)) hxs ix) ea_nil))) (sz_ok (by show 3 ≤ 1000000; decide))) fun v9 H9 g9 t9 i9 => ⟨g.trans g9, ⟨cs, M.good, tbl⟩, rows_ok hO htl htm, rfl, hp, i9⟩
end
end Tk
set_option Elab.async false
set_option linter.all false
set_option maxRecDepth 10000
/-! The law's changed. -/
namespace Tk
open PySem PySem.Spec PyProof.Rows L2 LamX NdefX
/-- l with x at place i -/
def putAt {α : Type} (l : List α) (i : Nat) (x : α) : List α := l.take i ++ [x] ++ l.drop (i + 1)
theorem putAt_len {α : Type} {l : List α} {i : Nat} {x : α} (h : i < l.length) : (putAt l i x).length = l.length := by
  unfold putAt
  rw [List.length_append, List.length_append, List.length_take, List.length_drop, List.length_singleton]
  omega
theorem putAt_mem {α : Type} {l : List α} {i : Nat} {x y : α} (h : y ∈ putAt l i x) : y ∈ l ∨ y = x := by
  unfold putAt at h
  rcases List.mem_append.mp h with h | h
  · rcases List.mem_append.mp h with h | h
    · exact .inl (List.mem_of_mem_take h)
    · exact .inr (List.mem_singleton.mp h)
  · exact .inl (List.mem_of_mem_drop h)
theorem putAt_map {α β : Type} (f : α → β) (l : List α) (i : Nat) (x : α) : (putAt l i x).map f = (l.map f).take i ++ [f x] ++ (l.map f).drop (i + 1) := by
  unfold putAt
  rw [List.map_append, List.map_append, List.map_take, List.map_drop]; rfl
theorem ok_of_mem {M : Mach} (h0 : 0 < M.rooms) (hl : M.table.length = M.letters) (h : ∀ rows ∈ M.table, rows.length = M.rooms ∧ ∀ row ∈ rows, row.length = M.rooms ∧ ∀ v ∈ row, v < M.rooms) : M.Ok :=
  ⟨h0, hl, fun x rows e => ⟨(h rows (List.mem_of_getElem? e)).1, fun l row e2 => (h rows (List.mem_of_getElem? e)).2 row (List.mem_of_getElem? e2)⟩⟩
theorem mem_of_ok {M : Mach} (h : M.Ok) {rows : List (List Nat)} (hr : rows ∈ M.table) : rows.length = M.rooms ∧ ∀ row ∈ rows, row.length = M.rooms ∧ ∀ v ∈ row, v < M.rooms := by
  obtain ⟨x, hx⟩ := List.mem_iff_getElem?.mp hr
  refine ⟨(h.rl x rows hx).1, fun row hrow => ?_⟩
  obtain ⟨y, hy⟩ := List.mem_iff_getElem?.mp hrow
  exact (h.rl x rows hx).2 y row hy
section
variable {P : Program} {w : World} {K : PySem.W.Frag} {mg : Str → Option Value} {base : Heap} {T : List NTab} {f c Pt CT : Addr} {fd : FuncData}
abbrev sChg : Stmt := topS 66
abbrev nChg : List Str := ["_law_machine_here", "_law_letter_here", "_law_l", "_law_r", "_law_room", "_law_rows", "_law_row"]
abbrev pChg : List Str := ["_law_machine_here", "_law_letter_here", "_law_l", "_law_r", "_law_room"]
theorem sc_chg : FnScope nChg pChg (defScope sChg) := ⟨rfl, rfl, rfl, by decide +kernel, rfl, by decide +kernel, by decide +kernel⟩
/-- a machine like M -/
def Like (M : Mach) (H' : Hp) (v : V) : Prop := ∃ M' : Mach, M'.Ok ∧ M'.rooms = M.rooms ∧ M'.names = M.names ∧ Is H' (machD M') v
def R_chg : Hp → List D → (Hp → V → Prop) → Prop := fun H ds post => ∃ (M : Mach) (x l r q : Nat), M.Ok ∧ M.rooms ≤ 100 ∧ M.letters ≤ 8192 ∧ x < M.letters ∧ l < M.rooms ∧ r < M.rooms ∧ q < M.rooms ∧ ds = [machD M, .int (x : Nat), .int (l : Nat), .int (r : Nat), .int (q : Nat)] ∧ post = Like M
theorem ee_put {X : Cx} {σ : L2.St} {H : Hp} {a b e a2 b2 : Expr} {j1 : Nat} {pos pos2 p2 p3 p4 p5 p6 p7 p8 : Pos} {k : Nat} {ds : List D} {d : D} {i : Nat} (hl : ds.length ≤ 100000) (hi : i < ds.length) (ha : EE T X σ H a (.tup ds)) (hb : EE T X σ H b (.int (i : Nat))) (he : EE T X σ H e d) (ha2 : EE T X σ H a2 (.tup ds)) (hb2 : EE T X σ H b2 (.int (i : Nat))) (hst : starEach [e] X.env = [(false, eval e X.env)] := by rfl) :
    EE T X σ H (.BinOp (.BinOp (.Subscript a (.Slice none (some b) none p2) p3) .Add (.Tuple [e] k p4) pos) .Add (.Subscript a2 (.Slice (some (.BinOp b2 .Add (.Constant (.int 1) j1 p5) p6)) none none p7) p8) pos2) (.tup (ds.take i ++ [d] ++ ds.drop (i + 1))) :=
  ee_catT (ee_catT (ee_tlTo ha hb) (ee_tup (ds := [d]) (ea_cons he ea_nil hst) (sz_ok (by show 1 ≤ 1000000; decide))) (by rw [List.length_take]; exact sz_ok (by show _ + 1 ≤ _; omega))) (ee_tlFrom (k := i + 1) ha2 (EE.is (ee_add hb2 ee_int) (by congr 1))) (by rw [List.length_append, List.length_take, List.length_drop]; exact sz_ok (by show _ + 1 + _ ≤ _; omega))
set_option maxHeartbeats 1000000 in
theorem ok_chg (F : Fun K "_law_changed" "_law_changed" sChg f fd) (hm : mg "_law_changed" = some (.ref f)) : DefOk P w K mg base T 1 "_law_changed" pChg R_chg := by
  refine def_ok F hm sc_chg (fun _ _ _ _ _ _ us hl => match us, hl with | [_, _, _, _, _], _ => rfl) (fun H ds post ⟨_, _, _, _, _, _, _, _, _, _, _, _, e, _⟩ => by rw [e]; rfl) fun cdv A outer s H E vs ds post hr hT hi ⟨M, x, l, r, q, hO, hR, hL, hx, hl, hrr, hq, e1, e2⟩ => ?_
  subst e1 e2
  obtain ⟨vm, _, _, _, _, rfl, im, i2, i3, i4, i5⟩ := isAll5 hi
  cases i2; cases i3; cases i4; cases i5
  have hxt : x < M.table.length := by rw [hO.tl]; exact hx
  have hrow := List.getElem?_eq_getElem hxt
  generalize hrows : M.table[x] = rows at hrow
  have hm1 : rows ∈ M.table := List.mem_of_getElem? hrow
  obtain ⟨hlen, hin⟩ := mem_of_ok hO hm1
  have hlt : l < rows.length := by omega
  have hrw := List.getElem?_eq_getElem hlt
  generalize hrow2 : rows[l] = row at hrw
  have hm2 : row ∈ rows := List.mem_of_getElem? hrw
  obtain ⟨hlen2, hin2⟩ := hin row hm2
  refine b_asg (P := fun _ v H' => Is H' (rowsD rows) v) (ps_set (i := 5) sc_chg.nd rfl (Or.inl rfl) wE_pe) hT (ee_ixT (ds := M.table.map rowsD) (i := x) (mach_table (M := M) (ee_v (pv 0) rfl im)) (ee_v (pv 1) rfl (.int _)) (by rw [List.getElem?_map, hrow]; rfl)) fun v1 H1 g1 t1 i1 => ?_
  show wB _ _ _ ([some vm, some (.int (x : Nat)), some (.int (l : Nat)), some (.int (r : Nat)), some (.int (q : Nat)), some v1, none]) H1
  have hat : ∀ {H2 : Hp} {σ : L2.St} {p1 p2 p3 : Pos}, Gx T H1 H2 → σ[5]? = some (some v1) → σ[2]? = some (some (.int (l : Nat))) → EE T (cx0 P w K mg base nChg "_law_changed" sChg f cdv A outer s H E) σ H2 (.Subscript (.Name "_law_rows" p1) (.Name "_law_l" p2) p3) (rowD row) := fun {H2 σ p1 p2 p3} g h5 h2 =>
    ee_ixT (ds := rows.map rowD) (i := l) (ee_v (pv 5) h5 (i1.mono g.ti)) (ee_v (pv 2) h2 (.int _)) (by rw [List.getElem?_map, hrw]; rfl)
  refine b_asg (P := fun _ v H' => Is H' (rowD (putAt row r q)) v) (ps_set (i := 6) sc_chg.nd rfl (Or.inl rfl) wE_pe) t1 (EE.is (ee_put (ds := natsD row) (d := .int (q : Nat)) (i := r) (by unfold natsD; rw [List.length_map]; omega) (by unfold natsD; rw [List.length_map]; omega) (hat (Gx.refl _) rfl rfl) (ee_v (pv 3) rfl (.int _)) (ee_v (pv 4) rfl (.int _)) (hat (Gx.refl _) rfl rfl) (ee_v (pv 3) rfl (.int _))) (by show D.tup _ = .tup (natsD (putAt row r q)); unfold natsD; rw [putAt_map])) fun v2 H2 g2 t2 i2 => ?_
  show wB _ _ _ ([some vm, some (.int (x : Nat)), some (.int (l : Nat)), some (.int (r : Nat)), some (.int (q : Nat)), some v1, some v2]) H2
  refine b_asg (P := fun _ v H' => Is H' (rowsD (putAt rows l (putAt row r q))) v) (ps_set (i := 5) sc_chg.nd rfl (Or.inl rfl) wE_pe) t2 (EE.is (ee_put (ds := rows.map rowD) (d := rowD (putAt row r q)) (i := l) (by rw [List.length_map]; omega) (by rw [List.length_map]; omega) (ee_v (pv 5) rfl (i1.mono g2.ti)) (ee_v (pv 2) rfl (.int _)) (ee_v (pv 6) rfl i2) (ee_v (pv 5) rfl (i1.mono g2.ti)) (ee_v (pv 2) rfl (.int _))) (by unfold rowsD; rw [putAt_map])) fun v3 H3 g3 t3 i3 => ?_
  show wB _ _ _ ([some vm, some (.int (x : Nat)), some (.int (l : Nat)), some (.int (r : Nat)), some (.int (q : Nat)), some v3, some v2]) H3
  have im3 := im.mono ((g1.trans g2).trans g3).ti
  have htl : (M.table.map rowsD).length ≤ 100000 := by rw [List.length_map, hO.tl]; omega
  refine b_ret t3 (ee_tup (ds := [.str (tx M.names), blsD M.good, tabD (putAt M.table x (putAt rows l (putAt row r q)))]) (ea_cons (mach_names (M := M) (ee_v (pv 0) rfl im3)) (ea_cons (mach_good (M := M) (ee_v (pv 0) rfl im3)) (ea_cons (EE.is (ee_put (ds := M.table.map rowsD) (d := rowsD (putAt rows l (putAt row r q))) (i := x) htl (by rw [List.length_map]; exact hxt) (mach_table (M := M) (ee_v (pv 0) rfl im3)) (ee_v (pv 1) rfl (.int _)) (ee_v (pv 5) rfl i3) (mach_table (M := M) (ee_v (pv 0) rfl im3)) (ee_v (pv 1) rfl (.int _))) (by unfold tabD; rw [putAt_map])) ea_nil))) (sz_ok (by show 3 ≤ 1000000; decide))) fun v9 H9 g9 t9 i9 => ⟨((g1.trans g2).trans g3).trans g9, ⟨M.names, M.good, putAt M.table x (putAt rows l (putAt row r q))⟩, ?_, rfl, rfl, i9⟩
  refine ok_of_mem hO.pos ((putAt_len hxt).trans hO.tl) fun rows' h' => ?_
  rcases putAt_mem h' with z | z
  · exact mem_of_ok hO z
  · subst z
    refine ⟨(putAt_len hlt).trans hlen, fun row' h2 => ?_⟩
    rcases putAt_mem h2 with z | z
    · exact hin row' z
    · subst z
      refine ⟨(putAt_len (by omega)).trans hlen2, fun v h3 => ?_⟩
      rcases putAt_mem h3 with z | z
      · exact hin2 v z
      · rw [z]; exact hq
end
end Tk
set_option Elab.async false
set_option linter.all false
set_option maxRecDepth 10000
/-! The law's doubled. -/
namespace Tk
open PySem PySem.Spec PyProof.Rows L2 LamX NdefX
section
variable {T : List NTab} {X : Cx} {σ : L2.St} {H : Hp} {a b e : Expr} {rest : List Stmt} {D' : Ends} {pos : Pos}
/-- if c: x = e -/
theorem b_whenSet {c : Bool} {st : Stmt} {i : Nat} {d : D} {u u0 : V} (hT : TabsN T H) (hc : ET T X σ H a c) (s : PS X st (tAsg (wE X e) (gName i))) (he : c = true → ∀ H1, Gx T H H1 → EE T X σ H1 e d) (hu : atomV d = some u) (h0 : σ[i]? = some (some u0))
    (k : ∀ H1, Gx T H H1 → TabsN T H1 → wB X rest D' (σ.set i (some (if c then u else u0))) H1) : wB X (.If a [st] [] pos :: rest) D' σ H :=
  b_when hT hc (fun h H1 g t => b_asgA s t (he h H1 g) hu fun H2 g2 t2 => b_nil (by
    have := k H2 (g.trans g2) t2
    rw [if_pos h] at this
    exact this)) fun h H1 g t => by
    have := k H1 g t
    rw [h, if_neg (by decide)] at this
    have e : σ.set i (some u0) = σ := by
      have hi := (List.getElem?_eq_some_iff.mp h0).1
      have h2 := (List.getElem?_eq_some_iff.mp h0).2
      rw [← h2, List.set_getElem_self]
    rw [e] at this
    exact this
/-- list(range(a)) + list(range(1, a)) -/
theorem ex_homes {a2 : Expr} {c : Nat} {j1 : Nat} {p1 p2 p3 p4 p5 p6 p7 p8 p9 : Pos} (hc : X.calm = true) (hg : Gl X "list") (hm : X.mg "list" = none) (hg2 : Gl X "range") (hm2 : X.mg "range" = none) (ha : EE T X σ H a (.int (c : Nat))) (hb : EE T X σ H a2 (.int (c : Nat))) (h0 : 0 < c) (h1 : c ≤ 1000)
    (n1 : starEach [a] X.env = (false, eval a X.env) :: starEach [] X.env := by rfl)
    (n2 : starEach [.Call (.Name "range" p2) [a] [] p3] X.env = (false, eval (.Call (.Name "range" p2) [a] [] p3) X.env) :: starEach [] X.env := by rfl)
    (n3 : starEach [.Constant (.int 1) j1 p7, a2] X.env = (false, eval (.Constant (.int 1) j1 p7) X.env) :: starEach [a2] X.env := by rfl)
    (n4 : starEach [a2] X.env = (false, eval a2 X.env) :: starEach [] X.env := by rfl)
    (n6 : (backTo p8 (starEach [a2] X.env)).any (·.1) = false := by rfl)
    (n5 : starEach [.Call (.Name "range" p6) [.Constant (.int 1) j1 p7, a2] [] p8] X.env = (false, eval (.Call (.Name "range" p6) [.Constant (.int 1) j1 p7, a2] [] p8) X.env) :: starEach [] X.env := by rfl) :
    EX T X σ H (.BinOp (.Call (.Name "list" p1) [.Call (.Name "range" p2) [a] [] p3] [] p4) .Add (.Call (.Name "list" p5) [.Call (.Name "range" p6) [.Constant (.int 1) j1 p7, a2] [] p8] [] p9) pos)
      (fun H1 v H2 => ∃ p, v = .ref p ∧ H1 p = none ∧ H2 p = some (.lst (natsV (List.range c ++ (List.range (c - 1)).map (· + 1))))) := fun H1 g t =>
  PE_to (pe_op op_cat (pe_listRg hc hg hm (prg_1 hg2 hm2 wE_pe n1) n2) (pe_listRg hc hg hm (prg_2 hg2 hm2 pe_int wE_pe n3 n4 n6) n5)) (wE_imp (ha H1 g t) fun u H2 ⟨g2, i2⟩ => ⟨_, i2.int_eq, RgOk.of_le (by omega) (by omega) (by omega) (by omega), fun q hq => wE_imp (hb _ ((g.trans g2).trans (Gx.new hq)) ((g2.trans (Gx.new hq)).tab t)) fun v H3 ⟨g3, i3⟩ => ⟨1, (c : Nat), rfl, i3.int_eq, RgOk.of_le (by omega) (by omega) (by omega) (by omega), fun q2 hq2 => by
    have h3 : H3 q = some (.lst (rgV 0 (c : Nat))) := g3.lst upd_same
    have hne : q ≠ q2 := fun z => by rw [z, hq2] at h3; cases h3
    have gA : Gx T H1 (upd H3 q2 (.lst (rgV 1 (c : Nat)))) := ((g2.trans (Gx.new hq)).trans g3).trans (Gx.new hq2)
    refine ⟨q, q2, rgV 0 (c : Nat), rgV 1 (c : Nat), rfl, rfl, by rw [upd_ne hne]; exact h3, upd_same, by rw [rgV_length, rgV_length]; exact sz_ok (by omega), fun p hp => ⟨gA.trans (Gx.new hp), p, rfl, gA.low p hp, ?_⟩⟩
    rw [upd_same]
    congr 2
    unfold rgV natsV
    rw [List.map_append, List.map_map]
    congr 1
    · rw [show ((c : Nat) - 0 : Int).toNat = c by omega]
      exact List.map_congr_left fun i _ => by rw [Int.zero_add]
    · rw [show ((c : Nat) - 1 : Int).toNat = c - 1 by omega]
      exact List.map_congr_left fun i _ => by show V.int (1 + (i : Int)) = V.int ((i + 1 : Nat) : Int); congr 1; omega⟩⟩)
end
end Tk
set_option Elab.async false
set_option linter.all false
set_option maxRecDepth 10000
/-! The law's doubled, the walk. -/
namespace Tk
open PySem PySem.Spec PyProof.Rows L2 LamX NdefX
def homes (c : Nat) : List Nat := List.range c ++ (List.range (c - 1)).map (· + 1)
theorem homes_len {c : Nat} (h : 0 < c) : (homes c).length = 2 * c - 1 := by
  unfold homes
  rw [List.length_append, List.length_map, List.length_range, List.length_range]
  omega
theorem homes_lt {c i : Nat} (h : 0 < c) : (homes c).getD i 0 < c := by
  rw [List.getD_eq_getElem?_getD]
  cases e : (homes c)[i]? with
  | none => exact h
  | some v =>
    show v < c
    have := List.mem_of_getElem? e
    unfold homes at this
    rcases List.mem_append.mp this with q | q
    · exact List.mem_range.mp q
    · obtain ⟨j, hj, rfl⟩ := List.mem_map.mp q
      have := List.mem_range.mp hj
      show j + 1 < c
      omega
section
variable {P : Program} {w : World} {K : PySem.W.Frag} {mg : Str → Option Value} {base : Heap} {T : List NTab} {f c Pt CT : Addr} {fd : FuncData}
abbrev sDbl : Stmt := topS 67
abbrev nDbl : List Str := ["_law_machine_here", "_law_draws_here", "_law_copies", "_law_many", "_law_all_rooms", "_law_good", "_law_homes", "_law_table", "_law_at", "_law_rows", "_law_made", "_law_l", "_law_row", "_law_r", "_law_room"]
abbrev pDbl : List Str := ["_law_machine_here", "_law_draws_here", "_law_copies"]
theorem sc_dbl : FnScope nDbl pDbl (defScope sDbl) := ⟨rfl, rfl, rfl, by decide +kernel, rfl, by decide +kernel, by decide +kernel⟩
def R_dbl : Hp → List D → (Hp → V → Prop) → Prop := fun H ds post => ∃ (M : Mach) (p : Addr) (l : List Nat) (k : Nat), M.Ok ∧ M.rooms ≤ 50 ∧ M.letters ≤ 8192 ∧ H p = some (.lst (natsV l)) ∧ 0 < l.length ∧ l.length ≤ 1000 ∧ 0 < k ∧ ds = [machD M, .ref p, .int (k : Nat)] ∧
  post = fun H' v => ∃ M' : Mach, M'.Ok ∧ M'.rooms = 2 * M.rooms - 1 ∧ M'.names = M.names ∧ Is H' (machD M') v
set_option maxHeartbeats 2000000 in
theorem ok_dbl (F : Fun K "_law_doubled" "_law_doubled" sDbl f fd) (hm : mg "_law_doubled" = some (.ref f)) (G : Glo mg) : DefOk P w K mg base T 1 "_law_doubled" pDbl R_dbl := by
  refine def_ok F hm sc_dbl (fun _ _ _ _ _ _ us hl => match us, hl with | [_, _, _], _ => rfl) (fun H ds post ⟨_, _, _, _, _, _, _, _, _, _, _, e, _⟩ => by rw [e]; rfl) fun cdv A outer s H E vs ds post hr hT hi ⟨M, pD, l, k, hO, hR, hL, hpD, hl0, hl1, hk, e1, e2⟩ => ?_
  subst e1 e2
  obtain ⟨vm, _, _, rfl, im, i2, i3⟩ := isAll3 hi
  cases i2; cases i3
  have hc0 := hO.pos
  have hgl : M.good.length = M.rooms := rfl
  generalize hcc : M.rooms = c at *
  have hroom : ∀ {H' : Hp} {σ : L2.St} {p1 p2 p3 p4 : Pos} {j : Nat}, Gx T H H' → σ[0]? = some (some vm) → EE T (cx0 P w K mg base nDbl "_law_doubled" sDbl f cdv A outer s H E) σ H' (.Subscript (.Name "_law_machine_here" p1) (.Constant (.int 1) j p2) p3) (blsD M.good) := fun {H' σ p1 p2 p3 p4 j} g h => mach_good (M := M) (ee_v (pv 0) h (im.mono g.ti))
  refine b_asgA (d := .int (c : Nat)) (ps_set (i := 3) sc_dbl.nd rfl (Or.inl rfl) wE_pe) hT (EE.is (ee_lenT rfl G.len (ds := M.good.map .bl) (mach_good (M := M) (ee_v (pv 0) rfl im))) (by rw [List.length_map, hgl])) rfl fun H1 g1 t1 => ?_
  refine b_asgA (d := .int ((2 * c - 1 : Nat) : Int)) (ps_set (i := 4) sc_dbl.nd rfl (Or.inl rfl) wE_pe) t1 (EE.is (ee_sub (ee_mul ee_int (ee_v (pv 3) rfl (.int _)) (.inl ⟨by decide, by decide⟩)) ee_int) (by congr 1; omega)) rfl fun H2 g2 t2 => ?_
  have g12 := g1.trans g2
  refine b_asg (P := fun _ v H' => Is H' (blsD (M.good ++ M.good.drop 1)) v) (ps_set (i := 5) sc_dbl.nd rfl (Or.inl rfl) wE_pe) t2 (EE.is (ee_catT (ds := M.good.map .bl) (es := (M.good.map .bl).drop 1) (mach_good (M := M) (ee_v (pv 0) rfl (im.mono g12.ti))) (ee_tlFrom (k := 1) (mach_good (M := M) (ee_v (pv 0) rfl (im.mono g12.ti))) ee_int) (by rw [List.length_drop, List.length_map, hgl]; exact sz_ok (by omega))) (by unfold blsD; rw [List.map_append, List.map_drop])) fun vg H3 g3 t3 ig => ?_
  refine b_asg (ps_set (i := 6) sc_dbl.nd rfl (Or.inl rfl) wE_pe) t3 (ex_homes rfl rfl G.list rfl G.range (ee_v (pv 3) rfl (.int _)) (ee_v (pv 3) rfl (.int _)) hc0 (by omega)) fun vh H4 g4 t4 ⟨pH, e, hpH, hh⟩ => ?_
  subst e
  have hh : H4 pH = some (.lst (natsV (homes c))) := hh
  refine b_asg (ps_set (i := 7) sc_dbl.nd rfl (Or.inl rfl) wE_pe) t4 (el_lst ea_nil (Nat.zero_le _)) fun vT H5 g5 t5 ⟨pT, xs0, ev, hpT, h5, i5⟩ => ?_
  subst ev
  cases i5
  have g05 : Gx T H H5 := ((g12.trans g3).trans g4).trans g5
  have hTn : H pT = none := ((g12.trans g3).trans g4).low _ hpT
  have hTn4 : H4 pT = none := hpT
  refine b_asgA (d := .int ((0 : Nat) : Int)) (ps_set (i := 8) sc_dbl.nd rfl (Or.inl rfl) wE_pe) t5 ee_int rfl fun H6 g6 t6 => ?_
  refine b_forT (gT := gName 9) (ps_for PassesOwn.never rfl (pi_tup wE_pe) (pg_name (i := 9) sc_dbl.nd rfl (Or.inl rfl)) wB_pss) t6 (mach_table (M := M) (ee_v (pv 0) rfl (im.mono (g05.trans g6).ti))) fun H7 g7 t7 => ?_
  have g47 : Gx T H4 H7 := (g5.trans g6).trans g7
  refine ⟨fun x σ' H' => ∃ (at_ : Nat) (v9 v10 v11 v12 v13 v14 : Option V) (xs : List V) (tbl : List (List (List Nat))), σ' = [some vm, some (.ref pD), some (.int (k : Nat)), some (.int (c : Nat)), some (.int ((2 * c - 1 : Nat) : Int)), some vg, some (.ref pH), some (.ref pT), some (.int (at_ : Nat)), v9, v10, v11, v12, v13, v14] ∧ Gx T H H' ∧ Gx T H4 H' ∧ Ti H7 H' ∧ H' pT = some (.lst xs) ∧ IsAll H' (tbl.map rowsD) xs ∧ tbl.length = x ∧ ∀ rows ∈ tbl, rows.length = 2 * c - 1 ∧ ∀ row ∈ rows, row.length = 2 * c - 1 ∧ ∀ v ∈ row, v < 2 * c - 1,
    ⟨0, none, none, none, none, none, none, [], [], rfl, (g05.trans g6).trans g7, g47, Ti.refl _, (g6.trans g7).lst h5, .nil, rfl, fun _ h => by cases h⟩, fun i σ' H' ⟨_, _, _, _, _, _, _, _, _, _, _, _, ti, _⟩ => ti, ?_, ?_⟩
  · rintro x di u σ' H' hdi iu ⟨at_, v9, v10, v11, v12, v13, v14, xs, tbl, rfl, g, g4', ti, hxs, ix, htl, htm⟩
    rw [List.getElem?_map] at hdi
    obtain ⟨rows, hrow, rfl⟩ := Option.map_eq_some_iff.mp hdi
    obtain ⟨hlen, hin⟩ := mem_of_ok hO (List.mem_of_getElem? hrow)
    rw [hcc] at hlen hin
    have tH := g.tab hT
    have hxl : x < 10000 := by
      have := (List.getElem?_eq_some_iff.mp hrow).1
      rw [hO.tl] at this
      omega
    show wB _ _ _ ([some vm, some (.ref pD), some (.int (k : Nat)), some (.int (c : Nat)), some (.int ((2 * c - 1 : Nat) : Int)), some vg, some (.ref pH), some (.ref pT), some (.int (at_ : Nat)), some u, v10, v11, v12, v13, v14]) H'
    refine b_asg (ps_set (i := 10) sc_dbl.nd rfl (Or.inl rfl) wE_pe) tH (el_lst ea_nil (Nat.zero_le _)) fun vM H8 g8 t8 ⟨pM, ys0, ev, hpM, h8, i8⟩ => ?_
    subst ev
    cases i8
    have hMn : H pM = none := g.low _ hpM
    have hMn4 : H4 pM = none := g4'.low _ hpM
    refine b_forN (j := 11) sc_dbl.nd rfl G.range rfl PassesOwn.never t8 (ee_v (pv 4) rfl (.int _)) (by omega)
      (fun y σ2 H2 => ∃ (at_ : Nat) (v11 v12 v13 v14 : Option V) (ys : List V) (made : List (List Nat)), σ2 = [some vm, some (.ref pD), some (.int (k : Nat)), some (.int (c : Nat)), some (.int ((2 * c - 1 : Nat) : Int)), some vg, some (.ref pH), some (.ref pT), some (.int (at_ : Nat)), some u, some (.ref pM), v11, v12, v13, v14] ∧ Gx T H' H2 ∧ H2 pM = some (.lst ys) ∧ IsAll H2 (made.map rowD) ys ∧ made.length = y ∧ ∀ row ∈ made, row.length = 2 * c - 1 ∧ ∀ v ∈ row, v < 2 * c - 1)
      (fun H9 g9 t9 => ⟨at_, v11, v12, v13, v14, [], [], rfl, g8.trans g9, g9.lst h8, .nil, rfl, fun _ h => by cases h⟩) ?_ ?_
    · rintro y σ2 H2' hy ⟨at_, v11, v12, v13, v14, ys, made, rfl, gM, hys, iy, hml, hmm⟩
      have gHM := g.trans gM
      have t2' := gHM.tab hT
      show wB _ _ _ ([some vm, some (.ref pD), some (.int (k : Nat)), some (.int (c : Nat)), some (.int ((2 * c - 1 : Nat) : Int)), some vg, some (.ref pH), some (.ref pT), some (.int (at_ : Nat)), some u, some (.ref pM), some (.int (y : Nat)), v12, v13, v14]) H2'
      refine b_asg (ps_set (i := 12) sc_dbl.nd rfl (Or.inl rfl) wE_pe) t2' (el_lst ea_nil (Nat.zero_le _)) fun vR H9 g9 t9 ⟨pR, zs0, ev, hpR, h9, i9⟩ => ?_
      subst ev
      cases i9
      refine b_forN (j := 13) sc_dbl.nd rfl G.range rfl PassesOwn.never t9 (ee_v (pv 4) rfl (.int _)) (by omega)
        (fun r σ3 H3 => ∃ (at_ : Nat) (v13 v14 : Option V) (row : List Nat), σ3 = [some vm, some (.ref pD), some (.int (k : Nat)), some (.int (c : Nat)), some (.int ((2 * c - 1 : Nat) : Int)), some vg, some (.ref pH), some (.ref pT), some (.int (at_ : Nat)), some u, some (.ref pM), some (.int (y : Nat)), some (.ref pR), v13, v14] ∧ Gx T H2' H3 ∧ H3 pR = some (.lst (natsV row)) ∧ row.length = r ∧ ∀ v ∈ row, v < 2 * c - 1)
        (fun H10 g10 t10 => ⟨at_, v13, v14, [], rfl, g9.trans g10, g10.lst h9, rfl, fun _ h => by cases h⟩) ?_ ?_
      · rintro r σ3 H3' hrr ⟨at_, v13, v14, row, rfl, gR, hrow2, hrl, hrm⟩
        have gM2 := gM.trans gR
        have gA := g.trans gM2
        have tA := gA.tab hT
        have iu2 : Is H3' (rowsD rows) u := iu.mono gM2.ti
        have hhA : H3' pH = some (.lst (natsV (homes c))) := (g4'.trans gM2).lst hh
        have hDA : H3' pD = some (.lst (natsV l)) := gA.lst hpD
        show wB _ _ _ ([some vm, some (.ref pD), some (.int (k : Nat)), some (.int (c : Nat)), some (.int ((2 * c - 1 : Nat) : Int)), some vg, some (.ref pH), some (.ref pT), some (.int (at_ : Nat)), some u, some (.ref pM), some (.int (y : Nat)), some (.ref pR), some (.int (r : Nat)), v14]) H3'
        have hy1 : (homes c).getD y 0 < c := homes_lt hc0
        have hr1 : (homes c).getD r 0 < c := homes_lt hc0
        generalize hya : (homes c).getD y 0 = ya at hy1
        generalize hra : (homes c).getD r 0 = ra at hr1
        have e1 : rows[ya]? = some (rows.getD ya []) := by rw [List.getD_eq_getElem?_getD, List.getElem?_eq_getElem (by omega)]; rfl
        have hmem := List.mem_of_getElem? e1
        generalize rows.getD ya [] = rw_ at e1 hmem
        obtain ⟨hl2, hv2⟩ := hin rw_ hmem
        have e2 : rw_[ra]? = some (rw_.getD ra 0) := by rw [List.getD_eq_getElem?_getD, List.getElem?_eq_getElem (by omega)]; rfl
        have hq := hv2 _ (List.mem_of_getElem? e2)
        generalize rw_.getD ra 0 = q at e2 hq
        refine b_asgA (d := .int (q : Nat)) (ps_set (i := 14) sc_dbl.nd rfl (Or.inl rfl) wE_pe) tA (ee_ixT (ds := natsD rw_) (i := ra) (ee_ixT (ds := rows.map rowD) (i := ya) (ee_v (pv 9) rfl iu2) (ee_ixL (p := pH) (xs := natsV (homes c)) (i := (y : Nat)) (ee_v (pv 6) rfl (.ref _)) hhA (ee_v (pv 11) rfl (.int _)) (nat_at (by rw [homes_len hc0]; exact hy)) (by rw [hya]; exact .int _)) (by rw [List.getElem?_map, e1]; rfl)) (ee_ixL (p := pH) (xs := natsV (homes c)) (i := (r : Nat)) (ee_v (pv 6) rfl (.ref _)) hhA (ee_v (pv 13) rfl (.int _)) (nat_at (by rw [homes_len hc0]; exact hrr)) (by rw [hra]; exact .int _)) (by unfold natsD; rw [List.getElem?_map, e2]; rfl)) rfl fun H4' g4'' t4'' => ?_
        have gA4 := gA.trans g4''
        let cd : Bool := decide ((0 : Int) < (q : Nat)) && decide (((l.getD (at_ % l.length) 0 : Nat) : Int) % (k : Nat) = 1)
        have hal : at_ % l.length < l.length := Nat.mod_lt _ hl0
        refine b_whenSet (c := cd) (i := 14) (d := .int ((q + c - 1 : Nat) : Int)) (u0 := .int (q : Nat)) t4'' (EW.et (ew_and (et_gt (ee_v (pv 14) rfl (.int _)) ee_int) fun _ => ew_and1 (et_eqI (ee_mod (ee_ixL (p := pD) (xs := natsV l) (i := ((at_ % l.length : Nat) : Int)) (ee_v (pv 1) rfl (.ref _)) (g4''.lst hDA) (EE.is (ee_mod (ee_v (pv 8) rfl (.int _)) (EE.is (ee_lenL rfl G.len (ee_v (pv 1) rfl (.ref _)) (g4''.lst hDA)) (by unfold natsV; rw [List.length_map])) (by omega)) (by congr 1)) (nat_at hal) (.int _)) (ee_v (pv 2) rfl (.int _)) (by omega)) ee_int))) (ps_set (i := 14) sc_dbl.nd rfl (Or.inl rfl) wE_pe) (fun hc H5' g5' => EE.is (ee_sub (ee_add (ee_v (pv 14) rfl (.int _)) (ee_v (pv 3) rfl (.int _))) ee_int) (by congr 1; omega)) rfl rfl fun H5' g5' t5' => ?_
        obtain ⟨q2, hq2, eq2⟩ : ∃ q2 : Nat, q2 < 2 * c - 1 ∧ (if cd = true then V.int ((q + c - 1 : Nat) : Int) else .int (q : Nat)) = .int (q2 : Nat) := by
          cases h : cd with
          | true => exact ⟨q + c - 1, by omega, rfl⟩
          | false => exact ⟨q, by omega, rfl⟩
        rw [eq2]
        show wB _ _ _ ([some vm, some (.ref pD), some (.int (k : Nat)), some (.int (c : Nat)), some (.int ((2 * c - 1 : Nat) : Int)), some vg, some (.ref pH), some (.ref pT), some (.int (at_ : Nat)), some u, some (.ref pM), some (.int (y : Nat)), some (.ref pR), some (.int (r : Nat)), some (.int (q2 : Nat))]) H5'
        have g35 := g4''.trans g5'
        refine b_apD t5' (d := .int (q2 : Nat)) (ee_v (pv 12) rfl (.ref _)) (g35.lst hrow2) (by unfold natsV; rw [List.length_map]; exact sz_lt (by omega)) (ee_v (pv 14) rfl (.int _)) fun v6 H6' g6' t6' i6' h6' => ?_
        cases i6'
        refine b_asgA (d := .int ((at_ + 1 : Nat) : Int)) (ps_set (i := 8) sc_dbl.nd rfl (Or.inl rfl) wE_pe) (tabs_lst t6' h6') (EE.is (ee_add (ee_v (pv 8) rfl (.int _)) ee_int) (by congr 1)) rfl fun H7' g7' t7' => b_nil ?_
        refine ⟨at_ + 1, _, _, row ++ [q2], rfl, ((gR.trans (g35.trans g6')).mutL hpR h6').trans g7', ?_, by simp [hrl], fun v hv => ?_⟩
        · rw [g7'.lst upd_same]; simp [natsV]
        · rcases List.mem_append.mp hv with z | z
          · exact hrm v z
          · rw [List.mem_singleton.mp z]; exact hq2
      · rintro σ3 H3' ⟨at_, v13, v14, row, rfl, gR, hrow2, hrl, hrm⟩
        have gA := (g.trans gM).trans gR
        refine b_apD (gA.tab hT) (d := rowD row) (ee_v (pv 10) rfl (.ref _)) (gR.lst hys) (sz_lt (by have := iy.length; simp at this; omega)) (ee_tupP (ds := natsD row) rfl G.tuple (ee_v (pv 12) rfl (.ref _)) hrow2 (isAll_nats row)) fun v6 H6' g6' t6' i6' h6' => b_nil ?_
        have tm := Ti.lst (o := .lst (ys ++ [v6])) h6'
        refine ⟨at_, _, _, _, _, ys ++ [v6], made ++ [row], rfl, ((gM.trans gR).trans g6').mutL hpM h6', upd_same, ?_, by simp [hml], fun row' h' => ?_⟩
        · rw [List.map_append]
          exact (iy.mono ((gR.trans g6').ti.trans tm)).snoc (i6'.mono tm)
        · rcases List.mem_append.mp h' with z | z
          · exact hmm row' z
          · rw [List.mem_singleton.mp z]; exact ⟨hrl, hrm⟩
    · rintro σ2 H2' ⟨at_, v11, v12, v13, v14, ys, made, rfl, gM, hys, iy, hml, hmm⟩
      have gA := g.trans gM
      refine b_apD (gA.tab hT) (d := rowsD made) (ee_v (pv 7) rfl (.ref _)) (gM.lst hxs) (sz_lt (by have := ix.length; simp at this; omega)) (ee_tupP (ds := made.map rowD) rfl G.tuple (ee_v (pv 10) rfl (.ref _)) hys iy) fun v6 H6' g6' t6' i6' h6' => b_nil ?_
      have tm := Ti.lst (o := .lst (xs ++ [v6])) h6'
      refine ⟨at_, _, _, _, _, _, _, xs ++ [v6], tbl ++ [made], rfl, (gA.trans g6').mutL hTn h6', ((g4'.trans gM).trans g6').mutL hTn4 h6', ti.trans ((gM.trans g6').ti.trans tm), upd_same, ?_, by simp [htl], fun rows' h' => ?_⟩
      · rw [List.map_append]
        exact (ix.mono ((gM.trans g6').ti.trans tm)).snoc (i6'.mono tm)
      · rcases List.mem_append.mp h' with z | z
        · exact htm rows' z
        · rw [List.mem_singleton.mp z]; exact ⟨hml, hmm⟩
  · rintro σ' H' ⟨at_, v9, v10, v11, v12, v13, v14, xs, tbl, rfl, g, g4', ti, hxs, ix, htl, htm⟩
    have ig' : Is H' (blsD (M.good ++ M.good.drop 1)) vg := ig.mono (g4.trans g4').ti
    refine b_ret (g.tab hT) (ee_tup (ds := [.str (tx M.names), blsD (M.good ++ M.good.drop 1), tabD tbl]) (ea_cons (mach_names (M := M) (ee_v (pv 0) rfl (im.mono g.ti))) (ea_cons (ee_v (pv 5) rfl ig') (ea_cons (ee_tupP (ds := tbl.map rowsD) rfl G.tuple (ee_v (pv 7) rfl (.ref _)) hxs ix) ea_nil))) (sz_ok (by show 3 ≤ 1000000; decide))) fun v9 H9 g9 t9 i9 => ⟨g.trans g9, ⟨M.names, M.good ++ M.good.drop 1, tbl⟩, ?_, ?_, rfl, i9⟩
    · have hr2 : (⟨M.names, M.good ++ M.good.drop 1, tbl⟩ : Mach).rooms = 2 * c - 1 := by
        show (M.good ++ M.good.drop 1).length = _
        rw [List.length_append, List.length_drop, hgl]; omega
      refine ok_of_mem (by rw [hr2]; omega) ?_ fun rows h => ?_
      · show tbl.length = 2 ^ M.names.length
        rw [htl, List.length_map, hO.tl]; rfl
      · rw [hr2]; exact htm rows h
    · show (M.good ++ M.good.drop 1).length = _
      rw [List.length_append, List.length_drop, hgl]; omega
end
end Tk
set_option Elab.async false
set_option linter.all false
set_option maxRecDepth 10000
/-! The law's two: what is promised, and helpers of the walk. -/
namespace Tk
open PySem PySem.Spec PyProof.Rows L2 LamX NdefX
theorem nodup_sub {α : Type} [DecidableEq α] : ∀ {l S : List α}, l.Nodup → (∀ x ∈ l, x ∈ S) → l.length ≤ S.length
  | [], _, _, _ => Nat.zero_le _
  | a :: l, S, hn, h => by
    obtain ⟨h1, h2⟩ := List.nodup_cons.mp hn
    have ha := h a List.mem_cons_self
    have ih := nodup_sub (l := l) (S := S.erase a) h2 fun x hx => (List.mem_erase_of_ne (fun e => h1 (by rw [← e]; exact hx))).mpr (h x (List.mem_cons_of_mem _ hx))
    rw [List.length_erase_of_mem ha] at ih
    have : 0 < S.length := List.length_pos_of_mem ha
    rw [List.length_cons]; omega
theorem both_len {A B : Mach} {S : List Nat} (ha : ∀ c ∈ A.names, c ∈ S) (hb : ∀ c ∈ B.names, c ∈ S) : (both_ A B).length ≤ S.length := by
  refine nodup_sub (sorted_nodup (inOrder_sorted _)) fun c hc => ?_
  unfold both_ at hc
  rcases List.mem_append.mp (mem_inOrder.mp hc).2 with q | q
  · exact ha c q
  · exact hb c q
/-- two machines that the law draws -/
structure Two (A B : Mach) : Prop where
  a : A.Ok
  b : B.Ok
  ra : A.rooms ≤ 7
  rb : B.rooms ≤ 7
  na : A.names.length ≤ 3
  nb : B.names.length ≤ 3
  la : ∀ c ∈ A.names, c ∈ letters
  lb : ∀ c ∈ B.names, c ∈ letters
  n : (both_ A B).length ≤ 4
  pr : A.rooms * B.rooms * (A.rooms * B.rooms) * 2 ^ (both_ A B).length ≤ 10000
theorem Two.symm {A B : Mach} (h : Two A B) : Two B A := by
  have e : both_ B A = both_ A B := inOrder_comm _ _
  exact ⟨h.b, h.a, h.rb, h.ra, h.nb, h.na, h.lb, h.la, by rw [e]; exact h.n, by rw [e, Nat.mul_comm B.rooms]; exact h.pr⟩
theorem two_of {A B : Mach} {S : List Nat} {r n : Nat} (hA : A.Ok) (hB : B.Ok) (ra : A.rooms ≤ 4) (rb : B.rooms ≤ r) (r7 : r ≤ 7) (na : A.names.length ≤ 3) (nb : B.names.length ≤ 3) (sa : ∀ c ∈ A.names, c ∈ S) (sb : ∀ c ∈ B.names, c ∈ S) (hS : ∀ c ∈ S, c ∈ letters) (hn : S.length ≤ n) (n4 : n ≤ 4) (hp : 4 * r * (4 * r) * 2 ^ n ≤ 10000) : Two A B := by
  have hl := Nat.le_trans (both_len sa sb) hn
  refine ⟨hA, hB, by omega, by omega, na, nb, fun c h => hS c (sa c h), fun c h => hS c (sb c h), by omega, Nat.le_trans ?_ hp⟩
  have h1 : A.rooms * B.rooms ≤ 4 * r := Nat.mul_le_mul ra rb
  exact Nat.mul_le_mul (Nat.mul_le_mul h1 h1) (Nat.pow_le_pow_right (by decide) hl)
section
variable {P : Program} {w : World} {K : PySem.W.Frag} {mg : Str → Option Value} {base : Heap} {T : List NTab} {f c Pt CT : Addr} {fd : FuncData}
section
variable {X : Cx} {σ : L2.St} {H : Hp}
/-- _law_draws(_law_cell(_law_script, i), m, s) -/
theorem ex_drawn {k : Nat} {a : Addr} {ns : List Int} {i m s j1 j2 j3 : Nat} {p1 p2 p3 p4 p5 p6 p7 : Pos} {e : Expr} (Ce : DefOk X.prog X.w X.K X.mg X.base T 1 "_law_cell" nCell (R_cell X.K)) (Dr : DefOk X.prog X.w X.K X.mg X.base T 2 "_law_draws" ["_law_cell_here", "_law_many", "_law_salt"] R_draws) (hr : Room k X.A) (hk : 2 ≤ k) (hg1 : Gl X "_law_cell") (hg2 : Gl X "_law_draws")
    (he : EE T X σ H e (.ref a)) (hs : SqL X.K H a (ns.map V.int)) (hm : m ≤ 1000) (hss : s ≤ 1000000)
    (n1 : starEach [e, .Constant (.int (i : Nat)) j1 p1] X.env = (false, eval e X.env) :: starEach [.Constant (.int (i : Nat)) j1 p1] X.env := by rfl)
    (n2 : starEach [.Constant (.int (i : Nat)) j1 p1] X.env = (false, eval (.Constant (.int (i : Nat)) j1 p1) X.env) :: starEach [] X.env := by rfl)
    (n3 : (backTo p3 (starEach [.Constant (.int (i : Nat)) j1 p1] X.env)).any (·.1) = false := by rfl)
    (n4 : starEach [.Call (.Name "_law_cell" p2) [e, .Constant (.int (i : Nat)) j1 p1] [] p3, .Constant (.int (m : Nat)) j2 p4, .Constant (.int (s : Nat)) j3 p5] X.env = (false, eval (.Call (.Name "_law_cell" p2) [e, .Constant (.int (i : Nat)) j1 p1] [] p3) X.env) :: starEach [.Constant (.int (m : Nat)) j2 p4, .Constant (.int (s : Nat)) j3 p5] X.env := by rfl)
    (n5 : starEach [.Constant (.int (m : Nat)) j2 p4, .Constant (.int (s : Nat)) j3 p5] X.env = (false, eval (.Constant (.int (m : Nat)) j2 p4) X.env) :: starEach [.Constant (.int (s : Nat)) j3 p5] X.env := by rfl)
    (n6 : starEach [.Constant (.int (s : Nat)) j3 p5] X.env = (false, eval (.Constant (.int (s : Nat)) j3 p5) X.env) :: starEach [] X.env := by rfl)
    (n7 : (backTo p7 (starEach [.Constant (.int (m : Nat)) j2 p4, .Constant (.int (s : Nat)) j3 p5] X.env)).any (·.1) = false := by rfl) :
    EX T X σ H (.Call (.Name "_law_draws" p6) [.Call (.Name "_law_cell" p2) [e, .Constant (.int (i : Nat)) j1 p1] [] p3, .Constant (.int (m : Nat)) j2 p4, .Constant (.int (s : Nat)) j3 p5] [] p7)
      (fun _ v H2 => ∃ p l, v = .ref p ∧ H2 p = some (.lst (natsV l)) ∧ l.length = m) := by
  refine ex_callX Dr hr hk hg2 (eax_cons (ex_call (P := fun _ v _ => ∃ c : Int, v = .int c) Ce hr (by omega) hg1 (ea_cons he (ea_cons ee_int ea_nil n2) n1) (fun Ha Hb ga gb => ⟨_, ⟨a, ns, i, sqlGx (sqlGx hs ga) gb, rfl, rfl⟩, fun v H3 g3 q => q⟩) (by decide) n1 n3) (eax_cons (ee_int (i := (m : Nat))) (eax_cons (ee_int (i := (s : Nat))) eax_nil n6) n5) n4) ?_ (by decide) n4 n7
  rintro H1 vs H2 g1 g2 ⟨v1, r1, H3, e1, ⟨c, e2⟩, g3, g4, v2, r2, H4, e3, i2, g5, g6, v3, r3, H5, e4, i3, g7, g8, e5⟩
  subst e5 e4 e3 e1 e2
  exact ⟨[.int c, .int (m : Nat), .int (s : Nat)], _, .cons (.int c) (.cons (i2.mono (g6.ti)) (.cons (i3.mono g8.ti) .nil)), ⟨c, m, s, hm, hss, rfl, rfl⟩, fun v H3 g3 ⟨p, l, q1, _, q2, q3, _⟩ => ⟨p, l, q1, q2, q3⟩⟩
end
end
end Tk
set_option Elab.async false
set_option linter.all false
set_option maxRecDepth 10000
/-! The law's two, the walk. -/
namespace Tk
open PySem PySem.Spec PyProof.Rows L2 LamX NdefX
section
variable {P : Program} {w : World} {K : PySem.W.Frag} {mg : Str → Option Value} {base : Heap} {T : List NTab} {f c Pt CT : Addr} {fd : FuncData}
section
variable {X : Cx} {σ : L2.St} {H : Hp}
/-- _law_pool(_law_cell(_law_script, i), m, s) -/
theorem ex_pooled {k : Nat} {a : Addr} {ns : List Int} {i m s j1 j2 j3 : Nat} {p1 p2 p3 p4 p5 p6 p7 : Pos} {e : Expr} (Ce : DefOk X.prog X.w X.K X.mg X.base T 1 "_law_cell" nCell (R_cell X.K)) (Dr : DefOk X.prog X.w X.K X.mg X.base T 3 "_law_pool" ["_law_cell_here", "_law_many", "_law_salt"] R_pool) (hr : Room k X.A) (hk : 3 ≤ k) (hg1 : Gl X "_law_cell") (hg2 : Gl X "_law_pool")
    (he : EE T X σ H e (.ref a)) (hs : SqL X.K H a (ns.map V.int)) (hm : m ≤ 50) (hss : s ≤ 1000000)
    (n1 : starEach [e, .Constant (.int (i : Nat)) j1 p1] X.env = (false, eval e X.env) :: starEach [.Constant (.int (i : Nat)) j1 p1] X.env := by rfl)
    (n2 : starEach [.Constant (.int (i : Nat)) j1 p1] X.env = (false, eval (.Constant (.int (i : Nat)) j1 p1) X.env) :: starEach [] X.env := by rfl)
    (n3 : (backTo p3 (starEach [.Constant (.int (i : Nat)) j1 p1] X.env)).any (·.1) = false := by rfl)
    (n4 : starEach [.Call (.Name "_law_cell" p2) [e, .Constant (.int (i : Nat)) j1 p1] [] p3, .Constant (.int (m : Nat)) j2 p4, .Constant (.int (s : Nat)) j3 p5] X.env = (false, eval (.Call (.Name "_law_cell" p2) [e, .Constant (.int (i : Nat)) j1 p1] [] p3) X.env) :: starEach [.Constant (.int (m : Nat)) j2 p4, .Constant (.int (s : Nat)) j3 p5] X.env := by rfl)
    (n5 : starEach [.Constant (.int (m : Nat)) j2 p4, .Constant (.int (s : Nat)) j3 p5] X.env = (false, eval (.Constant (.int (m : Nat)) j2 p4) X.env) :: starEach [.Constant (.int (s : Nat)) j3 p5] X.env := by rfl)
    (n6 : starEach [.Constant (.int (s : Nat)) j3 p5] X.env = (false, eval (.Constant (.int (s : Nat)) j3 p5) X.env) :: starEach [] X.env := by rfl)
    (n7 : (backTo p7 (starEach [.Constant (.int (m : Nat)) j2 p4, .Constant (.int (s : Nat)) j3 p5] X.env)).any (·.1) = false := by rfl) :
    EX T X σ H (.Call (.Name "_law_pool" p6) [.Call (.Name "_law_cell" p2) [e, .Constant (.int (i : Nat)) j1 p1] [] p3, .Constant (.int (m : Nat)) j2 p4, .Constant (.int (s : Nat)) j3 p5] [] p7)
      (fun _ v H2 => ∃ l, v = .str (tx l) ∧ Lets l m) := by
  refine ex_callX Dr hr hk hg2 (eax_cons (ex_call (P := fun _ v _ => ∃ c : Int, v = .int c) Ce hr (by omega) hg1 (ea_cons he (ea_cons ee_int ea_nil n2) n1) (fun Ha Hb ga gb => ⟨_, ⟨a, ns, i, sqlGx (sqlGx hs ga) gb, rfl, rfl⟩, fun v H3 g3 q => q⟩) (by decide) n1 n3) (eax_cons (ee_int (i := (m : Nat))) (eax_cons (ee_int (i := (s : Nat))) eax_nil n6) n5) n4) ?_ (by decide) n4 n7
  rintro H1 vs H2 g1 g2 ⟨v1, r1, H3, e1, ⟨c, e2⟩, g3, g4, v2, r2, H4, e3, i2, g5, g6, v3, r3, H5, e4, i3, g7, g8, e5⟩
  subst e5 e4 e3 e1 e2
  exact ⟨[.int c, .int (m : Nat), .int (s : Nat)], _, .cons (.int c) (.cons (i2.mono (g6.ti)) (.cons (i3.mono g8.ti) .nil)), ⟨c, m, s, hm, hss, rfl, rfl⟩, fun v H3 g3 q => q⟩
end
abbrev sTwo : Stmt := topS 68
abbrev nTwo : List Str := ["_law_script", "_law_pool_here", "_law_ways", "_law_many", "_law_names", "_law_one", "_law_draws_here", "_law_other", "_law_rooms", "_law_letter_here", "_law_room", "_law_at"]
theorem sc_two : FnScope nTwo ["_law_script"] (defScope sTwo) := ⟨rfl, rfl, rfl, by decide +kernel, rfl, by decide +kernel, by decide +kernel⟩
def R_two (K : PySem.W.Frag) : Hp → List D → (Hp → V → Prop) → Prop := fun H ds post => ∃ (a : Addr) (ns : List Int), SqL K H a (ns.map V.int) ∧ ds = [.ref a] ∧ post = fun H' v => ∃ A B : Mach, Two A B ∧ Is H' (.tup [machD A, machD B]) v
/-- the second machine, on the way -/
def SB (m r : Nat) (names pool : List Nat) (B : Mach) : Prop := B.Ok ∧ ((m ≠ 3 ∧ B.rooms = r ∧ B.names = names) ∨ (m = 3 ∧ B.rooms ≤ 4 ∧ B.names.length ≤ 2 ∧ ∀ c ∈ B.names, c ∈ pool))
def SC (m r : Nat) (names pool : List Nat) (B : Mach) : Prop := B.Ok ∧ ((B.rooms = r ∧ B.names = names) ∨ (B.rooms ≤ 4 ∧ B.names.length ≤ 2 ∧ ∀ c ∈ B.names, c ∈ pool) ∨ (B.rooms = r ∧ B.names.Perm (names ++ [pool.getD 2 0])))
theorem sc_rooms {m r : Nat} {names pool : List Nat} {B : Mach} (h : SC m r names pool B) (h4 : r ≤ 7) : B.rooms ≤ 7 := by
  rcases h.2 with ⟨q, _⟩ | ⟨q, _⟩ | ⟨q, _⟩ <;> omega
theorem two_sc {A B : Mach} {m r : Nat} {names pool : List Nat} (hA : A.Ok) (hr : A.rooms ≤ 4) (hr2 : r = 2 * A.rooms - 1) (hn : A.names = names) (hs : Sub (pool.take 2) names) (hp : Lets pool 4) (h : SC m r names pool B) : Two A B := by
  have h2 : (pool.take 2).length = 2 := by rw [List.length_take, hp.len]; rfl
  have hl : names.length ≤ 2 := by have := hs.1; omega
  have hsub : ∀ c ∈ names, c ∈ pool.take 2 := hs.2
  have hpool : ∀ c ∈ pool.take 2, c ∈ letters := fun c hc => hp.mem c (List.mem_of_mem_take hc)
  obtain ⟨hB, q | q | q⟩ := h
  · exact two_of (r := 7) (n := 2) (S := pool.take 2) hA hB hr (by omega) (by omega) (by rw [hn]; omega) (by rw [q.2]; omega) (by rw [hn]; exact hsub) (by rw [q.2]; exact hsub) hpool (by omega) (by omega) (by decide)
  · exact two_of (r := 4) (n := 4) (S := pool) hA hB hr q.1 (by omega) (by rw [hn]; omega) (by omega) (by rw [hn]; exact fun c hc => List.mem_of_mem_take (hsub c hc)) q.2.2 hp.mem (by rw [hp.len]; exact Nat.le_refl _) (by omega) (by decide)
  · have hpl : pool.getD 2 0 ∈ letters := by
      have h3 : 2 < pool.length := by rw [hp.len]; decide
      rw [List.getD_eq_getElem?_getD, List.getElem?_eq_getElem h3]
      exact hp.mem _ (List.getElem_mem h3)
    refine two_of (r := 7) (n := 3) (S := pool.take 2 ++ [pool.getD 2 0]) hA hB hr (by omega) (by omega) (by rw [hn]; omega) ?_ (by rw [hn]; exact fun c hc => List.mem_append_left _ (hsub c hc)) (fun c hc => ?_) (fun c hc => ?_) (by rw [List.length_append, h2]; exact Nat.le_refl _) (by omega) (by decide)
    · rw [q.2.length_eq, List.length_append, List.length_singleton]; omega
    · rcases List.mem_append.mp (q.2.mem_iff.mp hc) with z | z
      · exact List.mem_append_left _ (hsub c z)
      · exact List.mem_append_right _ z
    · rcases List.mem_append.mp hc with z | z
      · exact hpool c z
      · rw [List.mem_singleton.mp z]; exact hpl
end
end Tk
set_option Elab.async false
set_option linter.all false
set_option maxRecDepth 10000
/-! The law's two, the walk. -/
namespace Tk
open PySem PySem.Spec PyProof.Rows L2 LamX NdefX
section
variable {P : Program} {w : World} {K : PySem.W.Frag} {mg : Str → Option Value} {base : Heap} {T : List NTab} {f c Pt CT : Addr} {fd : FuncData}
abbrev stT (va pw vone pd vB : V) (pool : List Nat) (r : Nat) (v3 v4 v9 v10 v11 : Option V) : L2.St := [some va, some (.str (tx pool)), some pw, v3, v4, some vone, some pd, some vB, some (.int (r : Nat)), v9, v10, v11]
set_option maxHeartbeats 4000000 in
theorem ok_two (F : Fun K "_law_two" "_law_two" sTwo f fd) (hm : mg "_law_two" = some (.ref f)) (G : Glo mg) (Ce : DefOk P w K mg base T 1 "_law_cell" nCell (R_cell K)) (Dr : DefOk P w K mg base T 2 "_law_draws" ["_law_cell_here", "_law_many", "_law_salt"] R_draws) (Po : DefOk P w K mg base T 3 "_law_pool" ["_law_cell_here", "_law_many", "_law_salt"] R_pool)
    (Ma : DefOk P w K mg base T 1 "_law_marks" ["_law_pool_here", "_law_number"] R_marks) (Mc : DefOk P w K mg base T 1 "_law_machine" pMach R_mach) (Db : DefOk P w K mg base T 1 "_law_doubled" pDbl R_dbl) (Ch : DefOk P w K mg base T 1 "_law_changed" pChg R_chg) (Wi : DefOk P w K mg base T 2 "_law_wide" ["_law_machine_here", "_law_letter_here"] R_wide) :
    DefOk P w K mg base T 4 "_law_two" ["_law_script"] (R_two K) := by
  refine def_ok F hm sc_two (fun _ _ _ _ _ _ us hl => match us, hl with | [_], _ => rfl) (fun H ds post ⟨_, _, _, e, _⟩ => by rw [e]; rfl) fun cdv A outer s H E vs ds post hr hT hi ⟨a, ns, hsq, e1, e2⟩ => ?_
  subst e1 e2
  obtain ⟨_, rfl, i1⟩ := isAll1 hi
  cases i1
  refine b_asg (ps_set (i := 1) sc_two.nd rfl (Or.inl rfl) wE_pe) hT (ex_pooled (i := 0) (m := 4) (s := 100003) Ce Po hr (by decide) rfl rfl (ee_v (pv 0) rfl (.ref a)) hsq (by decide) (by decide)) fun v H1 g1 t1 ⟨pool, e, hpool⟩ => ?_
  subst e
  refine b_asg (ps_set (i := 2) sc_two.nd rfl (Or.inl rfl) wE_pe) t1 (ex_drawn (i := 1) (m := 10) (s := 200017) Ce Dr hr (by decide) rfl rfl (ee_v (pv 0) rfl (.ref a)) (sqlGx hsq g1) (by decide) (by decide)) fun v H2 g2 t2 ⟨pW, lw, e, hW, hlw⟩ => ?_
  subst e
  -- an item of the ways
  have hway : ∀ {H' : Hp} {σ : L2.St} {i j : Nat} {p1 p2 p3 : Pos}, Gx T H2 H' → σ[2]? = some (some (.ref pW)) → i < 10 → EE T (cx0 P w K mg base nTwo "_law_two" sTwo f cdv A outer s H E) σ H' (.Subscript (.Name "_law_ways" p1) (.Constant (.int (i : Nat)) j p2) p3) (.int (lw.getD i 0 : Nat)) := fun {H' σ i j p1 p2 p3} g h hi =>
    ee_ixL (p := pW) (xs := natsV lw) (i := (i : Nat)) (ee_v (pv 2) h (.ref _)) (g.lst hW) ee_int (nat_at (by omega)) (.int _)
  have hmod : ∀ {H' : Hp} {σ : L2.St} {i j j2 m : Nat} {p1 p2 p3 p4 p5 : Pos}, Gx T H2 H' → σ[2]? = some (some (.ref pW)) → i < 10 → 0 < m → EE T (cx0 P w K mg base nTwo "_law_two" sTwo f cdv A outer s H E) σ H' (.BinOp (.Subscript (.Name "_law_ways" p1) (.Constant (.int (i : Nat)) j p2) p3) .Mod (.Constant (.int (m : Nat)) j2 p4) p5) (.int ((lw.getD i 0 % m : Nat) : Int)) := fun {H' σ i j j2 m p1 p2 p3 p4 p5} g h hi hm =>
    EE.is (ee_mod (hway g h hi) ee_int (by omega)) (by congr 1)
  generalize hc : 1 + lw.getD 1 0 % 4 = cN
  have hc1 : 0 < cN ∧ cN ≤ 4 := by omega
  refine b_asgA (d := .int (cN : Nat)) (ps_set (i := 3) sc_two.nd rfl (Or.inl rfl) wE_pe) t2 (EE.is (ee_add ee_int (hmod (i := 1) (m := 4) (Gx.refl _) rfl (by decide) (by decide))) (by rw [← hc]; congr 1)) rfl fun H3 g3 t3 => ?_
  refine b_asg (ps_set (i := 4) sc_two.nd rfl (Or.inl rfl) wE_pe) t3 (ex_call (P := fun _ v _ => ∃ r, v = .str (tx r) ∧ Sub (pool.take 2) r) Ma hr (by decide) rfl (ea_cons (ee_slTo (k := 2) (ee_v (pv 1) rfl (.str _)) ee_int (by rw [hpool.len]; decide)) (ea_cons (hmod (i := 2) (m := 4) g3 rfl (by decide) (by decide)) ea_nil)) (fun Ha Hb ga gb => ⟨_, ⟨pool.take 2, _, by rw [List.length_take, hpool.len]; decide, rfl, rfl⟩, fun v H3 g3 q => q⟩)) fun v H4 g4 t4 ⟨names, e, hnm⟩ => ?_
  subst e
  have hnl : names.length ≤ 2 := by have := hnm.1; rw [List.length_take, hpool.len] at this; exact this
  have h2n : 2 ^ names.length ≤ 4 := by
    have : 2 ^ names.length ≤ 2 ^ 2 := Nat.pow_le_pow_right (by decide) hnl
    omega
  have g24 := g3.trans g4
  have g04 := (g1.trans g2).trans g24
  have hb1 : cN + 2 ^ names.length * cN * cN ≤ 68 := by
    have q1 : 2 ^ names.length * cN ≤ 4 * 4 := Nat.mul_le_mul h2n hc1.2
    have q2 : 2 ^ names.length * cN * cN ≤ 4 * 4 * 4 := Nat.mul_le_mul q1 hc1.2
    omega
  show wB _ _ _ ([some (.ref a), some (.str (tx pool)), some (.ref pW), some (.int (cN : Nat)), some (.str (tx names)), none, none, none, none, none, none, none]) H4
  refine b_asg (P := fun _ v H' => IsMach names cN H' v) (ps_set (i := 5) sc_two.nd rfl (Or.inl rfl) wE_pe) t4 (ex_callX Mc hr (by decide) rfl (eax_cons (ee_v (pv 4) rfl (.str _)) (eax_cons (ee_v (pv 3) rfl (.int _)) (eax_cons (ee_v (pv 3) rfl (.int _)) (eax_cons (ex_drawn (i := 2) (m := 68) (s := 300007) Ce Dr hr (by decide) rfl rfl (ee_v (pv 0) rfl (.ref a)) (sqlGx hsq g04) (by decide) (by decide)) eax_nil)))) ?_) fun vone H5 g5 t5 ⟨M1, hO1, hn1, hr1, im1⟩ => ?_
  · rintro Ha vs Hb ga gb ⟨v1, r1, H3, e1, i1, q3, q4, v2, r2, H4, e3, i2, q5, q6, v3, r3, H5, e4, i3, q7, q8, v4, r4, H6, e5, ⟨p, l, e6, hp, hl⟩, q9, q10, e7⟩
    subst e7 e5 e4 e3 e1 e6
    exact ⟨[.str (tx names), .int (cN : Nat), .int (cN : Nat), .ref p], _, .cons (i1.mono q4.ti) (.cons (i2.mono q6.ti) (.cons (i3.mono q8.ti) (.cons (.ref p) .nil))), ⟨names, cN, p, l, by omega, hc1.1, by omega, q10.lst hp, by omega, by omega, rfl, rfl⟩, fun v H3 g3 q => q⟩
  have g05 := g04.trans g5
  show wB _ _ _ ([some (.ref a), some (.str (tx pool)), some (.ref pW), some (.int (cN : Nat)), some (.str (tx names)), some vone, none, none, none, none, none, none]) H5
  refine b_asg (ps_set (i := 6) sc_two.nd rfl (Or.inl rfl) wE_pe) t5 (ex_drawn (i := 3) (m := 196) (s := 400009) Ce Dr hr (by decide) rfl rfl (ee_v (pv 0) rfl (.ref a)) (sqlGx hsq g05) (by decide) (by decide)) fun v H6 g6 t6 ⟨pD, ld, e, hD, hld⟩ => ?_
  subst e
  have g26 := (g24.trans g5).trans g6
  show wB _ _ _ ([some (.ref a), some (.str (tx pool)), some (.ref pW), some (.int (cN : Nat)), some (.str (tx names)), some vone, some (.ref pD), none, none, none, none, none]) H6
  have hl1 : M1.letters ≤ 4 := by unfold Mach.letters; rw [hn1]; exact h2n
  refine b_asg (P := fun _ v H' => ∃ M' : Mach, M'.Ok ∧ M'.rooms = 2 * M1.rooms - 1 ∧ M'.names = M1.names ∧ Is H' (machD M') v) (ps_set (i := 7) sc_two.nd rfl (Or.inl rfl) wE_pe) t6 (ex_call (ds := [machD M1, .ref pD, .int ((2 + lw.getD 6 0 % 2 : Nat) : Int)]) Db hr (by decide) rfl (ea_cons (ee_v (pv 5) rfl (im1.mono g6.ti)) (ea_cons (ee_v (pv 6) rfl (.ref _)) (ea_cons (EE.is (ee_add ee_int (hmod (i := 6) (m := 2) g26 rfl (by decide) (by decide))) (by congr 1)) ea_nil))) (fun Ha Hb ga gb => ⟨_, ⟨M1, pD, ld, _, hO1, by omega, by omega, (ga.trans gb).lst hD, by omega, by omega, by omega, rfl, rfl⟩, fun v H3 g3 q => q⟩)) fun vB H7 g7 t7 ⟨B, hOB, hrB, hnB, iB⟩ => ?_
  rw [hr1] at hrB
  rw [hn1] at hnB
  have g27 := g26.trans g7
  show wB _ _ _ ([some (.ref a), some (.str (tx pool)), some (.ref pW), some (.int (cN : Nat)), some (.str (tx names)), some vone, some (.ref pD), some vB, none, none, none, none]) H7
  refine b_asgA (d := .int ((2 * cN - 1 : Nat) : Int)) (ps_set (i := 8) sc_two.nd rfl (Or.inl rfl) wE_pe) t7 (EE.is (ee_lenT rfl G.len (ds := B.good.map .bl) (mach_good (M := B) (ee_v (pv 7) rfl iB))) (by rw [List.length_map]; congr 2)) rfl fun H8 g8 t8 => ?_
  have g28 := g27.trans g8
  have g08 : Gx T H H8 := ((g1.trans g2).trans g28)
  have im8 : Is H8 (machD M1) vone := im1.mono ((g6.trans g7).trans g8).ti
  have hD8 : H8 pD = some (.lst (natsV ld)) := (g7.trans g8).lst hD
  have iB8 := iB.mono g8.ti
  have hr7 : 2 * cN - 1 ≤ 7 := by omega
  have hlB : ∀ {B' : Mach}, B'.names.length ≤ 3 → B'.letters ≤ 8192 := fun {B'} h => by
    unfold Mach.letters
    have : 2 ^ B'.names.length ≤ 2 ^ 3 := Nat.pow_le_pow_right (by decide) h
    omega
  have hpos : ∀ {B' : Mach}, 0 < B'.letters := fun {B'} => Nat.pow_pos (by decide)
  show wB _ _ _ ([some (.ref a), some (.str (tx pool)), some (.ref pW), some (.int (cN : Nat)), some (.str (tx names)), some vone, some (.ref pD), some vB, some (.int ((2 * cN - 1 : Nat) : Int)), none, none, none]) H8
  -- the second machine is changed at one place
  refine b_whenI (fun σ' H' => ∃ (vB : V) (v9 v10 v11 : Option V) (B : Mach), σ' = [some (.ref a), some (.str (tx pool)), some (.ref pW), some (.int (cN : Nat)), some (.str (tx names)), some vone, some (.ref pD), some vB, some (.int ((2 * cN - 1 : Nat) : Int)), v9, v10, v11] ∧ Gx T H8 H' ∧ B.Ok ∧ B.rooms = 2 * cN - 1 ∧ B.names = names ∧ Is H' (machD B) vB) t8 (et_eqI (hmod (i := 0) (m := 6) g28 rfl (by decide) (by decide)) ee_int) (fun hcd H9 g9 t9 => ?_) (fun hcd H9 g9 t9 => ⟨vB, none, none, none, B, rfl, g9, hOB, hrB, hnB, iB8.mono g9.ti⟩) ?_
  · have g29 := g28.trans g9
    have iB9 := iB8.mono g9.ti
    have hlet : B.letters ≤ 8192 := hlB (by rw [hnB]; omega)
    refine b_asgA (d := .int ((lw.getD 7 0 % B.letters : Nat) : Int)) (ps_set (i := 9) sc_two.nd rfl (Or.inl rfl) wE_pe) t9 (EE.is (ee_mod (hway (i := 7) g29 rfl (by decide)) (EE.is (ee_lenT rfl G.len (ds := B.table.map rowsD) (mach_table (M := B) (ee_v (pv 7) rfl iB9))) (by rw [List.length_map, hOB.tl])) (by have := hpos (B' := B); omega)) (by congr 1)) rfl fun H10 g10 t10 => ?_
    refine b_asgA (d := .int ((lw.getD 5 0 % (2 * cN - 1) : Nat) : Int)) (ps_set (i := 10) sc_two.nd rfl (Or.inl rfl) wE_pe) t10 (EE.is (ee_mod (hway (i := 5) (g29.trans g10) rfl (by decide)) (ee_v (pv 8) rfl (.int _)) (by omega)) (by congr 1)) rfl fun H11 g11 t11 => ?_
    have g211 := (g29.trans g10).trans g11
    refine b_asg (P := fun _ v H' => Like B H' v) (ps_set (i := 7) sc_two.nd rfl (Or.inl rfl) wE_pe) t11 (ex_call (ds := [machD B, .int ((lw.getD 7 0 % B.letters : Nat) : Int), .int ((lw.getD 8 0 % (2 * cN - 1) : Nat) : Int), .int ((lw.getD 9 0 % (2 * cN - 1) : Nat) : Int), .int ((lw.getD 5 0 % (2 * cN - 1) : Nat) : Int)]) Ch hr (by decide) rfl (ea_cons (ee_v (pv 7) rfl (iB9.mono (g10.trans g11).ti)) (ea_cons (ee_v (pv 9) rfl (.int _)) (ea_cons (EE.is (ee_mod (hway (i := 8) g211 rfl (by decide)) (ee_v (pv 8) rfl (.int _)) (by omega)) (by congr 1)) (ea_cons (EE.is (ee_mod (hway (i := 9) g211 rfl (by decide)) (ee_v (pv 8) rfl (.int _)) (by omega)) (by congr 1)) (ea_cons (ee_v (pv 10) rfl (.int _)) ea_nil)))))
      (fun Ha Hb ga gb => ⟨_, ⟨B, _, _, _, _, hOB, by omega, hlet, Nat.mod_lt _ hpos, by rw [hrB]; exact Nat.mod_lt _ (by omega), by rw [hrB]; exact Nat.mod_lt _ (by omega), by rw [hrB]; exact Nat.mod_lt _ (by omega), rfl, rfl⟩, fun v H3 g3 q => q⟩)) fun v H12 g12 t12 ⟨B', q1, q2, q3, q4⟩ => b_nil ⟨v, _, _, _, B', rfl, ((g9.trans g10).trans g11).trans g12, q1, by rw [q2, hrB], by rw [q3, hnB], q4⟩
  rintro σ' H' ⟨vB2, v9, v10, v11, B2, rfl, gA, hO2, hr2, hn2, i2⟩
  have tA := (g08.trans gA).tab hT
  have g2A := g28.trans gA
  generalize hm0 : lw.getD 0 0 % 6 = md
  -- another machine
  refine b_whenI (fun σ' H' => ∃ (vB : V) (v3 v4 v9 v10 v11 : Option V) (B : Mach), σ' = [some (.ref a), some (.str (tx pool)), some (.ref pW), v3, v4, some vone, some (.ref pD), some vB, some (.int ((2 * cN - 1 : Nat) : Int)), v9, v10, v11] ∧ Gx T H8 H' ∧ SB md (2 * cN - 1) names pool B ∧ Is H' (machD B) vB) tA (ET.is (et_eqI (hmod (i := 0) (m := 6) g2A rfl (by decide) (by decide)) ee_int) (c' := decide (md = 3)) (by rw [hm0, decide_eq_decide]; omega)) (fun hcd H9 g9 t9 => ?_) (fun hcd H9 g9 t9 => ⟨vB2, _, _, v9, v10, v11, B2, rfl, gA.trans g9, ⟨hO2, .inl ⟨of_decide_eq_false hcd, hr2, hn2⟩⟩, i2.mono g9.ti⟩) ?_
  · have hmd := of_decide_eq_true hcd
    have g29 := g2A.trans g9
    have h3 : lw.getD 3 0 % 3 < 3 := Nat.mod_lt _ (by decide)
    generalize hk3 : lw.getD 3 0 % 3 = k3 at h3
    have hm3 : ∀ {H' : Hp} {σ : L2.St} {j j2 : Nat} {p1 p2 p3 p4 p5 : Pos}, Gx T H2 H' → σ[2]? = some (some (.ref pW)) → EE T (cx0 P w K mg base nTwo "_law_two" sTwo f cdv A outer s H E) σ H' (.BinOp (.Subscript (.Name "_law_ways" p1) (.Constant (.int (3 : Nat)) j p2) p3) .Mod (.Constant (.int (3 : Nat)) j2 p4) p5) (.int (k3 : Nat)) := fun {H' σ j j2 p1 p2 p3 p4 p5} g h => by
      have := hmod (i := 3) (m := 3) (j := j) (j2 := j2) (p1 := p1) (p2 := p2) (p3 := p3) (p4 := p4) (p5 := p5) g h (by decide) (by decide)
      rw [hk3] at this
      exact this
    refine b_asg (ps_set (i := 4) sc_two.nd rfl (Or.inl rfl) wE_pe) t9 (ex_call (P := fun _ v _ => ∃ r, v = .str (tx r) ∧ Sub ((pool.drop k3).take 2) r) Ma hr (by decide) rfl (ea_cons (EE.is (ee_slBoth (k := k3) (m := k3 + 2) (ee_v (pv 1) rfl (.str _)) (hm3 g29 rfl) (EE.is (ee_add (hm3 g29 rfl) ee_int) (by congr 1)) (by rw [hpool.len]; decide) (by rw [hpool.len]; omega) (by rw [hpool.len]; omega)) (by rw [Nat.add_sub_cancel_left])) (ea_cons (hmod (i := 4) (m := 4) g29 rfl (by decide) (by decide)) ea_nil)) (fun Ha Hb ga gb => ⟨_, ⟨(pool.drop k3).take 2, _, by rw [List.length_take, List.length_drop, hpool.len]; omega, rfl, rfl⟩, fun v H3 g3 q => q⟩)) fun v H10 g10 t10 ⟨nm, e, hnm2⟩ => ?_
    subst e
    have hnl2 : nm.length ≤ 2 := by have := hnm2.1; rw [List.length_take] at this; omega
    have hc5 : lw.getD 5 0 % 4 < 4 := Nat.mod_lt _ (by decide)
    refine b_asgA (d := .int ((1 + lw.getD 5 0 % 4 : Nat) : Int)) (ps_set (i := 3) sc_two.nd rfl (Or.inl rfl) wE_pe) t10 (EE.is (ee_add ee_int (hmod (i := 5) (m := 4) (g29.trans g10) rfl (by decide) (by decide))) (by congr 1)) rfl fun H11 g11 t11 => ?_
    generalize hc55 : 1 + lw.getD 5 0 % 4 = c5
    have hc5b : 0 < c5 ∧ c5 ≤ 4 := by omega
    have h2n2 : 2 ^ nm.length ≤ 4 := by
      have : 2 ^ nm.length ≤ 2 ^ 2 := Nat.pow_le_pow_right (by decide) hnl2
      omega
    have hb2 : c5 + 2 ^ nm.length * c5 * c5 ≤ 68 := by
      have q1 : 2 ^ nm.length * c5 ≤ 4 * 4 := Nat.mul_le_mul h2n2 hc5b.2
      have q2 : 2 ^ nm.length * c5 * c5 ≤ 4 * 4 * 4 := Nat.mul_le_mul q1 hc5b.2
      omega
    have gA11 := ((gA.trans g9).trans g10).trans g11
    show wB _ _ _ ([some (.ref a), some (.str (tx pool)), some (.ref pW), some (.int (c5 : Nat)), some (.str (tx nm)), some vone, some (.ref pD), some vB2, some (.int ((2 * cN - 1 : Nat) : Int)), v9, v10, v11]) H11
    refine b_asg (P := fun _ v H' => IsMach nm c5 H' v) (ps_set (i := 7) sc_two.nd rfl (Or.inl rfl) wE_pe) t11 (ex_call (ds := [.str (tx nm), .int (c5 : Nat), .int (c5 : Nat), .ref pD]) Mc hr (by decide) rfl (ea_cons (ee_v (pv 4) rfl (.str _)) (ea_cons (ee_v (pv 3) rfl (.int _)) (ea_cons (ee_v (pv 3) rfl (.int _)) (ea_cons (ee_v (pv 6) rfl (.ref _)) ea_nil))))
      (fun Ha Hb ga gb => ⟨_, ⟨nm, c5, pD, ld, by omega, hc5b.1, by omega, ((gA11.trans ga).trans gb).lst hD8, by omega, by omega, rfl, rfl⟩, fun v H3 g3 q => q⟩)) fun v H12 g12 t12 ⟨B', q1, q2, q3, q4⟩ => b_nil ⟨v, _, _, _, _, _, B', rfl, gA11.trans g12, ⟨q1, .inr ⟨hmd, by omega, by rw [q2]; exact hnl2, fun c hc => ?_⟩⟩, q4⟩
    rw [q2] at hc
    exact List.mem_of_mem_drop (List.mem_of_mem_take (hnm2.2 c hc))
  rintro σ' H' ⟨vB3, v3, v4, v9, v10, v11, B3, rfl, gB, hSB, i3⟩
  have tB := (g08.trans gB).tab hT
  have g2B := g28.trans gB
  have hB3n : B3.names.length ≤ 2 := by
    rcases hSB.2 with ⟨_, _, q⟩ | ⟨_, _, q, _⟩
    · rw [q]; exact hnl
    · exact q
  -- one more name
  refine b_whenI (fun σ' H' => ∃ (vB : V) (v3 v4 v9 v10 v11 : Option V) (B : Mach), σ' = [some (.ref a), some (.str (tx pool)), some (.ref pW), v3, v4, some vone, some (.ref pD), some vB, some (.int ((2 * cN - 1 : Nat) : Int)), v9, v10, v11] ∧ Gx T H8 H' ∧ SC md (2 * cN - 1) names pool B ∧ (md = 5 → B.rooms = 2 * cN - 1) ∧ Is H' (machD B) vB) tB (ET.is (et_eqI (hmod (i := 0) (m := 6) g2B rfl (by decide) (by decide)) ee_int) (c' := decide (md = 4)) (by rw [hm0, decide_eq_decide]; omega)) (fun hcd H9 g9 t9 => ?_) (fun hcd H9 g9 t9 => ⟨vB3, v3, v4, v9, v10, v11, B3, rfl, gB.trans g9, ⟨hSB.1, ?_⟩, ?_, i3.mono g9.ti⟩) ?_
  · have hmd := of_decide_eq_true hcd
    obtain ⟨q1, q2⟩ : B3.rooms = 2 * cN - 1 ∧ B3.names = names := by
      rcases hSB.2 with ⟨_, q⟩ | ⟨q, _⟩
      · exact q
      · omega
    have h2p : 2 < pool.length := by rw [hpool.len]; decide
    refine b_asg (P := fun _ v H' => ∃ M' : Mach, M'.Ok ∧ M'.rooms = B3.rooms ∧ M'.names.Perm (B3.names ++ [pool.getD 2 0]) ∧ Is H' (machD M') v) (ps_set (i := 7) sc_two.nd rfl (Or.inl rfl) wE_pe) t9 (ex_call (ds := [machD B3, .str (tx [pool.getD 2 0])]) Wi hr (by decide) rfl (ea_cons (ee_v (pv 7) rfl (i3.mono g9.ti)) (ea_cons (ee_ixS (z := tx pool) (i := 2) (c := pool.getD 2 0) (ee_v (pv 1) rfl (.str _)) ee_int (by rw [tx_len, hpool.len]; exact sz_ok (by decide)) (by show pool[2]? = _; rw [List.getD_eq_getElem?_getD, List.getElem?_eq_getElem h2p]; rfl)) ea_nil)) (fun Ha Hb ga gb => ⟨_, ⟨B3, pool.getD 2 0, hSB.1, by omega, rfl, rfl⟩, fun v H3 g3 q => q⟩)) fun v H12 g12 t12 ⟨B', z1, z2, z3, z4⟩ => b_nil ⟨v, _, _, _, _, _, B', rfl, (gB.trans g9).trans g12, ⟨z1, .inr (.inr ⟨by rw [z2, q1], by rw [q2] at z3; exact z3⟩)⟩, fun h => by omega, z4⟩
  · rcases hSB.2 with ⟨_, q⟩ | ⟨_, q⟩
    · exact .inl q
    · exact .inr (.inl q)
  · intro h
    rcases hSB.2 with ⟨_, q, _⟩ | ⟨q, _⟩
    · exact q
    · omega
  rintro σ' H' ⟨vB4, v3, v4, v9, v10, v11, B4, rfl, gC, hSC, h5, i4⟩
  have tC := (g08.trans gC).tab hT
  have g2C := g28.trans gC
  -- one room turned
  refine b_whenI (fun σ' H' => ∃ (vB : V) (v3 v4 v9 v10 v11 : Option V) (B : Mach), σ' = [some (.ref a), some (.str (tx pool)), some (.ref pW), v3, v4, some vone, some (.ref pD), some vB, some (.int ((2 * cN - 1 : Nat) : Int)), v9, v10, v11] ∧ Gx T H8 H' ∧ SC md (2 * cN - 1) names pool B ∧ Is H' (machD B) vB) tC (ET.is (et_eqI (hmod (i := 0) (m := 6) g2C rfl (by decide) (by decide)) ee_int) (c' := decide (md = 5)) (by rw [hm0, decide_eq_decide]; omega)) (fun hcd H9 g9 t9 => ?_) (fun hcd H9 g9 t9 => ⟨vB4, v3, v4, v9, v10, v11, B4, rfl, gC.trans g9, hSC, i4.mono g9.ti⟩) ?_
  · have hr5 := h5 (of_decide_eq_true hcd)
    have hk : lw.getD 7 0 % (2 * cN - 1) < 2 * cN - 1 := Nat.mod_lt _ (by omega)
    refine b_asgA (d := .int ((lw.getD 7 0 % (2 * cN - 1) : Nat) : Int)) (ps_set (i := 11) sc_two.nd rfl (Or.inl rfl) wE_pe) t9 (EE.is (ee_mod (hway (i := 7) (g2C.trans g9) rfl (by decide)) (ee_v (pv 8) rfl (.int _)) (by omega)) (by congr 1)) rfl fun H10 g10 t10 => ?_
    generalize lw.getD 7 0 % (2 * cN - 1) = kk at hk
    have i10 := i4.mono (g9.trans g10).ti
    have hgl : B4.good.length = 2 * cN - 1 := hr5
    show wB _ _ _ ([some (.ref a), some (.str (tx pool)), some (.ref pW), v3, v4, some vone, some (.ref pD), some vB4, some (.int ((2 * cN - 1 : Nat) : Int)), v9, v10, some (.int (kk : Nat))]) H10
    refine b_asg (P := fun _ v H' => Is H' (machD ⟨B4.names, putAt B4.good kk (!(B4.g kk)), B4.table⟩) v) (ps_set (i := 7) sc_two.nd rfl (Or.inl rfl) wE_pe) t10 (ee_tup (ds := [.str (tx B4.names), blsD (putAt B4.good kk (!(B4.g kk))), tabD B4.table]) (ea_cons (mach_names (M := B4) (ee_v (pv 7) rfl i10)) (ea_cons (EE.is (ee_put (ds := B4.good.map .bl) (d := .bl (!(B4.g kk))) (i := kk) (by rw [List.length_map]; omega) (by rw [List.length_map]; omega) (mach_good (M := B4) (ee_v (pv 7) rfl i10)) (ee_v (pv 11) rfl (.int _)) (ee_not (mach_room (M := B4) (ee_v (pv 7) rfl i10) (ee_v (pv 11) rfl (.int _)) (by omega))) (mach_good (M := B4) (ee_v (pv 7) rfl i10)) (ee_v (pv 11) rfl (.int _))) (by unfold blsD; rw [putAt_map])) (ea_cons (mach_table (M := B4) (ee_v (pv 7) rfl i10)) ea_nil))) (sz_ok (by show 3 ≤ 1000000; decide))) fun v H12 g12 t12 q4 => b_nil ⟨v, _, _, _, _, _, _, rfl, ((gC.trans g9).trans g10).trans g12, ?_, q4⟩
    have hro : (⟨B4.names, putAt B4.good kk (!(B4.g kk)), B4.table⟩ : Mach).rooms = B4.rooms := putAt_len (by omega)
    refine ⟨⟨by rw [hro]; exact hSC.1.pos, hSC.1.tl, fun x rows e => by rw [hro]; exact hSC.1.rl x rows e⟩, ?_⟩
    rw [hro]
    exact hSC.2
  rintro σ' H' ⟨vB5, v3, v4, v9, v10, v11, B5, rfl, gD, hSC5, i5⟩
  have tD := (g08.trans gD).tab hT
  have g2D := g28.trans gD
  have htwo : Two M1 B5 := two_sc hO1 (by omega) (by rw [hr1]) hn1 hnm hpool hSC5
  have i1D := im8.mono gD.ti
  refine b_when tD (et_eqI (ee_mod (ee_fdiv (hway (i := 3) g2D rfl (by decide)) ee_int ⟨by decide, by decide⟩) ee_int (by decide)) ee_int) (fun hcd H9 g9 t9 => ?_) (fun hcd H9 g9 t9 => ?_)
  · exact b_ret t9 (ee_tup (ds := [machD B5, machD M1]) (ea_cons (ee_v (pv 7) rfl (i5.mono g9.ti)) (ea_cons (ee_v (pv 5) rfl (i1D.mono g9.ti)) ea_nil)) (sz_ok (by show 2 ≤ 1000000; decide))) fun v H10 g10 t10 i => ⟨((g08.trans gD).trans g9).trans g10, B5, M1, htwo.symm, i⟩
  · exact b_ret t9 (ee_tup (ds := [machD M1, machD B5]) (ea_cons (ee_v (pv 5) rfl (i1D.mono g9.ti)) (ea_cons (ee_v (pv 7) rfl (i5.mono g9.ti)) ea_nil)) (sz_ok (by show 2 ≤ 1000000; decide))) fun v H10 g10 t10 i => ⟨((g08.trans gD).trans g9).trans g10, M1, B5, htwo, i⟩
end
end Tk
set_option Elab.async false
set_option linter.all false
set_option maxRecDepth 10000
/-! The law's same. -/
namespace Tk
open PySem PySem.Spec PyProof.Rows L2 LamX NdefX
noncomputable def sameP (d e : D) : Bool := @decide (d = e) (Classical.propDecidable _)
theorem sameP_iff {d e : D} : sameP d e = true ↔ d = e := by unfold sameP; exact @decide_eq_true_iff _ (Classical.propDecidable _)
theorem sameP_yes {d e : D} (h : d = e) : sameP d e = true := sameP_iff.mpr h
theorem sameP_no {d e : D} (h : d ≠ e) : sameP d e = false := by
  cases q : sameP d e with
  | false => rfl
  | true => exact absurd (sameP_iff.mp q) h
/-- plain data, n tuples deep at most -/
inductive Pn : Nat → D → Prop where
  | non (n : Nat) : Pn n .non
  | bl (n : Nat) (b : Bool) : Pn n (.bl b)
  | int (n : Nat) (i : Int) : Pn n (.int i)
  | str (n : Nat) (s : Str) : Pn n (.str s)
  | tup {n : Nat} {l : List D} (h : ∀ d ∈ l, Pn n d) (hz : l.length ≤ 1000000) : Pn (n + 1) (.tup l)
def tyD : D → String
  | .non => "NoneType"
  | .bl _ => "bool"
  | .int _ => "int"
  | .str _ => "str"
  | .tup _ => "tuple"
  | .ref _ => ""
theorem ty_of {K : PySem.W.Frag} {H : Hp} {d : D} {v : V} {n : Nat} (hp : Pn n d) (h : Is H d v) : TyX K H v (.type (tyD d)) := by
  cases hp with
  | non => cases h; exact .base .non
  | bl => cases h; exact .base (.bl _)
  | int => cases h; exact .base (.int _)
  | str => cases h; exact .base (.str _)
  | tup hh => cases h with | tup h1 _ => exact .base (.tup h1)
section
variable {T : List NTab} {X : Cx} {σ : L2.St} {H : Hp} {e : Expr} {pos p1 p2 : Pos}
/-- isinstance(e, a built-in class) -/
theorem ee_isi {d : D} {n : Nat} {x : Str} {S : String} {b : Bool} (hp : Pn n d) (hg : Gl X "isinstance") (hm : X.mg "isinstance" = none) (hg2 : Gl X x) (hm2 : X.mg x = none) (hv : bootBuiltins x = some (.type S)) (h : EE T X σ H e d) (hk : kitB (tyD d) S = some b) (hn : x ≠ "__name__" := by decide) (hd : (x == ("__debug__" : Str)) = false := by decide) (hb : bootBuiltins "isinstance" = some (.builtin "isinstance") := by decide +kernel)
    (he : starEach [e, .Name x p2] X.env = (false, eval e X.env) :: starEach [.Name x p2] X.env := by rfl) (he2 : starEach [.Name x p2] X.env = (false, eval (.Name x p2) X.env) :: starEach [] X.env := by rfl) (hpl : (backTo pos (starEach [.Name x p2] X.env)).any (·.1) = false := by rfl) :
    EE T X σ H (.Call (.Name "isinstance" p1) [e, .Name x p2] [] pos) (.bl b) := fun H1 g t =>
  PE_to (pe_callB call_isi hg hm hb (pa_cons wE_pe (pa_cons (pe_bltn (v := .ty S) (u := .type S) hg2 hm2 hv rfl hn hd) pa_nil he2) he) (by decide) (by decide) he hpl) (wE_imp (h H1 g t) fun u H2 ⟨g2, i2⟩ => ⟨u, .ty S, .type (tyD d), .type S, b, rfl, .ty S, ty_of hp i2, kit_ty hk, g2, .bl _⟩)
end
def isTup : D → Bool
  | .tup _ => true
  | _ => false
def isBl : D → Bool
  | .bl _ => true
  | _ => false
def isIn : D → Bool
  | .int _ => true
  | .bl _ => true
  | _ => false
def isSt : D → Bool
  | .str _ => true
  | _ => false
theorem kTup {n : Nat} {d : D} (h : Pn n d) : kitB (tyD d) "tuple" = some (isTup d) := by
  cases h
  · show kitB "NoneType" "tuple" = some false; decide +kernel
  · show kitB "bool" "tuple" = some false; decide +kernel
  · show kitB "int" "tuple" = some false; decide +kernel
  · show kitB "str" "tuple" = some false; decide +kernel
  · show kitB "tuple" "tuple" = some true; decide +kernel
theorem kBool {n : Nat} {d : D} (h : Pn n d) : kitB (tyD d) "bool" = some (isBl d) := by
  cases h
  · show kitB "NoneType" "bool" = some false; decide +kernel
  · show kitB "bool" "bool" = some true; decide +kernel
  · show kitB "int" "bool" = some false; decide +kernel
  · show kitB "str" "bool" = some false; decide +kernel
  · show kitB "tuple" "bool" = some false; decide +kernel
theorem kInt {n : Nat} {d : D} (h : Pn n d) : kitB (tyD d) "int" = some (isIn d) := by
  cases h
  · show kitB "NoneType" "int" = some false; decide +kernel
  · show kitB "bool" "int" = some true; decide +kernel
  · show kitB "int" "int" = some true; decide +kernel
  · show kitB "str" "int" = some false; decide +kernel
  · show kitB "tuple" "int" = some false; decide +kernel
theorem kStr {n : Nat} {d : D} (h : Pn n d) : kitB (tyD d) "str" = some (isSt d) := by
  cases h
  · show kitB "NoneType" "str" = some false; decide +kernel
  · show kitB "bool" "str" = some false; decide +kernel
  · show kitB "int" "str" = some false; decide +kernel
  · show kitB "str" "str" = some true; decide +kernel
  · show kitB "tuple" "str" = some false; decide +kernel
theorem no_ {d e : D} {b : Bool} (h : d ≠ e) (hb : b = false) : b = sameP d e := by rw [sameP_no h, hb]
theorem tup_same {ds es : List D} (hl : ds.length = es.length) (h : ∀ (j : Nat) (d e : D), ds[j]? = some d → es[j]? = some e → d = e) : D.tup ds = .tup es := by
  congr 1
  refine List.ext_getElem? fun j => ?_
  by_cases hj : j < es.length
  · rw [List.getElem?_eq_getElem hj, List.getElem?_eq_getElem (by omega)]
    rw [h j _ _ (List.getElem?_eq_getElem (by omega)) (List.getElem?_eq_getElem hj)]
  · rw [List.getElem?_eq_none (by omega), List.getElem?_eq_none (by omega)]
section
variable {P : Program} {w : World} {K : PySem.W.Frag} {mg : Str → Option Value} {base : Heap} {T : List NTab} {f c Pt CT : Addr} {fd : FuncData}
abbrev sSame : Stmt := topS 59
abbrev nSame : List Str := ["_law_found", "_law_due", "_law_k"]
theorem sc_same : FnScope nSame ["_law_found", "_law_due"] (defScope sSame) := ⟨rfl, rfl, rfl, by decide +kernel, rfl, by decide +kernel, by decide +kernel⟩
def R_same (n : Nat) : Hp → List D → (Hp → V → Prop) → Prop := fun _ ds post => ∃ (d e : D) (m : Nat), Pn m d ∧ Pn n e ∧ ds = [d, e] ∧ post = fun _ v => v = .bl (sameP d e)
set_option maxHeartbeats 1000000 in
theorem ok_same1 {n : Nat} (F : Fun K "_law_same" "_law_same" sSame f fd) (hm : mg "_law_same" = some (.ref f)) (G : Glo mg) (IH : ∀ m, n = m + 1 → DefOk P w K mg base T (m + 1) "_law_same" ["_law_found", "_law_due"] (R_same m)) : DefOk P w K mg base T (n + 1) "_law_same" ["_law_found", "_law_due"] (R_same n) := by
  refine def_ok F hm sc_same (fun _ _ _ _ _ _ us hl => match us, hl with | [_, _], _ => rfl) (fun H ds post ⟨_, _, _, _, _, e, _⟩ => by rw [e]; rfl) fun cdv A outer s H E vs ds post hr hT hi ⟨d, e, m, hd, he, e1, e2⟩ => ?_
  subst e1 e2
  obtain ⟨vd, ve, rfl, id, ie⟩ := isAll2 hi
  have bt : bootBuiltins "tuple" = some (.type "tuple") := by decide +kernel
  have bb : bootBuiltins "bool" = some (.type "bool") := by decide +kernel
  have bi : bootBuiltins "int" = some (.type "int") := by decide +kernel
  have bs : bootBuiltins "str" = some (.type "str") := by decide +kernel
  have fin : ∀ {H' : Hp} {v : V} {b : Bool}, Gx T H H' → Is H' (.bl b) v → b = sameP d e → Gx T H H' ∧ v = .bl (sameP d e) := fun {H' v b} g i h => ⟨g, by rw [i.bl_eq, h]⟩
  have isTe : ∀ {H' : Hp} {d0 : D} {v0 : V} {i : Nat} {x : Str} {p0 p1 p2 p3 : Pos}, Pn i d0 → True := fun _ => trivial
  cases he with
  | @tup n' es hes hz =>
    have ie0 := ie
    refine b_when (c := true) hT (ET.is (et_val (ee_isi (Pn.tup hes hz) rfl G.isinstance rfl G.tuple bt (ee_v (pv 1) rfl ie) (kTup (Pn.tup hes hz)))) rfl) (fun _ H1 g1 t1 => ?_) (fun h => nomatch h)
    cases hd with
    | @tup m' dl hdl hz2 =>
      refine b_when (c := !decide ((dl.length : Int) = es.length)) t1 (ET.is (EW.et (ew_or (et_not (et_val (ee_isi (Pn.tup hdl hz2) rfl G.isinstance rfl G.tuple bt (ee_v (pv 0) rfl (id.mono g1.ti)) (kTup (Pn.tup hdl hz2))))) fun _ => ew_or1 (et_neI (ee_lenT rfl G.len (ee_v (pv 0) rfl (id.mono g1.ti))) (ee_lenT rfl G.len (ee_v (pv 1) rfl (ie.mono g1.ti)))))) (by simp [isTup])) (fun hc H2 g2 t2 => ?_) (fun hc H2 g2 t2 => ?_)
      · refine b_ret t2 ee_bl fun v H3 g3 t3 i => fin ((g1.trans g2).trans g3) i (sameP_no fun h => ?_).symm
        injection h with h
        rw [h] at hc
        simp at hc
      · have hl : dl.length = es.length := by
          have : (dl.length : Int) = es.length := by simpa using hc
          omega
        have g12 := g1.trans g2
        refine b_forN (j := 2) sc_same.nd rfl G.range rfl PassesOwn.never t2 (ee_lenT rfl G.len (ee_v (pv 1) rfl (ie.mono g12.ti))) (by omega)
          (fun i σ' H' => ∃ v2 : Option V, σ' = [some vd, some ve, v2] ∧ Gx T H H' ∧ ∀ (j : Nat) (d e : D), j < i → dl[j]? = some d → es[j]? = some e → d = e) (fun H3 g3 t3 => ⟨none, rfl, g12.trans g3, fun j d e h => by omega⟩) ?_ ?_
        · rintro i σ' H' hil ⟨v2, rfl, g, hall⟩
          have tH := g.tab hT
          have hd1 : dl[i]? = some (dl[i]'(by omega)) := List.getElem?_eq_getElem (by omega)
          have he1 : es[i]? = some (es[i]'hil) := List.getElem?_eq_getElem hil
          have pd := hdl _ (List.mem_of_getElem? hd1)
          have pe := hes _ (List.mem_of_getElem? he1)
          generalize dl[i]'(by omega) = di at hd1 pd
          generalize es[i]'hil = ei at he1 pe
          show wB _ _ _ ([some vd, some ve, some (.int (i : Nat))]) H'
          refine b_when (c := !sameP di ei) tH (et_not (et_val (ee_callA (d := .bl (sameP di ei)) (u := .bl (sameP di ei)) (IH n' rfl) hr (Nat.le_refl _) rfl (ea_cons (ee_ixT (i := i) (ee_v (pv 0) rfl (id.mono g.ti)) (ee_v (pv 2) rfl (.int _)) hd1) (ea_cons (ee_ixT (i := i) (ee_v (pv 1) rfl (ie.mono g.ti)) (ee_v (pv 2) rfl (.int _)) he1) ea_nil)) (fun H2 => ⟨di, ei, _, pd, pe, rfl, rfl⟩) rfl))) (fun hc H3 g3 t3 => ?_) (fun hc H3 g3 t3 => b_nil ?_)
          · have hne : di ≠ ei := fun h => by rw [sameP_yes h] at hc; cases hc
            refine b_ret t3 ee_bl fun v H4 g4 t4 i2 => fin ((g.trans g3).trans g4) i2 (sameP_no fun h => ?_).symm
            injection h with h
            subst h
            rw [hd1] at he1
            injection he1 with he1
            exact hne he1
          · have heq : di = ei := sameP_iff.mp (by simpa using hc)
            refine ⟨_, rfl, g.trans g3, fun j d e hj h1 h2 => ?_⟩
            rcases Nat.lt_or_ge j i with z | z
            · exact hall j d e z h1 h2
            · obtain rfl : j = i := by omega
              rw [hd1] at h1; rw [he1] at h2
              cases h1; cases h2
              exact heq
        · rintro σ' H' ⟨v2, rfl, g, hall⟩
          refine b_ret (g.tab hT) ee_bl fun v H4 g4 t4 i2 => fin (g.trans g4) i2 (sameP_yes (tup_same hl fun j d e h1 h2 => ?_)).symm
          exact hall j d e (List.getElem?_eq_some_iff.mp h2).1 h1 h2
    | _ =>
      all_goals
        refine b_when (c := true) t1 (ET.is (EW.et (ew_or (c1 := true) (c2 := true) (ET.is (et_not (et_val (ee_isi (n := 0) (by constructor) rfl G.isinstance rfl G.tuple bt (ee_v (pv 0) rfl (id.mono g1.ti)) (kTup (n := 0) (by constructor))))) rfl) fun h => nomatch h)) rfl) (fun hc H2 g2 t2 => ?_) (fun h => nomatch h)
        exact b_ret t2 ee_bl fun v H3 g3 t3 i => fin ((g1.trans g2).trans g3) i (no_ (fun h => by cases h) rfl)
  | non n =>
    refine b_when (c := false) hT (ET.is (et_val (ee_isi (Pn.non 0) rfl G.isinstance rfl G.tuple bt (ee_v (pv 1) rfl ie) (kTup (Pn.non 0)))) rfl) (fun h => nomatch h) (fun _ H1 g1 t1 => ?_)
    cases ie
    refine b_when (c := true) t1 (ET.is (et_isN (ev_v (pv 1) rfl)) rfl) (fun _ H2 g2 t2 => ?_) (fun h => nomatch h)
    refine b_ret t2 (ee_isN (ev_v (pv 0) rfl)) fun v H3 g3 t3 i => fin ((g1.trans g2).trans g3) i ?_
    cases hd <;> cases id <;> first | exact (sameP_yes rfl).symm | exact no_ (fun h => by cases h) rfl
  | bl n b =>
    refine b_when (c := false) hT (ET.is (et_val (ee_isi (Pn.bl 0 b) rfl G.isinstance rfl G.tuple bt (ee_v (pv 1) rfl ie) (kTup (Pn.bl 0 b)))) rfl) (fun h => nomatch h) (fun _ H1 g1 t1 => ?_)
    cases ie
    refine b_when (c := false) t1 (ET.is (et_isN (ev_v (pv 1) rfl)) rfl) (fun h => nomatch h) (fun _ H2 g2 t2 => ?_)
    refine b_when (c := true) t2 (ET.is (et_val (ee_isi (Pn.bl 0 b) rfl G.isinstance rfl G.boolT bb (ee_v (pv 1) rfl (.bl b)) (kBool (Pn.bl 0 b)))) rfl) (fun _ H3 g3 t3 => ?_) (fun h => nomatch h)
    have g13 := (g1.trans g2).trans g3
    refine b_ret t3 (ee_and2 (c2 := sameP d (.bl b)) (ee_isi hd rfl G.isinstance rfl G.boolT bb (ee_v (pv 0) rfl (id.mono g13.ti)) (kBool hd)) fun hc => ?_) fun v H4 g4 t4 i => fin (g13.trans g4) i ?_
    · cases hd <;> try (exact absurd (show false = true from hc) (by decide))
      rename_i b0 _
      refine EE.is (ee_eqB (ee_v (pv 0) rfl (id.mono g13.ti)) (ee_v (pv 1) rfl (.bl b))) ?_
      congr 1
      by_cases q : b0 = b
      · rw [decide_eq_true q, sameP_yes (by rw [q])]
      · rw [decide_eq_false q, sameP_no fun h => q (by injection h)]
    · cases hd <;> first | rfl | exact no_ (fun h => by cases h) rfl
  | int n b =>
    refine b_when (c := false) hT (ET.is (et_val (ee_isi (Pn.int 0 b) rfl G.isinstance rfl G.tuple bt (ee_v (pv 1) rfl ie) (kTup (Pn.int 0 b)))) rfl) (fun h => nomatch h) (fun _ H1 g1 t1 => ?_)
    cases ie
    refine b_when (c := false) t1 (ET.is (et_isN (ev_v (pv 1) rfl)) rfl) (fun h => nomatch h) (fun _ H2 g2 t2 => ?_)
    refine b_when (c := false) t2 (ET.is (et_val (ee_isi (Pn.int 0 b) rfl G.isinstance rfl G.boolT bb (ee_v (pv 1) rfl (.int b)) (kBool (Pn.int 0 b)))) rfl) (fun h => nomatch h) (fun _ H3 g3 t3 => ?_)
    refine b_when (c := true) t3 (ET.is (et_val (ee_isi (Pn.int 0 b) rfl G.isinstance rfl G.int bi (ee_v (pv 1) rfl (.int b)) (kInt (Pn.int 0 b)))) rfl) (fun _ H4 g4 t4 => ?_) (fun h => nomatch h)
    have g14 := ((g1.trans g2).trans g3).trans g4
    refine b_ret t4 (ee_and3 (c2 := !isBl d) (c3 := sameP d (.int b)) (ee_isi hd rfl G.isinstance rfl G.int bi (ee_v (pv 0) rfl (id.mono g14.ti)) (kInt hd)) (fun _ => ee_not (ee_isi hd rfl G.isinstance rfl G.boolT bb (ee_v (pv 0) rfl (id.mono g14.ti)) (kBool hd))) fun hc hc2 => ?_) fun v H5 g5 t5 i => fin (g14.trans g5) i ?_
    · cases hd <;> first | exact absurd (show false = true from hc) (by decide) | exact absurd (show false = true from hc2) (by decide) | skip
      rename_i b0 _
      refine EE.is (ee_eqI (ee_v (pv 0) rfl (id.mono g14.ti)) (ee_v (pv 1) rfl (.int b))) ?_
      congr 1
      by_cases q : b0 = b
      · rw [decide_eq_true q, sameP_yes (by rw [q])]
      · rw [decide_eq_false q, sameP_no fun h => q (by injection h)]
    · cases hd <;> first | rfl | exact no_ (fun h => by cases h) rfl
  | str n b =>
    refine b_when (c := false) hT (ET.is (et_val (ee_isi (Pn.str 0 b) rfl G.isinstance rfl G.tuple bt (ee_v (pv 1) rfl ie) (kTup (Pn.str 0 b)))) rfl) (fun h => nomatch h) (fun _ H1 g1 t1 => ?_)
    cases ie
    refine b_when (c := false) t1 (ET.is (et_isN (ev_v (pv 1) rfl)) rfl) (fun h => nomatch h) (fun _ H2 g2 t2 => ?_)
    refine b_when (c := false) t2 (ET.is (et_val (ee_isi (Pn.str 0 b) rfl G.isinstance rfl G.boolT bb (ee_v (pv 1) rfl (.str b)) (kBool (Pn.str 0 b)))) rfl) (fun h => nomatch h) (fun _ H3 g3 t3 => ?_)
    refine b_when (c := false) t3 (ET.is (et_val (ee_isi (Pn.str 0 b) rfl G.isinstance rfl G.int bi (ee_v (pv 1) rfl (.str b)) (kInt (Pn.str 0 b)))) rfl) (fun h => nomatch h) (fun _ H4 g4 t4 => ?_)
    have g14 := ((g1.trans g2).trans g3).trans g4
    refine b_ret t4 (ee_and2 (c2 := sameP d (.str b)) (ee_isi hd rfl G.isinstance rfl G.strT bs (ee_v (pv 0) rfl (id.mono g14.ti)) (kStr hd)) fun hc => ?_) fun v H5 g5 t5 i => fin (g14.trans g5) i ?_
    · cases hd <;> try (exact absurd (show false = true from hc) (by decide))
      rename_i b0 _
      refine EE.is (ee_eqS (ee_v (pv 0) rfl (id.mono g14.ti)) (ee_v (pv 1) rfl (.str b))) ?_
      congr 1
      by_cases q : b0 = b
      · rw [decide_eq_true q, sameP_yes (by rw [q])]
      · rw [decide_eq_false q, sameP_no fun h => q (by injection h)]
    · cases hd <;> first | rfl | exact no_ (fun h => by cases h) rfl
theorem ok_same (F : Fun K "_law_same" "_law_same" sSame f fd) (hm : mg "_law_same" = some (.ref f)) (G : Glo mg) : ∀ n, DefOk P w K mg base T (n + 1) "_law_same" ["_law_found", "_law_due"] (R_same n)
  | 0 => ok_same1 F hm G fun m h => by omega
  | n + 1 => ok_same1 F hm G fun m h => by
    have : n = m := by omega
    subst this
    exact ok_same F hm G n
end
end Tk
set_option Elab.async false
set_option linter.all false
set_option maxRecDepth 10000
/-! A def called within an except suite, that is told of the exception in hand. -/
namespace Tk
open PySem PySem.Spec PyProof.Rows L2 LamX NdefX
/-- what a def promises there, p the exception in hand -/
structure FnP (P : Program) (w : World) (K : PySem.W.Frag) (mg : Str → Option Value) (base : Heap) (k : Nat) (f : Addr) (fd : FuncData) (ps : List Str) (Zp : Obj → Prop) (sp : Addr → Sp) : Prop where
  len : ∀ a vs H Q E, sp a vs H Q E → vs.length = ps.length
  run : ∀ (A : Around) (outer : List Env) (s : Shared) (H : Hp) (args : Args) (us : List Value) (vs : List V) (Q : VK) (E : XK) (p : Addr × Obj), L2H.RoomH k A → L2H.Hot1 A p → Zp p.2 → L2H.PinOk outer H s p → Env0 P w K mg base A outer s H → BindsTo s fd args (ps.zip us) → Vals vs us → sp p.1 vs H Q E →
    codeAny (model P w) A (.call (.ref f) args) (CR CX0 outer P w H s Q E) s
theorem fn_ofP {P : Program} {w : World} {K : PySem.W.Frag} {mg : Str → Option Value} {base : Heap} {k : Nat} {f : Addr} {name qual : Str} {params : Arguments} {body : List Stmt} {scope : Scope} {dV kV doc pm cdv ct oc : Value} {an od : Option Addr}
    {osl : Array (Option Value)} {N ps : List Str} {Zp : Obj → Prop} {sp : Addr → Sp} (lk : K.lookup f = some ⟨oc, od, .func (PySem.W.fnOf name qual params body scope dV kV doc pm an cdv ct), osl⟩) (hcd : PySem.W.codeIn K cdv qual = true) (S : FnScope N ps scope)
    (len : ∀ a vs H Q E, sp a vs H Q E → vs.length = ps.length)
    (hbody : ∀ (A : Around) (outer : List Env) (s : Shared) (H : Hp) (vs : List V) (Q : VK) (E : XK) (p : Addr × Obj), L2H.Hot1 A p → Zp p.2 → L2H.RoomH k (A.deeper (envOfC qual scope s.heap.objs.size f cdv)) → sp p.1 vs H Q E →
      ∃ t, PSs (L2H.cxH CX0 P w K mg base N qual scope f cdv A outer s H E p) body t ∧ t { nx := fun _ H' => Q .non H', rt := Q } (L2.start N vs) H) :
    FnP P w K mg base (k + 1) f (PySem.W.fnOf name qual params body scope dV kV doc pm an cdv ct) ps Zp sp := by
  refine ⟨len, fun A outer s H args us vs Q E p hr hot hzp hpin e0 hb r hsp => ?_⟩
  have hl := len _ _ _ _ _ hsp
  have KX : K.In s.heap := e0.mod.kin.keeps fun b o e => (e0.bs b o e).1
  have lim : s.heap.NoLimit := e0.mod.nolimit.keeps fun b o e => (e0.bs b o e).1
  have hkind : ∀ y ∈ ps.zip us, scope.names.lookup y.1 = some .local ∨ (scope.names.lookup y.1 = some .cell ∧ ((cellsFrom (s.heap.objs.size + 1) scope.names []).lookup y.1).isSome = true) := fun ⟨n, v⟩ hy => by
    rcases S.par n (List.of_mem_zip hy).1 with q | q
    · exact .inl q
    · exact .inr ⟨q, PySem.W.cellsFrom_some _ _ _ (.inl q)⟩
  refine codeAny_call_function hr.depth (KX _ _ lk) rfl S.co S.gen rfl (PySem.W.codeRec_of KX hcd) (hb _ _ _ _ ?_)
  refine wpAny_newFunctionEnv_cells S.kind hkind fun env he s1 x => ?_
  subst he
  refine ⟨lim.keeps x.toInCall.keep, codeAny_func ?_⟩
  obtain ⟨t, ht, hq⟩ := hbody A outer s H vs Q E p hot hzp (hr.deeper _) hsp
  have I : Inv (L2H.cxH CX0 P w K mg base N qual scope f cdv A outer s H E p) [] (L2.start N vs) H s1 := L2H.inv_startH S hpin e0 hl r x
  refine wpAny_mono (ht.run [] s1 (L2.start N vs) H _ I hq) (fun fl s' hs => ?_) fun e s' hs => hs
  have fin : ∀ {σ' : L2.St} {H' : Hp} {v : V} {u : Value}, Inv (L2H.cxH CX0 P w K mg base N qual scope f cdv A outer s H E p) [] σ' H' s' → RelV v u → Q v H' → CE outer P w H s Q u s' :=
    fun {σ' H' v u} J rv q => ⟨v, H', J.os, J.bare, J.base, J.hok, rv, q⟩
  cases fl with
  | ret u =>
    obtain ⟨v, σ', H', J, rv, q⟩ := hs
    exact fin J rv q
  | next =>
    obtain ⟨σ', H', J, q⟩ := hs
    exact fin (v := V.non) (u := Value.none) J rfl q
  | brk =>
    obtain ⟨_, _, _, q⟩ := hs
    exact False.elim q
  | cont =>
    obtain ⟨_, _, _, q⟩ := hs
    exact False.elim q
section
variable {X : Cx} {k : Nat} {f : Addr} {fd : FuncData} {ps : List Str} {Zp : Obj → Prop} {sp : Addr → Sp} {x : Str} {q pos : Pos} {e : Expr} {es : List Expr} {t : TA}
theorem run_fnP {pins : List (Addr × Obj)} {σ : L2.St} {H : Hp} {s : Shared} {Q : VK} {us : List Value} {vs : List V} {p : Addr × Obj} (F : FnP X.prog X.w X.K X.mg X.base k f fd ps Zp sp) (hr : L2H.RoomH k X.A) (hot : L2H.Hot1 X.A p) (hp : p ∈ X.pn) (hz : Zp p.2) (hb : Binds X.K fd ps [])
    (I : Inv X pins σ H s) (r : Vals vs us) (h : sp p.1 vs H Q E0) : wpAny (model X.prog X.w) X.A (call (.ref f) us) (EP X pins σ Q) X.xe s := by
  have hl : us.length = ps.length := by rw [← r.length]; exact F.len _ _ _ _ _ h
  have b := hb s us I.kIn (by rw [List.append_nil]; exact hl)
  rw [List.append_nil] at b
  have P1 := I.pin p (List.mem_append_left _ hp)
  have hpin : L2H.PinOk X.stack H s p := ⟨P1.1, P1.2.1, fun hm => (List.mem_cons.mp (I.stkSub p.1 hm)).elim P1.2.2.1 P1.2.2.2.1, P1.2.2.2.2⟩
  refine wpAny_call (codeAny_mono (F.run X.A X.stack s H ⟨us, []⟩ us vs Q E0 p hr hot hz hpin I.env0 b r h) fun r s' hq => ?_)
  cases r with
  | error e => exact False.elim hq
  | ok fl =>
    cases fl with
    | ret u => exact I.after hq
    | next => exact False.elim hq
    | brk => exact False.elim hq
    | cont => exact False.elim hq
theorem pe_callP {p : Addr × Obj} (F : FnP X.prog X.w X.K X.mg X.base k f fd ps Zp sp) (hr : L2H.RoomH k X.A) (hot : L2H.Hot1 X.A p) (hp : p ∈ X.pn) (hz : Zp p.2) (hg : Gl X x) (hm : X.mg x = some (.ref f)) (hk : PySem.W.keepIn X.K (.ref f) = true) (hb : Binds X.K fd ps [])
    (ha : PA X (e :: es) t) (hdb : (x == ("__debug__" : Str)) = false := by decide) (he : starEach (e :: es) X.env = (false, eval e X.env) :: starEach es X.env := by rfl) (hpl : (backTo pos (starEach es X.env)).any (·.1) = false := by rfl) :
    PE X (.Call (.Name x q) (e :: es) [] pos) (tCallS (sp p.1) (fun _ => E0) t) := by
  refine ⟨fun pins s σ H Q I h => ?_⟩
  refine wpAny_Call_Name_kw (ld_glob I hg hm ?_ hdb)
  refine PySem.W.callWith_K (h₀ := X.base) I.ok.mod.kin hk (thn (ha.run pos pins s σ H _ I h) fun us s1 ⟨vs, H1, I1, r, q⟩ => ⟨I1.kIn, ?_⟩) he hpl
  exact run_fnP F hr hot hp hz hb I1 r q
/-- isinstance(e, c), e the exception in hand -/
theorem call_isP {D : Addr} {p : Addr × Obj} (hp : p ∈ X.pn) (C : ExcC X.K D) (hz : Zc (.ref D) none p.2) (hf : ∃ vs, p.2.data = .fields vs) : CallR X (.builtin "isinstance") (rIsE X.K D p.1) := by
  intro pins s σ H xs us Q I r h
  obtain ⟨c, cv, b, rfl, hcv, e, q⟩ := h
  cases r with
  | cons rx rr =>
    cases rr with
    | cons rt rr =>
      cases rr
      cases rx
      have ec := hcv _ rt
      subst ec
      obtain ⟨hget, _⟩ := I.pin p (List.mem_append.mpr (.inl hp))
      obtain ⟨vs, hv⟩ := hf
      have J : PySem.W.InstAt s.heap p.1 p.2 D none := by
        obtain ⟨a, oc, od, oda, osl⟩ := p
        obtain ⟨h1, h2⟩ := hz
        dsimp only at h1 h2 hv hget ⊢
        subst h1 h2 hv
        exact ⟨hget, rfl, rfl, trivial⟩
      exact PySem.W.kia_one (PySem.W.handS_kitx_exc C.hg C.hk C.hs C.hd C.ha C.hn C.ht C.hm) I.kIn J e (fun z => nomatch z) fun tk => ⟨.bl b, H, I.kept (t' := tk) fun _ _ z => z, rfl, q⟩
end
end Tk
set_option Elab.async false
set_option linter.all false
set_option maxRecDepth 10000
/-! The law's kinds. -/
namespace Tk
open PySem PySem.Spec PyProof.Rows L2 LamX NdefX
def KName (K : PySem.W.Frag) (mg : Str → Option Value) (D : Addr) (x : Str) (b : Bool) : Prop := ∃ C, mg x = some (.ref C) ∧ PySem.W.kitOne K (.ref D) (.ref C) = some b
/-- what isinstance asks of the class at D, an error too great -/
structure KTxt (K : PySem.W.Frag) (mg : Str → Option Value) (D : Addr) : Prop where
  exc : ExcC K D
  ve : mg "ValueError" = none
  kv : PySem.W.kitOne K (.ref D) (.type "ValueError") = some true
  k1 : KName K mg D "NoTree" false
  k2 : KName K mg D "NoStatement" false
  k3 : KName K mg D "NoPlace" false
  k4 : KName K mg D "NoNumber" false
  k5 : KName K mg D "TooGreat" true
  k6 : KName K mg D "NoName" false
  k7 : KName K mg D "NoLine" false
  k8 : KName K mg D "NothingDone" false
  k9 : KName K mg D "NothingHeld" false
def kindsL : List Bool := [true, false, false, false, false, true, false, false, false, false]
def kindsD : D := .tup (kindsL.map .bl)
def Zk (D : Addr) (o : Obj) : Prop := L2N.Zn (.ref D) none o ∧ ∃ vs, o.data = .fields vs
def spKinds (T : List NTab) (a : Addr) : Sp := fun vs H Q _ => TabsN T H ∧ vs = [.ref a] ∧ ∀ v H', Gx T H H' → Is H' kindsD v → Q v H'
section
variable {T : List NTab} {X : Cx} {σ : L2.St} {H : Hp} {e : Expr} {pos p1 p2 : Pos} {D : Addr} {p : Addr × Obj}
theorem ee_isO {x : Str} {b : Bool} (hp : p ∈ X.pn) (C : ExcC X.K D) (hz : Zk D p.2) (hg : Gl X "isinstance") (hm : X.mg "isinstance" = none) (hg2 : Gl X x) (kn : KName X.K X.mg D x b) (h : EE T X σ H e (.ref p.1)) (hd : (x == ("__debug__" : Str)) = false := by decide) (hb : bootBuiltins "isinstance" = some (.builtin "isinstance") := by decide +kernel)
    (he : starEach [e, .Name x p2] X.env = (false, eval e X.env) :: starEach [.Name x p2] X.env := by rfl) (he2 : starEach [.Name x p2] X.env = (false, eval (.Name x p2) X.env) :: starEach [] X.env := by rfl) (hpl : (backTo pos (starEach [.Name x p2] X.env)).any (·.1) = false := by rfl) :
    EE T X σ H (.Call (.Name "isinstance" p1) [e, .Name x p2] [] pos) (.bl b) := fun H1 g t => by
  obtain ⟨C', hm', hk⟩ := kn
  exact PE_to (pe_callB (call_isP hp C hz.1.zc hz.2) hg hm hb (pa_cons wE_pe (pa_cons (pe_glob (v := .ref C') (u := .ref C') hg2 hm' rfl hd) pa_nil he2) he) (by decide) (by decide) he hpl) (wE_imp (h H1 g t) fun u H2 ⟨g2, i2⟩ => by
    rw [i2.ref_eq]
    exact ⟨.ref C', .ref C', b, rfl, fun u r => r, hk, g2, .bl _⟩)
theorem ee_isV (hp : p ∈ X.pn) (C : ExcC X.K D) (hz : Zk D p.2) (hg : Gl X "isinstance") (hm : X.mg "isinstance" = none) (hg2 : Gl X "ValueError") (hv : X.mg "ValueError" = none) (hk : PySem.W.kitOne X.K (.ref D) (.type "ValueError") = some true) (h : EE T X σ H e (.ref p.1)) (hb : bootBuiltins "isinstance" = some (.builtin "isinstance") := by decide +kernel) (hb2 : bootBuiltins "ValueError" = some (.type "ValueError") := by decide +kernel)
    (he : starEach [e, .Name "ValueError" p2] X.env = (false, eval e X.env) :: starEach [.Name "ValueError" p2] X.env := by rfl) (he2 : starEach [.Name "ValueError" p2] X.env = (false, eval (.Name "ValueError" p2) X.env) :: starEach [] X.env := by rfl) (hpl : (backTo pos (starEach [.Name "ValueError" p2] X.env)).any (·.1) = false := by rfl) :
    EE T X σ H (.Call (.Name "isinstance" p1) [e, .Name "ValueError" p2] [] pos) (.bl true) := fun H1 g t =>
  PE_to (pe_callB (call_isP hp C hz.1.zc hz.2) hg hm hb (pa_cons wE_pe (pa_cons (pe_bltn (v := .ty "ValueError") (u := .type "ValueError") hg2 hv hb2 rfl) pa_nil he2) he) (by decide) (by decide) he hpl) (wE_imp (h H1 g t) fun u H2 ⟨g2, i2⟩ => by
    rw [i2.ref_eq]
    exact ⟨.ty "ValueError", .type "ValueError", true, rfl, fun u r => r, hk, g2, .bl _⟩)
/-- xs + [..] -/
theorem ex_catL {a b : Expr} {ds es : List Tk.D} (ha : EX T X σ H a (fun H1 v H2 => ∃ p xs, v = .ref p ∧ H2 p = some (.lst xs) ∧ IsAll H2 ds xs)) (hb : EX T X σ H b (fun H1 v H2 => ∃ p xs, v = .ref p ∧ H2 p = some (.lst xs) ∧ IsAll H2 es xs)) (hz : ds.length + es.length ≤ 100000) :
    EX T X σ H (.BinOp a .Add b pos) (fun H1 v H2 => ∃ p xs, v = .ref p ∧ H1 p = none ∧ H2 p = some (.lst xs) ∧ IsAll H2 (ds ++ es) xs) := fun H1 g t =>
  PE_to (pe_op op_cat wE_pe wE_pe) (wE_imp (ha H1 g t) fun u H2 ⟨g2, p2, xs, e2, h2, i2⟩ => wE_imp (hb H2 (g.trans g2) (g2.tab t)) fun v H3 ⟨g3, p3, ys, e3, h3, i3⟩ => by
    subst e2 e3
    refine ⟨p2, p3, xs, ys, rfl, rfl, g3.lst h2, h3, by rw [← i2.length, ← i3.length]; exact sz_ok (by omega), fun q hq => ⟨(g2.trans g3).trans (Gx.new hq), q, _, rfl, (g2.trans g3).low q hq, upd_same, ?_⟩⟩
    have gn : Ti H3 (upd H3 q (.lst (xs ++ ys))) := (Gx.new (T := T) hq).ti
    exact ((i2.mono g3.ti).mono gn).append (i3.mono gn))
end
section
variable {P : Program} {w : World} {K : PySem.W.Frag} {mg : Str → Option Value} {base : Heap} {T : List NTab} {f D : Addr} {fd : FuncData}
abbrev sKinds : Stmt := topS 69
abbrev nKinds : List Str := ["_law_e", "_law_found"]
theorem sc_kinds : FnScope nKinds ["_law_e"] (defScope sKinds) := ⟨rfl, rfl, rfl, by decide +kernel, rfl, by decide +kernel, by decide +kernel⟩
set_option maxHeartbeats 1000000 in
theorem ok_kinds (F : Fun K "_law_kinds" "_law_kinds" sKinds f fd) (G : Glo mg) (KT : KTxt K mg D) : FnP P w K mg base 1 f fd ["_law_e"] (Zk D) (spKinds T) := by
  obtain ⟨oc, od, kV, doc, pm, an, cdv, ct, osl, rfl, lk, hcd⟩ := F.ex
  refine fn_ofP lk hcd sc_kinds (fun a vs H Q E ⟨_, h, _⟩ => by rw [h]; rfl) fun A outer s H vs Q E p hot hz hr ⟨hT, e, k⟩ => ⟨_, wB_pss, ?_⟩
  subst e
  have hp : p ∈ (L2H.cxH CX0 P w K mg base nKinds "_law_kinds" (defScope sKinds) f cdv A outer s H E p).pn := List.mem_cons_self
  have C := KT.exc
  refine b_asg (ps_set (i := 1) sc_kinds.nd rfl (Or.inl rfl) wE_pe) hT (el_lst (ds := [.bl true, .bl false, .bl false]) (ea_cons (ee_isV hp C hz rfl G.isinstance rfl KT.ve KT.kv (ee_v (pv 0) rfl (.ref _))) (ea_cons (ee_isO hp C hz rfl G.isinstance rfl KT.k1 (ee_v (pv 0) rfl (.ref _))) (ea_cons (ee_isO hp C hz rfl G.isinstance rfl KT.k2 (ee_v (pv 0) rfl (.ref _))) ea_nil))) (sz_ok (by show 3 ≤ 1000000; decide))) fun v H1 g1 t1 ⟨p1, xs1, e1, _, h1, i1⟩ => ?_
  subst e1
  refine b_asg (ps_set (i := 1) sc_kinds.nd rfl (Or.inl rfl) wE_pe) t1 (ex_catL (ds := [.bl true, .bl false, .bl false]) (es := [.bl false, .bl false, .bl true]) (fun H2 g t => PE_to (pv 1) ⟨_, rfl, Gx.refl _, p1, xs1, rfl, g.lst h1, i1.mono g.ti⟩) (EX.imp (el_lst (ds := [.bl false, .bl false, .bl true]) (ea_cons (ee_isO hp C hz rfl G.isinstance rfl KT.k3 (ee_v (pv 0) rfl (.ref _))) (ea_cons (ee_isO hp C hz rfl G.isinstance rfl KT.k4 (ee_v (pv 0) rfl (.ref _))) (ea_cons (ee_isO hp C hz rfl G.isinstance rfl KT.k5 (ee_v (pv 0) rfl (.ref _))) ea_nil))) (sz_ok (by show 3 ≤ 1000000; decide))) (fun _ _ _ _ _ ⟨q, ys, e, _, h, i⟩ => ⟨q, ys, e, h, i⟩)) (by decide)) fun v H2 g2 t2 ⟨p2, xs2, e2, _, h2, i2⟩ => ?_
  subst e2
  refine b_asg (ps_set (i := 1) sc_kinds.nd rfl (Or.inl rfl) wE_pe) t2 (ex_catL (ds := [.bl true, .bl false, .bl false] ++ [.bl false, .bl false, .bl true]) (es := [.bl false, .bl false, .bl false]) (fun H3 g t => PE_to (pv 1) ⟨_, rfl, Gx.refl _, p2, xs2, rfl, g.lst h2, i2.mono g.ti⟩) (EX.imp (el_lst (ds := [.bl false, .bl false, .bl false]) (ea_cons (ee_isO hp C hz rfl G.isinstance rfl KT.k6 (ee_v (pv 0) rfl (.ref _))) (ea_cons (ee_isO hp C hz rfl G.isinstance rfl KT.k7 (ee_v (pv 0) rfl (.ref _))) (ea_cons (ee_isO hp C hz rfl G.isinstance rfl KT.k8 (ee_v (pv 0) rfl (.ref _))) ea_nil))) (sz_ok (by show 3 ≤ 1000000; decide))) (fun _ _ _ _ _ ⟨q, ys, e, _, h, i⟩ => ⟨q, ys, e, h, i⟩)) (by decide)) fun v H3 g3 t3 ⟨p3, xs3, e3, hn3, h3, i3⟩ => ?_
  subst e3
  have g13 := (g1.trans g2)
  refine b_apD t3 (d := .bl false) (ee_v (pv 1) rfl (.ref _)) h3 (sz_lt (by have := i3.length; simp at this; omega)) (ee_isO hp C hz rfl G.isinstance rfl KT.k9 (ee_v (pv 0) rfl (.ref _))) fun v H4 g4 t4 i4 h4 => ?_
  have tm := Ti.lst (o := .lst (xs3 ++ [v])) h4
  refine b_ret (tabs_lst t4 h4) (ee_tupP (ds := kindsL.map .bl) rfl G.tuple (ee_v (pv 1) rfl (.ref _)) upd_same ((i3.mono (g4.ti.trans tm)).snoc (i4.mono tm))) fun v H5 g5 t5 i5 => k v H5 (((g13.trans (g3.trans g4)).mutL (g13.low _ hn3) h4).trans g5) i5
end
end Tk
set_option Elab.async false
set_option linter.all false
set_option maxRecDepth 10000
/-! The law's due refusal, apart: try and except. -/
namespace Tk
open PySem PySem.Spec PyProof.Rows L2 LamX NdefX
def refD : D := .tup [.str "refused", kindsD]
def outD : Out → D
  | .none => .tup [.str "told", .non]
  | .told ps => .tup [.str "told", treeD ps]
  | .refused => refD
section
variable {P : Program} {w : World} {K : PySem.W.Frag} {mg : Str → Option Value} {base : Heap} {T : List NTab} {f c Pt CT Tr fk : Addr} {fd fdk : FuncData}
abbrev sDue : Stmt := topS 70
abbrev nDue : List Str := ["_law_at", "_law_k"]
theorem sc_due : FnScope nDue ["_law_at"] (defScope sDue) := ⟨rfl, rfl, rfl, by decide +kernel, rfl, by decide +kernel, by decide +kernel⟩
def R_due : Hp → List D → (Hp → V → Prop) → Prop := fun _ ds post => ds = [.int 5] ∧ post = fun H' v => Is H' refD v
theorem ok_due (F : Fun K "_law_due_refusal" "_law_due_refusal" sDue f fd) (hm : mg "_law_due_refusal" = some (.ref f)) (G : Glo mg) : DefOk P w K mg base T 1 "_law_due_refusal" ["_law_at"] R_due := by
  refine def_ok F hm sc_due (fun _ _ _ _ _ _ us hl => match us, hl with | [_], _ => rfl) (fun H ds post ⟨e, _⟩ => by rw [e]; rfl) fun cdv A outer s H E vs ds post hr hT hi ⟨e1, e2⟩ => ?_
  subst e1 e2
  obtain ⟨_, rfl, i1⟩ := isAll1 hi
  cases i1
  refine b_ret hT (ee_tup (ds := [.str "refused", kindsD]) (ea_cons ee_str (ea_cons (ee_tupL rfl G.tuple (el_map (es := kindsL.map .bl) (pe_lc (own := [("_law_k", 1)]) (g := gName 1) (tt := tYes) rfl sc_due.nd wI_pi (blkOk_by (N := nDue) (sc := defScope sDue) (by decide +kernel)) (fun _ _ _ _ _ => pg_name (i := 1) sc_due.nd rfl (Or.inl rfl)) (fun _ _ _ _ _ => pts_nil) (fun _ _ _ _ _ => tB_pe _ _ _ _ _))
    (ei_range (n := 10) rfl G.range ee_int (by decide)) (by rw [rangeD_len]; exact sz_lt (by decide)) (fun k => .bl (decide ((k : Int) = 0) || decide ((k : Int) = 5))) (fun _ => rfl) ?_ (by rw [rangeD_len]; rfl))) ea_nil)) (sz_ok (by show 2 ≤ 1000000; decide))) fun v H1 g1 t1 i => ⟨g1, i⟩
  intro i di v H2 h1 h2 g2 s0 H0 C cl fp
  obtain ⟨hil, rfl⟩ := rangeD_get h1
  cases h2
  exact ee_or2 (ee_eqI (ee_v (pv 1) rfl (.int _)) ee_int) fun _ => ee_eqI (ee_v (pv 1) rfl (.int _)) (ee_v (pv 0) rfl (.int 5))

/-! ### try: x = e; except X as n: suite -/
def tTry (X : Cx) (body : List Stmt) (W : WX) : TS := fun D σ H => ∀ (pn : List (Addr × Obj)) (xe : Value → Shared → Prop), L2N.Takes (X.tr pn xe) W → wB (X.tr pn xe) body D σ H
def tSui (X : Cx) (suite : List Stmt) (a : Addr) (cls : Value) (d : Option Addr) : TS := fun D σ H => ∀ (oe : Obj) (pn : List (Addr × Obj)), L2N.Zn cls d oe → (∃ vs, oe.data = .fields vs) → wB (X.suite a ((a, oe) :: pn)) suite D σ H
theorem b_try {X : Cx} {σ : L2.St} {H : Hp} {x n : Str} {c : Value} {i : Nat} {body suite rest : List Stmt} {b₀ : Stmt} {np pos pos' : Pos} {D' : Ends} (hs : X.stack = X.env :: X.outer) (hf : X.env.frame = some X.env.locals) (hN : X.N.Nodup) (hi : X.N[i]? = some n) (hln : X.env.kindOf n = some .local) (hc : Names X x c)
    (h : tTry X body (wAs X.K c i (tSui X (b₀ :: suite)) (fun _ _ _ _ => False) { D' with nx := wB X rest D' }) { D' with nx := wB X rest D' } σ H) :
    wB X (.Try body [.ExceptHandler (some (.Name x np)) (some n) (b₀ :: suite) pos'] [] [] pos :: rest) D' σ H :=
  b_ps (L2N.ps_try_as (tb := tTry X body) (ts := tSui X (b₀ :: suite)) (Wout := fun _ _ _ _ => False) hs hf hN hi hln hc (fun u s' x => by
      obtain ⟨a, B, sI, pins, σ, H, cls, d, _, _, _, _, _, _, _, _, w⟩ := x
      exact w.elim) (fun W pn xe tk hp => ⟨fun pins s σ H D I h => h pn xe tk pins s I⟩) (fun a oe cls d pn hz hf => ⟨fun pins s σ H D I h => h oe pn hz hf pins s I⟩)) h
theorem room_suite {X : Cx} {k : Nat} {a : Addr} {pn : List (Addr × Obj)} (hr : Room k X.A) (h : 1 ≤ k) : L2H.RoomH 1 (X.suite a pn).A := ⟨(hr.mono h).dp, (hr.mono h).un⟩
/-- a call of a def within the suite, told of the exception in hand -/
theorem ex_kinds {X : Cx} {σ : L2.St} {H : Hp} {x1 : Str} {p1 pos : Pos} {e : Expr} {p : Addr × Obj} {D0 : Addr} (F : FnP X.prog X.w X.K X.mg X.base 1 fk fdk ["_law_e"] (Zk D0) (spKinds T)) (hr : L2H.RoomH 1 X.A) (hot : L2H.Hot1 X.A p) (hp : p ∈ X.pn) (hz : Zk D0 p.2) (hg : Gl X x1) (hm : X.mg x1 = some (.ref fk)) (hk : PySem.W.keepIn X.K (.ref fk) = true) (hb : Binds X.K fdk ["_law_e"] [])
    (ha : EE T X σ H e (.ref p.1)) (hdb : (x1 == ("__debug__" : Str)) = false := by decide) (he : starEach [e] X.env = (false, eval e X.env) :: starEach [] X.env := by rfl) (hpl : (backTo pos (starEach [] X.env)).any (·.1) = false := by rfl) :
    EE T X σ H (.Call (.Name x1 p1) [e] [] pos) kindsD := fun H1 g t =>
  PE_to (pe_callP F hr hot hp hz hg hm hk hb wA_pa hdb he hpl) (wA_imp (ea_cons ha ea_nil he H1 g t) fun vs H2 ⟨g2, i2⟩ => by
    obtain ⟨v, rfl, i⟩ := isAll1 i2
    cases i
    exact ⟨g2.tab t, rfl, fun v H' g' i => ⟨g2.trans g', i⟩⟩)
/-- what the head tells of the law's kinds -/
structure KindsAt (K : PySem.W.Frag) (mg : Str → Option Value) (fk : Addr) (fdk : FuncData) (CT Tr : Addr) : Prop where
  F : Fun K "_law_kinds" "_law_kinds" sKinds fk fdk
  m : mg "_law_kinds" = some (.ref fk)
  kt : KTxt K mg CT
  tr : mg "TrunkError" = some (.ref Tr)
  ex : PySem.W.exmOne K (.ref CT) (.ref Tr) = some true
theorem binds_kinds (F : Fun K "_law_kinds" "_law_kinds" sKinds fk fdk) : Binds K fdk ["_law_e"] [] := F.binds fun _ _ _ _ _ _ us hl => match us, hl with | [_], _ => rfl
abbrev sLap : Stmt := topS 71
abbrev nLap : List Str := ["_law_one", "_law_other", "_law_found", "_law_e"]
theorem sc_lap : FnScope nLap ["_law_one", "_law_other"] (defScope sLap) := ⟨rfl, rfl, rfl, by decide +kernel, rfl, by decide +kernel, by decide +kernel⟩
def R_lap : Hp → List D → (Hp → V → Prop) → Prop := fun _ ds post => ∃ (A B : Mach) (o : Out), PairOk A B ∧ OutR (both_ A B) (Lx A B) o ∧ ds = [machD A, machD B] ∧ post = fun H' v => Is H' (outD o) v
theorem outD_told {T : List NTab} {X : Cx} {σ : L2.St} {H : Hp} {i j k : Nat} {x : Str} {p1 p2 pos : Pos} {v : V} {o : Out} (p : PE X (.Name x p1) (tVar i)) (h : σ[i]? = some (some v)) (hv : OutV o H v)
    (n1 : starEach [.Constant (.str "told") j p2, .Name x p1] X.env = (false, eval (.Constant (.str "told") j p2) X.env) :: starEach [.Name x p1] X.env := by rfl) (n2 : starEach [.Name x p1] X.env = (false, eval (.Name x p1) X.env) :: starEach [] X.env := by rfl) :
    EE T X σ H (.Tuple [.Constant (.str "told") j p2, .Name x p1] k pos) (outD o) := by
  cases o with
  | none =>
    have hv : v = .non := hv
    subst hv
    exact ee_tup (ds := [.str "told", .non]) (ea_cons ee_str (ea_cons (ee_v p h .non) ea_nil n2) n1) (sz_ok (by show 2 ≤ 1000000; decide))
  | told ps => exact ee_tup (ds := [.str "told", treeD ps]) (ea_cons ee_str (ea_cons (ee_v p h hv) ea_nil n2) n1) (sz_ok (by show 2 ≤ 1000000; decide))
  | refused => exact hv.elim
theorem ok_lap (F : Fun K "_law_apart" "_law_apart" sLap f fd) (hm : mg "_law_apart" = some (.ref f)) (G : Glo mg) (KA : KindsAt K mg fk fdk CT Tr) (AP : DefOkX P w K mg base T CT 6 "apart_tree" ["one", "other"] R_apart) : DefOk P w K mg base T 7 "_law_apart" ["_law_one", "_law_other"] R_lap := by
  refine def_ok F hm sc_lap (fun _ _ _ _ _ _ us hl => match us, hl with | [_, _], _ => rfl) (fun H ds post ⟨_, _, _, _, _, e, _⟩ => by rw [e]; rfl) fun cdv A outer s H E vs ds post hr hT hi ⟨MA, MB, o, hP, hO, e1, e2⟩ => ?_
  subst e1 e2
  obtain ⟨va, vb, rfl, ia, ib⟩ := isAll2 hi
  refine b_try (i := 3) (c := .ref Tr) rfl rfl sc_lap.nd rfl rfl ⟨rfl, by decide, .inl KA.tr⟩ fun pn xe tk => ?_
  refine b_asg (P := fun _ v H' => OutV o H' v) (ps_set (i := 2) sc_lap.nd rfl (Or.inl rfl) wE_pe) hT (ex_callR AP hr (by decide) rfl tk (ea_cons (ee_v (pv 0) rfl ia) (ea_cons (ee_v (pv 1) rfl ib) ea_nil)) (fun Ha Hb ga gb => ⟨_, _, ⟨MA, MB, o, hP, hO, rfl, rfl, rfl⟩, fun v H3 g3 q => q, fun hx H3 g3 => ⟨true, KA.ex, fun _ a na oe pn hz hf => ?_, fun h => nomatch h⟩⟩)) fun v H1 g1 t1 hv => b_nil ?_
  · have hO' : o = .refused := hx
    subst hO'
    obtain ⟨fs, hfs⟩ := hf
    have gH := (ga.trans gb).trans g3
    refine b_ret (gH.tab hT) (ee_tup (ds := [.str "refused", kindsD]) (ea_cons ee_str (ea_cons (ex_kinds (p := (a, oe)) (D0 := CT) (ok_kinds KA.F G KA.kt) (room_suite hr (by decide)) ⟨rfl, fs, hfs, hz.2.2 fs hfs⟩ List.mem_cons_self ⟨hz, fs, hfs⟩ rfl KA.m KA.F.kp (binds_kinds KA.F) (ee_v (pv 3) rfl (.ref a))) ea_nil)) (sz_ok (by show 2 ≤ 1000000; decide))) fun v H4 g4 t4 i => ⟨gH.trans g4, i⟩
  · refine b_ret t1 (outD_told (i := 2) (pv 2) rfl hv) fun v H4 g4 t4 i => ⟨g1.trans g4, i⟩
end
end Tk
set_option Elab.async false
set_option linter.all false
set_option maxRecDepth 10000
/-! The law's first: what its machines are; the walk. -/
namespace Tk
open PySem PySem.Spec PyProof.Rows L2 LamX NdefX
/-! ### which machines may be paired -/
theorem pair_mono {A B A' B' : Mach} (h : Two A B) (oa : A'.Ok) (ob : B'.Ok) (na : A'.names = A.names) (nb : B'.names = B.names) (ra : A'.rooms ≤ A.rooms) (rb : B'.rooms ≤ B.rooms) : PairOk A' B' := by
  have e : both_ A' B' = both_ A B := by unfold both_; rw [na, nb]
  have h1 := h.na
  have h2 := h.nb
  have h3 := h.n
  refine ⟨oa, ob, by rw [na]; omega, by rw [nb]; omega, by rw [e]; omega, A'.rooms * B'.rooms, Bd.pair oa ob _ _, ?_⟩
  rw [e]
  exact Nat.le_trans (Nat.mul_le_mul_right _ (Nat.mul_le_mul (Nat.mul_le_mul ra rb) (Nat.mul_le_mul ra rb))) h.pr
theorem two_pair {A B : Mach} (h : Two A B) : PairOk A B := pair_mono h h.a h.b rfl rfl (Nat.le_refl _) (Nat.le_refl _)
theorem two_self {A B : Mach} (h : Two A B) : PairOk A A := by
  have h1 := h.na
  have h2 : (both_ A A).length ≤ A.names.length := both_len (fun c hc => hc) (fun c hc => hc)
  have h3 := h.ra
  refine ⟨h.a, h.a, by omega, by omega, by omega, A.rooms, Bd.self h.a _ _, ?_⟩
  have h4 : A.rooms * A.rooms ≤ 7 * 7 := Nat.mul_le_mul h3 h3
  have h5 : 2 ^ (both_ A A).length ≤ 2 ^ 3 := Nat.pow_le_pow_right (by decide) (by omega)
  have h6 : A.rooms * A.rooms * 2 ^ (both_ A A).length ≤ 7 * 7 * 2 ^ 3 := Nat.mul_le_mul h4 h5
  omega
theorem two_sm {A B : Mach} (h : Two A B) : Sm A := by
  have h1 := h.ra
  have h2 := h.na
  have h3 : A.letters ≤ 2 ^ 3 := Nat.pow_le_pow_right (by decide) h2
  have h4 : A.rooms * A.letters ≤ 7 * 2 ^ 3 := Nat.mul_le_mul h1 h3
  exact ⟨by omega, by omega, by omega⟩
/-- the least machine of what A does not let by -/
def LFlip (A R : Mach) : Prop := R.Ok ∧ R.names = A.names ∧ R.rooms ≤ A.rooms ∧ ∀ (N : List Nat) (t : Tree), LN R N t = !LN A N t
theorem flip_least {A : Mach} (hO : A.Ok) {H : Hp} {v : V} (h : LeastPost (flipM A) H v) : ∃ d e : D, (∃ R, LFlip A R ∧ d = machD R) ∧ Is H (.tup [d, e]) v := by
  obtain ⟨R, c, ps, h1, h2, h3, h4, _, _⟩ := h
  have hl : (flipM A).letters = R.letters := by unfold Mach.letters; rw [h2]
  refine ⟨machD R, pap ps, ⟨R, ⟨h1.ok hl, h2, ?_, fun N t => LN_flip hO h1 h2 N t⟩, rfl⟩, h4⟩
  have : (flipM A).rooms = A.rooms := by unfold flipM Mach.rooms; rw [List.length_map]
  omega
/-- the least machine of a language told by A's and B's -/
def LMade (A B : Mach) (op : Bool → Bool → Bool) (R : Mach) : Prop := R.Ok ∧ R.names = both_ A B ∧ Sm R ∧ ∃ c, IsLeast (2 ^ (both_ A B).length) (fun t => op (LN A (both_ A B) t) (LN B (both_ A B) t)) R c
theorem lp_least {A B : Mach} {op : Bool → Bool → Bool} (hP : PairOk A B) {H : Hp} {v : V} (h : LPPost A B op H v) : ∃ d e : D, (∃ R, LMade A B op R ∧ d = machD R) ∧ Is H (.tup [d, e]) v := by
  obtain ⟨W, sts, R, cl, d2, h1, h2, h3, h4, h5⟩ := h
  have hw := h1.letters_
  have hn : R.names = both_ A B := h3.trans h1.names_
  have hl : W.letters = R.letters := by unfold Mach.letters; rw [h3]
  obtain ⟨_, sm, _, _⟩ := made_small hP h1
  refine ⟨machD R, d2, ⟨R, ⟨h2.ok hl, hn, ⟨Nat.le_trans h4 sm.r, by rw [← hl]; exact sm.l, by rw [← hl]; exact Nat.le_trans (Nat.mul_le_mul_right _ h4) sm.p⟩, cl, ?_⟩, rfl⟩, h5⟩
  rw [hw] at h2
  exact h2.congr fun t ot => made_lang h1 ot
theorem both_names {A B A' B' : Mach} (na : A'.names = A.names) (nb : B'.names = B.names) : both_ A' B' = both_ A B := by unfold both_; rw [na, nb]
/-- one and not the other; the other and not the one -/
theorem first_here {A B R X : Mach} (hR : LFlip B R) (hX : LMade A R (fun a b => a && b) X) : X.names = both_ A B ∧ ∃ c, IsLeast (2 ^ (both_ A B).length) (fun t => (fun a b => a && !b) (LN A (both_ A B) t) (LN B (both_ A B) t)) X c := by
  have e : both_ A R = both_ A B := both_names rfl hR.2.1
  obtain ⟨_, h1, _, c, h2⟩ := hX
  rw [e] at h1 h2
  exact ⟨h1, c, h2.congr fun t _ => by rw [hR.2.2.2]⟩
theorem second_here {A B R X : Mach} (hR : LFlip A R) (hX : LMade R B (fun a b => a && b) X) : X.names = both_ A B ∧ ∃ c, IsLeast (2 ^ (both_ A B).length) (fun t => (fun a b => !a && b) (LN A (both_ A B) t) (LN B (both_ A B) t)) X c := by
  have e : both_ R B = both_ A B := both_names hR.2.1 rfl
  obtain ⟨_, h1, _, c, h2⟩ := hX
  rw [e] at h1 h2
  exact ⟨h1, c, h2.congr fun t _ => by rw [hR.2.2.2]⟩
theorem pair_made {A B X Y : Mach} (h : Two A B) {opX opY : Bool → Bool → Bool} (oX : X.Ok) (oY : Y.Ok) (nX : X.names = both_ A B) (nY : Y.names = both_ A B)
    (hX : ∃ c, IsLeast (2 ^ (both_ A B).length) (fun t => opX (LN A (both_ A B) t) (LN B (both_ A B) t)) X c) (hY : ∃ c, IsLeast (2 ^ (both_ A B).length) (fun t => opY (LN A (both_ A B) t) (LN B (both_ A B) t)) Y c) : PairOk X Y := by
  obtain ⟨cX, hX⟩ := hX
  obtain ⟨cY, hY⟩ := hY
  have e := both_self nX nY
  have h1 := h.n
  refine ⟨oX, oY, by rw [nX]; omega, by rw [nY]; omega, by rw [e]; omega, A.rooms * B.rooms, ?_, ?_⟩
  · rw [e]; exact Bd.made h.a h.b nX nY hX hY
  · rw [e]; exact h.pr
/-- what the last machine lets by -/
theorem either_lang {A B X Y Z : Mach} (nX : X.names = both_ A B) (nY : Y.names = both_ A B)
    (hX : ∃ c, IsLeast (2 ^ (both_ A B).length) (fun t => (fun a b => a && !b) (LN A (both_ A B) t) (LN B (both_ A B) t)) X c) (hY : ∃ c, IsLeast (2 ^ (both_ A B).length) (fun t => (fun a b => !a && b) (LN A (both_ A B) t) (LN B (both_ A B) t)) Y c)
    (hZ : LMade X Y (fun a b => a || b) Z) : Z.names = both_ A B ∧ ∀ t : Tree, t.ok (2 ^ (both_ A B).length) → Z.L t = Lx A B t := by
  obtain ⟨cX, hX⟩ := hX
  obtain ⟨cY, hY⟩ := hY
  obtain ⟨_, h1, _, c, h2⟩ := hZ
  have e := both_self nX nY
  rw [e] at h1 h2
  refine ⟨h1, fun t ot => ?_⟩
  rw [h2.lang ot]
  have eX : LN X (both_ A B) t = X.L t := by
    have := LN_self (X := X) (t := t) (by rw [nX]; exact both_nodup A B) (by rw [nX]; exact ot)
    rwa [nX] at this
  have eY : LN Y (both_ A B) t = Y.L t := by
    have := LN_self (X := Y) (t := t) (by rw [nY]; exact both_nodup A B) (by rw [nY]; exact ot)
    rwa [nY] at this
  show (LN X (both_ A B) t || LN Y (both_ A B) t) = _
  rw [eX, eY, hX.lang ot, hY.lang ot]
  unfold Lx
  cases LN A (both_ A B) t <;> cases LN B (both_ A B) t <;> rfl
section
variable {T : List NTab} {X : Cx} {σ : L2.St} {H : Hp} {a : Expr} {pos : Pos}
/-- the first item of a pair of which something is told -/
theorem ex_fst {R : D → Prop} {j : Nat} {p1 : Pos} (ha : EX T X σ H a (fun _ v H2 => ∃ d e : D, R d ∧ Is H2 (.tup [d, e]) v)) : ER T X σ H (.Subscript a (.Constant (.int 0) j p1) pos) R := fun H1 g t =>
  PE_to (pe_ix ix_tup wE_pe (pe_int (i := 0)) (fun _ _ => rfl)) (wE_imp (ha H1 g t) fun u H2 ⟨g2, d, e, r, i⟩ => by
    obtain ⟨p, v1, v2, e1, h1, i1, _⟩ := tup2 i
    exact ⟨p, [v1, v2], 0, v1, e1, rfl, SqT.of h1, rfl, g2, d, r, i1⟩)
end
section
variable {P : Program} {w : World} {K : PySem.W.Frag} {mg : Str → Option Value} {base : Heap} {T : List NTab} {f c Pt CT Tr fk : Addr} {fd fdk : FuncData}
abbrev sLfi : Stmt := topS 72
abbrev nLfi : List Str := ["_law_one", "_law_other", "_law_first_here", "_law_second", "_law_made", "_law_found", "_law_e"]
theorem sc_lfi : FnScope nLfi ["_law_one", "_law_other"] (defScope sLfi) := ⟨rfl, rfl, rfl, by decide +kernel, rfl, by decide +kernel, by decide +kernel⟩
def R_lfi : Hp → List D → (Hp → V → Prop) → Prop := fun _ ds post => ∃ (A B : Mach) (o : Out), Two A B ∧ OutR (both_ A B) (Lx A B) o ∧ ds = [machD A, machD B] ∧ post = fun H' v => Is H' (outD o) v
set_option maxHeartbeats 1000000 in
theorem ok_lfi (F : Fun K "_law_first" "_law_first" sLfi f fd) (hm : mg "_law_first" = some (.ref f)) (G : Glo mg) (KA : KindsAt K mg fk fdk CT Tr) (BO : DefOk P w K mg base T 6 "both" ["one", "other"] (R_op fun a b => a && b)) (EI_ : DefOk P w K mg base T 6 "either" ["one", "other"] (R_op fun a b => a || b)) (FL : DefOk P w K mg base T 5 "flipped" ["machine"] R_flip)
    (LE : DefOkX P w K mg base T CT 5 "first_let" ["machine"] R_let) : DefOk P w K mg base T 7 "_law_first" ["_law_one", "_law_other"] R_lfi := by
  refine def_ok F hm sc_lfi (fun _ _ _ _ _ _ us hl => match us, hl with | [_, _], _ => rfl) (fun H ds post ⟨_, _, _, _, _, e, _⟩ => by rw [e]; rfl) fun cdv A outer s H E vs ds post hr hT hi ⟨MA, MB, o, hP, hO, e1, e2⟩ => ?_
  subst e1 e2
  obtain ⟨va, vb, rfl, ia, ib⟩ := isAll2 hi
  refine b_asg (P := fun _ v H' => ∃ d, (∃ R X, LFlip MB R ∧ LMade MA R (fun a b => a && b) X ∧ d = machD X) ∧ Is H' d v) (ps_set (i := 2) sc_lfi.nd rfl (Or.inl rfl) wE_pe) hT (ex_fst (ex_callX (P := fun _ v H' => ∃ d e : D, (∃ R X, LFlip MB R ∧ LMade MA R (fun a b => a && b) X ∧ d = machD X) ∧ Is H' (.tup [d, e]) v) BO hr (by decide) rfl (eax_cons (ee_v (pv 0) rfl ia) (eax_cons (ex_fst (R := fun d => ∃ R, LFlip MB R ∧ d = machD R) (ex_call FL hr (by decide) rfl (ea_cons (ee_v (pv 1) rfl ib) ea_nil) (fun Ha Hb ga gb => ⟨_, ⟨MB, hP.b, two_sm hP.symm, rfl, rfl⟩, fun v H3 g3 q => flip_least hP.b q⟩))) eax_nil)) ?_)) fun v H1 g1 t1 ⟨d, ⟨R1, X1, hR1, hX1, e⟩, i1⟩ => ?_
  · rintro H1 vs H2 g1 g2 ⟨v1, r1, H3, e1, i1, g3, g4, v2, r2, H4, e2, ⟨d, ⟨R, hR, ed⟩, i2⟩, g5, g6, e3⟩
    subst e3 e2 e1 ed
    have hPR : PairOk MA R := pair_mono hP hP.a hR.1 rfl hR.2.1 (Nat.le_refl _) hR.2.2.1
    exact ⟨[machD MA, machD R], _, .cons (i1.mono g4.ti) (.cons (i2.mono g6.ti) .nil), ⟨MA, R, hPR, rfl, rfl⟩, fun v H3 g3 q => by
      obtain ⟨d, e, ⟨X, hX, ed⟩, i⟩ := lp_least hPR q
      exact ⟨d, e, ⟨R, X, hR, hX, ed⟩, i⟩⟩
  subst e
  show wB _ _ _ ([some va, some vb, some v, none, none, none, none]) H1
  refine b_asg (P := fun _ v H' => ∃ d, (∃ R X, LFlip MA R ∧ LMade R MB (fun a b => a && b) X ∧ d = machD X) ∧ Is H' d v) (ps_set (i := 3) sc_lfi.nd rfl (Or.inl rfl) wE_pe) t1 (ex_fst (ex_callX (P := fun _ v H' => ∃ d e : D, (∃ R X, LFlip MA R ∧ LMade R MB (fun a b => a && b) X ∧ d = machD X) ∧ Is H' (.tup [d, e]) v) BO hr (by decide) rfl (eax_cons (ex_fst (R := fun d => ∃ R, LFlip MA R ∧ d = machD R) (ex_call FL hr (by decide) rfl (ea_cons (ee_v (pv 0) rfl (ia.mono g1.ti)) ea_nil) (fun Ha Hb ga gb => ⟨_, ⟨MA, hP.a, two_sm hP, rfl, rfl⟩, fun v H3 g3 q => flip_least hP.a q⟩))) (eax_cons (ee_v (pv 1) rfl (ib.mono g1.ti)) eax_nil)) ?_)) fun v2 H2 g2 t2 ⟨d, ⟨R2, X2, hR2, hX2, e⟩, i2⟩ => ?_
  · rintro H1 vs H2 g1 g2 ⟨v1, r1, H3, e1, ⟨d, ⟨R, hR, ed⟩, i1⟩, g3, g4, v2, r2, H4, e2, i2, g5, g6, e3⟩
    subst e3 e2 e1 ed
    have hPR : PairOk R MB := pair_mono hP hR.1 hP.b hR.2.1 rfl hR.2.2.1 (Nat.le_refl _)
    exact ⟨[machD R, machD MB], _, .cons (i1.mono g4.ti) (.cons (i2.mono g6.ti) .nil), ⟨R, MB, hPR, rfl, rfl⟩, fun v H3 g3 q => by
      obtain ⟨d, e, ⟨X, hX, ed⟩, i⟩ := lp_least hPR q
      exact ⟨d, e, ⟨R, X, hR, hX, ed⟩, i⟩⟩
  subst e
  show wB _ _ _ ([some va, some vb, some v, some v2, none, none, none]) H2
  obtain ⟨n1, l1⟩ := first_here hR1 hX1
  obtain ⟨n2, l2⟩ := second_here hR2 hX2
  have hPX : PairOk X1 X2 := pair_made (opX := fun a b => a && !b) (opY := fun a b => !a && b) hP hX1.1 hX2.1 n1 n2 l1 l2
  refine b_asg (P := fun _ v H' => ∃ d, (∃ Z, LMade X1 X2 (fun a b => a || b) Z ∧ d = machD Z) ∧ Is H' d v) (ps_set (i := 4) sc_lfi.nd rfl (Or.inl rfl) wE_pe) t2 (ex_fst (ex_call EI_ hr (by decide) rfl (ea_cons (ee_v (pv 2) rfl (i1.mono g2.ti)) (ea_cons (ee_v (pv 3) rfl i2) ea_nil)) (fun Ha Hb ga gb => ⟨_, ⟨X1, X2, hPX, rfl, rfl⟩, fun v H3 g3 q => lp_least hPX q⟩))) fun v3 H3 g3 t3 ⟨d, ⟨Z, hZ, e⟩, i3⟩ => ?_
  subst e
  show wB _ _ _ ([some va, some vb, some v, some v2, some v3, none, none]) H3
  obtain ⟨nZ, lZ⟩ := either_lang n1 n2 l1 l2 hZ
  have hOZ : OutR Z.names Z.L o := by
    rw [nZ]
    exact hO.congr fun t ot => (lZ t ot).symm
  have g13 := (g1.trans g2).trans g3
  refine b_try (i := 6) (c := .ref Tr) rfl rfl sc_lfi.nd rfl rfl ⟨rfl, by decide, .inl KA.tr⟩ fun pn xe tk => ?_
  refine b_asg (P := fun _ v H' => OutV o H' v) (ps_set (i := 5) sc_lfi.nd rfl (Or.inl rfl) wE_pe) t3 (ex_callR LE hr (by decide) rfl tk (ea_cons (ee_v (pv 4) rfl i3) ea_nil) (fun Ha Hb ga gb => ⟨_, _, ⟨Z, o, hZ.1, hZ.2.2.1, hOZ, rfl, rfl, rfl⟩, fun v H3 g3 q => q, fun hx H3 g3 => ⟨true, KA.ex, fun _ a na oe pn hz hf => ?_, fun h => nomatch h⟩⟩)) fun v H4 g4 t4 hv => b_nil ?_
  · have hO' : o = .refused := hx
    subst hO'
    obtain ⟨fs, hfs⟩ := hf
    have gH := g13.trans ((ga.trans gb).trans g3)
    refine b_ret (gH.tab hT) (ee_tup (ds := [.str "refused", kindsD]) (ea_cons ee_str (ea_cons (ex_kinds (p := (a, oe)) (D0 := CT) (ok_kinds KA.F G KA.kt) (room_suite hr (by decide)) ⟨rfl, fs, hfs, hz.2.2 fs hfs⟩ List.mem_cons_self ⟨hz, fs, hfs⟩ rfl KA.m KA.F.kp (binds_kinds KA.F) (ee_v (pv 6) rfl (.ref a))) ea_nil)) (sz_ok (by show 2 ≤ 1000000; decide))) fun v H4 g4 t4 i => ⟨gH.trans g4, i⟩
  · refine b_ret t4 (outD_told (i := 5) (pv 5) rfl hv) fun v H5 g5 t5 i => ⟨(g13.trans g4).trans g5, i⟩
end
end Tk
set_option Elab.async false
set_option linter.all false
set_option maxRecDepth 10000
/-! What the law asks, plain: rows, trees, least machines. -/
namespace Tk
open PySem PySem.Spec PyProof.Rows L2 LamX NdefX
/-! ### the tree told -/
theorem enc_marks {names : List Nat} : ∀ (t : Tree) (p : Nat × List Nat), p ∈ enc names t → ∀ c ∈ p.2, c ∈ names
  | .nil, p, h => by cases h
  | .node l r x, p, h => by
    unfold enc at h
    rcases List.mem_append.mp h with h | h
    · rcases List.mem_append.mp h with h | h
      · exact enc_marks l p h
      · exact enc_marks r p h
    · rw [List.mem_singleton.mp h]
      exact marks_sub names x
/-- what is known of what is told -/
def OutS : Out → Prop
  | .told ps => ps.length ≤ 100 ∧ ∀ p ∈ ps, ∀ c ∈ p.2, c ∈ letters
  | _ => True
theorem outR_s {names : List Nat} {L : Tree → Bool} {o : Out} (h : OutR names L o) (hn : ∀ c ∈ names, c ∈ letters) : OutS o := by
  rcases h with ⟨h1, _⟩ | ⟨t, _, ⟨h1, h2⟩ | ⟨_, h2⟩⟩
  · rw [h1]; trivial
  · rw [h2]
    exact ⟨by rw [enc_len]; exact h1, fun p hp c hc => hn c (enc_marks t p hp c hc)⟩
  · rw [h2]; trivial
theorem outR_ex (names : List Nat) (L : Tree → Bool) : ∃ o, OutR names L o := by
  by_cases q : ∃ t : Tree, t.ok (2 ^ names.length) ∧ L t = true
  · obtain ⟨t, ht⟩ := q
    obtain ⟨u, hu⟩ := Least.ex (S := fun t => t.ok (2 ^ names.length) ∧ L t = true) ht
    by_cases hs : u.size ≤ 100
    · exact ⟨.told (enc names u), .inr ⟨u, hu, .inl ⟨hs, rfl⟩⟩⟩
    · exact ⟨.refused, .inr ⟨u, hu, .inr ⟨by omega, rfl⟩⟩⟩
  · refine ⟨.none, .inl ⟨rfl, fun t ot => ?_⟩⟩
    cases e : L t with
    | false => rfl
    | true => exact (q ⟨t, ot, e⟩).elim
def isNo : Out → Bool
  | .none => true
  | _ => false
def isRf : Out → Bool
  | .refused => true
  | _ => false
theorem both_letters {A B : Mach} : ∀ c ∈ both_ A B, c ∈ letters := fun c hc => (mem_inOrder.mp hc).1
theorem both_comm (A B : Mach) : both_ B A = both_ A B := inOrder_comm _ _
theorem Lx_comm (A B : Mach) (t : Tree) : Lx B A t = Lx A B t := by
  unfold Lx
  rw [both_comm A B]
  cases LN A (both_ A B) t <;> cases LN B (both_ A B) t <;> rfl
theorem outR_swap {A B : Mach} {o : Out} (h : OutR (both_ A B) (Lx A B) o) : OutR (both_ B A) (Lx B A) o := by
  rw [both_comm A B]
  exact h.congr fun t _ => (Lx_comm A B t).symm
theorem outR_self (A : Mach) : OutR (both_ A A) (Lx A A) .none := .inl ⟨rfl, fun t _ => by unfold Lx; cases LN A (both_ A A) t <;> rfl⟩

/-! ### rows -/
def AlikeR (A B : Mach) (r : Option (List Pr)) : Prop := ∃ W sts, Made (both_ A B) (ledP A B (both_ A B)) (gdP A B fun a b => a != b) W sts ∧ ((W.good.any id = true ∧ r = none) ∨ (W.good.any id = false ∧ ∃ l : List Pr, l.Perm sts ∧ l.Pairwise Plt ∧ r = some l))
def alikeD : Option (List Pr) → D
  | none => .non
  | some l => .tup (l.map prD)
theorem alike_post {A B : Mach} {H : Hp} {v : V} (h : AlikePost A B H v) : ∃ r, AlikeR A B r ∧ Is H (alikeD r) v := by
  obtain ⟨W, sts, h1, ⟨h2, h3⟩ | ⟨h2, l, h3, h4, h5⟩⟩ := h
  · exact ⟨none, ⟨W, sts, h1, .inl ⟨h2, rfl⟩⟩, by rw [h3]; exact .non⟩
  · exact ⟨some l, ⟨W, sts, h1, .inr ⟨h2, l, h3, h4, rfl⟩⟩, h5⟩
theorem any_lx {A B : Mach} {W : Mach} {sts : List Pr} (h : Made (both_ A B) (ledP A B (both_ A B)) (gdP A B fun a b => a != b) W sts) : W.good.any id = true ↔ ∃ t : Tree, t.ok (2 ^ (both_ A B).length) ∧ Lx A B t = true := by
  rw [h.any]
  constructor
  · rintro ⟨t, o, e⟩; exact ⟨t, o, by rw [made_lang h o] at e; exact e⟩
  · rintro ⟨t, o, e⟩; exact ⟨t, o, by rw [made_lang h o]; exact e⟩
theorem alike_out {A B : Mach} {r : Option (List Pr)} {o : Out} (h : AlikeR A B r) (ho : OutR (both_ A B) (Lx A B) o) : r.isNone = !isNo o := by
  have hn := ho.none_iff
  obtain ⟨W, sts, h1, ⟨h2, h3⟩ | ⟨h2, l, _, _, h3⟩⟩ := h
  · obtain ⟨t, ot, e⟩ := (any_lx h1).mp h2
    rw [h3]
    cases o with
    | none =>
      have := hn.mp rfl t ot
      rw [e] at this
      cases this
    | told _ => rfl
    | refused => rfl
  · rw [h3]
    have : o = .none := hn.mpr fun t ot => by
      cases e : Lx A B t with
      | false => rfl
      | true =>
        have := (any_lx h1).mpr ⟨t, ot, e⟩
        rw [h2] at this
        cases this
    rw [this]; rfl
theorem alike_len {A B : Mach} {l : List Pr} (hP : PairOk A B) (h : AlikeR A B (some l)) : l.length ≤ 100 ∧ l.Nodup := by
  obtain ⟨W, sts, h1, ⟨_, h3⟩ | ⟨_, l', h4, _, h3⟩⟩ := h
  · cases h3
  · cases h3
    obtain ⟨_, _, _, q⟩ := made_small hP h1
    exact ⟨by rw [h4.length_eq]; exact q, (List.Perm.nodup_iff h4).mpr h1.nd⟩
theorem plt_irr (p : Pr) : ¬ Plt p p := by unfold Plt; omega
theorem plt_tr (p q r : Pr) (h1 : Plt p q) (h2 : Plt q r) : Plt p r := by unfold Plt at *; omega
def swapP (p : Pr) : Pr := (p.2, p.1)
/-- the rows turned about, in order -/
def Turned (r r2 : Option (List Pr)) : Prop := (r = none ∧ r2 = none) ∨ ∃ l l', r = some l ∧ r2 = some l' ∧ l'.Perm (l.map swapP) ∧ l'.Pairwise Plt
theorem turned_eq {A B : Mach} {r r2 r' : Option (List Pr)} (h : AlikeR A B r) (h2 : Turned r r2) (h' : AlikeR B A r') : r' = r2 := by
  obtain ⟨o, ho⟩ := outR_ex (both_ A B) (Lx A B)
  have e1 := alike_out h ho
  have e2 := alike_out h' (outR_swap ho)
  obtain ⟨W, sts, q1, q2⟩ := h
  obtain ⟨W', sts', q1', q2'⟩ := h'
  rcases h2 with ⟨h3, h4⟩ | ⟨l, l', h3, h4, h5, h6⟩
  · rw [h3] at e1
    rw [← e1] at e2
    rw [h4]
    cases r' with
    | none => rfl
    | some _ => cases e2
  · rw [h3] at e1
    rw [← e1] at e2
    rcases q2' with ⟨_, z⟩ | ⟨_, k, z1, z2, z3⟩
    · rw [z] at e2; cases e2
    · rcases q2 with ⟨_, z⟩ | ⟨_, l0, y1, _, y3⟩
      · rw [h3] at z; cases z
      · rw [h3] at y3
        cases y3
        rw [z3, h4]
        congr 1
        refine sorted_ext (R := Plt) plt_irr plt_tr z2 h6 fun p => ?_
        rw [both_comm A B] at q1'
        rw [z1.mem_iff, h5.mem_iff, List.mem_map]
        constructor
        · intro hp
          refine ⟨(p.2, p.1), y1.mem_iff.mpr ((made_swap q1 q1' p.2 p.1).mpr hp), rfl⟩
        · rintro ⟨q, hq, rfl⟩
          exact (made_swap q1 q1' q.1 q.2).mp (y1.mem_iff.mp hq)

/-! ### least machines over the names of both -/
def LW (A : Mach) (N : List Nat) (R : Mach) : Prop := R.names = N ∧ R.rooms ≤ A.rooms ∧ ∃ c, IsLeast (2 ^ N.length) (fun t => LN A N t) R c
theorem wid_least {A : Mach} {N : List Nat} {H : Hp} {v : V} (h : LeastPost (widM A N) H v) : ∃ d e : D, (∃ R, LW A N R ∧ d = machD R) ∧ Is H (.tup [d, e]) v := by
  obtain ⟨R, c, ps, h1, h2, h3, h4, _, _⟩ := h
  exact ⟨machD R, pap ps, ⟨R, ⟨h2, h3, c, IsLeast.congr (m := 2 ^ N.length) h1 fun t ot => wid_lang ot⟩, rfl⟩, h4⟩
theorem map_inj' {α β : Type} {f : α → β} (hf : ∀ a b, f a = f b → a = b) : ∀ {l k : List α}, l.map f = k.map f → l = k
  | [], [], _ => rfl
  | [], b :: k, h => by cases h
  | a :: l, [], h => by cases h
  | a :: l, b :: k, h => by
    rw [List.map_cons, List.map_cons] at h
    injection h with h1 h2
    rw [hf a b h1, map_inj' hf h2]
theorem machD_inj {M M' : Mach} (h : machD M = machD M') : M.good = M'.good ∧ M.table = M'.table := by
  unfold machD at h
  injection h with h
  injection h with _ h
  injection h with h1 h
  injection h with h2 _
  refine ⟨?_, ?_⟩
  · unfold blsD at h1
    injection h1 with h1
    exact map_inj' (fun a b e => by injection e) h1
  · unfold tabD at h2
    injection h2 with h2
    refine map_inj' (fun a b e => ?_) h2
    unfold rowsD at e
    injection e with e
    refine map_inj' (fun a b e => ?_) e
    unfold rowD at e
    injection e with e
    unfold natsD at e
    exact map_inj' (fun a b e => by injection e with e; omega) e
theorem lw_same {A B R1 R2 : Mach} (h1 : LW A (both_ A B) R1) (h2 : LW B (both_ A B) R2) {o : Out} (ho : OutR (both_ A B) (Lx A B) o) : sameP (machD R2) (machD R1) = isNo o := by
  obtain ⟨n1, _, c1, l1⟩ := h1
  obtain ⟨n2, _, c2, l2⟩ := h2
  have hn := ho.none_iff
  cases q : isNo o with
  | true =>
    have e : o = .none := by cases o <;> first | rfl | cases q
    refine sameP_yes ?_
    have he : ∀ t : Tree, t.ok (2 ^ (both_ A B).length) → LN B (both_ A B) t = LN A (both_ A B) t := fun t ot => by
      have := hn.mp e t ot
      unfold Lx at this
      revert this
      cases LN A (both_ A B) t <;> cases LN B (both_ A B) t <;> simp
    obtain ⟨eg, et⟩ := l2.uniq l1 he
    unfold machD
    rw [eg, et, n1, n2]
  | false =>
    refine sameP_no fun h => ?_
    obtain ⟨eg, et⟩ := machD_inj h
    have e : o = .none := hn.mpr fun t ot => by
      have e1 := l1.lang ot
      have e2 := l2.lang ot
      have e3 : R2.L t = R1.L t := by
        have ed : R2.d = R1.d := by unfold Mach.d; rw [et]
        unfold Mach.L Mach.g
        rw [ed, eg]
      unfold Lx
      rw [← e1, ← e2, e3]
      cases R1.L t <;> rfl
    rw [e] at q
    cases q

/-! ### how deep the data are -/
theorem pn_treeD {ps : List (Nat × List Nat)} (h : ps.length ≤ 1000000) : Pn 2 (treeD ps) := by
  refine .tup (fun d hd => ?_) (by rw [List.length_map]; exact h)
  obtain ⟨p, _, rfl⟩ := List.mem_map.mp hd
  refine .tup (fun d hd => ?_) (by show 2 ≤ 1000000; decide)
  rcases List.mem_cons.mp hd with e | hd
  · rw [e]; exact .int _ _
  · rw [List.mem_singleton.mp hd]; exact .str _ _
theorem Pn.succ {n : Nat} {d : D} (h : Pn n d) : Pn (n + 1) d := by
  induction h with
  | non n => exact .non _
  | bl n b => exact .bl _ b
  | int n i => exact .int _ i
  | str n s => exact .str _ s
  | tup _ hz ih => exact .tup ih hz
theorem pn_ref : Pn 2 refD := by
  refine .tup (fun d hd => ?_) (by show 2 ≤ 1000000; decide)
  rcases List.mem_cons.mp hd with e | hd
  · rw [e]; exact .str _ _
  · rw [List.mem_singleton.mp hd]
    refine .tup (fun d hd => ?_) (by show 10 ≤ 1000000; decide)
    obtain ⟨b, _, rfl⟩ := List.mem_map.mp hd
    exact .bl _ _
theorem pn_out {o : Out} (h : OutS o) : Pn 3 (outD o) := by
  cases o with
  | none =>
    refine .tup (fun d hd => ?_) (by show 2 ≤ 1000000; decide)
    rcases List.mem_cons.mp hd with e | hd
    · rw [e]; exact .str _ _
    · rw [List.mem_singleton.mp hd]; exact .non _
  | told ps =>
    have h1 : ps.length ≤ 100 := h.1
    refine .tup (fun d hd => ?_) (by show 2 ≤ 1000000; decide)
    rcases List.mem_cons.mp hd with e | hd
    · rw [e]; exact .str _ _
    · rw [List.mem_singleton.mp hd]; exact pn_treeD (by omega)
  | refused => exact pn_ref.succ
theorem pn_alike {r : Option (List Pr)} (h : ∀ l, r = some l → l.length ≤ 100) : Pn 2 (alikeD r) := by
  cases r with
  | none => exact .non _
  | some l =>
    have h1 := h l rfl
    refine .tup (fun d hd => ?_) (by rw [List.length_map]; omega)
    obtain ⟨p, _, rfl⟩ := List.mem_map.mp hd
    refine .tup (fun d hd => ?_) (by show 2 ≤ 1000000; decide)
    obtain ⟨i, _, rfl⟩ := List.mem_map.mp hd
    exact .int _ _
theorem pn_mach {R : Mach} {m : Nat} {L : Tree → Bool} {c : Tree → Nat} (h : IsLeast m L R c) (hr : R.rooms ≤ 1000) (hm : m ≤ 8192) : Pn 4 (machD R) := by
  have hg : R.good.length ≤ 1000 := hr
  refine .tup (fun d hd => ?_) (by show 3 ≤ 1000000; decide)
  rcases List.mem_cons.mp hd with e | hd
  · rw [e]; exact .str _ _
  rcases List.mem_cons.mp hd with e | hd
  · rw [e]
    refine .tup (fun d hd => ?_) (by rw [List.length_map]; omega)
    obtain ⟨b, _, rfl⟩ := List.mem_map.mp hd
    exact .bl _ _
  rw [List.mem_singleton.mp hd]
  refine .tup (fun d hd => ?_) (by rw [List.length_map, h.tl]; omega)
  obtain ⟨rows, hrows, rfl⟩ := List.mem_map.mp hd
  obtain ⟨x, hx⟩ := List.mem_iff_getElem?.mp hrows
  obtain ⟨e1, e2⟩ := h.rl x rows hx
  refine .tup (fun d hd => ?_) (by rw [List.length_map, e1]; omega)
  obtain ⟨row, hrow, rfl⟩ := List.mem_map.mp hd
  obtain ⟨a, ha⟩ := List.mem_iff_getElem?.mp hrow
  have e3 := e2 a row ha
  refine .tup (fun d hd => ?_) (by unfold natsD; rw [List.length_map, e3]; omega)
  obtain ⟨i, _, rfl⟩ := List.mem_map.mp hd
  exact .int _ _

/-! ### the tree told compared with ('told', None) -/
def pyPl (p : Nat × List Nat) : PyData := .tuple [.int (p.1 : Nat), .str (tx p.2)]
def pyO : Out → PyData
  | .none => .tuple [.str "told", .none]
  | .told ps => .tuple [.str "told", .tuple (ps.map pyPl)]
  | .refused => .tuple [.str "refused", .tuple (kindsL.map .bool)]
def outL : Out → List D
  | .none => [.str "told", .non]
  | .told ps => [.str "told", treeD ps]
  | .refused => [.str "refused", kindsD]
theorem outD_eq (o : Out) : outD o = .tup (outL o) := by cases o <;> rfl
def hdO (o : Out) : Str := if isRf o then "refused" else "told"
theorem outL0 (o : Out) : (outL o)[0]? = some (.str (hdO o)) := by cases o <;> rfl
theorem hd_ref (o : Out) : decide (hdO o = ("refused" : Str)) = isRf o := by
  have h1 : decide (("told" : Str) = ("refused" : Str)) = false := by decide +kernel
  have h2 : decide (("refused" : Str) = ("refused" : Str)) = true := by decide +kernel
  cases o
  · exact h1
  · exact h1
  · exact h2
theorem dp_tree {K : PySem.W.Frag} {H : Hp} : ∀ {ps : List (Nat × List Nat)} {vs : List V}, IsAll H (ps.map placeD) vs → DpAll K H vs (ps.map pyPl)
  | [], _, h => by cases h; exact .nil
  | p :: ps, _, h => by
    cases h with
    | cons h1 h2 =>
      refine .cons ?_ (dp_tree h2)
      obtain ⟨q, v1, v2, rfl, hq, i1, i2⟩ := tup2 h1
      cases i1; cases i2
      exact .tup (SqT.of hq) (.cons (.int _) (.cons (.str _) .nil))
theorem dp_bools {K : PySem.W.Frag} {H : Hp} : ∀ {bs : List Bool} {vs : List V}, IsAll H (bs.map .bl) vs → DpAll K H vs (bs.map .bool)
  | [], _, h => by cases h; exact .nil
  | b :: bs, _, h => by
    cases h with
    | cons h1 h2 =>
      cases h1
      exact .cons (.bl _) (dp_bools h2)
theorem dp_out {K : PySem.W.Frag} {H : Hp} {o : Out} {v : V} (h : Is H (outD o) v) : Dp K H v (pyO o) := by
  cases o with
  | none =>
    obtain ⟨q, v1, v2, rfl, hq, i1, i2⟩ := tup2 h
    cases i1; cases i2
    exact .tup (SqT.of hq) (.cons (.str _) (.cons .non .nil))
  | told ps =>
    obtain ⟨q, v1, v2, rfl, hq, i1, i2⟩ := tup2 h
    cases i1
    cases i2 with
    | tup h1 h2 => exact .tup (SqT.of hq) (.cons (.str _) (.cons (.tup (SqT.of h1) (dp_tree h2)) .nil))
  | refused =>
    obtain ⟨q, v1, v2, rfl, hq, i1, i2⟩ := tup2 h
    cases i1
    cases i2 with
    | tup h1 h2 => exact .tup (SqT.of hq) (.cons (.str _) (.cons (.tup (SqT.of h1) (dp_bools h2)) .nil))
theorem letters_small : ∀ c ∈ letters, c < 0x110000 := by decide
theorem lay_pl {ps : List (Nat × List Nat)} (h : ∀ p ∈ ps, ∀ c ∈ p.2, c ∈ letters) : PyData.canLayAll0 (ps.map pyPl) = true := by
  induction ps with
  | nil => rfl
  | cons p ps ih =>
    have h1 : PyData.strOk (tx p.2) = true := by
      unfold PyData.strOk
      rw [Array.all_eq_true']
      intro c hc
      exact decide_eq_true (letters_small c (h p List.mem_cons_self c (by simpa using hc)))
    rw [List.map_cons]
    simp only [PyData.canLayAll0, PyData.canLay0, pyPl, h1, ih fun q hq => h q (List.mem_cons_of_mem _ hq), Bool.and_self]
theorem depth_pl (ps : List (Nat × List Nat)) : PyData.depthAll (ps.map pyPl) ≤ 1 := by
  induction ps with
  | nil => simp [PyData.depthAll]
  | cons p ps ih =>
    rw [List.map_cons]
    have : PyData.depth (pyPl p) = 1 := by simp [pyPl, PyData.depth, PyData.depthAll]
    simp only [PyData.depthAll, this]
    omega
theorem shaped_out {o : Out} (h : OutS o) : SeqAt.shaped (pyO o) = true := by
  cases o with
  | none => decide +kernel
  | refused => decide +kernel
  | told ps =>
    have h1 := lay_pl h.2
    have h2 := depth_pl ps
    have h3 : PyData.strOk "told" = true := by decide +kernel
    unfold SeqAt.shaped
    rw [Bool.and_eq_true]
    constructor
    · simp only [pyO, PyData.canLay0, PyData.canLayAll0, h1, h3, Bool.and_self]
    · refine decide_eq_true ?_
      simp only [pyO, PyData.depth, PyData.depthAll]
      omega
theorem eqv_out (o : Out) : PyData.eqv (pyO o) (pyO .none) = isNo o := by
  cases o with
  | none => decide +kernel
  | refused => decide +kernel
  | told ps =>
    simp only [pyO, PyData.eqv, PyData.eqvAll, Bool.false_and, Bool.and_false]
    rfl
end Tk
set_option Elab.async false
set_option linter.all false
set_option maxRecDepth 10000
/-! The law. -/
namespace Tk
open PySem PySem.Spec PyProof.Rows L2 LamX NdefX
section
variable {T : List NTab} {X : Cx} {σ : L2.St} {H : Hp} {a b e : Expr} {pos p1 : Pos}
/-- x is not None, of what is not -/
theorem ee_notNX {j : Nat} {p2 : Pos} (ha : EX T X σ H a (fun _ v _ => v ≠ .non)) : EE T X σ H (.Compare a [.IsNot] [.Constant .none j p2] pos) (.bl true) := fun H1 g t =>
  PE_to (pe_cmpR op_notN wE_pe pe_non (nomark _)) (wE_imp (ha H1 g t) fun v H2 ⟨g2, e2⟩ => ⟨rfl, g2, by rw [decide_eq_false e2]; exact .bl _⟩)
/-- == of what is told and ('told', None) -/
theorem ee_eqO {o : Out} (hu : X.A.units + 64 < cLine) (ha : EE T X σ H a (outD o)) (hb : EE T X σ H b (outD .none)) (hs : OutS o) : EE T X σ H (.Compare a [.Eq] [b] pos) (.bl (isNo o)) :=
  ex_op2 (pe_cmpR (op_eqD hu) wE_pe wE_pe (nomark _)) ha hb fun H1 H2 u v _ _ _ iu iv Q q => ⟨pyO o, pyO .none, dp_out iu, dp_out iv, shaped_out hs, shaped_out (o := .none) trivial, q _ _ (Gx.refl _) (by rw [eqv_out]; exact .bl _)⟩
/-- sorted(pairs, new) -/
theorem ex_sortPX {l : List Pr} (hg : Gl X "sorted") (hm : X.mg "sorted" = none) (he : EL T X σ H e (l.map prD)) (hnd : l.Nodup) (hst : starEach (e :: []) X.env = (false, eval e X.env) :: starEach [] X.env := by rfl) (hpl : (backTo pos (starEach [] X.env)).any (·.1) = false := by rfl) :
    EX T X σ H (.Call (.Name "sorted" p1) [e] [] pos) (isL fun ds => ∃ l' : List Pr, ds = l'.map prD ∧ l'.Perm l ∧ l'.Pairwise Plt) := fun Ha ga ta =>
  PE_to (pe_callB cr_sortedPO hg hm (by decide +kernel) (pa_cons wE_pe pa_nil hst) (by decide) (by decide) hst hpl) (wE_imp (he Ha ga ta) fun u7 H7 ⟨g7, p, xs, e7, _, hp, hx⟩ => by
    subst e7
    have hk0 : ∀ x ∈ xs, ∃ q : Pr, ∃ t, x = V.ref t ∧ H7 t = some (.tup [.int (q.1 : Nat), .int (q.2 : Nat)]) := fun x hx' => by
      obtain ⟨i, hi⟩ := List.mem_iff_getElem?.mp hx'
      obtain ⟨d, hd, id⟩ := hx.get' hi
      rw [List.getElem?_map] at hd
      obtain ⟨q, hq, rfl⟩ := Option.map_eq_some_iff.mp hd
      cases id with
      | @tup p us _ h1 h2 => exact ⟨q, p, rfl, by rw [h2.nats] at h1; exact h1⟩
    have hk : ∃ k : V → Pr, ∀ x ∈ xs, ∃ t, x = V.ref t ∧ H7 t = some (.tup [.int ((k x).1 : Nat), .int ((k x).2 : Nat)]) := by
      classical
      refine ⟨fun x => if h : ∃ q : Pr, ∃ t, x = V.ref t ∧ H7 t = some (.tup [.int (q.1 : Nat), .int (q.2 : Nat)]) then h.choose else (0, 0), fun x hx => ?_⟩
      have h := hk0 x hx
      simp only [dif_pos h]
      exact h.choose_spec
    obtain ⟨k, hk⟩ := hk
    have hmap : xs.map k = l := by
      have : ∀ (l : List Pr) (xs : List V), IsAll H7 (l.map prD) xs → (∀ x ∈ xs, ∃ t, x = V.ref t ∧ H7 t = some (.tup [.int ((k x).1 : Nat), .int ((k x).2 : Nat)])) → xs.map k = l := by
        intro l
        induction l with
        | nil => intro xs h _; cases h; rfl
        | cons a r ih =>
          intro xs h hh
          cases h with
          | @cons _ v _ vs h1 h2 =>
            rw [List.map_cons, ih vs h2 fun x hx => hh x (List.mem_cons_of_mem _ hx)]
            congr 1
            obtain ⟨t, e1, e2⟩ := hh v List.mem_cons_self
            subst e1
            cases h1 with
            | @tup _ us _ h3 h4 =>
              rw [e2] at h3
              have h5 := h4.nats
              have h6 : [V.int ((k (.ref t)).1 : Nat), V.int ((k (.ref t)).2 : Nat)] = natsV [a.1, a.2] := by
                cases h3
                exact h5
              simp [natsV] at h6
              exact Prod.ext (by omega) (by omega)
      exact this l xs hx hk
    refine ⟨p, xs, fun x => (((k x).1 : Int), ((k x).2 : Int)), rfl, SqL.of hp, fun x hx => hk x hx, fun ys p hs hb hn => ⟨g7.trans (Gx.new hn), p, ys, (ys.map k).map prD, rfl, upd_same, ?_, ys.map k, rfl, ?_, ?_⟩⟩
    · have hall : ∀ y ∈ ys, ∃ t, y = V.ref t ∧ upd H7 p (.lst ys) t = some (.tup [.int ((k y).1 : Nat), .int ((k y).2 : Nat)]) := fun y hy => by
        obtain ⟨t, e1, e2⟩ := hk y (hb.perm.mem_iff.mp hy)
        exact ⟨t, e1, (Gx.new (T := T) hn).tup e2⟩
      clear hb hs
      generalize upd H7 p (HO.lst ys) = Hz at hall ⊢
      induction ys with
      | nil => exact .nil
      | cons y ys ih =>
        obtain ⟨t, e1, e2⟩ := hall y List.mem_cons_self
        refine .cons ?_ (ih fun z hz => hall z (List.mem_cons_of_mem _ hz))
        subst e1
        exact .tup e2 (isAll_nats [_, _])
    · rw [← hmap]; exact hb.perm.map k
    · have hnd' : (ys.map k).Nodup := (List.Perm.nodup_iff (hb.perm.map k)).mpr (by rw [hmap]; exact hnd)
      rw [List.pairwise_map]
      have hn2 : ys.Pairwise fun a b => k a ≠ k b := by
        have := hnd'
        unfold List.Nodup at this
        rwa [List.pairwise_map] at this
      refine (List.Pairwise.and hs hn2).imp fun {a b} ⟨h1, h2⟩ => ?_
      have h3 := SrtO.lexB_no.mp h1
      unfold Plt
      have h4 : ¬ ((k a).1 = (k b).1 ∧ (k a).2 = (k b).2) := fun z => h2 (Prod.ext z.1 z.2)
      simp only at h3
      omega)
end
section
variable {P : Program} {w : World} {K : PySem.W.Frag} {mg : Str → Option Value} {base : Heap} {T : List NTab} {f c Pt CT : Addr} {fd : FuncData}
/-- def_ok, told of the function object -/
theorem def_okF {x : Str} {st : Stmt} {N ps : List Str} {k : Nat} {R : Hp → List D → (Hp → V → Prop) → Prop} (F : Fun K x x st f fd) (S : FnScope N ps (defScope st))
    (len : ∀ H ds post, R H ds post → ds.length = ps.length)
    (body : ∀ (cdv : Value) (A : Around) (outer : List Env) (s : Shared) (H : Hp) (E : XK) (vs : List V) (ds : List D) (post : Hp → V → Prop), Room k (A.deeper (envOfC x (defScope st) s.heap.objs.size f cdv)) → TabsN T H → IsAll H ds vs → R H ds post →
      wB (cx0 P w K mg base N x st f cdv A outer s H E) (defBody st) (Dn T H post) (start N vs) H) : FnOk P w K mg base CX0 (k + 1) f fd ps (spF T R) := by
  refine F.ok S (fun vs H Q E ⟨_, ds, post, h1, h2, _⟩ => by rw [← h1.length]; exact len H ds post h2) fun cdv A outer s H vs Q E hr ⟨hT, ds, post, h1, h2, h3⟩ => ⟨_, wB_pss, ?_⟩
  exact wB_imp (body cdv A outer s H E vs ds post hr hT h1 h2) (fun _ H' q => h3 _ _ q.1 q.2) (fun v H' q => h3 _ _ q.1 q.2) (fun _ _ z => z) (fun _ _ z => z)
abbrev sLaw : Stmt := topS 73
abbrev nLaw : List Str := ["_law_script", "_law_one", "_law_other", "_law_rows", "_law_tree", "_law_turned", "_law_names", "_law_least", "_law_a", "_law_b"]
theorem sc_law : FnScope nLaw ["_law_script"] (defScope sLaw) := ⟨rfl, rfl, rfl, by decide +kernel, rfl, by decide +kernel, by decide +kernel⟩
def R_law (K : PySem.W.Frag) : Hp → List D → (Hp → V → Prop) → Prop := fun H ds post => ∃ (a : Addr) (ns : List Int), SqL K H a (ns.map V.int) ∧ ds = [.ref a] ∧ post = fun _ v => v = .bl true
theorem alikeD_non {H : Hp} {r : Option (List Pr)} {v : V} (h : Is H (alikeD r) v) : decide (v = .non) = r.isNone := by
  cases r with
  | none =>
    have h : Is H .non v := h
    cases h; rfl
  | some l =>
    have h : Is H (.tup (l.map prD)) v := h
    cases h; rfl
theorem isRf_iff {o : Out} (h : isRf o = true) : outD o = refD := by cases o <;> first | rfl | cases h
theorem names_both {A B : Mach} (ha : ∀ c ∈ A.names, c ∈ letters) (hb : ∀ c ∈ B.names, c ∈ letters) {cs : List Nat} (h1 : cs.Pairwise (· < ·)) (h2 : ∀ c, c ∈ cs ↔ c ∈ A.names ++ B.names) : cs = both_ A B := by
  refine sorted_ext (fun a => Nat.lt_irrefl a) (fun a b c => Nat.lt_trans) h1 (inOrder_sorted _) fun c => ?_
  show _ ↔ c ∈ inOrder (A.names ++ B.names)
  rw [h2 c, mem_inOrder]
  constructor
  · intro h
    refine ⟨?_, h⟩
    rcases List.mem_append.mp h with q | q
    · exact ha c q
    · exact hb c q
  · exact fun h => h.2
theorem wid_args {A B : Mach} (h : Two A B) : A.rooms ≤ 100 ∧ (both_ A B).length ≤ 13 ∧ A.rooms * A.rooms * 2 ^ (both_ A B).length ≤ 10000 ∧ (widM A (both_ A B)).Ok ∧ Sm (widM A (both_ A B)) ∧ (widM A (both_ A B)).rooms ≤ 7 ∧ 2 ^ (both_ A B).length ≤ 16 := by
  have h1 := h.ra
  have h2 := h.n
  have h3 : 2 ^ (both_ A B).length ≤ 2 ^ 4 := Nat.pow_le_pow_right (by decide) h2
  have h4 : A.rooms * A.rooms ≤ 7 * 7 := Nat.mul_le_mul h1 h1
  have h5 : A.rooms * A.rooms * 2 ^ (both_ A B).length ≤ 7 * 7 * 2 ^ 4 := Nat.mul_le_mul h4 h3
  have h6 : A.rooms * 2 ^ (both_ A B).length ≤ 7 * 2 ^ 4 := Nat.mul_le_mul h1 h3
  have hr : (widM A (both_ A B)).rooms = A.rooms := rfl
  have hl : (widM A (both_ A B)).letters = 2 ^ (both_ A B).length := rfl
  exact ⟨by omega, by omega, by omega, wid_ok h.a _, ⟨by rw [hr]; omega, by rw [hl]; omega, by rw [hr, hl]; omega⟩, by rw [hr]; exact h1, by omega⟩
set_option maxHeartbeats 2000000 in
theorem ok_law (F : Fun K "law" "law" sLaw f fd) (G : Glo mg) (TW : DefOk P w K mg base T 4 "_law_two" ["_law_script"] (R_two K)) (AL : DefOk P w K mg base T 6 "alike_rows" ["one", "other"] R_alike) (LA : DefOk P w K mg base T 7 "_law_apart" ["_law_one", "_law_other"] R_lap)
    (DU : DefOk P w K mg base T 1 "_law_due_refusal" ["_law_at"] R_due) (SA : ∀ n, DefOk P w K mg base T (n + 1) "_law_same" ["_law_found", "_law_due"] (R_same n)) (LF : DefOk P w K mg base T 7 "_law_first" ["_law_one", "_law_other"] R_lfi) (LE : DefOk P w K mg base T 4 "least_of" ["machine"] R_least)
    (WI : DefOk P w K mg base T 2 "widened" ["machine", "names"] R_wid) : FnOk P w K mg base CX0 8 f fd ["_law_script"] (spF T (R_law K)) := by
  refine def_okF F sc_law (fun H ds post ⟨_, _, _, e, _⟩ => by rw [e]; rfl) fun cdv A outer s H E vs ds post hr hT hi ⟨a, ns, hsq, e1, e2⟩ => ?_
  subst e1 e2
  obtain ⟨_, rfl, i1⟩ := isAll1 hi
  cases i1
  have hu : (A.deeper (envOfC "law" (defScope sLaw) s.heap.objs.size f cdv)).units + 64 < cLine := hr.units
  refine b_unpack (n := 2) (js := [1, 2]) (ps_asg wE_pe (pg_tup rfl (pgs_cons (pg_name (i := 1) sc_law.nd rfl (Or.inl rfl)) (pgs_cons (pg_name (i := 2) sc_law.nd rfl (Or.inl rfl)) pgs_nil)))) hT (ex_call (P := fun _ v H2 => ∃ MA MB : Mach, Two MA MB ∧ Is H2 (.tup [machD MA, machD MB]) v) TW hr (by decide) rfl (ea_cons (ee_v (pv 0) rfl (.ref a)) ea_nil)
    (fun Ha Hb ga gb => ⟨_, ⟨a, ns, sqlGx (sqlGx hsq ga) gb, rfl, rfl⟩, fun v H3 g3 q => q⟩)) rfl fun v H1 g1 t1 ⟨MA, MB, h2, iv⟩ => ?_
  obtain ⟨pt, va, vb, e, hpt, ia, ib⟩ := tup2 iv
  refine ⟨pt, _, e, hpt, rfl, ?_⟩
  show wB _ _ _ ([some (.ref a), some va, some vb, none, none, none, none, none, none, none]) H1
  obtain ⟨o, ho⟩ := outR_ex (both_ MA MB) (Lx MA MB)
  have hs := outR_s ho both_letters
  -- rows
  refine b_asg (P := fun _ v H' => ∃ r, AlikeR MA MB r ∧ Is H' (alikeD r) v) (ps_set (i := 3) sc_law.nd rfl (Or.inl rfl) wE_pe) t1 (ex_call AL hr (by decide) rfl (ea_cons (ee_v (pv 1) rfl ia) (ea_cons (ee_v (pv 2) rfl ib) ea_nil)) (fun Ha Hb ga gb => ⟨_, ⟨MA, MB, two_pair h2, rfl, rfl⟩, fun v H3 g3 q => alike_post q⟩)) fun vr H2 g2 t2 ⟨r, hr1, ir⟩ => ?_
  have ia2 := ia.mono g2.ti
  have ib2 := ib.mono g2.ti
  -- the tree
  refine b_asg (P := fun _ v H' => Is H' (outD o) v) (ps_set (i := 4) sc_law.nd rfl (Or.inl rfl) wE_pe) t2 (ex_call LA hr (by decide) rfl (ea_cons (ee_v (pv 1) rfl ia2) (ea_cons (ee_v (pv 2) rfl ib2) ea_nil)) (fun Ha Hb ga gb => ⟨_, ⟨MA, MB, o, two_pair h2, ho, rfl, rfl⟩, fun v H3 g3 q => q⟩)) fun vt H3 g3 t3 it => ?_
  show wB _ _ _ ([some (.ref a), some va, some vb, some vr, some vt, none, none, none, none, none]) H3
  have ia3 := ia2.mono g3.ti
  have ib3 := ib2.mono g3.ti
  have ir3 := ir.mono g3.ti
  have eo := alike_out hr1 ho
  have hvr := alikeD_non ir
  refine b_when (c := false) t3 (ET.is (et_eqB (ee_isN (ev_v (pv 3) rfl)) (ee_eqO hu (ee_v (pv 4) rfl it) (ee_tup (ds := [.str "told", .non]) (ea_cons ee_str (ea_cons ee_non ea_nil)) (sz_ok (by show 2 ≤ 1000000; decide))) hs)) (by rw [hvr, eo, decide_eq_false_iff_not]; cases isNo o <;> decide)) (fun h => nomatch h) fun _ H4 g4 t4 => ?_
  -- the refusal
  refine b_when (c := false) t4 (ET.is (EW.et (ew_and (c1 := isRf o) (c2 := false) (ET.is (et_eq (u := .str (hdO o)) (v := .str "refused") (ee_ixT (ds := outL o) (i := 0) (EE.is (ee_v (pv 4) rfl (it.mono g4.ti)) (outD_eq o)) ee_int (outL0 o)) ee_str rfl rfl rfl) (by rw [← hd_ref o, decide_eq_decide]; exact ⟨fun e => V.str.inj e, fun e => by rw [e]⟩)) fun hc => ew_and1 (ET.is (et_not (et_val (ee_callA (d := .bl (sameP (outD o) refD)) (u := .bl (sameP (outD o) refD)) (SA 2) hr (by decide) rfl (ea_cons (ee_v (pv 4) rfl (it.mono g4.ti)) (ea_cons (d := refD) (ex_call DU hr (by decide) rfl (ea_cons ee_int ea_nil) (fun Ha Hb ga gb => ⟨_, ⟨rfl, rfl⟩, fun v H3 g3 q => q⟩)) ea_nil)) (fun H2 => ⟨outD o, refD, 3, pn_out hs, pn_ref, rfl, rfl⟩) rfl))) (by rw [sameP_yes (isRf_iff hc)]; rfl)))) (by cases isRf o <;> rfl)) (fun h => nomatch h) fun _ H5 g5 t5 => ?_
  -- turned
  refine b_asgA (d := .non) (u := .non) (ps_set (i := 5) sc_law.nd rfl (Or.inl rfl) wE_pe) t5 ee_non rfl fun H6 g6 t6 => ?_
  have g36 := (g4.trans g5).trans g6
  have ir6 := ir3.mono g36.ti
  show wB _ _ _ ([some (.ref a), some va, some vb, some vr, some vt, some .non, none, none, none, none]) H6
  refine b_whenI (fun σ' H' => ∃ (vu : V) (r2 : Option (List Pr)), σ' = [some (.ref a), some va, some vb, some vr, some vt, some vu, none, none, none, none] ∧ Gx T H3 H' ∧ Turned r r2 ∧ Is H' (alikeD r2) vu) t6 (et_notN (ev_v (pv 3) rfl)) (fun hc H7 g7 t7 => ?_) (fun hc H7 g7 t7 => ?_) ?_
  · rw [hvr] at hc
    cases r with
    | none => cases hc
    | some l =>
      obtain ⟨hl1, hl2⟩ := alike_len (two_pair h2) hr1
      have ir7 : Is H7 (.tup (l.map prD)) vr := ir6.mono g7.ti
      refine b_asg (P := fun _ v H' => ∃ l' : List Pr, (l'.Perm (l.map swapP) ∧ l'.Pairwise Plt) ∧ Is H' (.tup (l'.map prD)) v) (ps_set (i := 5) sc_law.nd rfl (Or.inl rfl) wE_pe) t7 (EX.imp (ex_tupX rfl G.tuple (ex_sortPX (l := l.map swapP) rfl G.sorted (el_mapT (es := (l.map swapP).map prD) (ds := l.map prD) (n := 2) (js := [8, 9]) (pe_lc (own := [("_law_a", 8), ("_law_b", 9)]) (g := gTup _ 2 (gNs [8, 9])) (tt := tYes) rfl sc_law.nd wI_pi (blkOk_by (N := nLaw) (sc := defScope sLaw) (by decide +kernel)) (fun _ _ _ _ _ => pg_tup rfl (pgs_cons (pg_name (i := 8) sc_law.nd rfl (Or.inl rfl)) (pgs_cons (pg_name (i := 9) sc_law.nd rfl (Or.inl rfl)) pgs_nil))) (fun _ _ _ _ _ => pts_nil) (fun _ _ _ _ _ => tB_pe _ _ _ _ _))
        (ei_tup (ee_v (pv 3) rfl ir7)) (by rw [List.length_map]; exact sz_lt (by omega)) (fun i => match l[i]? with
          | some p => prD (swapP p)
          | none => .non) rfl (fun us hl => match us, hl with | [_, _], _ => rfl) ?_ ?_) (nodup_map (f := swapP) hl2 ?_))) ?_) fun vu H8 g8 t8 ⟨l', hl', iu⟩ => b_nil ⟨vu, some l', rfl, (g36.trans g7).trans g8, .inr ⟨l, l', rfl, rfl, hl'.1, hl'.2⟩, iu⟩
      · rintro i di H8 h1 g8
        rw [List.getElem?_map] at h1
        obtain ⟨p, hp, rfl⟩ := Option.map_eq_some_iff.mp h1
        refine ⟨natsD [p.1, p.2], rfl, rfl, fun us hus => ?_⟩
        have e0 : us = natsV [p.1, p.2] := hus.nats
        subst e0
        intro s0 H0 C cl' fp
        simp only [hp]
        exact ee_tup (ds := natsD [p.2, p.1]) (ea_cons (ee_v (pv 9) rfl (.int _)) (ea_cons (ee_v (pv 8) rfl (.int _)) ea_nil)) (sz_ok (by show 2 ≤ 1000000; decide))
      · refine List.ext_getElem? fun i => ?_
        rw [List.getElem?_map, List.getElem?_map, List.getElem?_map, List.length_map]
        by_cases hi : i < l.length
        · rw [List.getElem?_range hi]
          simp only [Option.map_some, List.getElem?_eq_getElem hi]
        · have q1 : (List.range l.length)[i]? = none := List.getElem?_eq_none (by simpa using hi)
          have q2 : l[i]? = none := List.getElem?_eq_none (by omega)
          rw [q1, q2]; rfl
      · intro p _ q _ h
        unfold swapP at h
        have h1 := congrArg Prod.fst h
        have h2 := congrArg Prod.snd h
        exact Prod.ext h2 h1
      · rintro Ha v Hb ga gb ⟨ds, ⟨l', e1, e2, e3⟩, i⟩
        exact ⟨l', ⟨e2, e3⟩, by rw [← e1]; exact i⟩
  · rw [hvr] at hc
    cases r with
    | some l => cases hc
    | none => exact ⟨.non, none, rfl, g36.trans g7, .inl ⟨rfl, rfl⟩, .non⟩
  rintro σ' H7 ⟨vu, r2, rfl, g7, htu, iu⟩
  have g07 := ((g1.trans g2).trans g3).trans g7
  have t7 := g07.tab hT
  have ia7 := ia3.mono g7.ti
  have ib7 := ib3.mono g7.ti
  have it7 := it.mono g7.ti
  have hp2 : Pn 2 (alikeD r2) := pn_alike fun l' e => by
    rcases htu with ⟨_, z⟩ | ⟨l, l2, z1, z2, z3, _⟩
    · rw [z] at e; cases e
    · rw [z2] at e
      cases e
      rw [z1] at hr1
      have := (alike_len (two_pair h2) hr1).1
      rw [z3.length_eq, List.length_map]
      exact this
  -- the two exchanged
  refine b_when (c := false) t7 (ET.is (EW.et (ew_or (c1 := false) (c2 := false) (ET.is (et_not (et_val (ee_callA (d := .bl (sameP (alikeD r2) (alikeD r2))) (u := .bl (sameP (alikeD r2) (alikeD r2))) (SA 2) hr (by decide) rfl (ea_cons (d := alikeD r2) (ex_call AL hr (by decide) rfl (ea_cons (ee_v (pv 2) rfl ib7) (ea_cons (ee_v (pv 1) rfl ia7) ea_nil)) (fun Ha Hb ga gb => ⟨_, ⟨MB, MA, two_pair h2.symm, rfl, rfl⟩, fun v H3 g3 q => by
      obtain ⟨r', q1, q2⟩ := alike_post q
      rw [turned_eq hr1 htu q1] at q2
      exact q2⟩)) (ea_cons (ee_v (pv 5) rfl iu) ea_nil)) (fun H2 => ⟨alikeD r2, alikeD r2, 2, hp2, hp2, rfl, rfl⟩) rfl))) (by rw [sameP_yes rfl]; rfl)) fun _ => ew_or1 (ET.is (et_not (et_val (ee_callA (d := .bl (sameP (outD o) (outD o))) (u := .bl (sameP (outD o) (outD o))) (SA 3) hr (by decide) rfl (ea_cons (d := outD o) (ex_call LA hr (by decide) rfl (ea_cons (ee_v (pv 2) rfl ib7) (ea_cons (ee_v (pv 1) rfl ia7) ea_nil)) (fun Ha Hb ga gb => ⟨_, ⟨MB, MA, o, two_pair h2.symm, outR_swap ho, rfl, rfl⟩, fun v H3 g3 q => q⟩)) (ea_cons (ee_v (pv 4) rfl it7) ea_nil)) (fun H2 => ⟨outD o, outD o, 3, pn_out hs, pn_out hs, rfl, rfl⟩) rfl))) (by rw [sameP_yes rfl]; rfl)))) rfl) (fun h => nomatch h) fun _ H8 g8 t8 => ?_
  have ia8 := ia7.mono g8.ti
  have ib8 := ib7.mono g8.ti
  have it8 := it7.mono g8.ti
  -- the first tree of one and not the other, or of the other and not the one
  refine b_when (c := false) t8 (ET.is (et_not (et_val (ee_callA (d := .bl (sameP (outD o) (outD o))) (u := .bl (sameP (outD o) (outD o))) (SA 3) hr (by decide) rfl (ea_cons (d := outD o) (ex_call LF hr (by decide) rfl (ea_cons (ee_v (pv 1) rfl ia8) (ea_cons (ee_v (pv 2) rfl ib8) ea_nil)) (fun Ha Hb ga gb => ⟨_, ⟨MA, MB, o, h2, ho, rfl, rfl⟩, fun v H3 g3 q => q⟩)) (ea_cons (ee_v (pv 4) rfl it8) ea_nil)) (fun H2 => ⟨outD o, outD o, 3, pn_out hs, pn_out hs, rfl, rfl⟩) rfl))) (by rw [sameP_yes rfl]; rfl)) (fun h => nomatch h) fun _ H9 g9 t9 => ?_
  have ia9 := ia8.mono g9.ti
  have ib9 := ib8.mono g9.ti
  -- the names of both
  have na := h2.na
  have nb := h2.nb
  refine b_asg (P := fun _ v _ => ∃ cs, v = .str (tx cs) ∧ cs = both_ MA MB) (ps_set (i := 6) sc_law.nd rfl (Or.inl rfl) wE_pe) t9 (ex_joinX (Pp := fun cs => cs = both_ MA MB) (EX.imp (ex_sortSet rfl rfl G.sorted rfl G.set (l := MA.names ++ MB.names) (EE.is (ee_catS (mach_names (M := MA) (ee_v (pv 1) rfl ia9)) (mach_names (M := MB) (ee_v (pv 2) rfl ib9)) (by rw [tx_len, tx_len]; exact sz_ok (by omega))) (by congr 1; exact tx_app MA.names MB.names)) (by rw [List.length_append]; omega)) ?_)) fun vn H10 g10 t10 ⟨cs, e, hcs⟩ => ?_
  · rintro Ha v Hb ga gb ⟨p, xs, ds, e1, h3, h4, cs, e2, q1, q2⟩
    have hcs := names_both h2.la h2.lb q1 q2
    exact ⟨p, xs, ds, e1, h3, h4, cs, e2, hcs, by rw [hcs]; have := h2.n; omega⟩
  subst e hcs
  have ia10 := ia9.mono g10.ti
  have ib10 := ib9.mono g10.ti
  obtain ⟨wa1, wa2, wa3, wa4, wa5, wa6, wa7⟩ := wid_args h2
  obtain ⟨wb1, wb2, wb3, wb4, wb5, wb6, wb7⟩ := wid_args h2.symm
  rw [both_comm MA MB] at wb2 wb3 wb4 wb5 wb6 wb7
  generalize hN : both_ MA MB = N at *
  show wB _ _ _ ([some (.ref a), some va, some vb, some vr, some vt, some vu, some (.str (tx N)), none, none, none]) H10
  refine b_asg (P := fun _ v H' => ∃ d : D, (∃ R, LW MA N R ∧ d = machD R) ∧ Is H' d v) (ps_set (i := 7) sc_law.nd rfl (Or.inl rfl) wE_pe) t10 (ex_fst (R := fun d => ∃ R, LW MA N R ∧ d = machD R) (ex_call LE hr (by decide) rfl (ea_cons (d := machD (widM MA N)) (ex_call WI hr (by decide) rfl (ea_cons (ee_v (pv 1) rfl ia10) (ea_cons (ee_v (pv 6) rfl (.str _)) ea_nil)) (fun Ha Hb ga gb => ⟨_, ⟨MA, N, h2.a, wa1, wa2, wa3, rfl, rfl⟩, fun v H3 g3 q => q⟩)) ea_nil) (fun Ha Hb ga gb => ⟨_, ⟨widM MA N, wa4, wa5, rfl, rfl⟩, fun v H3 g3 q => wid_least q⟩))) fun vl H11 g11 t11 ⟨d, ⟨R1, hR1, e⟩, i1⟩ => ?_
  subst e
  have ib11 := ib10.mono g11.ti
  show wB _ _ _ ([some (.ref a), some va, some vb, some vr, some vt, some vu, some (.str (tx N)), some vl, none, none]) H11
  have pnw : ∀ {M R : Mach}, LW M N R → (widM M N).rooms ≤ 7 → 2 ^ N.length ≤ 16 → Pn 4 (machD R) := fun {M R} hR h7 h16 => by
    obtain ⟨q1, q2, c, q3⟩ := hR
    have : (widM M N).rooms = M.rooms := rfl
    exact pn_mach q3 (by omega) (by omega)
  refine b_when (c := false) t11 (ET.is (et_eqB (i := isNo o) (EX.imp (ex_callX (P := fun _ v _ => v = .bl (isNo o)) (SA 4) hr (by decide) rfl (eax_cons (ex_fst (R := fun d => ∃ R, LW MB N R ∧ d = machD R) (ex_call LE hr (by decide) rfl (ea_cons (d := machD (widM MB N)) (ex_call WI hr (by decide) rfl (ea_cons (ee_v (pv 2) rfl ib11) (ea_cons (ee_v (pv 6) rfl (.str _)) ea_nil)) (fun Ha Hb ga gb => ⟨_, ⟨MB, N, h2.b, wb1, wb2, wb3, rfl, rfl⟩, fun v H3 g3 q => q⟩)) ea_nil) (fun Ha Hb ga gb => ⟨_, ⟨widM MB N, wb4, wb5, rfl, rfl⟩, fun v H3 g3 q => wid_least q⟩))) (eax_cons (ee_v (pv 7) rfl i1) eax_nil)) ?_) fun _ v _ _ _ e => by rw [e]; exact .bl _) (ee_isN (ev_v (pv 3) rfl))) (by rw [hvr, eo, decide_eq_false_iff_not]; cases isNo o <;> decide)) (fun h => nomatch h) fun _ H12 g12 t12 => ?_
  · rintro Ha vs Hb ga gb ⟨v1, r1, H3, e1, ⟨d, ⟨R2, hR2, ed⟩, i2⟩, g3, g4, v2, r2, H4, e2, i3, g5, g6, e3⟩
    subst e3 e2 e1 ed
    refine ⟨[machD R2, machD R1], _, .cons (i2.mono g4.ti) (.cons (i3.mono g6.ti) .nil), ⟨machD R2, machD R1, 4, pnw hR2 wb6 wb7, pnw hR1 wa6 wa7, rfl, rfl⟩, fun v H3 g3 q => ?_⟩
    subst hN
    rw [q, lw_same hR1 hR2 ho]
  have ia12 := ia10.mono (g11.trans g12).ti
  -- of a machine and itself
  have on : OutS .none := trivial
  refine b_ret t12 (ee_and2 (c1 := true) (c2 := sameP (outD .none) (outD .none)) (ee_notNX (ex_call AL hr (by decide) rfl (ea_cons (ee_v (pv 1) rfl ia12) (ea_cons (ee_v (pv 1) rfl ia12) ea_nil)) (fun Ha Hb ga gb => ⟨_, ⟨MA, MA, two_self h2, rfl, rfl⟩, fun v H3 g3 q => by
      obtain ⟨r', q1, q2⟩ := alike_post q
      have := alike_out q1 (outR_self MA)
      have h3 := alikeD_non q2
      rw [this] at h3
      exact of_decide_eq_false h3⟩))) fun _ => ee_callA (u := .bl (sameP (outD .none) (outD .none))) (SA 3) hr (by decide) rfl (ea_cons (d := outD .none) (ex_call LA hr (by decide) rfl (ea_cons (ee_v (pv 1) rfl ia12) (ea_cons (ee_v (pv 1) rfl ia12) ea_nil)) (fun Ha Hb ga gb => ⟨_, ⟨MA, MA, .none, two_self h2, outR_self MA, rfl, rfl⟩, fun v H3 g3 q => q⟩)) (ea_cons (d := outD .none) (ee_tup (ds := [.str "told", .non]) (ea_cons ee_str (ea_cons ee_non ea_nil)) (sz_ok (by show 2 ≤ 1000000; decide))) ea_nil)) (fun H2 => ⟨outD .none, outD .none, 3, pn_out on, pn_out on, rfl, rfl⟩) rfl) fun v H13 g13 t13 i => ⟨((((g07.trans g8).trans g9).trans g10).trans ((g11.trans g12).trans g13)), ?_⟩
  rw [i.bl_eq, sameP_yes rfl]
  rfl
end
end Tk
set_option Elab.async false
set_option linter.all false
set_option maxRecDepth 10000
/-! The defs joined, by what the head tells. -/
namespace Tk
open PySem PySem.Spec PyProof.Rows L2 LamX NdefX
open He (Fa ga)
theorem fun_of {K : PySem.W.Frag} (c : He.SaysD factsL defsL K) (i j : Nat) {x : Str} (h : defsL[i]? = some (ddOf x j) := by rfl) : ∃ fd, Fun K x x (topS j) (ga K x) fd := by
  obtain ⟨fd, F⟩ := c.def_ i h
  obtain ⟨oc, od, dV, kV, doc, pm, an, cdv, ct, osl, e, lk, hcd, hD, _⟩ := F.ex
  rcases hD with ⟨_, e2⟩ | ⟨e2, _⟩
  · subst e2
    exact ⟨fd, ⟨oc, od, kV, doc, pm, an, cdv, ct, osl, e, lk, hcd⟩, F.kp⟩
  · exact absurd rfl e2
theorem funC_of {K : PySem.W.Frag} (c : He.SaysD factsL defsL K) (i j : Nat) {x : Str} (h : defsL[i]? = some (ddOf x j) := by rfl) : ∃ fd, FunC K x (topS j) (ga K x) fd (He.cT K (x, none)).1 := by
  obtain ⟨fd, F⟩ := fun_of c i j h
  obtain ⟨oc, od, kV, doc, pm, an, cdv, ct, osl, e, lk, hcd⟩ := F.ex
  obtain ⟨cc, ec⟩ := He.codeIn_ref hcd
  subst ec
  have e2 : (He.cT K (x, none)).1 = cc := He.codeOf_eq (p := (x, none)) (c := cc) lk (by rw [e])
  rw [e2]
  exact ⟨fd, ⟨oc, od, kV, doc, pm, an, ct, osl, e, lk, hcd⟩, F.kp⟩
theorem nodup_key {α β : Type} {T : List (α × β)} : (T.map (·.1)).Nodup → ∀ p ∈ T, ∀ q ∈ T, p.1 = q.1 → p = q := by
  induction T with
  | nil => intro _ p hp; cases hp
  | cons a T ih =>
    intro h p hp q hq e
    rw [List.map_cons] at h
    obtain ⟨h1, h2⟩ := List.nodup_cons.mp h
    rcases List.mem_cons.mp hp with e1 | hp
    · rcases List.mem_cons.mp hq with e2 | hq
      · rw [e1, e2]
      · exfalso; apply h1; rw [← e1, e]; exact List.mem_map_of_mem hq
    · rcases List.mem_cons.mp hq with e2 | hq
      · exfalso; apply h1; rw [← e2, ← e]; exact List.mem_map_of_mem hp
      · exact ih h2 p hp q hq e
def tabT (K : PySem.W.Frag) : List NTab := [(tabP K "paired_machine", nmPaired), (tabP K "firsts_of", nmFirsts), (tabP K "differing_pairs", nmDiff), (tabP K "both", nmBoth), (tabP K "either", nmEither)]
theorem glo_of {K : PySem.W.Frag} {h : Heap} {mg : Str → Option Value} (X : K.In h) (G : h.Ns mainGlobals mg) (c : He.SaysD factsL defsL K) : Glo mg where
  len := He.free_ok X G (c.fact 45 (f := .free "len") rfl)
  range := He.free_ok X G (c.fact 46 (f := .free "range") rfl)
  tuple := He.free_ok X G (c.fact 47 (f := .free "tuple") rfl)
  list := He.free_ok X G (c.fact 48 (f := .free "list") rfl)
  any := He.free_ok X G (c.fact 49 (f := .free "any") rfl)
  max := He.free_ok X G (c.fact 50 (f := .free "max") rfl)
  min := He.free_ok X G (c.fact 51 (f := .free "min") rfl)
  sorted := He.free_ok X G (c.fact 52 (f := .free "sorted") rfl)
  set := He.free_ok X G (c.fact 53 (f := .free "set") rfl)
  int := He.free_ok X G (c.fact 54 (f := .free "int") rfl)
  isinstance := He.free_ok X G (c.fact 55 (f := .free "isinstance") rfl)
  boolT := He.free_ok X G (c.fact 56 (f := .free "bool") rfl)
  strT := He.free_ok X G (c.fact 57 (f := .free "str") rfl)
  great := He.str_ok X G (c.fact 59 (f := .str "GREAT_LETTERS" (tx great)) rfl)
  small := He.str_ok X G (c.fact 60 (f := .str "SMALL_LETTERS" (tx small)) rfl)
  entries := He.int_ok X G (c.fact 61 (f := .int "MOST_ENTRIES_making" 10000) rfl)
  namesM := He.int_ok X G (c.fact 62 (f := .int "MOST_NAMES" 13) rfl)
  places1 := He.int_ok X G (c.fact 63 (f := .int "MOST_PLACES_trees" 100) rfl)
  places2 := He.int_ok X G (c.fact 64 (f := .int "MOST_PLACES_firsts" 100) rfl)
  entriesW := He.int_ok X G (c.fact 65 (f := .int "MOST_ENTRIES_machines" 10000) rfl)
theorem err_of {K : PySem.W.Frag} {h : Heap} {mg : Str → Option Value} (X : K.In h) (G : h.Ns mainGlobals mg) (c : He.SaysD factsL defsL K) : ErrTxt K mg (ga K "TooGreat") "TooGreat" := by
  obtain ⟨h1, h2, h3, h4⟩ := He.exc_ok (c.fact 76 (f := .exc "TooGreat") rfl)
  exact ⟨He.glo_ok X G (c.fact 70 (f := .glo "TooGreat") rfl), h1, h2, h3, h4⟩
theorem kt_of {K : PySem.W.Frag} {h : Heap} {mg : Str → Option Value} (X : K.In h) (G : h.Ns mainGlobals mg) (c : He.SaysD factsL defsL K) (m : moreB K = true) : KTxt K mg (ga K "TooGreat") := by
  obtain ⟨h1, h2, h3, h4⟩ := He.exc_ok (c.fact 76 (f := .exc "TooGreat") rfl)
  unfold moreB at m
  obtain ⟨m0, m⟩ := He.ba m
  obtain ⟨a1, m⟩ := He.ba m
  obtain ⟨a2, m⟩ := He.ba m
  obtain ⟨a3, m⟩ := He.ba m
  obtain ⟨a4, m⟩ := He.ba m
  obtain ⟨a5, m⟩ := He.ba m
  obtain ⟨a6, m⟩ := He.ba m
  obtain ⟨a7, m⟩ := He.ba m
  obtain ⟨a8, m⟩ := He.ba m
  obtain ⟨k1, m⟩ := He.ba m
  obtain ⟨k2, m⟩ := He.ba m
  obtain ⟨k3, m⟩ := He.ba m
  obtain ⟨k4, m⟩ := He.ba m
  obtain ⟨k5, m⟩ := He.ba m
  obtain ⟨k6, m⟩ := He.ba m
  obtain ⟨k7, m⟩ := He.ba m
  obtain ⟨k8, m⟩ := He.ba m
  obtain ⟨k9, m⟩ := He.ba m
  refine ⟨⟨He.eqO_ok a1, He.eqO_ok a2, h3, a3, He.eqO_ok a4, He.eqO_ok a5, of_decide_eq_true a6, of_decide_eq_true a7⟩, He.free_ok X G (c.fact 58 (f := .free "ValueError") rfl), of_decide_eq_true a8, ⟨_, He.glo_ok X G (c.fact 66 (f := .glo "NoTree") rfl), of_decide_eq_true k1⟩, ⟨_, He.glo_ok X G (c.fact 67 (f := .glo "NoStatement") rfl), of_decide_eq_true k2⟩, ⟨_, He.glo_ok X G (c.fact 68 (f := .glo "NoPlace") rfl), of_decide_eq_true k3⟩, ⟨_, He.glo_ok X G (c.fact 69 (f := .glo "NoNumber") rfl), of_decide_eq_true k4⟩, ⟨_, He.glo_ok X G (c.fact 70 (f := .glo "TooGreat") rfl), of_decide_eq_true k5⟩, ⟨_, He.glo_ok X G (c.fact 71 (f := .glo "NoName") rfl), of_decide_eq_true k6⟩, ⟨_, He.glo_ok X G (c.fact 72 (f := .glo "NoLine") rfl), of_decide_eq_true k7⟩, ⟨_, He.glo_ok X G (c.fact 73 (f := .glo "NothingDone") rfl), of_decide_eq_true k8⟩, ⟨_, He.glo_ok X G (c.fact 74 (f := .glo "NothingHeld") rfl), of_decide_eq_true k9⟩⟩
theorem nd_of {K : PySem.W.Frag} (m : moreB K = true) : ((tabT K).map (·.1)).Nodup := of_decide_eq_true (He.ba m).1
theorem law_fn {P : Program} {w : World} {K : PySem.W.Frag} {h : Heap} {mg : Str → Option Value} (X : K.In h) (G : h.Ns mainGlobals mg) (c : He.SaysD factsL defsL K) (m : moreB K = true) :
    ∃ fd, Fun K "law" "law" sLaw (ga K "law") fd ∧ ∀ base : Heap, (∀ p ∈ tabsL, TabB base mg (He.cT K p).1 (He.cT K p).2) → FnOk P w K mg base CX0 8 (ga K "law") fd ["_law_script"] (spF (tabT K) (R_law K)) := by
  obtain ⟨fd_0, F_0⟩ := fun_of c 0 14 (x := "in_order") rfl
  have g_0 := He.glo_ok X G (c.fact 0 (f := .glo "in_order") rfl)
  obtain ⟨fd_1, F_1⟩ := fun_of c 1 15 (x := "letter_of") rfl
  have g_1 := He.glo_ok X G (c.fact 1 (f := .glo "letter_of") rfl)
  obtain ⟨fd_2, F_2⟩ := fun_of c 2 16 (x := "marks_of") rfl
  have g_2 := He.glo_ok X G (c.fact 2 (f := .glo "marks_of") rfl)
  obtain ⟨fd_3, F_3⟩ := fun_of c 3 20 (x := "within_most") rfl
  have g_3 := He.glo_ok X G (c.fact 3 (f := .glo "within_most") rfl)
  obtain ⟨fd_4, F_4⟩ := fun_of c 4 21 (x := "thin_numbers") rfl
  have g_4 := He.glo_ok X G (c.fact 4 (f := .glo "thin_numbers") rfl)
  obtain ⟨fd_5, F_5⟩ := fun_of c 5 22 (x := "table_of") rfl
  have g_5 := He.glo_ok X G (c.fact 5 (f := .glo "table_of") rfl)
  obtain ⟨fd_6, F_6⟩ := fun_of c 6 23 (x := "made_from") rfl
  have g_6 := He.glo_ok X G (c.fact 6 (f := .glo "made_from") rfl)
  obtain ⟨fd_7, F_7⟩ := funC_of c 7 24 (x := "paired_machine") rfl
  have g_7 := He.glo_ok X G (c.fact 7 (f := .glo "paired_machine") rfl)
  obtain ⟨fd_8, F_8⟩ := fun_of c 8 27 (x := "branches_by") rfl
  have g_8 := He.glo_ok X G (c.fact 8 (f := .glo "branches_by") rfl)
  obtain ⟨fd_9, F_9⟩ := fun_of c 9 28 (x := "joined") rfl
  have g_9 := He.glo_ok X G (c.fact 9 (f := .glo "joined") rfl)
  obtain ⟨fd_10, F_10⟩ := fun_of c 10 31 (x := "offer_newest") rfl
  have g_10 := He.glo_ok X G (c.fact 10 (f := .glo "offer_newest") rfl)
  obtain ⟨fd_11, F_11⟩ := funC_of c 11 32 (x := "firsts_of") rfl
  have g_11 := He.glo_ok X G (c.fact 11 (f := .glo "firsts_of") rfl)
  obtain ⟨fd_12, F_12⟩ := fun_of c 12 33 (x := "first_tree") rfl
  have g_12 := He.glo_ok X G (c.fact 12 (f := .glo "first_tree") rfl)
  obtain ⟨fd_13, F_13⟩ := fun_of c 13 35 (x := "first_room") rfl
  have g_13 := He.glo_ok X G (c.fact 13 (f := .glo "first_room") rfl)
  obtain ⟨fd_14, F_14⟩ := fun_of c 14 36 (x := "first_let") rfl
  have g_14 := He.glo_ok X G (c.fact 14 (f := .glo "first_let") rfl)
  obtain ⟨fd_15, F_15⟩ := funC_of c 15 38 (x := "differing_pairs") rfl
  have g_15 := He.glo_ok X G (c.fact 15 (f := .glo "differing_pairs") rfl)
  obtain ⟨fd_16, F_16⟩ := fun_of c 16 39 (x := "alike_rows") rfl
  have g_16 := He.glo_ok X G (c.fact 16 (f := .glo "alike_rows") rfl)
  obtain ⟨fd_17, F_17⟩ := fun_of c 17 40 (x := "apart_tree") rfl
  have g_17 := He.glo_ok X G (c.fact 17 (f := .glo "apart_tree") rfl)
  obtain ⟨fd_18, F_18⟩ := fun_of c 18 42 (x := "numbered_looks") rfl
  have g_18 := He.glo_ok X G (c.fact 18 (f := .glo "numbered_looks") rfl)
  obtain ⟨fd_19, F_19⟩ := fun_of c 19 43 (x := "look_of") rfl
  have g_19 := He.glo_ok X G (c.fact 19 (f := .glo "look_of") rfl)
  obtain ⟨fd_20, F_20⟩ := fun_of c 20 44 (x := "class_rounds") rfl
  have g_20 := He.glo_ok X G (c.fact 20 (f := .glo "class_rounds") rfl)
  obtain ⟨fd_21, F_21⟩ := fun_of c 21 46 (x := "least_of") rfl
  have g_21 := He.glo_ok X G (c.fact 21 (f := .glo "least_of") rfl)
  obtain ⟨fd_22, F_22⟩ := fun_of c 22 48 (x := "flipped") rfl
  have g_22 := He.glo_ok X G (c.fact 22 (f := .glo "flipped") rfl)
  obtain ⟨fd_23, F_23⟩ := fun_of c 23 49 (x := "least_pairs") rfl
  have g_23 := He.glo_ok X G (c.fact 23 (f := .glo "least_pairs") rfl)
  obtain ⟨fd_24, F_24⟩ := funC_of c 24 50 (x := "both") rfl
  have g_24 := He.glo_ok X G (c.fact 24 (f := .glo "both") rfl)
  obtain ⟨fd_25, F_25⟩ := funC_of c 25 51 (x := "either") rfl
  have g_25 := He.glo_ok X G (c.fact 25 (f := .glo "either") rfl)
  obtain ⟨fd_26, F_26⟩ := fun_of c 26 54 (x := "widened") rfl
  have g_26 := He.glo_ok X G (c.fact 26 (f := .glo "widened") rfl)
  obtain ⟨fd_27, F_27⟩ := fun_of c 27 56 (x := "_law_cell") rfl
  have g_27 := He.glo_ok X G (c.fact 27 (f := .glo "_law_cell") rfl)
  obtain ⟨fd_28, F_28⟩ := fun_of c 28 57 (x := "_law_mixed") rfl
  have g_28 := He.glo_ok X G (c.fact 28 (f := .glo "_law_mixed") rfl)
  obtain ⟨fd_29, F_29⟩ := fun_of c 29 58 (x := "_law_draws") rfl
  have g_29 := He.glo_ok X G (c.fact 29 (f := .glo "_law_draws") rfl)
  obtain ⟨fd_30, F_30⟩ := fun_of c 30 59 (x := "_law_same") rfl
  have g_30 := He.glo_ok X G (c.fact 30 (f := .glo "_law_same") rfl)
  obtain ⟨fd_31, F_31⟩ := fun_of c 31 60 (x := "_law_pool") rfl
  have g_31 := He.glo_ok X G (c.fact 31 (f := .glo "_law_pool") rfl)
  obtain ⟨fd_32, F_32⟩ := fun_of c 32 61 (x := "_law_marks") rfl
  have g_32 := He.glo_ok X G (c.fact 32 (f := .glo "_law_marks") rfl)
  obtain ⟨fd_33, F_33⟩ := fun_of c 33 62 (x := "_law_machine") rfl
  have g_33 := He.glo_ok X G (c.fact 33 (f := .glo "_law_machine") rfl)
  obtain ⟨fd_34, F_34⟩ := fun_of c 34 63 (x := "_law_letter") rfl
  have g_34 := He.glo_ok X G (c.fact 34 (f := .glo "_law_letter") rfl)
  obtain ⟨fd_35, F_35⟩ := fun_of c 35 64 (x := "_law_some_marks") rfl
  have g_35 := He.glo_ok X G (c.fact 35 (f := .glo "_law_some_marks") rfl)
  obtain ⟨fd_36, F_36⟩ := fun_of c 36 65 (x := "_law_wide") rfl
  have g_36 := He.glo_ok X G (c.fact 36 (f := .glo "_law_wide") rfl)
  obtain ⟨fd_37, F_37⟩ := fun_of c 37 66 (x := "_law_changed") rfl
  have g_37 := He.glo_ok X G (c.fact 37 (f := .glo "_law_changed") rfl)
  obtain ⟨fd_38, F_38⟩ := fun_of c 38 67 (x := "_law_doubled") rfl
  have g_38 := He.glo_ok X G (c.fact 38 (f := .glo "_law_doubled") rfl)
  obtain ⟨fd_39, F_39⟩ := fun_of c 39 68 (x := "_law_two") rfl
  have g_39 := He.glo_ok X G (c.fact 39 (f := .glo "_law_two") rfl)
  obtain ⟨fd_40, F_40⟩ := fun_of c 40 69 (x := "_law_kinds") rfl
  have g_40 := He.glo_ok X G (c.fact 40 (f := .glo "_law_kinds") rfl)
  obtain ⟨fd_41, F_41⟩ := fun_of c 41 70 (x := "_law_due_refusal") rfl
  have g_41 := He.glo_ok X G (c.fact 41 (f := .glo "_law_due_refusal") rfl)
  obtain ⟨fd_42, F_42⟩ := fun_of c 42 71 (x := "_law_apart") rfl
  have g_42 := He.glo_ok X G (c.fact 42 (f := .glo "_law_apart") rfl)
  obtain ⟨fd_43, F_43⟩ := fun_of c 43 72 (x := "_law_first") rfl
  have g_43 := He.glo_ok X G (c.fact 43 (f := .glo "_law_first") rfl)
  obtain ⟨fd_44, F_44⟩ := fun_of c 44 73 (x := "law") rfl
  have g_44 := He.glo_ok X G (c.fact 44 (f := .glo "law") rfl)
  refine ⟨_, F_44, fun base tb => ?_⟩
  have Gl := glo_of X G c
  have Er := err_of X G c
  have KT := kt_of X G c m
  have nd := nd_of m
  have tb_7 := tb ("paired_machine", none) (by simp [tabsL])
  have i_7 : (tabP K "paired_machine", nmPaired) ∈ tabT K := by simp [tabT]
  have u_7 : ∀ p ∈ tabT K, p.1 = tabP K "paired_machine" → p.2 = nmPaired := fun p hp e => congrArg Prod.snd (nodup_key nd p hp _ i_7 e)
  have tb_11 := tb ("firsts_of", none) (by simp [tabsL])
  have i_11 : (tabP K "firsts_of", nmFirsts) ∈ tabT K := by simp [tabT]
  have u_11 : ∀ p ∈ tabT K, p.1 = tabP K "firsts_of" → p.2 = nmFirsts := fun p hp e => congrArg Prod.snd (nodup_key nd p hp _ i_11 e)
  have tb_15 := tb ("differing_pairs", none) (by simp [tabsL])
  have i_15 : (tabP K "differing_pairs", nmDiff) ∈ tabT K := by simp [tabT]
  have u_15 : ∀ p ∈ tabT K, p.1 = tabP K "differing_pairs" → p.2 = nmDiff := fun p hp e => congrArg Prod.snd (nodup_key nd p hp _ i_15 e)
  have tb_24 := tb ("both", none) (by simp [tabsL])
  have i_24 : (tabP K "both", nmBoth) ∈ tabT K := by simp [tabT]
  have u_24 : ∀ p ∈ tabT K, p.1 = tabP K "both" → p.2 = nmBoth := fun p hp e => congrArg Prod.snd (nodup_key nd p hp _ i_24 e)
  have tb_25 := tb ("either", none) (by simp [tabsL])
  have i_25 : (tabP K "either", nmEither) ∈ tabT K := by simp [tabT]
  have u_25 : ∀ p ∈ tabT K, p.1 = tabP K "either" → p.2 = nmEither := fun p hp e => congrArg Prod.snd (nodup_key nd p hp _ i_25 e)
  have IO := ok_in_order (P := P) (w := w) (K := K) (mg := mg) (base := base) (T := tabT K) F_0 g_0 Gl
  have LO := ok_letter_of (P := P) (w := w) (K := K) (mg := mg) (base := base) (T := tabT K) F_1 g_1
  have MO := ok_marks_of (P := P) (w := w) (K := K) (mg := mg) (base := base) (T := tabT K) F_2 g_2 Gl
  have WM := ok_within (P := P) (w := w) (K := K) (mg := mg) (base := base) (T := tabT K) F_3 g_3 Gl
  have TH := ok_thin (P := P) (w := w) (K := K) (mg := mg) (base := base) (T := tabT K) F_4 g_4 Gl LO MO
  have TO := ok_table_of (P := P) (w := w) (K := K) (mg := mg) (base := base) (T := tabT K) F_5 g_5 Gl
  have MF := ok_made (P := P) (w := w) (K := K) (mg := mg) (base := base) (T := tabT K) F_6 g_6 Gl WM TO
  have PM := ok_paired (P := P) (w := w) (K := K) (mg := mg) (base := base) (T := tabT K) F_7 g_7 Gl tb_7 i_7 u_7 IO WM TH MF
  have BR := ok_branches (P := P) (w := w) (K := K) (mg := mg) (base := base) (T := tabT K) F_8 g_8 Gl
  have JO := ok_joined (P := P) (w := w) (K := K) (mg := mg) (base := base) (T := tabT K) F_9 g_9 Gl BR
  have OF := ok_offer (P := P) (w := w) (K := K) (mg := mg) (base := base) (T := tabT K) F_10 g_10 Gl
  have FI := ok_firsts (P := P) (w := w) (K := K) (mg := mg) (base := base) (T := tabT K) F_11 g_11 Gl tb_11 i_11 u_11 OF
  have FT := ok_tree (P := P) (w := w) (K := K) (mg := mg) (base := base) (T := tabT K) F_12 g_12 Gl Er FI JO MO
  have FR := ok_room (P := P) (w := w) (K := K) (mg := mg) (base := base) (T := tabT K) F_13 g_13 FI
  have FL := ok_let (P := P) (w := w) (K := K) (mg := mg) (base := base) (T := tabT K) F_14 g_14 FR FT
  have DP := ok_diff (P := P) (w := w) (K := K) (mg := mg) (base := base) (T := tabT K) F_15 g_15 Gl tb_15 i_15 u_15 PM
  have AL := ok_alike (P := P) (w := w) (K := K) (mg := mg) (base := base) (T := tabT K) F_16 g_16 Gl DP
  have AP := ok_apart (P := P) (w := w) (K := K) (mg := mg) (base := base) (T := tabT K) F_17 g_17 DP FL
  have NL := ok_numbered (P := P) (w := w) (K := K) (mg := mg) (base := base) (T := tabT K) F_18 g_18 Gl
  have LK := ok_look (P := P) (w := w) (K := K) (mg := mg) (base := base) (T := tabT K) F_19 g_19 Gl
  have CR := ok_rounds (P := P) (w := w) (K := K) (mg := mg) (base := base) (T := tabT K) F_20 g_20 Gl NL LK
  have LE := ok_least (P := P) (w := w) (K := K) (mg := mg) (base := base) (T := tabT K) F_21 g_21 Gl FI CR
  have FP := ok_flip (P := P) (w := w) (K := K) (mg := mg) (base := base) (T := tabT K) F_22 g_22 Gl LE
  have LP := ok_lp (P := P) (w := w) (K := K) (mg := mg) (base := base) (T := tabT K) F_23 g_23 Gl PM LE
  have BO := ok_both (P := P) (w := w) (K := K) (mg := mg) (base := base) (T := tabT K) F_24 g_24 Gl tb_24 i_24 u_24 LP
  have EI := ok_either (P := P) (w := w) (K := K) (mg := mg) (base := base) (T := tabT K) F_25 g_25 Gl tb_25 i_25 u_25 LP
  have WI := ok_wid (P := P) (w := w) (K := K) (mg := mg) (base := base) (T := tabT K) F_26 g_26 Gl LO MO
  have CE := ok_cell (P := P) (w := w) (K := K) (mg := mg) (base := base) (T := tabT K) F_27 g_27 Gl
  have MX := ok_mixed (P := P) (w := w) (K := K) (mg := mg) (base := base) (T := tabT K) F_28 g_28
  have DR := ok_draws (P := P) (w := w) (K := K) (mg := mg) (base := base) (T := tabT K) F_29 g_29 Gl MX
  have PO := ok_pool (P := P) (w := w) (K := K) (mg := mg) (base := base) (T := tabT K) F_31 g_31 Gl DR
  have MA := ok_marks (P := P) (w := w) (K := K) (mg := mg) (base := base) (T := tabT K) F_32 g_32 Gl
  have MC := ok_mach (P := P) (w := w) (K := K) (mg := mg) (base := base) (T := tabT K) F_33 g_33 Gl
  have LL := ok_letter (P := P) (w := w) (K := K) (mg := mg) (base := base) (T := tabT K) F_34 g_34 Gl
  have SM := ok_some (P := P) (w := w) (K := K) (mg := mg) (base := base) (T := tabT K) F_35 g_35 Gl
  have LW_ := ok_wide (P := P) (w := w) (K := K) (mg := mg) (base := base) (T := tabT K) F_36 g_36 Gl LL SM
  have CH := ok_chg (P := P) (w := w) (K := K) (mg := mg) (base := base) (T := tabT K) F_37 g_37
  have DB := ok_dbl (P := P) (w := w) (K := K) (mg := mg) (base := base) (T := tabT K) F_38 g_38 Gl
  have TW := ok_two (P := P) (w := w) (K := K) (mg := mg) (base := base) (T := tabT K) F_39 g_39 Gl CE DR PO MA MC DB CH LW_
  have DU := ok_due (P := P) (w := w) (K := K) (mg := mg) (base := base) (T := tabT K) F_41 g_41 Gl
  have KA : KindsAt K mg (ga K "_law_kinds") fd_40 (ga K "TooGreat") (ga K "TrunkError") := ⟨F_40, g_40, KT, He.glo_ok X G (c.fact 75 (f := .glo "TrunkError") rfl), He.exm_ok (c.fact 77 (f := .exm "TooGreat" "TrunkError" true) rfl)⟩
  have SA := ok_same (P := P) (w := w) (K := K) (mg := mg) (base := base) (T := tabT K) F_30 g_30 Gl
  have LA := ok_lap (P := P) (w := w) (base := base) (T := tabT K) F_42 g_42 Gl KA AP
  have LF := ok_lfi (P := P) (w := w) (base := base) (T := tabT K) F_43 g_43 Gl KA BO EI FP FL
  exact ok_law F_44 Gl TW AL LA DU SA LF LE WI
/-- what the end asks of the law, at the head's heap -/
theorem law_at {w : World} {mg : Str → Option Value} {fa : Addr} {h : Heap} (Y : ∃ K : PySem.W.Frag, K.In h ∧ He.SaysX factsL defsL [] tabsL moreB w h K) (G : h.Ns mainGlobals mg) (hm : mg "law" = some (.ref fa)) :
    ∃ K : PySem.W.Frag, K.In h ∧ LawAtS PySem.Challenge.rw_trunksay_k57_whole_alike_or_apart w K CX0 8 63 "_law_script" mg fa h := by
  obtain ⟨K, X, S⟩ := Y
  have c := S.t.d
  obtain ⟨fd, F, hF⟩ := law_fn (P := (PySem.Challenge.rw_trunksay_k57_whole_alike_or_apart).prog) (w := w) X G c S.more
  have e := hm.symm.trans (He.glo_ok X G (c.fact 44 (f := .glo "law") rfl))
  cases e
  refine ⟨K, X, fd, tabsL.map (He.cT K), spF (tabT K) (R_law K), fun p hp => ?_, fun p hp => ?_, fun p hp => ?_, ?_, ?_, fun base _ _ tb => hF base fun p hp => tb _ (List.mem_map_of_mem hp)⟩
  · obtain ⟨q, hq, rfl⟩ := List.mem_map.mp hp; exact S.empty q hq
  · obtain ⟨q, hq, rfl⟩ := List.mem_map.mp hp; exact S.out q hq
  · obtain ⟨q, hq, rfl⟩ := List.mem_map.mp hp; exact PySem.W.codeHd_of_K X (S.hd q hq)
  · obtain ⟨oc, od, kV, doc, pm, an, cdv, ct, osl, e, lk, hcd⟩ := F.ex
    subst e
    exact fun s u => .of_eq rfl
  · intro H a ns _ _ hH hS
    refine ⟨fun p hp => TabN.nil ?_, [.ref a], _, .cons (.ref a) .nil, ⟨a, ns, hS, rfl, rfl⟩, fun v H' _ q => q⟩
    have hmem : ∃ q ∈ tabsL, p.1 = (He.cT K q).2 := by
      unfold tabT at hp
      simp only [List.mem_cons, List.mem_nil_iff, or_false] at hp
      rcases hp with e | e | e | e | e
      · exact ⟨("paired_machine", none), by simp [tabsL], by rw [e]; rfl⟩
      · exact ⟨("firsts_of", none), by simp [tabsL], by rw [e]; rfl⟩
      · exact ⟨("differing_pairs", none), by simp [tabsL], by rw [e]; rfl⟩
      · exact ⟨("both", none), by simp [tabsL], by rw [e]; rfl⟩
      · exact ⟨("either", none), by simp [tabsL], by rw [e]; rfl⟩
    obtain ⟨q, hq, e⟩ := hmem
    rw [e]
    exact hH _ (List.mem_map_of_mem hq)
end Tk
set_option Elab.async false
set_option linter.all false
set_option maxRecDepth 100000
set_option maxHeartbeats 0
open PySem PySem.W PySem.Calls PyProof.Rows
theorem PySem.Challenge.cw_trunksay_k57_whole_alike_or_apart_holds : PySem.Challenge.rw_trunksay_k57_whole_alike_or_apart.Holds := by
  w_on; o_law
  refine HandSHeadRun.head_any (r := OpenLaw.row PySem.Challenge.rw_trunksay_k57_whole_alike_or_apart) (q := view (OpenLaw.row PySem.Challenge.rw_trunksay_k57_whole_alike_or_apart).prog [73]) (H := Tk.hkX) (ob := Tk.obX) (M := 4000) (loose := Tk.loX) (d := HandSHeadRun.topDef (OpenLaw.row PySem.Challenge.rw_trunksay_k57_whole_alike_or_apart).prog 73) (kwd := []) Tk.obX_eq
    (by kernel_rfl) (fun s => by kernel_rfl) Tk.runX (by kernel_rfl) (by kernel_rfl) (by kernel_rfl) (by rfl) (by first | assumption | decide +kernel) (by decide +kernel) ⟨rfl, rfl, rfl, rfl, rfl, by decide +kernel⟩ ?hw ?hc
  case hw => w_witness2
  case hc =>
    refine LamX.walk_ofTsE (l := PySem.Challenge.rw_trunksay_k57_whole_alike_or_apart) (n := 63) (k := 8) (x := "_law_script") (CX := fun _ => L2.CX0) rfl (by decide) (by kernel_rfl) ⟨rfl, by decide, by decide⟩ ?F (fun _ _ _ _ _ z => z)
    intro w mg fa h Y G hmg
    have hm : mg ("law" : PySem.Str) = some (.ref fa) := by
      have e : (HandSHeadRun.topDef (OpenLaw.row PySem.Challenge.rw_trunksay_k57_whole_alike_or_apart).prog 73).name = ("law" : PySem.Str) := by kernel_rfl
      rw [← e]
      exact hmg
    exact Tk.law_at Y G hm
