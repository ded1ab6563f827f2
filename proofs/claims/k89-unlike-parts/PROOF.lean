import PyProof.Rows.All
import Wide.All
import OpenK.AllK
import Wide.FinOn
import KE.KStateDown
import Lean
import HandS.Base
import HandS.Call
import HandS.List
import HandS.Comp
import HandS.Ends
import HandS.Dict
import HandS.Iter
import HandS.Text
import HandS.More
import HandS.Exc
import HandS.TryOnly
import HandS.TryMany
import HandS.ExcOwn
import HandS.ExcInit
import HandS.ExcField
import HandS.ExcCtx
import HandS.Hot
import HandS.HotCalls
import HandS.Words
import HandS.WordsList
import HandS.WordsExc
import HandS.WordsDict
import HandS.Defaults
import HandS.Walk
import HandS.IsInst
import HandS.TupAny
import HandS.Conv
import HandS.Wide
import HandS.Deep
import HandS.Flow
import HandS.Head0
import HandS.Head1
import HandS.Head2
import HandS.HeadEnd
import HandS.HeadHook1
import HandS.HeadHook2
import HandS.HeadHook3
import HandS.HeadHook4
import HandS.HeadWalk
import PySem.Challenge.RW_paperwide_k89_whole_unlike_parts
import KE.GoesNew
import HandS.Codes
import HandS.Style
import KE.KDictZip
import KE.KDictList
set_option Elab.async false
set_option linter.all false
set_option maxRecDepth 100000
set_option maxHeartbeats 0
/-! K89, the plain law: trees, spots, unlike spots, changes. No program in sight. -/
namespace K89
inductive Nm where
  | a | b | num
  deriving DecidableEq
inductive Lf where
  | at (k : Nat) | kind (h : Fin 6) | name (n : Nm) | thing (n : Nm) | maker (n : Nm) (k : Nat) | eater (n : Nm) (h : Fin 6)
  deriving DecidableEq
inductive B2 where
  | all | fn | app | slf
  deriving DecidableEq
inductive B3 where
  | same | put
  deriving DecidableEq
inductive Tm where
  | lf (l : Lf)
  | n2 (w : B2) (x y : Tm)
  | n3 (w : B3) (x y z : Tm)
  deriving DecidableEq
abbrev Spot := List Nat
namespace Tm
def kids : Tm → List Tm
  | .lf _ => []
  | .n2 _ x y => [x, y]
  | .n3 _ x y z => [x, y, z]
/-- height: a leaf has 1 -/
def ht : Tm → Nat
  | .lf _ => 1
  | .n2 _ x y => max x.ht y.ht + 1
  | .n3 _ x y z => max x.ht (max y.ht z.ht) + 1
theorem ht_pos : ∀ t : Tm, 1 ≤ t.ht
  | .lf _ => Nat.le_refl _
  | .n2 _ _ _ => Nat.succ_le_succ (Nat.zero_le _)
  | .n3 _ _ _ _ => Nat.succ_le_succ (Nat.zero_le _)
theorem ht_kid {t u : Tm} (h : u ∈ t.kids) : u.ht + 1 ≤ t.ht := by
  cases t with
  | lf l => cases h
  | n2 w x y =>
    simp only [kids, List.mem_cons, List.not_mem_nil, or_false] at h
    simp only [ht]
    rcases h with rfl | rfl <;> omega
  | n3 w x y z =>
    simp only [kids, List.mem_cons, List.not_mem_nil, or_false] at h
    simp only [ht]
    rcases h with rfl | rfl | rfl <;> omega
/-- whether the words (and so the numbers of parts) are alike -/
def alike : Tm → Tm → Bool
  | .lf _, .lf _ => true
  | .n2 w _ _, .n2 w' _ _ => decide (w = w')
  | .n3 w _ _ _, .n3 w' _ _ _ => decide (w = w')
  | _, _ => false
def get : Tm → Spot → Option Tm
  | t, [] => some t
  | .lf _, _ :: _ => none
  | .n2 _ x y, k :: s => match k with
    | 0 => x.get s
    | 1 => y.get s
    | _ => none
  | .n3 _ x y z, k :: s => match k with
    | 0 => x.get s
    | 1 => y.get s
    | 2 => z.get s
    | _ => none
def put : Tm → Spot → Tm → Tm
  | _, [], o => o
  | .lf l, _ :: _, _ => .lf l
  | .n2 w x y, k :: s, o => match k with
    | 0 => .n2 w (x.put s o) y
    | 1 => .n2 w x (y.put s o)
    | _ => .n2 w x y
  | .n3 w x y z, k :: s, o => match k with
    | 0 => .n3 w (x.put s o) y z
    | 1 => .n3 w x (y.put s o) z
    | 2 => .n3 w x y (z.put s o)
    | _ => .n3 w x y z
def spots : Tm → List Spot
  | .lf _ => [[]]
  | .n2 _ x y => [] :: (x.spots.map (0 :: ·) ++ y.spots.map (1 :: ·))
  | .n3 _ x y z => [] :: (x.spots.map (0 :: ·) ++ (y.spots.map (1 :: ·) ++ z.spots.map (2 :: ·)))
def unlike : Tm → Tm → List Spot
  | .lf l, .lf l' => if l = l' then [] else [[]]
  | .n2 w x y, .n2 w' x' y' => if w = w' then (unlike x x').map (0 :: ·) ++ (unlike y y').map (1 :: ·) else [[]]
  | .n3 w x y z, .n3 w' x' y' z' => if w = w' then (unlike x x').map (0 :: ·) ++ ((unlike y y').map (1 :: ·) ++ (unlike z z').map (2 :: ·)) else [[]]
  | _, _ => [[]]
end Tm
open Tm
/-- neither leads to the other one -/
def Apart (s t : Spot) : Prop := ¬ s <+: t ∧ ¬ t <+: s
theorem Apart.symm {s t : Spot} (h : Apart s t) : Apart t s := ⟨h.2, h.1⟩
theorem Apart.cons {k : Nat} {s t : Spot} (h : Apart s t) : Apart (k :: s) (k :: t) := by
  refine ⟨fun q => h.1 ?_, fun q => h.2 ?_⟩
  · exact (List.cons_prefix_cons.mp q).2
  · exact (List.cons_prefix_cons.mp q).2
theorem Apart.of_cons {k : Nat} {s t : Spot} (h : Apart (k :: s) (k :: t)) : Apart s t := by
  refine ⟨fun q => h.1 ?_, fun q => h.2 ?_⟩
  · exact List.cons_prefix_cons.mpr ⟨rfl, q⟩
  · exact List.cons_prefix_cons.mpr ⟨rfl, q⟩
theorem Apart.ne {j k : Nat} {s t : Spot} (h : j ≠ k) : Apart (j :: s) (k :: t) := by
  refine ⟨fun q => h ?_, fun q => h ?_⟩
  · exact (List.cons_prefix_cons.mp q).1
  · exact (List.cons_prefix_cons.mp q).1.symm
theorem Apart.nil_left {t : Spot} : ¬ Apart [] t := fun h => h.1 (List.nil_prefix)
theorem Apart.nil_right {t : Spot} : ¬ Apart t [] := fun h => h.2 (List.nil_prefix)
theorem get_nil (t : Tm) : t.get [] = some t := by cases t <;> rfl
theorem put_nil (t o : Tm) : t.put [] o = o := by cases t <;> rfl
/-- a part elsewhere stays -/
theorem get_put_apart : ∀ (t : Tm) (s r : Spot) (o : Tm), Apart s r → (t.put s o).get r = t.get r
  | t, [], _, _, h => absurd h Apart.nil_left
  | t, _ :: _, [], _, h => absurd h Apart.nil_right
  | .lf _, _ :: _, _ :: _, _, _ => rfl
  | .n2 w x y, k :: s, j :: r, o, h => by
    by_cases e : k = j
    · subst e
      have h' := h.of_cons
      match k with
      | 0 => exact get_put_apart x s r o h'
      | 1 => exact get_put_apart y s r o h'
      | _ + 2 => rfl
    · match k, j with
      | 0, 0 => exact absurd rfl e
      | 0, 1 => rfl
      | 0, _ + 2 => rfl
      | 1, 0 => rfl
      | 1, 1 => exact absurd rfl e
      | 1, _ + 2 => rfl
      | _ + 2, _ => rfl
  | .n3 w x y z, k :: s, j :: r, o, h => by
    by_cases e : k = j
    · subst e
      have h' := h.of_cons
      match k with
      | 0 => exact get_put_apart x s r o h'
      | 1 => exact get_put_apart y s r o h'
      | 2 => exact get_put_apart z s r o h'
      | _ + 3 => rfl
    · match k, j with
      | 0, 0 => exact absurd rfl e
      | 0, 1 => rfl
      | 0, 2 => rfl
      | 0, _ + 3 => rfl
      | 1, 0 => rfl
      | 1, 1 => exact absurd rfl e
      | 1, 2 => rfl
      | 1, _ + 3 => rfl
      | 2, 0 => rfl
      | 2, 1 => rfl
      | 2, 2 => exact absurd rfl e
      | 2, _ + 3 => rfl
      | _ + 3, _ => rfl
/-- two changes that stand apart, in either order -/
theorem put_comm : ∀ (t : Tm) (s r : Spot) (o p : Tm), Apart s r → (t.put s o).put r p = (t.put r p).put s o
  | t, [], _, _, _, h => absurd h Apart.nil_left
  | t, _ :: _, [], _, _, h => absurd h Apart.nil_right
  | .lf _, _ :: _, _ :: _, _, _, _ => rfl
  | .n2 w x y, k :: s, j :: r, o, p, h => by
    by_cases e : k = j
    · subst e
      have h' := h.of_cons
      match k with
      | 0 => exact congrArg (fun q => Tm.n2 w q y) (put_comm x s r o p h')
      | 1 => exact congrArg (fun q => Tm.n2 w x q) (put_comm y s r o p h')
      | _ + 2 => rfl
    · match k, j with
      | 0, 0 => exact absurd rfl e
      | 0, 1 => rfl
      | 0, _ + 2 => rfl
      | 1, 0 => rfl
      | 1, 1 => exact absurd rfl e
      | 1, _ + 2 => rfl
      | _ + 2, 0 => rfl
      | _ + 2, 1 => rfl
      | _ + 2, _ + 2 => rfl
  | .n3 w x y z, k :: s, j :: r, o, p, h => by
    by_cases e : k = j
    · subst e
      have h' := h.of_cons
      match k with
      | 0 => exact congrArg (fun q => Tm.n3 w q y z) (put_comm x s r o p h')
      | 1 => exact congrArg (fun q => Tm.n3 w x q z) (put_comm y s r o p h')
      | 2 => exact congrArg (fun q => Tm.n3 w x y q) (put_comm z s r o p h')
      | _ + 3 => rfl
    · match k, j with
      | 0, 0 => exact absurd rfl e
      | 0, 1 => rfl
      | 0, 2 => rfl
      | 0, _ + 3 => rfl
      | 1, 0 => rfl
      | 1, 1 => exact absurd rfl e
      | 1, 2 => rfl
      | 1, _ + 3 => rfl
      | 2, 0 => rfl
      | 2, 1 => rfl
      | 2, 2 => exact absurd rfl e
      | 2, _ + 3 => rfl
      | _ + 3, 0 => rfl
      | _ + 3, 1 => rfl
      | _ + 3, 2 => rfl
      | _ + 3, _ + 3 => rfl
abbrev Rw := Spot × Tm
def step (t : Tm) (r : Rw) : Tm := t.put r.1 r.2
/-- all changes, one behind the other -/
def putAll (t : Tm) (rows : List Rw) : Tm := rows.foldl step t
theorem putAll_get {rows : List Rw} : ∀ {t : Tm} {s : Spot}, (∀ r ∈ rows, Apart r.1 s) → (putAll t rows).get s = t.get s := by
  induction rows with
  | nil => intro t s _; rfl
  | cons r rs ih =>
    intro t s h
    have e := ih (t := step t r) (s := s) fun q hq => h q (List.mem_cons_of_mem _ hq)
    show (putAll (step t r) rs).get s = _
    rw [e]
    exact get_put_apart t r.1 s r.2 (h r List.mem_cons_self)
/-- the rows' spots stand apart, and are spots of the tree -/
structure Fit (t : Tm) (rows : List Rw) : Prop where
  ap : rows.Pairwise fun a b => Apart a.1 b.1
  has : ∀ r ∈ rows, (t.get r.1).isSome = true
theorem Fit.tail {t : Tm} {r : Rw} {rs : List Rw} (h : Fit t (r :: rs)) : Fit (step t r) rs := by
  obtain ⟨a, b⟩ := h
  rw [List.pairwise_cons] at a
  refine ⟨a.2, fun q hq => ?_⟩
  have e := get_put_apart t r.1 q.1 r.2 (a.1 q hq)
  show ((t.put r.1 r.2).get q.1).isSome = true
  rw [e]
  exact b q (List.mem_cons_of_mem _ hq)
theorem Fit.perm {t : Tm} {rows rows' : List Rw} (h : Fit t rows) (p : rows.Perm rows') : Fit t rows' :=
  ⟨h.ap.perm p fun x => x.symm, fun r hr => h.has r (p.mem_iff.mpr hr)⟩
theorem putAll_perm {rows rows' : List Rw} (p : rows.Perm rows') : ∀ {t : Tm}, rows.Pairwise (fun a b => Apart a.1 b.1) → putAll t rows = putAll t rows' := by
  induction p with
  | nil => intro t _; rfl
  | cons x q ih =>
    intro t h
    exact ih (List.pairwise_cons.mp h).2
  | swap x y l =>
    intro t h
    have h1 := (List.pairwise_cons.mp h).1 x List.mem_cons_self
    show putAll (step (step t y) x) l = putAll (step (step t x) y) l
    have e : step (step t y) x = step (step t x) y := put_comm t y.1 x.1 y.2 x.2 h1
    rw [e]
  | trans p1 p2 ih1 ih2 =>
    intro t h
    rw [ih1 h]
    exact ih2 (h.perm p1 fun x => x.symm)
/-! ### unlike spots -/
def rowsOf (one other : Tm) : List Rw := (unlike one other).filterMap fun s => (other.get s).map fun t => (s, t)
theorem unlike_has : ∀ (a b : Tm) (s : Spot), s ∈ unlike a b → (∃ p q, a.get s = some p ∧ b.get s = some q ∧ p ≠ q)
  | .lf l, .lf l', s, h => by
    simp only [unlike] at h
    split at h
    · cases h
    · rename_i ne
      cases List.mem_singleton.mp h
      exact ⟨_, _, rfl, rfl, fun e => ne (Tm.lf.inj e)⟩
  | .n2 w x y, .n2 w' x' y', s, h => by
    simp only [unlike] at h
    split at h
    · rcases List.mem_append.mp h with h | h
      · obtain ⟨r, hr, rfl⟩ := List.mem_map.mp h
        exact unlike_has x x' r hr
      · obtain ⟨r, hr, rfl⟩ := List.mem_map.mp h
        exact unlike_has y y' r hr
    · rename_i ne
      cases List.mem_singleton.mp h
      exact ⟨_, _, rfl, rfl, fun e => ne (Tm.n2.inj e).1⟩
  | .n3 w x y z, .n3 w' x' y' z', s, h => by
    simp only [unlike] at h
    split at h
    · rcases List.mem_append.mp h with h | h
      · obtain ⟨r, hr, rfl⟩ := List.mem_map.mp h
        exact unlike_has x x' r hr
      · rcases List.mem_append.mp h with h | h
        · obtain ⟨r, hr, rfl⟩ := List.mem_map.mp h
          exact unlike_has y y' r hr
        · obtain ⟨r, hr, rfl⟩ := List.mem_map.mp h
          exact unlike_has z z' r hr
    · rename_i ne
      cases List.mem_singleton.mp h
      exact ⟨_, _, rfl, rfl, fun e => ne (Tm.n3.inj e).1⟩
  | .lf _, .n2 _ _ _, s, h => by cases List.mem_singleton.mp h; exact ⟨_, _, rfl, rfl, nofun⟩
  | .lf _, .n3 _ _ _ _, s, h => by cases List.mem_singleton.mp h; exact ⟨_, _, rfl, rfl, nofun⟩
  | .n2 _ _ _, .lf _, s, h => by cases List.mem_singleton.mp h; exact ⟨_, _, rfl, rfl, nofun⟩
  | .n2 _ _ _, .n3 _ _ _ _, s, h => by cases List.mem_singleton.mp h; exact ⟨_, _, rfl, rfl, nofun⟩
  | .n3 _ _ _ _, .lf _, s, h => by cases List.mem_singleton.mp h; exact ⟨_, _, rfl, rfl, nofun⟩
  | .n3 _ _ _ _, .n2 _ _ _, s, h => by cases List.mem_singleton.mp h; exact ⟨_, _, rfl, rfl, nofun⟩
theorem unlike_nil : ∀ (a b : Tm), unlike a b = [] ↔ a = b
  | .lf l, .lf l' => by
    simp only [unlike]
    split
    · rename_i e; subst e; simp
    · rename_i ne
      simp only [List.cons_ne_nil, false_iff]
      exact fun e => ne (Tm.lf.inj e)
  | .n2 w x y, .n2 w' x' y' => by
    simp only [unlike]
    split
    · rename_i e; subst e
      rw [List.append_eq_nil_iff, List.map_eq_nil_iff, List.map_eq_nil_iff, unlike_nil x x', unlike_nil y y']
      constructor
      · rintro ⟨rfl, rfl⟩; rfl
      · intro e; exact ⟨(Tm.n2.inj e).2.1, (Tm.n2.inj e).2.2⟩
    · rename_i ne
      simp only [List.cons_ne_nil, false_iff]
      exact fun e => ne (Tm.n2.inj e).1
  | .n3 w x y z, .n3 w' x' y' z' => by
    simp only [unlike]
    split
    · rename_i e; subst e
      rw [List.append_eq_nil_iff, List.append_eq_nil_iff, List.map_eq_nil_iff, List.map_eq_nil_iff, List.map_eq_nil_iff, unlike_nil x x', unlike_nil y y', unlike_nil z z']
      constructor
      · rintro ⟨rfl, rfl, rfl⟩; rfl
      · intro e; exact ⟨(Tm.n3.inj e).2.1, (Tm.n3.inj e).2.2.1, (Tm.n3.inj e).2.2.2⟩
    · rename_i ne
      simp only [List.cons_ne_nil, false_iff]
      exact fun e => ne (Tm.n3.inj e).1
  | .lf _, .n2 _ _ _ => by simp [unlike]
  | .lf _, .n3 _ _ _ _ => by simp [unlike]
  | .n2 _ _ _, .lf _ => by simp [unlike]
  | .n2 _ _ _, .n3 _ _ _ _ => by simp [unlike]
  | .n3 _ _ _ _, .lf _ => by simp [unlike]
  | .n3 _ _ _ _, .n2 _ _ _ => by simp [unlike]
theorem pw_map {l : List Spot} {k : Nat} (h : l.Pairwise Apart) : (l.map (k :: ·)).Pairwise Apart := by
  rw [List.pairwise_map]
  exact h.imp fun x => x.cons
theorem pw_two {l m : List Spot} {j k : Nat} (n : j ≠ k) (h : l.Pairwise Apart) (g : m.Pairwise Apart) : (l.map (j :: ·) ++ m.map (k :: ·)).Pairwise Apart := by
  rw [List.pairwise_append]
  refine ⟨pw_map h, pw_map g, fun a ha b hb => ?_⟩
  obtain ⟨p, _, rfl⟩ := List.mem_map.mp ha
  obtain ⟨q, _, rfl⟩ := List.mem_map.mp hb
  exact Apart.ne n
theorem unlike_apart : ∀ (a b : Tm), (unlike a b).Pairwise Apart
  | .lf l, .lf l' => by
    simp only [unlike]
    split
    · exact .nil
    · exact List.pairwise_singleton _ _
  | .n2 w x y, .n2 w' x' y' => by
    simp only [unlike]
    split
    · exact pw_two (by decide) (unlike_apart x x') (unlike_apart y y')
    · exact List.pairwise_singleton _ _
  | .n3 w x y z, .n3 w' x' y' z' => by
    simp only [unlike]
    split
    · rw [List.pairwise_append]
      refine ⟨pw_map (unlike_apart x x'), pw_two (by decide) (unlike_apart y y') (unlike_apart z z'), fun a ha b hb => ?_⟩
      obtain ⟨p, _, rfl⟩ := List.mem_map.mp ha
      rcases List.mem_append.mp hb with hb | hb <;> (obtain ⟨q, _, rfl⟩ := List.mem_map.mp hb; exact Apart.ne (by decide))
    · exact List.pairwise_singleton _ _
  | .lf _, .n2 _ _ _ => List.pairwise_singleton _ _
  | .lf _, .n3 _ _ _ _ => List.pairwise_singleton _ _
  | .n2 _ _ _, .lf _ => List.pairwise_singleton _ _
  | .n2 _ _ _, .n3 _ _ _ _ => List.pairwise_singleton _ _
  | .n3 _ _ _ _, .lf _ => List.pairwise_singleton _ _
  | .n3 _ _ _ _, .n2 _ _ _ => List.pairwise_singleton _ _
theorem rowsOf_spots (a b : Tm) : (rowsOf a b).map (·.1) = unlike a b := by
  have h : ∀ l : List Spot, (∀ s ∈ l, (b.get s).isSome = true) → (l.filterMap fun s => (b.get s).map fun t => (s, t)).map (·.1) = l := by
    intro l
    induction l with
    | nil => intro _; rfl
    | cons s r ih =>
      intro h
      have h1 := h s List.mem_cons_self
      cases e : b.get s with
      | none => rw [e] at h1; cases h1
      | some t =>
        rw [List.filterMap_cons, e]
        show s :: List.map _ _ = _
        rw [ih fun q hq => h q (List.mem_cons_of_mem _ hq)]
  refine h _ fun s hs => ?_
  obtain ⟨p, q, _, e, _⟩ := unlike_has a b s hs
  rw [e]; rfl
theorem rowsOf_mem {a b : Tm} {r : Rw} (h : r ∈ rowsOf a b) : r.1 ∈ unlike a b ∧ b.get r.1 = some r.2 := by
  obtain ⟨s, hs, e⟩ := List.mem_filterMap.mp h
  cases g : b.get s with
  | none => rw [g] at e; cases e
  | some t =>
    rw [g] at e
    cases e
    exact ⟨hs, g⟩
theorem rowsOf_fit (a b : Tm) : Fit a (rowsOf a b) := by
  refine ⟨?_, fun r hr => ?_⟩
  · have h := unlike_apart a b
    rw [← rowsOf_spots a b, List.pairwise_map] at h
    exact h
  · obtain ⟨p, q, e, _, _⟩ := unlike_has a b r.1 (rowsOf_mem hr).1
    rw [e]; rfl
theorem fm_map {b : Tm} {k : Nat} {c : Tm} (h : ∀ s, b.get (k :: s) = c.get s) (l : List Spot) :
    ((l.map (k :: ·)).filterMap fun s => (b.get s).map fun t => ((s, t) : Rw)) = (l.filterMap fun s => (c.get s).map fun t => ((s, t) : Rw)).map fun r => (k :: r.1, r.2) := by
  induction l with
  | nil => rfl
  | cons s r ih =>
    rw [List.map_cons, List.filterMap_cons, List.filterMap_cons, h s, ih]
    cases c.get s <;> rfl
theorem putAll_sub {f : Tm → Tm} {k : Nat} (h : ∀ t s o, step (f t) (k :: s, o) = f (t.put s o)) : ∀ (rows : List Rw) (t : Tm), putAll (f t) (rows.map fun r => (k :: r.1, r.2)) = f (putAll t rows)
  | [], _ => rfl
  | r :: rs, t => by
    show putAll (step (f t) (k :: r.1, r.2)) _ = f (putAll (step t r) rs)
    rw [h]
    exact putAll_sub h rs _
theorem putAll_append (t : Tm) (l m : List Rw) : putAll t (l ++ m) = putAll (putAll t l) m := List.foldl_append ..
/-- changed at all unlike spots it is the other one -/
theorem putAll_rowsOf : ∀ (a b : Tm), putAll a (rowsOf a b) = b
  | .lf l, .lf l' => by
    simp only [rowsOf, unlike]
    split
    · rename_i e; subst e; rfl
    · rfl
  | .n2 w x y, .n2 w' x' y' => by
    simp only [rowsOf, unlike]
    split
    · rename_i e; subst e
      rw [List.filterMap_append, fm_map (c := x') (fun _ => rfl), fm_map (c := y') (fun _ => rfl), putAll_append,
        putAll_sub (f := fun q => Tm.n2 w q y) (fun _ _ _ => rfl), putAll_sub (f := fun q => Tm.n2 w (putAll x _) q) (fun _ _ _ => rfl)]
      show Tm.n2 w (putAll x (rowsOf x x')) (putAll y (rowsOf y y')) = _
      rw [putAll_rowsOf x x', putAll_rowsOf y y']
    · rfl
  | .n3 w x y z, .n3 w' x' y' z' => by
    simp only [rowsOf, unlike]
    split
    · rename_i e; subst e
      rw [List.filterMap_append, List.filterMap_append, fm_map (c := x') (fun _ => rfl), fm_map (c := y') (fun _ => rfl), fm_map (c := z') (fun _ => rfl), putAll_append, putAll_append,
        putAll_sub (f := fun q => Tm.n3 w q y z) (fun _ _ _ => rfl), putAll_sub (f := fun q => Tm.n3 w (putAll x _) q z) (fun _ _ _ => rfl), putAll_sub (f := fun q => Tm.n3 w (putAll x _) (putAll y _) q) (fun _ _ _ => rfl)]
      show Tm.n3 w (putAll x (rowsOf x x')) (putAll y (rowsOf y y')) (putAll z (rowsOf z z')) = _
      rw [putAll_rowsOf x x', putAll_rowsOf y y', putAll_rowsOf z z']
    · rfl
  | .lf _, .n2 _ _ _ => rfl
  | .lf _, .n3 _ _ _ _ => rfl
  | .n2 _ _ _, .lf _ => rfl
  | .n2 _ _ _, .n3 _ _ _ _ => rfl
  | .n3 _ _ _ _, .lf _ => rfl
  | .n3 _ _ _ _, .n2 _ _ _ => rfl
/-- one left out: it is not -/
theorem putAll_less {a b : Tm} {l m : List Rw} {r : Rw} (h : rowsOf a b = l ++ r :: m) : putAll a (l ++ m) ≠ b := fun e => by
  have hr : r ∈ rowsOf a b := by rw [h]; exact List.mem_append_right _ List.mem_cons_self
  have ap := (rowsOf_fit a b).ap
  rw [h, List.pairwise_append] at ap
  obtain ⟨_, a2, a3⟩ := ap
  rw [List.pairwise_cons] at a2
  have g : (putAll a (l ++ m)).get r.1 = a.get r.1 := putAll_get fun q hq => by
    rcases List.mem_append.mp hq with hq | hq
    · exact a3 q hq r List.mem_cons_self
    · exact (a2.1 q hq).symm
  obtain ⟨p, q, e1, e2, ne⟩ := unlike_has a b r.1 (rowsOf_mem hr).1
  rw [e, e1, e2] at g
  exact ne (Option.some.inj g).symm
/-! ### heights -/
theorem get_ht : ∀ (t : Tm) (s : Spot) (u : Tm), t.get s = some u → u.ht + s.length ≤ t.ht
  | t, [], u, h => by rw [get_nil] at h; cases h; exact Nat.le_refl _
  | .lf _, _ :: _, _, h => nomatch h
  | .n2 w x y, k :: s, u, h => by
    simp only [ht, List.length_cons]
    match k, h with
    | 0, h => have := get_ht x s u h; omega
    | 1, h => have := get_ht y s u h; omega
    | _ + 2, h => cases h
  | .n3 w x y z, k :: s, u, h => by
    simp only [ht, List.length_cons]
    match k, h with
    | 0, h => have := get_ht x s u h; omega
    | 1, h => have := get_ht y s u h; omega
    | 2, h => have := get_ht z s u h; omega
    | _ + 3, h => cases h
theorem put_ht : ∀ (t : Tm) (s : Spot) (o : Tm), (t.put s o).ht ≤ max t.ht (s.length + o.ht)
  | t, [], o => by rw [put_nil]; simp only [List.length_nil]; omega
  | .lf _, _ :: _, _ => Nat.le_max_left ..
  | .n2 w x y, k :: s, o => by
    match k with
    | 0 => have := put_ht x s o; simp only [put, ht, List.length_cons]; omega
    | 1 => have := put_ht y s o; simp only [put, ht, List.length_cons]; omega
    | _ + 2 => exact Nat.le_max_left ..
  | .n3 w x y z, k :: s, o => by
    match k with
    | 0 => have := put_ht x s o; simp only [put, ht, List.length_cons]; omega
    | 1 => have := put_ht y s o; simp only [put, ht, List.length_cons]; omega
    | 2 => have := put_ht z s o; simp only [put, ht, List.length_cons]; omega
    | _ + 3 => exact Nat.le_max_left ..
theorem spots_get : ∀ (t : Tm) (s : Spot), s ∈ t.spots → (t.get s).isSome = true
  | .lf _, s, h => by cases List.mem_singleton.mp h; rfl
  | .n2 w x y, s, h => by
    simp only [spots] at h
    rcases List.mem_cons.mp h with rfl | h
    · rfl
    · rcases List.mem_append.mp h with h | h
      · obtain ⟨r, hr, rfl⟩ := List.mem_map.mp h; exact spots_get x r hr
      · obtain ⟨r, hr, rfl⟩ := List.mem_map.mp h; exact spots_get y r hr
  | .n3 w x y z, s, h => by
    simp only [spots] at h
    rcases List.mem_cons.mp h with rfl | h
    · rfl
    · rcases List.mem_append.mp h with h | h
      · obtain ⟨r, hr, rfl⟩ := List.mem_map.mp h; exact spots_get x r hr
      · rcases List.mem_append.mp h with h | h
        · obtain ⟨r, hr, rfl⟩ := List.mem_map.mp h; exact spots_get y r hr
        · obtain ⟨r, hr, rfl⟩ := List.mem_map.mp h; exact spots_get z r hr
theorem pow3 {a b : Nat} (h : a ≤ b) : 3 ^ a ≤ 3 ^ b := Nat.pow_le_pow_right (by decide) h
theorem spots_len : ∀ (t : Tm), 2 * t.spots.length + 1 ≤ 3 ^ t.ht
  | .lf _ => by show 2 * 1 + 1 ≤ 3 ^ 1; decide
  | .n2 w x y => by
    have h1 := spots_len x
    have h2 := spots_len y
    have p1 := pow3 (Nat.le_max_left x.ht y.ht)
    have p2 := pow3 (Nat.le_max_right x.ht y.ht)
    simp only [spots, ht, List.length_cons, List.length_append, List.length_map, Nat.pow_succ]
    omega
  | .n3 w x y z => by
    have h1 := spots_len x
    have h2 := spots_len y
    have h3 := spots_len z
    have p1 := pow3 (Nat.le_max_left x.ht (max y.ht z.ht))
    have p2 := pow3 (Nat.le_trans (Nat.le_max_left y.ht z.ht) (Nat.le_max_right x.ht (max y.ht z.ht)))
    have p3 := pow3 (Nat.le_trans (Nat.le_max_right y.ht z.ht) (Nat.le_max_right x.ht (max y.ht z.ht)))
    simp only [spots, ht, List.length_cons, List.length_append, List.length_map, Nat.pow_succ]
    omega
theorem unlike_len : ∀ (a b : Tm), (unlike a b).length ≤ a.spots.length
  | .lf l, .lf l' => by
    simp only [unlike]
    split <;> simp [spots]
  | .n2 w x y, .n2 w' x' y' => by
    have h1 := unlike_len x x'
    have h2 := unlike_len y y'
    simp only [unlike]
    split
    · simp only [spots, List.length_cons, List.length_append, List.length_map]; omega
    · simp [spots]
  | .n3 w x y z, .n3 w' x' y' z' => by
    have h1 := unlike_len x x'
    have h2 := unlike_len y y'
    have h3 := unlike_len z z'
    simp only [unlike]
    split
    · simp only [spots, List.length_cons, List.length_append, List.length_map]; omega
    · simp [spots]
  | .lf _, .n2 _ _ _ => by simp [unlike, spots]
  | .lf _, .n3 _ _ _ _ => by simp [unlike, spots]
  | .n2 _ _ _, .lf _ => by simp [unlike, spots]
  | .n2 _ _ _, .n3 _ _ _ _ => by simp [unlike, spots]
  | .n3 _ _ _ _, .lf _ => by simp [unlike, spots]
  | .n3 _ _ _ _, .n2 _ _ _ => by simp [unlike, spots]
end K89
namespace K89
open PySem PySem.Spec PyProof.Rows L2
abbrev PRG : Program := PySem.Challenge.pw_paperwide_k89_whole_unlike_parts
def top (i : Nat) : Stmt := PRG.main.body.getD i (.Pass ⟨0, 0, 0, 0⟩)
abbrev s_is_whole : Stmt := top 11
abbrev s_is_number : Stmt := top 12
abbrev s_is_name : Stmt := top 13
abbrev s_has_form : Stmt := top 14
abbrev s_is_term : Stmt := top 15
abbrev s_is_spot : Stmt := top 16
abbrev s_need_term : Stmt := top 17
abbrev s_inner : Stmt := top 18
abbrev s_with_parts : Stmt := top 19
abbrev s_binds : Stmt := top 20
abbrev s_gone_to : Stmt := top 21
abbrev s_part_at : Stmt := top 22
abbrev s_put_at : Stmt := top 23
abbrev s_differ : Stmt := top 25
abbrev s_unlike_in : Stmt := top 26
abbrev s_unlike_spots : Stmt := top 27
abbrev s_is_row : Stmt := top 28
abbrev s_stand_apart : Stmt := top 29
abbrev s_changed_all : Stmt := top 30
abbrev s_law_cell : Stmt := top 32
abbrev s_law_box : Stmt := top 33
abbrev s_law_take : Stmt := top 34
abbrev s_law_shuffled : Stmt := top 35
abbrev s_law_same : Stmt := top 36
abbrev s_law_grow : Stmt := top 37
abbrev s_law_is_hole : Stmt := top 38
abbrev s_law_inner : Stmt := top 39
abbrev s_law_with : Stmt := top 40
abbrev s_law_leaf : Stmt := top 41
abbrev s_law_drawn : Stmt := top 42
abbrev s_law_spots : Stmt := top 43
abbrev s_law_put : Stmt := top 44
abbrev s_law_unlike : Stmt := top 45
abbrev s_law_apart : Stmt := top 46
abbrev s_law_pair : Stmt := top 47
abbrev s_law_pair_right : Stmt := top 48
abbrev s_law_asked : Stmt := top 49
abbrev s_law_refused : Stmt := top 50
abbrev s_law : Stmt := top 51
abbrev m_NoTerm_init : Stmt := inClass (top 2) 0
abbrev m_NoSpot_init : Stmt := inClass (top 3) 0
abbrev m_NoList_init : Stmt := inClass (top 4) 0
def fn : List He.DefD := ([
  ⟨("is_whole", none), "is_whole", "is_whole", defArgs s_is_whole, defBody s_is_whole, defScope s_is_whole, [], []⟩, 
  ⟨("is_number", none), "is_number", "is_number", defArgs s_is_number, defBody s_is_number, defScope s_is_number, [], []⟩, 
  ⟨("is_name", none), "is_name", "is_name", defArgs s_is_name, defBody s_is_name, defScope s_is_name, [], []⟩, 
  ⟨("has_form", none), "has_form", "has_form", defArgs s_has_form, defBody s_has_form, defScope s_has_form, [], []⟩, 
  ⟨("is_term", none), "is_term", "is_term", defArgs s_is_term, defBody s_is_term, defScope s_is_term, [], []⟩, 
  ⟨("is_spot", none), "is_spot", "is_spot", defArgs s_is_spot, defBody s_is_spot, defScope s_is_spot, [], []⟩, 
  ⟨("need_term", none), "need_term", "need_term", defArgs s_need_term, defBody s_need_term, defScope s_need_term, [], []⟩, 
  ⟨("inner", none), "inner", "inner", defArgs s_inner, defBody s_inner, defScope s_inner, [], []⟩, 
  ⟨("with_parts", none), "with_parts", "with_parts", defArgs s_with_parts, defBody s_with_parts, defScope s_with_parts, [], []⟩, 
  ⟨("binds", none), "binds", "binds", defArgs s_binds, defBody s_binds, defScope s_binds, [], []⟩] : List He.DefD) ++ ([
  ⟨("gone_to", none), "gone_to", "gone_to", defArgs s_gone_to, defBody s_gone_to, defScope s_gone_to, [], []⟩, 
  ⟨("part_at", none), "part_at", "part_at", defArgs s_part_at, defBody s_part_at, defScope s_part_at, [], []⟩, 
  ⟨("put_at", none), "put_at", "put_at", defArgs s_put_at, defBody s_put_at, defScope s_put_at, [], []⟩, 
  ⟨("differ", none), "differ", "differ", defArgs s_differ, defBody s_differ, defScope s_differ, [], []⟩, 
  ⟨("unlike_in", none), "unlike_in", "unlike_in", defArgs s_unlike_in, defBody s_unlike_in, defScope s_unlike_in, [], []⟩, 
  ⟨("unlike_spots", none), "unlike_spots", "unlike_spots", defArgs s_unlike_spots, defBody s_unlike_spots, defScope s_unlike_spots, [], []⟩, 
  ⟨("is_row", none), "is_row", "is_row", defArgs s_is_row, defBody s_is_row, defScope s_is_row, [], []⟩, 
  ⟨("stand_apart", none), "stand_apart", "stand_apart", defArgs s_stand_apart, defBody s_stand_apart, defScope s_stand_apart, [], []⟩, 
  ⟨("changed_all", none), "changed_all", "changed_all", defArgs s_changed_all, defBody s_changed_all, defScope s_changed_all, [], []⟩, 
  ⟨("_law_cell", none), "_law_cell", "_law_cell", defArgs s_law_cell, defBody s_law_cell, defScope s_law_cell, [], []⟩] : List He.DefD) ++ ([
  ⟨("_law_box", none), "_law_box", "_law_box", defArgs s_law_box, defBody s_law_box, defScope s_law_box, [], []⟩, 
  ⟨("_law_take", none), "_law_take", "_law_take", defArgs s_law_take, defBody s_law_take, defScope s_law_take, [], []⟩, 
  ⟨("_law_shuffled", none), "_law_shuffled", "_law_shuffled", defArgs s_law_shuffled, defBody s_law_shuffled, defScope s_law_shuffled, [], []⟩, 
  ⟨("_law_same", none), "_law_same", "_law_same", defArgs s_law_same, defBody s_law_same, defScope s_law_same, [], []⟩, 
  ⟨("_law_grow", none), "_law_grow", "_law_grow", defArgs s_law_grow, defBody s_law_grow, defScope s_law_grow, [], []⟩, 
  ⟨("_law_is_hole", none), "_law_is_hole", "_law_is_hole", defArgs s_law_is_hole, defBody s_law_is_hole, defScope s_law_is_hole, [], []⟩, 
  ⟨("_law_inner", none), "_law_inner", "_law_inner", defArgs s_law_inner, defBody s_law_inner, defScope s_law_inner, [], []⟩, 
  ⟨("_law_with", none), "_law_with", "_law_with", defArgs s_law_with, defBody s_law_with, defScope s_law_with, [], []⟩, 
  ⟨("_law_leaf", none), "_law_leaf", "_law_leaf", defArgs s_law_leaf, defBody s_law_leaf, defScope s_law_leaf, [], []⟩, 
  ⟨("_law_drawn", none), "_law_drawn", "_law_drawn", defArgs s_law_drawn, defBody s_law_drawn, defScope s_law_drawn, [], []⟩] : List He.DefD) ++ ([
  ⟨("_law_spots", none), "_law_spots", "_law_spots", defArgs s_law_spots, defBody s_law_spots, defScope s_law_spots, [], []⟩, 
  ⟨("_law_put", none), "_law_put", "_law_put", defArgs s_law_put, defBody s_law_put, defScope s_law_put, [], []⟩, 
  ⟨("_law_unlike", none), "_law_unlike", "_law_unlike", defArgs s_law_unlike, defBody s_law_unlike, defScope s_law_unlike, [], []⟩, 
  ⟨("_law_apart", none), "_law_apart", "_law_apart", defArgs s_law_apart, defBody s_law_apart, defScope s_law_apart, [], []⟩, 
  ⟨("_law_pair", none), "_law_pair", "_law_pair", defArgs s_law_pair, defBody s_law_pair, defScope s_law_pair, [], []⟩, 
  ⟨("_law_pair_right", none), "_law_pair_right", "_law_pair_right", defArgs s_law_pair_right, defBody s_law_pair_right, defScope s_law_pair_right, [], []⟩, 
  ⟨("_law_asked", none), "_law_asked", "_law_asked", defArgs s_law_asked, defBody s_law_asked, defScope s_law_asked, [], []⟩, 
  ⟨("_law_refused", none), "_law_refused", "_law_refused", defArgs s_law_refused, defBody s_law_refused, defScope s_law_refused, [], []⟩, 
  ⟨("law", none), "law", "law", defArgs s_law, defBody s_law, defScope s_law, [], []⟩, 
  ⟨("NoTerm", some "__init__"), "__init__", "NoTerm.__init__", defArgs m_NoTerm_init, defBody m_NoTerm_init, defScope m_NoTerm_init, [], []⟩] : List He.DefD) ++ ([
  ⟨("NoSpot", some "__init__"), "__init__", "NoSpot.__init__", defArgs m_NoSpot_init, defBody m_NoSpot_init, defScope m_NoSpot_init, [], []⟩, 
  ⟨("NoList", some "__init__"), "__init__", "NoList.__init__", defArgs m_NoList_init, defBody m_NoList_init, defScope m_NoList_init, [], []⟩] : List He.DefD)
def fa : List He.Fa := ([.glo "PaperError", .glo "NoTerm", .glo "NoSpot", .glo "NoList", .glo "KEPT", .glo "FORMS", .glo "BINDERS", .glo "is_whole", .glo "is_number", .glo "is_name", .glo "has_form", .glo "is_term", .glo "is_spot", .glo "need_term", .glo "inner", .glo "with_parts", .glo "binds", .glo "gone_to", .glo "part_at", .glo "put_at", .glo "differ", .glo "unlike_in", .glo "unlike_spots", .glo "is_row", .glo "stand_apart", .glo "changed_all", .glo "_law_cell", .glo "_law_box", .glo "_law_take", .glo "_law_shuffled"] : List He.Fa) ++ ([.glo "_law_same", .glo "_law_grow", .glo "_law_is_hole", .glo "_law_inner", .glo "_law_with", .glo "_law_leaf", .glo "_law_drawn", .glo "_law_spots", .glo "_law_put", .glo "_law_unlike", .glo "_law_apart", .glo "_law_pair", .glo "_law_pair_right", .glo "_law_asked", .glo "_law_refused", .glo "law", .int "MOST_KIND" 5, .str "SMALL" "abcdefghijklmnopqrstuvwxyz", .free "ValueError", .free "abs", .free "all", .free "any", .free "bool", .free "dict", .free "enumerate", .free "int", .free "isinstance", .free "len", .free "list", .free "max"] : List He.Fa) ++ ([.free "min", .free "range", .free "repr", .free "str", .free "sum", .free "tuple", .free "zip"] : List He.Fa)
def kv_FORMS : List (Str × He.Dv) := [("at", .str "n"), ("kind", .str "h"), ("all", .str "tt"), ("fun", .str "tt"), ("app", .str "tt"), ("name", .str "w"), ("thing", .str "w"), ("maker", .str "wn"), ("eater", .str "wh"), ("same", .str "ttt"), ("self", .str "tt"), ("put", .str "ttt")]
def ts : List He.Tab := [((fun K => He.ga K "FORMS"), ["at", "kind", "all", "fun", "app", "name", "thing", "maker", "eater", "same", "self", "put"])]
def tv_KEPT : List He.Dv := [.str "all", .str "fun", .str "same", .str "self", .str "put"]
def tv_BINDERS : List He.Dv := [.str "all", .str "fun"]
def loose : List Str := (["PaperError", "NoTerm", "NoSpot", "NoList", "SMALL", "KEPT", "MOST_KIND", "FORMS", "BINDERS", "is_whole", "is_number", "is_name", "has_form", "is_term", "is_spot", "need_term", "inner", "with_parts", "binds", "gone_to", "part_at", "put_at", "differ", "unlike_in", "unlike_spots", "is_row", "stand_apart", "changed_all", "_law_cell", "_law_box"] : List Str) ++ (["_law_take", "_law_shuffled", "_law_same", "_law_grow", "_law_is_hole", "_law_inner", "_law_with", "_law_leaf", "_law_drawn", "_law_spots", "_law_put", "_law_unlike", "_law_apart", "_law_pair", "_law_pair_right", "_law_asked", "_law_refused"] : List Str)
abbrev lawAt : Nat := 51
/-! ### what is told of the exception classes -/
def oex1 (K : PySem.W.Frag) (C : Addr) : Bool := match K.lookup C with
  | some ⟨.type c, _, .cls cd, sl⟩ => decide (c = "type") && (match cd.mro, sl.toList with
    | .ref C' :: bm, [_, _, _, _, some (.builtin n), _] => decide (C' = C) && (decide (n = "ValueError.__new__") && (!cd.hasDel && (cd.hasDict && PySem.HandSPX.refsVE bm)))
    | _, _ => false)
  | _ => false
def oexB (K : PySem.W.Frag) (C : Addr) : Bool := oex1 K C && (decide (PySem.W.findIn K (.ref C) "__setattr__" = some (some (.builtin "object.__setattr__"))) && (decide (PySem.W.subIn K (.ref C) (.type "BaseException") = some true) &&
  (decide (PySem.W.typeIn K (.ref C) = some (.type "type")) && PySem.W.keepIn K (.ref C))))
theorem oex1_ok {K : PySem.W.Frag} {C : Addr} (h : oex1 K C = true) : ∃ nm q N bs bm sn sub ab col dd k0 k1 k2 k3 k5, K.lookup C = some (excClassObj nm q C N bs bm true sn sub ab col dd k0 k1 k2 k3 k5 "ValueError.__new__") ∧ PySem.HandSPX.refsVE bm = true := by
  unfold oex1 at h
  split at h
  · rename_i c od cd sl e
    obtain ⟨h1, h2⟩ := He.ba h
    split at h2
    · rename_i C' bm k0 k1 k2 k3 n k5 e1 e2
      obtain ⟨h3, h4⟩ := He.ba h2
      obtain ⟨h5, h6⟩ := He.ba h4
      obtain ⟨h7, h8⟩ := He.ba h6
      obtain ⟨h9, h10⟩ := He.ba h8
      have a1 : c = "type" := of_decide_eq_true h1
      have a2 : C' = C := of_decide_eq_true h3
      have a3 : n = "ValueError.__new__" := of_decide_eq_true h5
      subst a1 a2 a3
      obtain ⟨nm, bs, mro, N, q, hd, sn, sub, ab, col, del⟩ := cd
      dsimp only at e1 h7 h9
      subst e1
      have b1 : del = false := by
        cases del with
        | false => rfl
        | true => cases h7
      have b2 : sl = #[k0, k1, k2, k3, some (.builtin "ValueError.__new__"), k5] := by
        have : sl.toList.toArray = sl := Array.toArray_toList
        rw [← this, e2]
      subst b1 b2
      have b3 : hd = true := h9
      subst b3
      exact ⟨nm, q, N, bs, bm, sn, sub, ab, col, od, k0, k1, k2, k3, k5, e, h10⟩
    · cases h2
  · cases h
theorem oexB_ok {K : PySem.W.Frag} {C : Addr} (h : oexB K C = true) : OexC K C := by
  obtain ⟨h1, h⟩ := He.ba h
  obtain ⟨h2, h⟩ := He.ba h
  obtain ⟨h3, h⟩ := He.ba h
  obtain ⟨h4, h5⟩ := He.ba h
  exact ⟨oex1_ok h1, of_decide_eq_true h2, of_decide_eq_true h3, of_decide_eq_true h4, h5⟩
/-- an own exception class with __init__(self, found) -/
def excB (K : PySem.W.Frag) (x : Str) : Bool := oexB K (He.ga K x) && (xfB K (He.ga K x) && (decide (PySem.W.findIn K (.ref (He.ga K x)) "found" = some none) &&
  (decide (PySem.W.findIn K (.ref (He.ga K x)) "__init__" = some (some (.ref (He.ma K (He.ga K x) "__init__")))) && decide (PySem.W.typeIn K (.ref (He.ma K (He.ga K x) "__init__")) = some (.type "function")))))
structure ExcF (K : PySem.W.Frag) (x : Str) : Prop where
  o : OexC K (He.ga K x)
  f : XfC K (He.ga K x)
  no : PySem.W.findIn K (.ref (He.ga K x)) "found" = some none
  i : PySem.W.findIn K (.ref (He.ga K x)) "__init__" = some (some (.ref (He.ma K (He.ga K x) "__init__")))
  t : PySem.W.typeIn K (.ref (He.ma K (He.ga K x) "__init__")) = some (.type "function")
theorem excB_ok {K : PySem.W.Frag} {x : Str} (h : excB K x = true) : ExcF K x := by
  obtain ⟨h1, h⟩ := He.ba h
  obtain ⟨h2, h⟩ := He.ba h
  obtain ⟨h3, h⟩ := He.ba h
  obtain ⟨h4, h5⟩ := He.ba h
  exact ⟨oexB_ok h1, xfB_ok h2, of_decide_eq_true h3, of_decide_eq_true h4, of_decide_eq_true h5⟩
def exmB (K : PySem.W.Frag) (x y : Str) (b : Bool) : Bool := (He.Fa.exm x y b).ok K
def ex (K : PySem.W.Frag) : Bool := excB K "NoTerm" && (excB K "NoSpot" && (excB K "NoList" && (He.tupB K "KEPT" tv_KEPT && (He.tupB K "BINDERS" tv_BINDERS && (He.valsB K (He.ga K "FORMS") kv_FORMS && (decide (PySem.W.nsIn K (He.ga K "FORMS") "hole" = some none) && (exmB K "NoTerm" "NoTerm" true &&
  (exmB K "NoSpot" "NoTerm" false && (exmB K "NoSpot" "NoSpot" true && (exmB K "NoSpot" "NoList" false && (exmB K "NoList" "NoTerm" false && exmB K "NoList" "NoList" true)))))))))))
abbrev R : PySem.W.OpenRow := PySem.W.OpenLaw.row PySem.Challenge.rw_paperwide_k89_whole_unlike_parts
abbrev hk : PySem.W.Hook := He.hookX 4 fa fn ts [] ex
def ob (s : PySem.W.SharedT) : He.AlX := He.obsX 4 fa fn ts [] ex (HandSHeadRun.getT s)
theorem ob_eq (s : PySem.W.SharedT) : ob s = hk.obs s.abs := He.obsX_eq (HandSHeadRun.getT_eq s)
theorem run (w : World) : HandSHeadRun.RunEq R (PySem.W.view R.prog [lawAt]) hk ob 6000 loose w :=
  PySem.W.byRow2 "special-get-raises" (P := fun w => HandSHeadRun.RunEq R (PySem.W.view R.prog [lawAt]) hk ob 6000 loose w) (fun w => by intro os; kernel_rfl) (fun w => by intro os; kernel_rfl) w
end K89
namespace K89
open PySem PySem.Spec PyProof.Rows L2
/-- what stands behind the top -/
structure Tx (w : World) (K : PySem.W.Frag) (mg : Str → Option Value) : Prop where
  g_PaperError : mg "PaperError" = some (.ref (He.ga K "PaperError"))
  g_NoTerm : mg "NoTerm" = some (.ref (He.ga K "NoTerm"))
  g_NoSpot : mg "NoSpot" = some (.ref (He.ga K "NoSpot"))
  g_NoList : mg "NoList" = some (.ref (He.ga K "NoList"))
  g_KEPT : mg "KEPT" = some (.ref (He.ga K "KEPT"))
  g_FORMS : mg "FORMS" = some (.ref (He.ga K "FORMS"))
  g_BINDERS : mg "BINDERS" = some (.ref (He.ga K "BINDERS"))
  g_is_whole : mg "is_whole" = some (.ref (He.ga K "is_whole"))
  g_is_number : mg "is_number" = some (.ref (He.ga K "is_number"))
  g_is_name : mg "is_name" = some (.ref (He.ga K "is_name"))
  g_has_form : mg "has_form" = some (.ref (He.ga K "has_form"))
  g_is_term : mg "is_term" = some (.ref (He.ga K "is_term"))
  g_is_spot : mg "is_spot" = some (.ref (He.ga K "is_spot"))
  g_need_term : mg "need_term" = some (.ref (He.ga K "need_term"))
  g_inner : mg "inner" = some (.ref (He.ga K "inner"))
  g_with_parts : mg "with_parts" = some (.ref (He.ga K "with_parts"))
  g_binds : mg "binds" = some (.ref (He.ga K "binds"))
  g_gone_to : mg "gone_to" = some (.ref (He.ga K "gone_to"))
  g_part_at : mg "part_at" = some (.ref (He.ga K "part_at"))
  g_put_at : mg "put_at" = some (.ref (He.ga K "put_at"))
  g_differ : mg "differ" = some (.ref (He.ga K "differ"))
  g_unlike_in : mg "unlike_in" = some (.ref (He.ga K "unlike_in"))
  g_unlike_spots : mg "unlike_spots" = some (.ref (He.ga K "unlike_spots"))
  g_is_row : mg "is_row" = some (.ref (He.ga K "is_row"))
  g_stand_apart : mg "stand_apart" = some (.ref (He.ga K "stand_apart"))
  g_changed_all : mg "changed_all" = some (.ref (He.ga K "changed_all"))
  g_law_cell : mg "_law_cell" = some (.ref (He.ga K "_law_cell"))
  g_law_box : mg "_law_box" = some (.ref (He.ga K "_law_box"))
  g_law_take : mg "_law_take" = some (.ref (He.ga K "_law_take"))
  g_law_shuffled : mg "_law_shuffled" = some (.ref (He.ga K "_law_shuffled"))
  g_law_same : mg "_law_same" = some (.ref (He.ga K "_law_same"))
  g_law_grow : mg "_law_grow" = some (.ref (He.ga K "_law_grow"))
  g_law_is_hole : mg "_law_is_hole" = some (.ref (He.ga K "_law_is_hole"))
  g_law_inner : mg "_law_inner" = some (.ref (He.ga K "_law_inner"))
  g_law_with : mg "_law_with" = some (.ref (He.ga K "_law_with"))
  g_law_leaf : mg "_law_leaf" = some (.ref (He.ga K "_law_leaf"))
  g_law_drawn : mg "_law_drawn" = some (.ref (He.ga K "_law_drawn"))
  g_law_spots : mg "_law_spots" = some (.ref (He.ga K "_law_spots"))
  g_law_put : mg "_law_put" = some (.ref (He.ga K "_law_put"))
  g_law_unlike : mg "_law_unlike" = some (.ref (He.ga K "_law_unlike"))
  g_law_apart : mg "_law_apart" = some (.ref (He.ga K "_law_apart"))
  g_law_pair : mg "_law_pair" = some (.ref (He.ga K "_law_pair"))
  g_law_pair_right : mg "_law_pair_right" = some (.ref (He.ga K "_law_pair_right"))
  g_law_asked : mg "_law_asked" = some (.ref (He.ga K "_law_asked"))
  g_law_refused : mg "_law_refused" = some (.ref (He.ga K "_law_refused"))
  g_law : mg "law" = some (.ref (He.ga K "law"))
  i_MOST_KIND : ∃ t, mg "MOST_KIND" = some (.int 5 t)
  z_SMALL : ∃ t, mg "SMALL" = some (.str "abcdefghijklmnopqrstuvwxyz" t)
  n_ValueError : mg "ValueError" = none
  n_abs : mg "abs" = none
  n_all : mg "all" = none
  n_any : mg "any" = none
  n_bool : mg "bool" = none
  n_dict : mg "dict" = none
  n_enumerate : mg "enumerate" = none
  n_int : mg "int" = none
  n_isinstance : mg "isinstance" = none
  n_len : mg "len" = none
  n_list : mg "list" = none
  n_max : mg "max" = none
  n_min : mg "min" = none
  n_range : mg "range" = none
  n_repr : mg "repr" = none
  n_str : mg "str" = none
  n_sum : mg "sum" = none
  n_tuple : mg "tuple" = none
  n_zip : mg "zip" = none
  d_is_whole : ∃ fd, FunD K "is_whole" "is_whole" (defArgs s_is_whole) (defBody s_is_whole) (defScope s_is_whole) [] [] (He.ga K "is_whole") fd
  d_is_number : ∃ fd, FunD K "is_number" "is_number" (defArgs s_is_number) (defBody s_is_number) (defScope s_is_number) [] [] (He.ga K "is_number") fd
  d_is_name : ∃ fd, FunD K "is_name" "is_name" (defArgs s_is_name) (defBody s_is_name) (defScope s_is_name) [] [] (He.ga K "is_name") fd
  d_has_form : ∃ fd, FunD K "has_form" "has_form" (defArgs s_has_form) (defBody s_has_form) (defScope s_has_form) [] [] (He.ga K "has_form") fd
  d_is_term : ∃ fd, FunD K "is_term" "is_term" (defArgs s_is_term) (defBody s_is_term) (defScope s_is_term) [] [] (He.ga K "is_term") fd
  d_is_spot : ∃ fd, FunD K "is_spot" "is_spot" (defArgs s_is_spot) (defBody s_is_spot) (defScope s_is_spot) [] [] (He.ga K "is_spot") fd
  d_need_term : ∃ fd, FunD K "need_term" "need_term" (defArgs s_need_term) (defBody s_need_term) (defScope s_need_term) [] [] (He.ga K "need_term") fd
  d_inner : ∃ fd, FunD K "inner" "inner" (defArgs s_inner) (defBody s_inner) (defScope s_inner) [] [] (He.ga K "inner") fd
  d_with_parts : ∃ fd, FunD K "with_parts" "with_parts" (defArgs s_with_parts) (defBody s_with_parts) (defScope s_with_parts) [] [] (He.ga K "with_parts") fd
  d_binds : ∃ fd, FunD K "binds" "binds" (defArgs s_binds) (defBody s_binds) (defScope s_binds) [] [] (He.ga K "binds") fd
  d_gone_to : ∃ fd, FunD K "gone_to" "gone_to" (defArgs s_gone_to) (defBody s_gone_to) (defScope s_gone_to) [] [] (He.ga K "gone_to") fd
  d_part_at : ∃ fd, FunD K "part_at" "part_at" (defArgs s_part_at) (defBody s_part_at) (defScope s_part_at) [] [] (He.ga K "part_at") fd
  d_put_at : ∃ fd, FunD K "put_at" "put_at" (defArgs s_put_at) (defBody s_put_at) (defScope s_put_at) [] [] (He.ga K "put_at") fd
  d_differ : ∃ fd, FunD K "differ" "differ" (defArgs s_differ) (defBody s_differ) (defScope s_differ) [] [] (He.ga K "differ") fd
  d_unlike_in : ∃ fd, FunD K "unlike_in" "unlike_in" (defArgs s_unlike_in) (defBody s_unlike_in) (defScope s_unlike_in) [] [] (He.ga K "unlike_in") fd
  d_unlike_spots : ∃ fd, FunD K "unlike_spots" "unlike_spots" (defArgs s_unlike_spots) (defBody s_unlike_spots) (defScope s_unlike_spots) [] [] (He.ga K "unlike_spots") fd
  d_is_row : ∃ fd, FunD K "is_row" "is_row" (defArgs s_is_row) (defBody s_is_row) (defScope s_is_row) [] [] (He.ga K "is_row") fd
  d_stand_apart : ∃ fd, FunD K "stand_apart" "stand_apart" (defArgs s_stand_apart) (defBody s_stand_apart) (defScope s_stand_apart) [] [] (He.ga K "stand_apart") fd
  d_changed_all : ∃ fd, FunD K "changed_all" "changed_all" (defArgs s_changed_all) (defBody s_changed_all) (defScope s_changed_all) [] [] (He.ga K "changed_all") fd
  d_law_cell : ∃ fd, FunD K "_law_cell" "_law_cell" (defArgs s_law_cell) (defBody s_law_cell) (defScope s_law_cell) [] [] (He.ga K "_law_cell") fd
  d_law_box : ∃ fd, FunD K "_law_box" "_law_box" (defArgs s_law_box) (defBody s_law_box) (defScope s_law_box) [] [] (He.ga K "_law_box") fd
  d_law_take : ∃ fd, FunD K "_law_take" "_law_take" (defArgs s_law_take) (defBody s_law_take) (defScope s_law_take) [] [] (He.ga K "_law_take") fd
  d_law_shuffled : ∃ fd, FunD K "_law_shuffled" "_law_shuffled" (defArgs s_law_shuffled) (defBody s_law_shuffled) (defScope s_law_shuffled) [] [] (He.ga K "_law_shuffled") fd
  d_law_same : ∃ fd, FunD K "_law_same" "_law_same" (defArgs s_law_same) (defBody s_law_same) (defScope s_law_same) [] [] (He.ga K "_law_same") fd
  d_law_grow : ∃ fd, FunD K "_law_grow" "_law_grow" (defArgs s_law_grow) (defBody s_law_grow) (defScope s_law_grow) [] [] (He.ga K "_law_grow") fd
  d_law_is_hole : ∃ fd, FunD K "_law_is_hole" "_law_is_hole" (defArgs s_law_is_hole) (defBody s_law_is_hole) (defScope s_law_is_hole) [] [] (He.ga K "_law_is_hole") fd
  d_law_inner : ∃ fd, FunD K "_law_inner" "_law_inner" (defArgs s_law_inner) (defBody s_law_inner) (defScope s_law_inner) [] [] (He.ga K "_law_inner") fd
  d_law_with : ∃ fd, FunD K "_law_with" "_law_with" (defArgs s_law_with) (defBody s_law_with) (defScope s_law_with) [] [] (He.ga K "_law_with") fd
  d_law_leaf : ∃ fd, FunD K "_law_leaf" "_law_leaf" (defArgs s_law_leaf) (defBody s_law_leaf) (defScope s_law_leaf) [] [] (He.ga K "_law_leaf") fd
  d_law_drawn : ∃ fd, FunD K "_law_drawn" "_law_drawn" (defArgs s_law_drawn) (defBody s_law_drawn) (defScope s_law_drawn) [] [] (He.ga K "_law_drawn") fd
  d_law_spots : ∃ fd, FunD K "_law_spots" "_law_spots" (defArgs s_law_spots) (defBody s_law_spots) (defScope s_law_spots) [] [] (He.ga K "_law_spots") fd
  d_law_put : ∃ fd, FunD K "_law_put" "_law_put" (defArgs s_law_put) (defBody s_law_put) (defScope s_law_put) [] [] (He.ga K "_law_put") fd
  d_law_unlike : ∃ fd, FunD K "_law_unlike" "_law_unlike" (defArgs s_law_unlike) (defBody s_law_unlike) (defScope s_law_unlike) [] [] (He.ga K "_law_unlike") fd
  d_law_apart : ∃ fd, FunD K "_law_apart" "_law_apart" (defArgs s_law_apart) (defBody s_law_apart) (defScope s_law_apart) [] [] (He.ga K "_law_apart") fd
  d_law_pair : ∃ fd, FunD K "_law_pair" "_law_pair" (defArgs s_law_pair) (defBody s_law_pair) (defScope s_law_pair) [] [] (He.ga K "_law_pair") fd
  d_law_pair_right : ∃ fd, FunD K "_law_pair_right" "_law_pair_right" (defArgs s_law_pair_right) (defBody s_law_pair_right) (defScope s_law_pair_right) [] [] (He.ga K "_law_pair_right") fd
  d_law_asked : ∃ fd, FunD K "_law_asked" "_law_asked" (defArgs s_law_asked) (defBody s_law_asked) (defScope s_law_asked) [] [] (He.ga K "_law_asked") fd
  d_law_refused : ∃ fd, FunD K "_law_refused" "_law_refused" (defArgs s_law_refused) (defBody s_law_refused) (defScope s_law_refused) [] [] (He.ga K "_law_refused") fd
  d_law : ∃ fd, FunD K "law" "law" (defArgs s_law) (defBody s_law) (defScope s_law) [] [] (He.ga K "law") fd
  d_NoTerm_init : ∃ fd, FunD K "__init__" "NoTerm.__init__" (defArgs m_NoTerm_init) (defBody m_NoTerm_init) (defScope m_NoTerm_init) [] [] (He.ma K (He.ga K "NoTerm") "__init__") fd
  d_NoSpot_init : ∃ fd, FunD K "__init__" "NoSpot.__init__" (defArgs m_NoSpot_init) (defBody m_NoSpot_init) (defScope m_NoSpot_init) [] [] (He.ma K (He.ga K "NoSpot") "__init__") fd
  d_NoList_init : ∃ fd, FunD K "__init__" "NoList.__init__" (defArgs m_NoList_init) (defBody m_NoList_init) (defScope m_NoList_init) [] [] (He.ma K (He.ga K "NoList") "__init__") fd
  t_FORMS : ∃ es n, KDict K w (He.ga K "FORMS") es n
  ex : ex K = true
theorem tx_of {w : World} {K : PySem.W.Frag} {h h2 : Heap} {mg : Str → Option Value} (X : K.In h) (G : h.Ns mainGlobals mg) (c : He.SaysX fa fn ts [] ex w h2 K) : Tx w K mg :=
  ⟨He.glo_ok X G (c.t.d.fact 0 (f := .glo "PaperError") rfl),
   He.glo_ok X G (c.t.d.fact 1 (f := .glo "NoTerm") rfl),
   He.glo_ok X G (c.t.d.fact 2 (f := .glo "NoSpot") rfl),
   He.glo_ok X G (c.t.d.fact 3 (f := .glo "NoList") rfl),
   He.glo_ok X G (c.t.d.fact 4 (f := .glo "KEPT") rfl),
   He.glo_ok X G (c.t.d.fact 5 (f := .glo "FORMS") rfl),
   He.glo_ok X G (c.t.d.fact 6 (f := .glo "BINDERS") rfl),
   He.glo_ok X G (c.t.d.fact 7 (f := .glo "is_whole") rfl),
   He.glo_ok X G (c.t.d.fact 8 (f := .glo "is_number") rfl),
   He.glo_ok X G (c.t.d.fact 9 (f := .glo "is_name") rfl),
   He.glo_ok X G (c.t.d.fact 10 (f := .glo "has_form") rfl),
   He.glo_ok X G (c.t.d.fact 11 (f := .glo "is_term") rfl),
   He.glo_ok X G (c.t.d.fact 12 (f := .glo "is_spot") rfl),
   He.glo_ok X G (c.t.d.fact 13 (f := .glo "need_term") rfl),
   He.glo_ok X G (c.t.d.fact 14 (f := .glo "inner") rfl),
   He.glo_ok X G (c.t.d.fact 15 (f := .glo "with_parts") rfl),
   He.glo_ok X G (c.t.d.fact 16 (f := .glo "binds") rfl),
   He.glo_ok X G (c.t.d.fact 17 (f := .glo "gone_to") rfl),
   He.glo_ok X G (c.t.d.fact 18 (f := .glo "part_at") rfl),
   He.glo_ok X G (c.t.d.fact 19 (f := .glo "put_at") rfl),
   He.glo_ok X G (c.t.d.fact 20 (f := .glo "differ") rfl),
   He.glo_ok X G (c.t.d.fact 21 (f := .glo "unlike_in") rfl),
   He.glo_ok X G (c.t.d.fact 22 (f := .glo "unlike_spots") rfl),
   He.glo_ok X G (c.t.d.fact 23 (f := .glo "is_row") rfl),
   He.glo_ok X G (c.t.d.fact 24 (f := .glo "stand_apart") rfl),
   He.glo_ok X G (c.t.d.fact 25 (f := .glo "changed_all") rfl),
   He.glo_ok X G (c.t.d.fact 26 (f := .glo "_law_cell") rfl),
   He.glo_ok X G (c.t.d.fact 27 (f := .glo "_law_box") rfl),
   He.glo_ok X G (c.t.d.fact 28 (f := .glo "_law_take") rfl),
   He.glo_ok X G (c.t.d.fact 29 (f := .glo "_law_shuffled") rfl),
   He.glo_ok X G (c.t.d.fact 30 (f := .glo "_law_same") rfl),
   He.glo_ok X G (c.t.d.fact 31 (f := .glo "_law_grow") rfl),
   He.glo_ok X G (c.t.d.fact 32 (f := .glo "_law_is_hole") rfl),
   He.glo_ok X G (c.t.d.fact 33 (f := .glo "_law_inner") rfl),
   He.glo_ok X G (c.t.d.fact 34 (f := .glo "_law_with") rfl),
   He.glo_ok X G (c.t.d.fact 35 (f := .glo "_law_leaf") rfl),
   He.glo_ok X G (c.t.d.fact 36 (f := .glo "_law_drawn") rfl),
   He.glo_ok X G (c.t.d.fact 37 (f := .glo "_law_spots") rfl),
   He.glo_ok X G (c.t.d.fact 38 (f := .glo "_law_put") rfl),
   He.glo_ok X G (c.t.d.fact 39 (f := .glo "_law_unlike") rfl),
   He.glo_ok X G (c.t.d.fact 40 (f := .glo "_law_apart") rfl),
   He.glo_ok X G (c.t.d.fact 41 (f := .glo "_law_pair") rfl),
   He.glo_ok X G (c.t.d.fact 42 (f := .glo "_law_pair_right") rfl),
   He.glo_ok X G (c.t.d.fact 43 (f := .glo "_law_asked") rfl),
   He.glo_ok X G (c.t.d.fact 44 (f := .glo "_law_refused") rfl),
   He.glo_ok X G (c.t.d.fact 45 (f := .glo "law") rfl),
   He.int_ok X G (c.t.d.fact 46 (f := .int "MOST_KIND" 5) rfl),
   He.str_ok X G (c.t.d.fact 47 (f := .str "SMALL" "abcdefghijklmnopqrstuvwxyz") rfl),
   He.free_ok X G (c.t.d.fact 48 (f := .free "ValueError") rfl),
   He.free_ok X G (c.t.d.fact 49 (f := .free "abs") rfl),
   He.free_ok X G (c.t.d.fact 50 (f := .free "all") rfl),
   He.free_ok X G (c.t.d.fact 51 (f := .free "any") rfl),
   He.free_ok X G (c.t.d.fact 52 (f := .free "bool") rfl),
   He.free_ok X G (c.t.d.fact 53 (f := .free "dict") rfl),
   He.free_ok X G (c.t.d.fact 54 (f := .free "enumerate") rfl),
   He.free_ok X G (c.t.d.fact 55 (f := .free "int") rfl),
   He.free_ok X G (c.t.d.fact 56 (f := .free "isinstance") rfl),
   He.free_ok X G (c.t.d.fact 57 (f := .free "len") rfl),
   He.free_ok X G (c.t.d.fact 58 (f := .free "list") rfl),
   He.free_ok X G (c.t.d.fact 59 (f := .free "max") rfl),
   He.free_ok X G (c.t.d.fact 60 (f := .free "min") rfl),
   He.free_ok X G (c.t.d.fact 61 (f := .free "range") rfl),
   He.free_ok X G (c.t.d.fact 62 (f := .free "repr") rfl),
   He.free_ok X G (c.t.d.fact 63 (f := .free "str") rfl),
   He.free_ok X G (c.t.d.fact 64 (f := .free "sum") rfl),
   He.free_ok X G (c.t.d.fact 65 (f := .free "tuple") rfl),
   He.free_ok X G (c.t.d.fact 66 (f := .free "zip") rfl),
   c.t.d.def_ 0 rfl,
   c.t.d.def_ 1 rfl,
   c.t.d.def_ 2 rfl,
   c.t.d.def_ 3 rfl,
   c.t.d.def_ 4 rfl,
   c.t.d.def_ 5 rfl,
   c.t.d.def_ 6 rfl,
   c.t.d.def_ 7 rfl,
   c.t.d.def_ 8 rfl,
   c.t.d.def_ 9 rfl,
   c.t.d.def_ 10 rfl,
   c.t.d.def_ 11 rfl,
   c.t.d.def_ 12 rfl,
   c.t.d.def_ 13 rfl,
   c.t.d.def_ 14 rfl,
   c.t.d.def_ 15 rfl,
   c.t.d.def_ 16 rfl,
   c.t.d.def_ 17 rfl,
   c.t.d.def_ 18 rfl,
   c.t.d.def_ 19 rfl,
   c.t.d.def_ 20 rfl,
   c.t.d.def_ 21 rfl,
   c.t.d.def_ 22 rfl,
   c.t.d.def_ 23 rfl,
   c.t.d.def_ 24 rfl,
   c.t.d.def_ 25 rfl,
   c.t.d.def_ 26 rfl,
   c.t.d.def_ 27 rfl,
   c.t.d.def_ 28 rfl,
   c.t.d.def_ 29 rfl,
   c.t.d.def_ 30 rfl,
   c.t.d.def_ 31 rfl,
   c.t.d.def_ 32 rfl,
   c.t.d.def_ 33 rfl,
   c.t.d.def_ 34 rfl,
   c.t.d.def_ 35 rfl,
   c.t.d.def_ 36 rfl,
   c.t.d.def_ 37 rfl,
   c.t.d.def_ 38 rfl,
   c.t.d.def_ 39 rfl,
   c.t.d.def_ 40 rfl,
   c.t.d.def_ 41 rfl,
   c.t.tab 0 rfl,
   c.more⟩
end K89
namespace K89
open PySem PySem.Spec PyProof.Rows L2
/-! ### heaps -/
section
variable {K : PySem.W.Frag} {H H' H0 H1 H2 : Hp} {a b p : Addr} {xs : List V} {o : HO} {v : V} {d : PyData}
theorem same_tup (e : Same H H') (h : SqT K H a xs) : SqT K H' a xs := by
  rcases h with (h | ⟨o, h⟩) | h
  · exact .inl (.inl (e _ _ h))
  · exact .inl (.inr ⟨o, e _ _ h⟩)
  · exact .inr h
theorem same_new (h : H p = none) (o : HO) : Same H (upd H p o) := fun b u q => by rw [upd_ne (ne_of_none q h)]; exact q
/-- an object that is new since H0 is written -/
theorem same_own (e : Same H0 H) (n : H0 p = none) (o : HO) : Same H0 (upd H p o) := fun b u q => by rw [upd_ne (ne_of_none q n)]; exact e b u q
mutual
theorem dp_same (e : Same H H') : ∀ {v : V} {d : PyData}, Dp K H v d → Dp K H' v d
  | _, _, .non => .non
  | _, _, .bl b => .bl b
  | _, _, .int i => .int i
  | _, _, .str x => .str x
  | _, _, .lst h r => .lst (e.seq h) (dps_same e r)
  | _, _, .tup h r => .tup (same_tup e h) (dps_same e r)
theorem dps_same (e : Same H H') : ∀ {vs : List V} {ds : List PyData}, DpAll K H vs ds → DpAll K H' vs ds
  | _, _, .nil => .nil
  | _, _, .cons h r => .cons (dp_same e h) (dps_same e r)
end
/-- all but what stands at b is as it was -/
def Mo (b : Addr) (H H' : Hp) : Prop := ∀ a o, a ≠ b → H a = some o → H' a = some o
theorem Mo.refl : Mo b H H := fun _ _ _ q => q
theorem Mo.trans (e : Mo b H H1) (f : Mo b H1 H2) : Mo b H H2 := fun a o n q => f a o n (e a o n q)
theorem Mo.of (e : Same H H') : Mo b H H' := fun a o _ q => e a o q
theorem Mo.upd : Mo b H (upd H b o) := fun a u n q => by rw [upd_ne n]; exact q
theorem Mo.own (e : Mo b H0 H) (n : H0 p = none) (o : HO) : Mo b H0 (L2.upd H p o) := fun a u h q => by rw [upd_ne (ne_of_none q n)]; exact e a u h q
/-- what says that tuples stay -/
def TK (K : PySem.W.Frag) (H H' : Hp) : Prop := ∀ a xs, SqT K H a xs → SqT K H' a xs
theorem TK.of (e : Same H H') : TK K H H' := fun _ _ h => same_tup e h
theorem TK.trans (e : TK K H H1) (f : TK K H1 H2) : TK K H H2 := fun a xs h => f a xs (e a xs h)
theorem Mo.tk {ys : List V} (e : Mo b H H') (h : H b = some (.lst ys)) : TK K H H' := fun a xs q => by
  rcases q with (q | ⟨o, q⟩) | q
  · exact .inl (.inl (e _ _ (ne_of q h (by intro z; cases z)) q))
  · exact .inl (.inr ⟨o, e _ _ (ne_of q h (by intro z; cases z)) q⟩)
  · exact .inr q
mutual
/-- no list and no dict in it -/
def flatT : PyData → Bool
  | .list _ => false
  | .dict _ => false
  | .tuple ds => flatTs ds
  | _ => true
def flatTs : List PyData → Bool
  | [] => true
  | d :: ds => flatT d && flatTs ds
end
mutual
theorem dp_tk (e : TK K H H') : ∀ {v : V} {d : PyData}, flatT d = true → Dp K H v d → Dp K H' v d
  | _, _, _, .non => .non
  | _, _, _, .bl b => .bl b
  | _, _, _, .int i => .int i
  | _, _, _, .str x => .str x
  | _, _, f, .lst h r => by simp [flatT] at f
  | _, _, f, .tup h r => .tup (e _ _ h) (dps_tk e (by simpa [flatT] using f) r)
theorem dps_tk (e : TK K H H') : ∀ {vs : List V} {ds : List PyData}, flatTs ds = true → DpAll K H vs ds → DpAll K H' vs ds
  | _, _, _, .nil => .nil
  | _, _, f, .cons h r => by
    have f' := f
    simp only [flatTs, Bool.and_eq_true] at f'
    exact .cons (dp_tk e f'.1 h) (dps_tk e f'.2 r)
end
/-! ### data -/
theorem dpA_len : ∀ {vs : List V} {ds : List PyData}, DpAll K H vs ds → vs.length = ds.length
  | _, _, .nil => rfl
  | _, _, .cons _ r => congrArg Nat.succ (dpA_len r)
theorem dpA_get : ∀ {vs : List V} {ds : List PyData} {i : Nat} {v : V}, DpAll K H vs ds → vs[i]? = some v → ∃ d, ds[i]? = some d ∧ Dp K H v d
  | _, _, _, _, .nil, e => by simp at e
  | _, _, 0, _, .cons h _, e => by simp at e; subst e; exact ⟨_, rfl, h⟩
  | _, _, i + 1, v, .cons _ r, e => by
    obtain ⟨d, h1, h2⟩ := dpA_get (i := i) r (by simpa using e)
    exact ⟨d, by simpa using h1, h2⟩
theorem dpA_of : ∀ {vs : List V} {ds : List PyData}, vs.length = ds.length → (∀ (i : Nat) v d, vs[i]? = some v → ds[i]? = some d → Dp K H v d) → DpAll K H vs ds
  | [], [], _, _ => .nil
  | [], _ :: _, h, _ => by cases h
  | _ :: _, [], h, _ => by cases h
  | v :: vs, d :: ds, h, f => .cons (f 0 v d rfl rfl) (dpA_of (Nat.succ.inj h) fun i v' d' h1 h2 => f (i + 1) v' d' (by simpa using h1) (by simpa using h2))
theorem dpA_app : ∀ {vs vs' : List V} {ds ds' : List PyData}, DpAll K H vs ds → DpAll K H vs' ds' → DpAll K H (vs ++ vs') (ds ++ ds')
  | _, _, _, _, .nil, r => r
  | _, _, _, _, .cons h t, r => .cons h (dpA_app t r)
theorem dpA_map {α : Type} {f : α → V} {g : α → PyData} (h : ∀ x, Dp K H (f x) (g x)) : ∀ l : List α, DpAll K H (l.map f) (l.map g)
  | [] => .nil
  | x :: r => .cons (h x) (dpA_map h r)
end
/-! ### terms and spots as data -/
def Nm.str : Nm → Str
  | .a => "a"
  | .b => "b"
  | .num => "num"
def B2.str : B2 → Str
  | .all => "all"
  | .fn => "fun"
  | .app => "app"
  | .slf => "self"
def B3.str : B3 → Str
  | .same => "same"
  | .put => "put"
def Lf.word : Lf → Str
  | .at _ => "at"
  | .kind _ => "kind"
  | .name _ => "name"
  | .thing _ => "thing"
  | .maker _ _ => "maker"
  | .eater _ _ => "eater"
def Lf.rest : Lf → List PyData
  | .at k => [.int k]
  | .kind h => [.int h.val]
  | .name n => [.str n.str]
  | .thing n => [.str n.str]
  | .maker n k => [.str n.str, .int k]
  | .eater n h => [.str n.str, .int h.val]
def Tm.word : Tm → Str
  | .lf l => l.word
  | .n2 w _ _ => w.str
  | .n3 w _ _ _ => w.str
def Tm.data : Tm → PyData
  | .lf l => .tuple (.str l.word :: l.rest)
  | .n2 w x y => .tuple [.str w.str, x.data, y.data]
  | .n3 w x y z => .tuple [.str w.str, x.data, y.data, z.data]
def Tm.rest : Tm → List PyData
  | .lf l => l.rest
  | .n2 _ x y => [x.data, y.data]
  | .n3 _ x y z => [x.data, y.data, z.data]
theorem Tm.data_eq (t : Tm) : t.data = .tuple (.str t.word :: t.rest) := by cases t <;> rfl
def spD (s : Spot) : PyData := .tuple (s.map fun n : Nat => PyData.int (n : Int))
theorem flat_rest (l : Lf) : flatTs l.rest = true := by cases l <;> simp [Lf.rest, flatTs, flatT]
theorem flat_tm : ∀ t : Tm, flatT t.data = true
  | .lf l => by simp [Tm.data, flatT, flatTs, flat_rest]
  | .n2 w x y => by simp [Tm.data, flatT, flatTs, flat_tm x, flat_tm y]
  | .n3 w x y z => by simp [Tm.data, flatT, flatTs, flat_tm x, flat_tm y, flat_tm z]
theorem flat_ints : ∀ s : List Nat, flatTs (s.map fun n : Nat => PyData.int (n : Int)) = true
  | [] => rfl
  | n :: r => by simp [flatTs, flatT, flat_ints r]
theorem flat_sp (s : Spot) : flatT (spD s) = true := by simp [spD, flatT, flat_ints]
/-- v is the term t -/
abbrev TmR (K : PySem.W.Frag) (H : Hp) (v : V) (t : Tm) : Prop := Dp K H v t.data
abbrev SpR (K : PySem.W.Frag) (H : Hp) (v : V) (s : Spot) : Prop := Dp K H v (spD s)
section
variable {K : PySem.W.Frag} {H H' : Hp} {v : V} {t : Tm} {s : Spot}
theorem tm_tup (h : TmR K H v t) : ∃ a ps, v = .ref a ∧ SqT K H a (.str t.word :: ps) ∧ DpAll K H ps t.rest := by
  unfold TmR at h
  rw [Tm.data_eq] at h
  cases h with
  | @tup a xs ds hs ha =>
    cases ha with
    | cons h1 h2 =>
      cases h1
      exact ⟨a, _, rfl, hs, h2⟩
theorem tm_of {a : Addr} {ps : List V} (h : SqT K H a (.str t.word :: ps)) (r : DpAll K H ps t.rest) : TmR K H (.ref a) t := by
  unfold TmR
  rw [Tm.data_eq]
  exact .tup h (.cons (.str _) r)
theorem ints_eq : ∀ {vs : List V} {s : List Nat}, DpAll K H vs (s.map fun n : Nat => PyData.int (n : Int)) → vs = s.map fun n : Nat => V.int (n : Int)
  | _, [], h => by cases h; rfl
  | _, n :: r, h => by
    cases h with
    | cons h1 h2 =>
      cases h1
      rw [ints_eq h2]
      rfl
theorem sp_tup (h : SpR K H v s) : ∃ a, v = .ref a ∧ SqT K H a (s.map fun n : Nat => V.int (n : Int)) := by
  cases h with
  | @tup a xs ds hs ha =>
    rw [ints_eq ha] at hs
    exact ⟨a, rfl, hs⟩
theorem sp_of {a : Addr} (h : SqT K H a (s.map fun n : Nat => V.int (n : Int))) : SpR K H (.ref a) s := .tup h (dpA_map (fun n => .int _) s)
end
/-! ### types of values -/
def isB (n c : String) : Bool := n == c || (n == "bool" && c == "int")
def tyNames : List String := ["NoneType", "bool", "int", "str", "list", "tuple", "dict"]
def clNames : List String := ["bool", "int", "str", "list", "tuple", "dict"]
theorem kit_all : ∀ n ∈ tyNames, ∀ c ∈ clNames, kitB n c = some (isB n c) := by decide +kernel
/-- v is of the built-in type n -/
def Ty (K : PySem.W.Frag) (H : Hp) (v : V) (n : String) : Prop := TyX K H v (.type n) ∧ n ∈ tyNames
def tyD : PyData → String
  | .none => "NoneType"
  | .bool _ => "bool"
  | .int _ => "int"
  | .str _ => "str"
  | .list _ => "list"
  | .tuple _ => "tuple"
  | .dict _ => "dict"
section
variable {K : PySem.W.Frag} {H H' : Hp} {v : V} {d : PyData} {a : Addr} {xs : List V}
theorem ty_tup (h : SqT K H a xs) : Ty K H (.ref a) "tuple" := by
  refine ⟨?_, by decide⟩
  rcases h with (h | ⟨o, h⟩) | ⟨o, _, _, h, c, _⟩
  · exact .base (.tup h)
  · exact .fTuple h
  · exact .kTuple h c
theorem ty_lst (h : SqL K H a xs) : Ty K H (.ref a) "list" := by
  refine ⟨?_, by decide⟩
  rcases h with (h | ⟨o, h⟩) | ⟨o, _, _, h, c, _⟩
  · exact .base (.lst h)
  · exact .base (.frz h)
  · exact .kList h c
theorem ty_dK {kvs : List (Key × V)} (h : Rd H a (.dK kvs)) : Ty K H (.ref a) "dict" := by
  refine ⟨?_, by decide⟩
  rcases h with h | ⟨o, h⟩
  · exact .base (.dK h)
  · exact .fDict h
theorem ty_dp (h : Dp K H v d) : Ty K H v (tyD d) := by
  cases h with
  | non => exact ⟨.base .non, by decide⟩
  | bl b => exact ⟨.base (.bl b), by simp [tyD, tyNames]⟩
  | int i => exact ⟨.base (.int i), by simp [tyD, tyNames]⟩
  | str x => exact ⟨.base (.str x), by simp [tyD, tyNames]⟩
  | lst h _ => exact ty_lst h
  | tup h _ => exact ty_tup h
end
/-- isinstance(v, c), isinstance(v, (c, c')) -/
def rIs (K : PySem.W.Frag) : List V → Hp → VK → Prop := fun vs H Q => ∃ (v : V) (c n : String), vs = [v, .ty c] ∧ c ∈ clNames ∧ Ty K H v n ∧ Q (.bl (isB n c)) H
def rIs2 (K : PySem.W.Frag) : List V → Hp → VK → Prop := fun vs H Q => ∃ (v : V) (tp : Addr) (c c' n : String), vs = [v, .ref tp] ∧ H tp = some (.tup [.ty c, .ty c']) ∧ c ∈ clNames ∧ c' ∈ clNames ∧ Ty K H v n ∧ Q (.bl (isB n c || isB n c')) H
section
variable {X : Cx}
theorem call_is : CallR X (.builtin "isinstance") (rIs X.K) := by
  intro pins s σ H vs us Q I r h
  obtain ⟨v, c, n, rfl, hc, ⟨ty, hn⟩, q⟩ := h
  exact call_isi pins s σ H _ us Q I r ⟨v, .ty c, .type n, .type c, isB n c, rfl, .ty c, ty, kit_ty (kit_all n hn c hc), q⟩
theorem call_is2 : CallR X (.builtin "isinstance") (rIs2 X.K) := by
  intro pins s σ H vs us Q I r h
  obtain ⟨v, tp, c, c', n, rfl, ht, hc, hc', ⟨ty, hn⟩, q⟩ := h
  refine call_isiT pins s σ H _ us Q I r ⟨v, tp, [.ty c, .ty c'], .type n, [.type c, .type c'], isB n c || isB n c', rfl, ht, .cons (.ty c) (.cons (.ty c') .nil), ty, ?_, q⟩
  refine kitAny_cons (kit_ty (kit_all n hn c hc)) (fun e => ?_) (fun e => by rw [e]; rfl)
  refine kitAny_cons (kit_ty (kit_all n hn c' hc')) (fun e' => ?_) (fun e' => by rw [e']; simp)
  rw [e, e', kitAny_nil]
  rfl
end
end K89
namespace K89
open PySem PySem.Spec PyProof.Rows L2
/-! ### expressions in short -/
section
variable {X : Cx} {e e2 e3 : Expr} {te te2 te3 : TE} {p p2 p3 pos : Pos} {x : Str} {c : String}
theorem b_isinstance : bootBuiltins "isinstance" = some (.builtin "isinstance") := by decide +kernel
theorem b_int : bootBuiltins "int" = some (.type "int") := by decide +kernel
theorem b_bool : bootBuiltins "bool" = some (.type "bool") := by decide +kernel
theorem b_str : bootBuiltins "str" = some (.type "str") := by decide +kernel
theorem b_list : bootBuiltins "list" = some (.type "list") := by decide +kernel
theorem b_tuple : bootBuiltins "tuple" = some (.type "tuple") := by decide +kernel
theorem b_dict : bootBuiltins "dict" = some (.type "dict") := by decide +kernel
theorem b_all : bootBuiltins "all" = some (.builtin "all") := by decide +kernel
theorem b_any : bootBuiltins "any" = some (.builtin "any") := by decide +kernel
theorem b_abs : bootBuiltins "abs" = some (.builtin "abs") := by decide +kernel
theorem b_sum : bootBuiltins "sum" = some (.builtin "sum") := by decide +kernel
theorem b_max : bootBuiltins "max" = some (.builtin "max") := by decide +kernel
theorem b_min : bootBuiltins "min" = some (.builtin "min") := by decide +kernel
/-- isinstance(e, C) -/
theorem xIs (ni : X.mg "isinstance" = none) (nc : X.mg x = none) (hv : bootBuiltins x = some (.type c)) (he : PE X e te) (gi : Gl X "isinstance" := by rfl) (gc : Gl X x := by rfl) (h1 : x ≠ "__name__" := by decide) (h2 : (x == ("__debug__" : Str)) = false := by decide)
    (hs : starEach [e, .Name x p2] X.env = (false, eval e X.env) :: starEach [.Name x p2] X.env := by rfl) (hs2 : starEach [.Name x p2] X.env = (false, eval (.Name x p2) X.env) :: starEach [] X.env := by rfl)
    (hpl : (backTo pos (starEach [.Name x p2] X.env)).any (·.1) = false := by rfl) :
    PE X (.Call (.Name "isinstance" p) [e, .Name x p2] [] pos) (tCB (rIs X.K) (tCons te (tCons (tC (.ty c)) tNil))) :=
  pe_callB call_is gi ni b_isinstance (pa_cons he (pa_cons (pe_bltn gc nc hv rfl h1 h2) pa_nil hs2) hs) (by decide) (by decide) hs hpl
end
section
variable {P : Program} {w : World} {K : PySem.W.Frag} {mg : Str → Option Value} {base : Heap}
/-! ### is_whole, is_number -/
/-- whether a value is a whole number from lo on (and up to hi) -/
def NumQ (K : PySem.W.Frag) (H : Hp) (v : V) (p : Int → Bool) (b : Bool) : Prop := (∃ i, v = .int i ∧ b = p i) ∨ ∃ n, Ty K H v n ∧ n ≠ "int" ∧ b = false
def spNumber (K : PySem.W.Frag) : Sp := fun vs H Q _ => ∃ v b, vs = [v] ∧ NumQ K H v (fun i => decide (0 ≤ i)) b ∧ Q (.bl b) H
theorem sc_is_number : FnScope ["thing"] ["thing"] (defScope s_is_number) := ⟨rfl, rfl, rfl, by decide +kernel, rfl, by decide +kernel, by decide +kernel⟩
theorem isB_int {n : String} (hn : n ∈ tyNames) (h : n ≠ "int") (hb : n ≠ "bool") : isB n "int" = false := by
  simp [isB, h, hb]
theorem ty_int (K : PySem.W.Frag) (H : Hp) (i : Int) : Ty K H (.int i) "int" := ⟨.base (.int i), by decide⟩
theorem ty_str (K : PySem.W.Frag) (H : Hp) (x : Str) : Ty K H (.str x) "str" := ⟨.base (.str x), by decide⟩
theorem ty_bl (K : PySem.W.Frag) (H : Hp) (x : Bool) : Ty K H (.bl x) "bool" := ⟨.base (.bl x), by decide⟩
theorem ty_non (K : PySem.W.Frag) (H : Hp) : Ty K H .non "NoneType" := ⟨.base .non, by decide⟩
theorem ok_is_number (T : Tx w K mg) : ∃ fd, FnOk P w K mg base CX0 1 (He.ga K "is_number") fd ["thing"] (spNumber K) ∧ FunD K "is_number" "is_number" (defArgs s_is_number) (defBody s_is_number) (defScope s_is_number) [] [] (He.ga K "is_number") fd := by
  obtain ⟨fd, F⟩ := T.d_is_number
  refine ⟨fd, F.ok sc_is_number (fun vs H Q E h => ?_) (fun cdv A outer s H vs Q E hr h => ⟨_, PSs.nox (pss_one (ps_ret (pe_and (xIs T.n_isinstance T.n_int b_int (pv 0)) (pe_and (pe_not (xIs T.n_isinstance T.n_bool b_bool (pv 0))) (pe_one (pe_cmpR op_ge (pv 0) pe_int (nomark _))))))), ?_⟩), F⟩
  · obtain ⟨v, b, rfl, _⟩ := h
    rfl
  · obtain ⟨v, b, rfl, hq, q⟩ := h
    rcases hq with ⟨i, rfl, rfl⟩ | ⟨n, ty, hn, rfl⟩
    · refine ⟨_, rfl, _, "int", "int", rfl, by decide, ty_int K H i, true, rfl, ?_⟩
      refine iteT ⟨_, rfl, _, "bool", "int", rfl, by decide, ty_int K H i, false, rfl, true, rfl, ?_⟩
      exact iteT ⟨_, rfl, _, _, rfl, rfl, q⟩
    · by_cases hb : n = "bool"
      · subst hb
        refine ⟨_, rfl, _, "int", "bool", rfl, by decide, ty, true, rfl, ?_⟩
        refine iteT ⟨_, rfl, _, "bool", "bool", rfl, by decide, ty, true, rfl, false, rfl, ?_⟩
        exact iteF q
      · refine ⟨_, rfl, _, "int", n, rfl, by decide, ty, false, by rw [isB_int ty.2 hn hb], ?_⟩
        exact iteF q
end
end K89
namespace K89
open PySem PySem.Spec PyProof.Rows L2
/-! ### f(k = v, ..), keywords alone -/
section
variable {X : Cx} {CX : CXT} {k : Nat} {f : Addr} {fd : FuncData} {ps ks : List Str} {sp : Sp} {E : XK} {x : Str} {p pos : Pos} {kws : List Keyword} {tk : TA} {g : List Value → List Value → List Value} {gV : List V → List V → List V}
def tCallK0 (m : Nat) (sp : Sp) (gV : List V → List V → List V) (E : XK) (tk : TA) : TE := fun σ H Q => tk σ H fun zs H2 => zs.length = m ∧ sp (gV [] zs) H2 Q E
theorem pe_callK0 (F : FnOk X.prog X.w X.K X.mg X.base CX k f fd ps sp) (hr : Room k X.A) (hg : Gl X x) (hm : X.mg x = some (.ref f)) (hk : PySem.W.keepIn X.K (.ref f) = true) (hb : KBn X.K fd ps 0 ks g gV) (hx : Passes CX X E)
    (hkw : PK X kws tk) (hall : (backToKw pos (keywordEach kws X.env)).all (·.1.isSome) = true := by rfl) (hks : (backToKw pos (keywordEach kws X.env)).filterMap (·.1) = ks := by rfl)
    (hdb : (x == ("__debug__" : Str)) = false := by decide)
    (hpl : ((backTo pos (starEach [] X.env)).any (·.1) || (backToKw pos (keywordEach kws X.env)).any (·.1.isNone)) = false := by rfl) :
    PE X (.Call (.Name x p) [] kws pos) (tCallK0 ks.length sp gV E tk) := by
  refine ⟨fun pins s σ H Q I h => ?_⟩
  refine wpAny_Call_Name_kw (ld_glob I hg hm ?_ hdb)
  refine PySem.W.callWith_KW0 (h₀ := X.base) I.ok.mod.kin hk hall ?_ hpl
  refine thn (hkw.run pos pins s σ H _ I h) fun ws s2 r2 => ?_
  obtain ⟨zs, H2, I2, rz, l2, q2⟩ := r2
  refine ⟨I2.kIn, ?_⟩
  rw [hks]
  exact run_fnN (vs := []) (us := []) F hr hb hx I2 .nil rz rfl l2 q2
end
/-! ### zip(text, tuple) -/
/-- the signs of z with the tuple at b, in new pairs -/
def ItST (K : PySem.W.Frag) (z : Str) (b : Addr) : It where
  go := fun i H => ∃ (ys : List V) (c : Nat) (y : V), SqT K H b ys ∧ z.cps[i]? = some c ∧ ys[i]? = some y
  yld := fun i H v H' => ∃ (T : Addr) (c : Nat) (y : V), v = .ref T ∧ H T = none ∧ H' = upd H T (.tup [.str ⟨#[c]⟩, y]) ∧ z.cps[i]? = some c ∧ ∀ ys, SqT K H b ys → ys[i]? = some y
  stop := fun i H => ∃ ys : List V, SqT K H b ys ∧ i = min z.cps.size ys.length
def tnST (z : Str) (t : Tok) (b zi TI TO i1 i2 : Addr) (i : Nat) (h : Heap) : Prop :=
  IsZip h zi TI TO .none ∧ IsTupOf2 h TI (.ref i1) (.ref i2) ∧ (∃ x y, IsTupOf2 h TO x y) ∧ h.IsStrIter i1 (strIterType z) z t i ∧ h.IsTupleIter i2 b i
theorem turn_st {P : Program} {w : World} {K : PySem.W.Frag} {elts : List Expr} {kk : Nat} {tpos : Pos} {z : Str} {t : Tok} {b zi TI TO i1 i2 : Addr} (S : ZipSep2 zi TI TO i1 i2 [i1] [i2, b]) :
    Turn P w K (.Tuple elts kk tpos) (ItST K z b) [zi, TI, TO, i1, i2] zi (tnST z t b zi TI TO i1 i2) where
  mem := List.mem_cons_self
  obj := fun i h st c hc => by
    obtain ⟨hz, hTI, ⟨x, y, hTO⟩, ⟨o1, e1, _, d1⟩, ⟨o2, e2, _, d2⟩⟩ := st
    simp only [List.mem_cons, List.not_mem_nil, or_false] at hc
    rcases hc with rfl | rfl | rfl | rfl | rfl
    · exact ⟨_, hz, nofun⟩
    · exact ⟨_, hTI, nofun⟩
    · exact ⟨_, hTO, nofun⟩
    · exact ⟨o1, e1, fun v q => by rw [d1] at q; cases q⟩
    · exact ⟨o2, e2, fun v q => by rw [d2] at q; cases q⟩
  keep := fun i h h' st k => by
    obtain ⟨hz, hTI, ⟨x, y, hTO⟩, h1, h2⟩ := st
    exact ⟨k zi (by simp) _ hz, k TI (by simp) _ hTI, ⟨x, y, k TO (by simp) _ hTO⟩, (let ⟨o, e1, r⟩ := h1; ⟨o, k i1 (by simp) _ e1, r⟩), h2.at fun o q => k i2 (by simp) o q⟩
  item := by
    intro X hP hw hK hc i pins s σ H E I hf st hg
    subst hP hw hK
    obtain ⟨hz, hTI, hTO, h1, h2⟩ := st
    obtain ⟨ys, c, y, hqy, hcc, hy⟩ := hg
    obtain ⟨its, rv, p, _⟩ := I.tuple hqy
    obtain ⟨u, hu, ru⟩ := rv.get hy
    have hne : b ≠ i2 := fun e => by
      obtain ⟨o, e1, e2, _⟩ := p
      obtain ⟨o2, e3, e4, _⟩ := h2
      rw [e, e3] at e1
      cases e1
      rw [e4] at e2
      exact absurd e2 (by decide)
    have hA : X.A.in1.handled = none := I.ok.hd hc
    have W := GoesN.zip2 (prog := X.prog) (w := X.w) (A := X.A) (elts := elts) (x1 := kk) (pos := tpos) S (Draws.text hA i1 z t) (Draws.tuple hA i2 b hne its.toArray)
    have hlt : i < min z.cps.size its.toArray.size := by
      have a1 : i < z.cps.size := (Array.getElem?_eq_some_iff.mp hcc).1
      have a2 : i < its.length := (List.getElem?_eq_some_iff.mp hu).1
      have e : its.toArray.size = its.length := by simp
      rw [e]
      omega
    refine W.goes i s _ E hlt ⟨hz, hTI, hTO, h1, h2, p⟩ fun v h' tk hY st' hk _ => ?_
    obtain ⟨T, x, y', rfl, hT, ⟨c', tu, hc', rfl⟩, hy', hTT⟩ := hY
    rw [hcc] at hc'
    cases hc'
    have ey : y' = u := by
      have q : its[i]? = some y' := by simpa using hy'
      rw [hu] at q
      exact (Option.some.inj q).symm
    subst ey
    obtain ⟨hz', hTI', hTO', h1', h2', p'⟩ := st'
    have new : ObjOk X.prog X.w (upd H T (.tup [.str ⟨#[c]⟩, y])) h' T (.tup [.str ⟨#[c]⟩, y]) := ⟨by show 2 ≤ sizeLine; decide, [_, y'], .cons ⟨tu, rfl⟩ (.cons ru .nil), hTT⟩
    have I1 : Inv X pins σ (upd H T (.tup [.str ⟨#[c]⟩, y])) { s with heap := h', toks := tk } :=
      I.turnedNew (t' := tk) (ch := [zi, TI, TO, i1, i2]) (fun c o hb q => hk c o (fun q' => hb (by simp at q' ⊢; rcases q' with q' | q' | q' | q' <;> simp [q'])) q) hf hT new
    refine ⟨.ref T, _, I1, rfl, ⟨T, c, y, rfl, I.hok.fresh hT, rfl, hcc, fun l hl => by rw [I.tuple_inj hl hqy]; exact hy⟩, ⟨hz', hTI', hTO', h1', h2'⟩, fun q hq => ?_⟩
    have hlt2 : q < s.heap.objs.size := by
      simp only [List.mem_cons, List.not_mem_nil, or_false] at hq
      obtain ⟨x0, y0, hTO⟩ := hTO
      rcases hq with rfl | rfl | rfl | rfl | rfl
      · exact Heap.lt_size hz
      · exact Heap.lt_size hTI
      · exact Heap.lt_size hTO
      · obtain ⟨_, e1, _⟩ := h1; exact Heap.lt_size e1
      · obtain ⟨_, e2, _⟩ := h2; exact Heap.lt_size e2
    rw [upd_ne (Nat.ne_of_lt (Nat.lt_of_lt_of_le hlt2 hT))]
    exact (hf q hq).1
  done := by
    intro X hP hw hK hc i pins s σ H E I hf st hg
    subst hP hw hK
    obtain ⟨hz, hTI, hTO, h1, h2⟩ := st
    obtain ⟨ys, hqy, hend⟩ := hg
    obtain ⟨its, rv, p, _⟩ := I.tuple hqy
    have hne : b ≠ i2 := fun e => by
      obtain ⟨o, e1, e2, _⟩ := p
      obtain ⟨o2, e3, e4, _⟩ := h2
      rw [e, e3] at e1
      cases e1
      rw [e4] at e2
      exact absurd e2 (by decide)
    have hA : X.A.in1.handled = none := I.ok.hd hc
    have W := GoesN.zip2 (prog := X.prog) (w := X.w) (A := X.A) (elts := elts) (x1 := kk) (pos := tpos) S (Draws.text hA i1 z t) (Draws.tuple hA i2 b hne its.toArray)
    have hi : i = min z.cps.size its.toArray.size := by
      have e : its.toArray.size = its.length := by simp
      rw [hend, rv.length, e]
    refine W.stops s _ E (by rw [← hi]; exact ⟨hz, hTI, hTO, h1, h2, p⟩) fun h' tk hk _ => ?_
    exact I.turnedL (t' := tk) (ch := [zi, TI, TO, i1, i2]) (fun c o hb q => hk c o (fun q' => hb (by simp at q' ⊢; rcases q' with q' | q' | q' | q' <;> simp [q'])) q) hf
  self := fun A i s Q E st h => wpAny_pyIter_zip st.1 h
def iST (K : PySem.W.Frag) (ta : TA) : TI := fun σ H R => ta σ H fun vs H1 => ∃ (z : Str) (b : Addr) (ys : List V), vs = [.str z, .ref b] ∧ SqT K H1 b ys ∧ R (ItST K z b) H1
theorem pi_st {X : Cx} {e e2 : Expr} {ta : TA} {p pos tpos : Pos} {elts : List Expr} {kk : Nat} (hg : Gl X "zip") (hm : X.mg "zip" = none) (ha : PA X [e, e2] ta)
    (hs : starEach [e, e2] X.env = (false, eval e X.env) :: starEach [e2] X.env := by rfl) (hpl : (backTo pos (starEach [e2] X.env)).any (·.1) = false := by rfl) :
    PI X (.Tuple elts kk tpos) (.Call (.Name "zip" p) [e, e2] [] pos) (iST X.K ta) := by
  refine ⟨fun pins s σ H R I h => ?_⟩
  refine Call_ (ld_blt I hg hm PyProof.Rows.boot_zip (PyProof.Rows.callWith_type1 (thn (ha.run pos pins s σ H _ I h) fun us s1 r => ?_) hs hpl))
  obtain ⟨vs, H1, I1, r1, z, b, ys, ex, hqy, q⟩ := r
  subst ex
  cases r1 with
  | cons r rr =>
    cases rr with
    | cons r' rr =>
      cases rr
      cases r'
      obtain ⟨t, rfl⟩ := r
      obtain ⟨its, rv, p1, _⟩ := I1.tuple hqy
      have hb : b < s1.heap.objs.size := p1.lt
      refine zip_begins2 (begins_text z t) (begins_tuple b its.toArray) trivial p1 fun h' hz hTI hTO h1 h2 hsz hk => wpAny_pyIter_zip hz ?_
      have I2 : Inv X pins σ H1 { s1 with heap := h' } := I1.kept (t' := s1.toks) hk
      have S : ZipSep2 (s1.heap.objs.size + 4) (s1.heap.objs.size + 2) (s1.heap.objs.size + 3) s1.heap.objs.size (s1.heap.objs.size + 1) [s1.heap.objs.size] [s1.heap.objs.size + 1, b] :=
        zip_sep2 (fp1 := []) (fp2 := [b]) (by simp) (by simpa using hb)
      refine ⟨s1.heap.objs.size + 4, [s1.heap.objs.size + 4, s1.heap.objs.size + 2, s1.heap.objs.size + 3, s1.heap.objs.size, s1.heap.objs.size + 1], tnST z t b _ _ _ _ _, _, H1, rfl, I2, turn_st S,
        ⟨hz, hTI, ⟨_, _, hTO⟩, ⟨_, h1, rfl, rfl⟩, ⟨_, h2, rfl, rfl⟩⟩, fun c hcm => ?_, q⟩
      have hle : s1.heap.objs.size ≤ c := by
        simp only [List.mem_cons, List.not_mem_nil, or_false] at hcm
        rcases hcm with rfl | rfl | rfl | rfl | rfl
        · exact Nat.le_add_right _ _
        · exact Nat.le_add_right _ _
        · exact Nat.le_add_right _ _
        · exact Nat.le_refl _
        · exact Nat.le_add_right _ _
      exact I1.fpOk hle (I1.hok.fresh hle)
theorem walk_st {K : PySem.W.Frag} {z : Str} {b : Addr} {ys : List V} {n : Nat} (hn : n = min z.cps.size ys.length) :
    Walk (ItST K z b) n (fun H => SqT K H b ys) (fun i H v H' => ∃ T c y, v = .ref T ∧ H T = none ∧ H' = upd H T (.tup [.str ⟨#[c]⟩, y]) ∧ z.cps[i]? = some c ∧ ys[i]? = some y) := by
  subst hn
  refine ⟨fun i H hi q => ?_, fun H q => ⟨ys, q, rfl⟩, fun i H v H' _ q y => ?_⟩
  · have h1 : i < z.cps.size := by omega
    have h2 : i < ys.length := by omega
    exact ⟨ys, z.cps[i], ys[i], q, by simp [h1], by simp [h2]⟩
  · obtain ⟨T, c, y, h1, h2, h3, h4, h5⟩ := y
    exact ⟨T, c, y, h1, h2, h3, h4, h5 ys q⟩
end K89
namespace K89
open PySem PySem.Spec PyProof.Rows L2
/-! ### terms and spots as data: alike exactly if equal -/
theorem Nm.str_inj {a b : Nm} (h : a.str = b.str) : a = b := by cases a <;> cases b <;> first | rfl | (exact absurd h (by decide))
theorem B2.str_inj {a b : B2} (h : a.str = b.str) : a = b := by cases a <;> cases b <;> first | rfl | (exact absurd h (by decide))
theorem B3.str_inj {a b : B3} (h : a.str = b.str) : a = b := by cases a <;> cases b <;> first | rfl | (exact absurd h (by decide))
theorem eqv_str (a b : Str) : PyData.eqv (.str a) (.str b) = decide (a = b) := by
  rw [PyData.eqv]
  by_cases h : a = b
  · subst h; simp
  · simp [h]
theorem eqv_int (a b : Int) : PyData.eqv (.int a) (.int b) = decide (a = b) := by
  rw [PyData.eqv]
  by_cases h : a = b
  · subst h; simp
  · simp [h]
theorem eqv_word_ne {x y : Str} {xs ys : List PyData} (h : x ≠ y) : PyData.eqv (.tuple (.str x :: xs)) (.tuple (.str y :: ys)) = false := by
  simp [PyData.eqv, PyData.eqvAll, h]
theorem lf_word_b2 (l : Lf) (w : B2) : l.word ≠ w.str := by cases l <;> cases w <;> simp only [Lf.word, B2.str] <;> decide
theorem lf_word_b3 (l : Lf) (w : B3) : l.word ≠ w.str := by cases l <;> cases w <;> simp only [Lf.word, B3.str] <;> decide
theorem b2_word_b3 (l : B2) (w : B3) : l.str ≠ w.str := by cases l <;> cases w <;> simp only [B2.str, B3.str] <;> decide
theorem fin_int {a b : Fin 6} (h : ((a.val : Nat) : Int) = ((b.val : Nat) : Int)) : a = b := Fin.ext (by omega)
theorem eqv_lf (l m : Lf) : PyData.eqv (Tm.data (.lf l)) (Tm.data (.lf m)) = decide (l = m) := by
  by_cases h : l = m
  · subst h
    rw [decide_eq_true rfl]
    cases l <;> simp [Tm.data, Lf.word, Lf.rest, PyData.eqv, PyData.eqvAll]
  · rw [decide_eq_false h]
    cases l <;> cases m <;> first
      | exact eqv_word_ne (by simp only [Lf.word]; decide)
      | (rename_i a b
         simp only [Tm.data, Lf.word, Lf.rest, PyData.eqv, PyData.eqvAll, beq_self_eq_true, Bool.true_and, Bool.and_true]
         rw [Bool.eq_false_iff]
         intro e
         have e' := eq_of_beq e
         first
           | exact h (congrArg _ (Nm.str_inj e'))
           | exact h (congrArg _ (fin_int e'))
           | exact h (congrArg _ (by omega)))
      | (rename_i a b c d
         simp only [Tm.data, Lf.word, Lf.rest, PyData.eqv, PyData.eqvAll, beq_self_eq_true, Bool.true_and, Bool.and_true]
         rw [Bool.eq_false_iff]
         intro e
         rw [Bool.and_eq_true] at e
         obtain ⟨e1, e2⟩ := e
         have e1' := Nm.str_inj (eq_of_beq e1)
         have e2' := eq_of_beq e2
         subst e1'
         first
           | exact h (congrArg _ (fin_int e2'))
           | exact h (congrArg _ (by omega)))
theorem eqv_tm : ∀ t u : Tm, PyData.eqv t.data u.data = decide (t = u)
  | .lf l, .lf m => by
    rw [eqv_lf]
    by_cases h : l = m
    · subst h; simp
    · have h2 : Tm.lf l ≠ Tm.lf m := fun e => h (Tm.lf.inj e)
      rw [decide_eq_false h, decide_eq_false h2]
  | .lf l, .n2 w x y => by
    rw [decide_eq_false (show Tm.lf l ≠ .n2 w x y by intro e; cases e)]
    exact eqv_word_ne (lf_word_b2 l w)
  | .lf l, .n3 w x y z => by
    rw [decide_eq_false (show Tm.lf l ≠ .n3 w x y z by intro e; cases e)]
    exact eqv_word_ne (lf_word_b3 l w)
  | .n2 w x y, .lf l => by
    rw [decide_eq_false (show Tm.n2 w x y ≠ .lf l by intro e; cases e)]
    exact eqv_word_ne (lf_word_b2 l w).symm
  | .n3 w x y z, .lf l => by
    rw [decide_eq_false (show Tm.n3 w x y z ≠ .lf l by intro e; cases e)]
    exact eqv_word_ne (lf_word_b3 l w).symm
  | .n2 w x y, .n3 w' x' y' z' => by
    rw [decide_eq_false (show Tm.n2 w x y ≠ .n3 w' x' y' z' by intro e; cases e)]
    exact eqv_word_ne (b2_word_b3 w w')
  | .n3 w x y z, .n2 w' x' y' => by
    rw [decide_eq_false (show Tm.n3 w x y z ≠ .n2 w' x' y' by intro e; cases e)]
    exact eqv_word_ne (b2_word_b3 w' w).symm
  | .n2 w x y, .n2 w' x' y' => by
    have h1 := eqv_tm x x'
    have h2 := eqv_tm y y'
    by_cases hw : w = w'
    · subst hw
      simp only [Tm.data, PyData.eqv, PyData.eqvAll, beq_self_eq_true, Bool.true_and, Bool.and_true, h1, h2]
      simp
    · rw [decide_eq_false (show Tm.n2 w x y ≠ .n2 w' x' y' by intro e; exact hw (Tm.n2.inj e).1)]
      exact eqv_word_ne (fun e => hw (B2.str_inj e))
  | .n3 w x y z, .n3 w' x' y' z' => by
    have h1 := eqv_tm x x'
    have h2 := eqv_tm y y'
    have h3 := eqv_tm z z'
    by_cases hw : w = w'
    · subst hw
      simp only [Tm.data, PyData.eqv, PyData.eqvAll, beq_self_eq_true, Bool.true_and, Bool.and_true, h1, h2, h3]
      simp
    · rw [decide_eq_false (show Tm.n3 w x y z ≠ .n3 w' x' y' z' by intro e; exact hw (Tm.n3.inj e).1)]
      exact eqv_word_ne (fun e => hw (B3.str_inj e))
theorem eqv_ints : ∀ s r : List Nat, PyData.eqvAll (s.map fun n : Nat => PyData.int (n : Int)) (r.map fun n : Nat => PyData.int (n : Int)) = decide (s = r)
  | [], [] => rfl
  | [], _ :: _ => rfl
  | _ :: _, [] => rfl
  | n :: s, m :: r => by
    simp only [List.map_cons, PyData.eqvAll, eqv_int, eqv_ints s r]
    by_cases h : n = m
    · subst h; simp
    · have h' : ¬ ((n : Int) = (m : Int)) := by omega
      simp [h, h']
theorem eqv_sp (s r : Spot) : PyData.eqv (spD s) (spD r) = decide (s = r) := eqv_ints s r
theorem eqv_list_nil (ds : List PyData) : PyData.eqv (.list ds) (.list []) = decide (ds = []) := by
  cases ds <;> simp [PyData.eqv, PyData.eqvAll]
/-! ### shaped -/
theorem lay_str {x : Str} (h : PyData.strOk x = true) : (PyData.str x).canLay0 = true := h
theorem lay_nm (n : Nm) : PyData.strOk n.str = true := by cases n <;> decide +kernel
theorem lay_lfw (l : Lf) : PyData.strOk l.word = true := by cases l <;> simp only [Lf.word] <;> decide +kernel
theorem lay_b2 (n : B2) : PyData.strOk n.str = true := by cases n <;> decide +kernel
theorem lay_b3 (n : B3) : PyData.strOk n.str = true := by cases n <;> decide +kernel
theorem lay_rest (l : Lf) : PyData.canLayAll0 l.rest = true := by cases l <;> simp [Lf.rest, PyData.canLayAll0, PyData.canLay0, lay_nm]
theorem lay_tm : ∀ t : Tm, t.data.canLay0 = true
  | .lf l => by simp [Tm.data, PyData.canLay0, PyData.canLayAll0, lay_lfw, lay_rest]
  | .n2 w x y => by simp [Tm.data, PyData.canLay0, PyData.canLayAll0, lay_b2, lay_tm x, lay_tm y]
  | .n3 w x y z => by simp [Tm.data, PyData.canLay0, PyData.canLayAll0, lay_b3, lay_tm x, lay_tm y, lay_tm z]
theorem dep_rest (l : Lf) : PyData.depthAll l.rest = 0 := by cases l <;> simp [Lf.rest, PyData.depthAll, PyData.depth]
theorem dep_tm : ∀ t : Tm, t.data.depth = t.ht
  | .lf l => by simp [Tm.data, PyData.depth, PyData.depthAll, dep_rest, Tm.ht]
  | .n2 w x y => by simp [Tm.data, PyData.depth, PyData.depthAll, dep_tm x, dep_tm y, Tm.ht]
  | .n3 w x y z => by simp [Tm.data, PyData.depth, PyData.depthAll, dep_tm x, dep_tm y, dep_tm z, Tm.ht]
theorem shaped_tm {t : Tm} (h : t.ht ≤ 64) : SeqAt.shaped t.data = true := by
  unfold SeqAt.shaped
  rw [lay_tm, dep_tm, decide_eq_true h]
  rfl
theorem lay_ints : ∀ s : List Nat, PyData.canLayAll0 (s.map fun n : Nat => PyData.int (n : Int)) = true
  | [] => rfl
  | n :: r => by simp [PyData.canLayAll0, PyData.canLay0, lay_ints r]
theorem dep_ints : ∀ s : List Nat, PyData.depthAll (s.map fun n : Nat => PyData.int (n : Int)) = 0
  | [] => rfl
  | n :: r => by simp [PyData.depthAll, PyData.depth, dep_ints r]
theorem shaped_sp (s : Spot) : SeqAt.shaped (spD s) = true := by
  unfold SeqAt.shaped spD
  simp [PyData.canLay0, PyData.depth, lay_ints, dep_ints]
theorem lay_sps : ∀ l : List Spot, PyData.canLayAll0 (l.map spD) = true
  | [] => rfl
  | s :: r => by
    have h := lay_sps r
    simp only [List.map_cons, PyData.canLayAll0, h, Bool.and_true]
    exact lay_ints s
theorem dep_sps : ∀ l : List Spot, PyData.depthAll (l.map spD) ≤ 1
  | [] => Nat.zero_le _
  | s :: r => by
    have h := dep_sps r
    simp only [List.map_cons, PyData.depthAll]
    have e : (spD s).depth = 1 := by simp [spD, PyData.depth, dep_ints]
    omega
theorem shaped_sps (l : List Spot) : SeqAt.shaped (.list (l.map spD)) = true := by
  unfold SeqAt.shaped
  have h := dep_sps l
  simp only [PyData.canLay0, PyData.depth, lay_sps, Bool.true_and]
  exact decide_eq_true (by omega)
theorem lay_tms : ∀ l : List Tm, PyData.canLayAll0 (l.map Tm.data) = true
  | [] => rfl
  | t :: r => by simp [PyData.canLayAll0, lay_tm, lay_tms r]
theorem dep_tms {n : Nat} : ∀ l : List Tm, (∀ t ∈ l, t.ht ≤ n) → PyData.depthAll (l.map Tm.data) ≤ n
  | [], _ => Nat.zero_le _
  | t :: r, h => by
    have h1 := dep_tms r fun u hu => h u (List.mem_cons_of_mem _ hu)
    have h2 := h t List.mem_cons_self
    simp only [List.map_cons, PyData.depthAll, dep_tm]
    omega
theorem shaped_tms {l : List Tm} (h : ∀ t ∈ l, t.ht ≤ 63) : SeqAt.shaped (.list (l.map Tm.data)) = true := by
  unfold SeqAt.shaped
  have h := dep_tms l h
  simp only [PyData.canLay0, PyData.depth, lay_tms, Bool.true_and]
  exact decide_eq_true (by omega)
theorem shaped_nil : SeqAt.shaped (.list []) = true := by decide
theorem shaped_str {x : Str} (h : PyData.strOk x = true) : SeqAt.shaped (.str x) = true := by
  unfold SeqAt.shaped
  simp [PyData.canLay0, PyData.depth, h]
/-! ### the top's other facts -/
def Lf.form : Lf → Str
  | .at _ => "n"
  | .kind _ => "h"
  | .name _ => "w"
  | .thing _ => "w"
  | .maker _ _ => "wn"
  | .eater _ _ => "wh"
def Tm.form : Tm → Str
  | .lf l => l.form
  | .n2 _ _ _ => "tt"
  | .n3 _ _ _ _ => "ttt"
structure Fx (w : World) (K : PySem.W.Frag) : Prop where
  kept : ∀ H, SqT K H (He.ga K "KEPT") [.str "all", .str "fun", .str "same", .str "self", .str "put"]
  binders : ∀ H, SqT K H (He.ga K "BINDERS") [.str "all", .str "fun"]
  form : ∀ t : Tm, KDct K w (He.ga K "FORMS") t.word (.str t.form)
  has : ∀ t : Tm, ∃ u, PySem.W.nsIn K (He.ga K "FORMS") t.word = some (some u)
  hole : PySem.W.nsIn K (He.ga K "FORMS") "hole" = some none
  eT : ExcF K "NoTerm"
  eS : ExcF K "NoSpot"
  eL : ExcF K "NoList"
  tt : exmB K "NoTerm" "NoTerm" true = true
  st : exmB K "NoSpot" "NoTerm" false = true
  ss : exmB K "NoSpot" "NoSpot" true = true
  sl : exmB K "NoSpot" "NoList" false = true
  lt : exmB K "NoList" "NoTerm" false = true
  ll : exmB K "NoList" "NoList" true = true
theorem fx_of {w : World} {K : PySem.W.Frag} {mg : Str → Option Value} (T : Tx w K mg) : Fx w K := by
  obtain ⟨h1, h⟩ := He.ba T.ex
  obtain ⟨h2, h⟩ := He.ba h
  obtain ⟨h3, h⟩ := He.ba h
  obtain ⟨h4, h⟩ := He.ba h
  obtain ⟨h5, h⟩ := He.ba h
  obtain ⟨h6, h⟩ := He.ba h
  obtain ⟨h7, h⟩ := He.ba h
  obtain ⟨h8, h⟩ := He.ba h
  obtain ⟨h9, h⟩ := He.ba h
  obtain ⟨ha, h⟩ := He.ba h
  obtain ⟨hb, h⟩ := He.ba h
  obtain ⟨hc, hd⟩ := He.ba h
  obtain ⟨es, n, D⟩ := T.t_FORMS
  have vals : ∀ q : Str × He.Dv, q ∈ kv_FORMS → ∃ u, PySem.W.nsIn K (He.ga K "FORMS") q.1 = some (some u) ∧ RelV (q.2.v K) u := fun q hq => He.valsB_ok h6 hq
  have go : ∀ (x : Str) (d : He.Dv), (x, d) ∈ kv_FORMS → KDct K w (He.ga K "FORMS") x (d.v K) ∧ ∃ u, PySem.W.nsIn K (He.ga K "FORMS") x = some (some u) := fun x d hq => by
    obtain ⟨u, e, r⟩ := vals (x, d) hq
    exact ⟨⟨es, n, u, D.at_, D.lit, e, r⟩, u, e⟩
  have all : ∀ t : Tm, KDct K w (He.ga K "FORMS") t.word (.str t.form) ∧ ∃ u, PySem.W.nsIn K (He.ga K "FORMS") t.word = some (some u) := by
    intro t
    cases t with
    | lf l => cases l <;> exact go _ (.str _) (by simp [kv_FORMS, Tm.word, Lf.word, Tm.form, Lf.form])
    | n2 w x y => cases w <;> exact go _ (.str _) (by simp [kv_FORMS, Tm.word, B2.str, Tm.form])
    | n3 w x y z => cases w <;> exact go _ (.str _) (by simp [kv_FORMS, Tm.word, B3.str, Tm.form])
  exact ⟨fun H => He.tupB_ok h4 H, fun H => He.tupB_ok h5 H, fun t => (all t).1, fun t => (all t).2, of_decide_eq_true h7, excB_ok h1, excB_ok h2, excB_ok h3, h8, h9, ha, hb, hc, hd⟩
end K89
namespace K89
open PySem PySem.Spec PyProof.Rows L2
open C8 (Cal pe_c)
/-! ### names of the top in short -/
section
variable {X : Cx} {x : Str} {a : Addr} {z : Str} {t : Tok} {i : Int} {pos : Pos} {Q : VK} {H : Hp} {c : Prop} [Decidable c]
theorem gR (hm : X.mg x = some (.ref a)) (hg : Gl X x := by rfl) (hd : (x == ("__debug__" : Str)) = false := by decide) : PE X (.Name x pos) (tC (.ref a)) := pe_glob (v := .ref a) hg hm rfl hd
theorem gS (hm : X.mg x = some (.str z t)) (hg : Gl X x := by rfl) (hd : (x == ("__debug__" : Str)) = false := by decide) : PE X (.Name x pos) (tC (.str z)) := pe_glob (v := .str z) hg hm ⟨_, rfl⟩ hd
theorem gI (hm : X.mg x = some (.int i t)) (hg : Gl X x := by rfl) (hd : (x == ("__debug__" : Str)) = false := by decide) : PE X (.Name x pos) (tC (.int i)) := pe_glob (v := .int i) hg hm ⟨_, rfl⟩ hd
theorem qT (h : c) (q : Q (.bl true) H) : Q (.bl (decide c)) H := by rw [decide_eq_true h]; exact q
theorem qF (h : ¬ c) (q : Q (.bl false) H) : Q (.bl (decide c)) H := by rw [decide_eq_false h]; exact q
/-- no test -/
theorem yT {σ : L2.St} {H : Hp} {A B : Hp → Prop} (h : A H) : tYes σ H fun b H3 => if b = true then A H3 else B H3 := by show (if true = true then A H else B H); exact iteT h
/-- an if whose test is known -/
theorem iT {A B : Prop} (h : c) (q : A) : if decide c = true then A else B := by rw [decide_eq_true h]; exact iteT q
theorem iF {A B : Prop} (h : ¬ c) (q : B) : if decide c = true then A else B := by rw [decide_eq_false h]; exact iteF q
theorem niT {A B : Prop} (h : c) (q : B) : if (!decide c) = true then A else B := by rw [decide_eq_true h]; exact iteF q
theorem niF {A B : Prop} (h : ¬ c) (q : A) : if (!decide c) = true then A else B := by rw [decide_eq_false h]; exact iteT q
end
section
variable {J : It} {n : Nat} {G : Hp → Prop} {Y : Nat → Hp → V → Hp → Prop} {H H' H1 H2 H4 : Hp} {D : Addr} {acc : List V} {y : V}
/-- a comprehension's list at D so far -/
def Lc (D : Addr) (Pv : Nat → List V → Hp → Prop) (i : Nat) (H : Hp) : Prop := ∃ acc, H D = some (.lst acc) ∧ acc.length ≤ i ∧ Pv i acc H
theorem lc_put {Pv : Nat → List V → Hp → Prop} {i : Nat} (hd : H D = some (.lst acc)) (hl : acc.length ≤ i) (hi : i < sizeLine) (p : Pv (i + 1) (acc ++ [y]) (upd H D (.lst (acc ++ [y])))) :
    ∃ acc, H D = some (.lst acc) ∧ acc.length < sizeLine ∧ Lc D Pv (i + 1) (upd H D (.lst (acc ++ [y]))) :=
  ⟨acc, hd, Nat.lt_of_le_of_lt hl hi, _, upd_same, by rw [List.length_append]; exact Nat.succ_le_succ hl, p⟩
theorem lc_start {Pv : Nat → List V → Hp → Prop} (p : Pv 0 [] (upd H D (.lst []))) : Lc D Pv 0 (upd H D (.lst [])) := ⟨[], upd_same, Nat.le_refl _, p⟩
theorem sl_one {K : PySem.W.Frag} {Q : VK} {σ : L2.St} {a : Addr} {x : V} {ps : List V} (h : SqT K H a (x :: ps)) (q : ∀ p, H p = none → Q (.ref p) (upd H p (.tup ps))) : tNoPart σ H fun u H3 => rSlA K (.ref a) (some 1) u H3 Q := by
  show rSlA K (.ref a) (some 1) none H Q
  have e : HT.sIx (x :: ps).length 0 (some 1) = 1 := by
    show HT.sIx (x :: ps).length 0 (some ((1 : Nat) : Int)) = 1
    rw [HT.sIx_nat, List.length_cons]
    omega
  refine ⟨a, _, rfl, h, fun z => absurd z.1 (by rw [e]; decide), fun _ p hp => ?_⟩
  have e2 : cutV (x :: ps) (some 1) none = ps := by
    unfold cutV
    rw [e, HT.sIx_none, List.length_cons]
    show List.take (ps.length + 1 - 1) ps = ps
    rw [Nat.add_sub_cancel, List.take_length]
  rw [e2]
  exact q p hp
end
section
variable {P : Program} {w : World} {K : PySem.W.Frag} {mg : Str → Option Value} {base : Heap}
theorem cal_of {x : Str} {params : Arguments} {body : List Stmt} {scope : Scope} {fd : FuncData} {ps : List Str} {k : Nat} {sp : Sp} (F : FunD K x x params body scope [] [] (He.ga K x) fd) (ok : FnOk P w K mg base CX0 k (He.ga K x) fd ps sp) (g : mg x = some (.ref (He.ga K x)))
    (h : ∀ (kV doc pm : Value) (an : Option Addr) (cdv ct : Value) (us : List Value), us.length = ps.length → bindArgs (PySem.W.fnOf x x params body scope .none kV doc pm an cdv ct) ⟨us, []⟩ = pure (ps.zip us)) : Cal P w K mg base k x sp [] :=
  ⟨_, _, ps, [], ok, g, F.kp, F.bindsN h, .nil⟩
theorem c_is_number (T : Tx w K mg) : Cal P w K mg base 1 "is_number" (spNumber K) [] := by
  obtain ⟨fd, ok, F⟩ := ok_is_number (P := P) (base := base) T
  exact cal_of F ok T.g_is_number fun _ _ _ _ _ _ us hl => match us, hl with | [_], _ => rfl
/-! ### is_whole -/
def spWhole (K : PySem.W.Frag) : Sp := fun vs H Q _ => ∃ i lo hi : Int, vs = [.int i, .int lo, .int hi] ∧ lo ≤ i ∧ i ≤ hi ∧ Q (.bl true) H
abbrev N_is_whole : List Str := ["thing", "low", "high"]
theorem sc_is_whole : FnScope N_is_whole N_is_whole (defScope s_is_whole) := ⟨rfl, rfl, rfl, by decide +kernel, rfl, by decide +kernel, by decide +kernel⟩
theorem c_is_whole (T : Tx w K mg) : Cal P w K mg base 1 "is_whole" (spWhole K) [] := by
  obtain ⟨fd, F⟩ := T.d_is_whole
  refine cal_of F (F.ok sc_is_whole (fun vs H Q E h => ?_) (fun cdv A outer s H vs Q E hr h => ⟨_, PSs.nox (pss_one (ps_ret (pe_and (xIs T.n_isinstance T.n_int b_int (pv 0)) (pe_and (pe_not (xIs T.n_isinstance T.n_bool b_bool (pv 0))) (pe_one (pe_chain op_le op_le (pv 1) (pv 0) (pv 2))))))), ?_⟩)) T.g_is_whole
    fun _ _ _ _ _ _ us hl => match us, hl with | [_, _, _], _ => rfl
  · obtain ⟨i, lo, hi, rfl, _⟩ := h
    rfl
  · obtain ⟨i, lo, hi, rfl, h1, h2, q⟩ := h
    refine ⟨_, rfl, _, "int", "int", rfl, by decide, ty_int K H i, true, rfl, ?_⟩
    refine iteT ⟨_, rfl, _, "bool", "int", rfl, by decide, ty_int K H i, false, rfl, true, rfl, ?_⟩
    refine iteT ⟨_, rfl, _, rfl, _, _, rfl, rfl, _, rfl, ?_⟩
    exact iT h1 ⟨_, rfl, _, _, rfl, rfl, qT h2 q⟩
/-! ### is_name -/
def spName (K : PySem.W.Frag) : Sp := fun vs H Q _ => ∃ n : Nm, vs = [.str n.str] ∧ ∀ H', Same H H' → Q (.bl true) H'
abbrev N_is_name : List Str := ["thing", "sign"]
abbrev P_is_name : List Str := ["thing"]
theorem sc_is_name : FnScope N_is_name P_is_name (defScope s_is_name) := ⟨rfl, rfl, rfl, by decide +kernel, rfl, by decide +kernel, by decide +kernel⟩
theorem nm_len (n : Nm) : 1 ≤ n.str.length ∧ n.str.length ≤ 8 := by cases n <;> decide +kernel
theorem nm_size (n : Nm) : n.str.cps.size = n.str.length := rfl
theorem nm_kept (n : Nm) : inV (.str n.str) [.str "all", .str "fun", .str "same", .str "self", .str "put"] = false := by cases n <;> decide +kernel
theorem nm_sign (n : Nm) {i c : Nat} (h : n.str.cps[i]? = some c) : c ∈ ("abcdefghijklmnopqrstuvwxyz" : Str).cps.toList := by
  have all : ∀ n : Nm, ∀ c ∈ n.str.cps.toList, c ∈ ("abcdefghijklmnopqrstuvwxyz" : Str).cps.toList := by
    intro n
    cases n <;> decide +kernel
  exact all n c (by rw [Array.mem_toList_iff]; exact Array.mem_of_getElem? h)
theorem len_small {n : Nat} (h : n ≤ 1000) : n ≤ sizeLine := Nat.le_of_lt (small1000 h)
theorem bl_all (k : Nat) : ((List.replicate k true).all id) = true := by simp
theorem rep_bl (k : Nat) : (List.replicate k true).map V.bl ++ [.bl true] = (List.replicate (k + 1) true).map V.bl := by
  rw [List.replicate_succ', List.map_append]
  rfl
theorem c_is_name (T : Tx w K mg) : Cal P w K mg base 1 "is_name" (spName K) [] := by
  obtain ⟨fd, F⟩ := T.d_is_name
  have X := fx_of T
  obtain ⟨tSMALL, hSMALL⟩ := T.z_SMALL
  refine cal_of F (F.ok sc_is_name (fun vs H Q E h => ?_) (fun cdv A outer s H vs Q E hr h => ⟨_, PSs.nox (pss_cons (ps_if (PW.pt (pw_or (pt_not (pt_val (xIs T.n_isinstance T.n_str b_str (pv 0)))) (pw_or (pt_not (pt_chain op_le op_le pe_int (pe_callB call_len rfl T.n_len PySem.boot_len (pa_cons (pv 0) pa_nil)) pe_int)) (pw_or1 (pt_cmpR op_in_seq (pv 0) (gR T.g_KEPT) (by rfl)))))) (pss_one (ps_ret pe_bl)) pss_nil)
    (pss_one (ps_ret (pe_callB (cr_all rfl) rfl T.n_all b_all (pa_cons (pe_lc (own := [("sign", 1)]) (g := gName 1) (tt := tYes) (by rfl) sc_is_name.nd (pi_str (pv 0)) (blkOk_by (N := N_is_name) (sc := defScope s_is_name) (by decide +kernel)) (fun _ _ _ _ _ => (pg_name (i := 1) sc_is_name.nd rfl (Or.inl rfl))) (fun _ _ _ _ _ => pts_nil) (fun _ _ _ _ _ => (pe_cmpR op_in_sign (pv 1) (gS hSMALL) (by rfl)))) pa_nil))))), ?_⟩)) T.g_is_name
    fun _ _ _ _ _ _ us hl => match us, hl with | [_], _ => rfl
  · obtain ⟨n, rfl, _⟩ := h
    rfl
  · obtain ⟨n, rfl, q⟩ := h
    have l1 := nm_len n
    refine ⟨_, rfl, _, "str", "str", rfl, by decide, ty_str K H _, true, rfl, ?_⟩
    refine ⟨_, rfl, _, _, rfl, ⟨len_small (by omega), rfl⟩, _, _, rfl, rfl, _, rfl, ?_⟩
    rw [decide_eq_true (by omega : (1 : Int) ≤ (n.str.length : Int))]
    refine iteT ⟨_, _, rfl, rfl, _, rfl, ?_⟩
    rw [decide_eq_true (by omega : (n.str.length : Int) ≤ 8)]
    refine ⟨_, rfl, _, _, rfl, .inr (X.kept H), rfl, rfl, _, rfl, ?_⟩
    rw [nm_kept]
    refine iteF ?_
    refine ⟨_, rfl, _, rfl, fun D hD => lc_it walk_str (Lc D fun i acc H' => Same H H' ∧ acc = (List.replicate i true).map V.bl) (lc_start ⟨same_new hD _, rfl⟩) (fun _ _ _ _ => trivial) (fun i x H1 H2 hi p y => ?_) (fun H' p => ?_)⟩
    · obtain ⟨acc, e, hl, g, rfl⟩ := p
      obtain ⟨rfl, c, hc, rfl⟩ := y
      refine ⟨rfl, yT ⟨_, rfl, c, _, rfl, rfl, ?_⟩⟩
      rw [decide_eq_true (nm_sign n hc)]
      exact lc_put e hl (small1000 (by rw [nm_size] at hi; omega)) ⟨same_own g hD _, rep_bl i⟩
    · obtain ⟨acc, e, hl, g, rfl⟩ := p
      refine ⟨_, _, rfl, SqL.of e, ?_⟩
      rw [bl_all]
      exact q H' g
end
end K89
namespace K89
open PySem PySem.Spec PyProof.Rows L2
open C8 (Cal pe_c)
theorem isB_ne {n c : String} (h : n ≠ c) (hc : c ≠ "int") : isB n c = false := by simp [isB, h, hc]
theorem int_ne {i j : Int} (h : i ≠ j) : ¬ (V.int i = V.int j) := fun e => h (V.int.inj e)
theorem int_eq {i j : Int} (h : i = j) : V.int i = V.int j := by rw [h]
theorem atI0 {α : Type} {x : α} {xs : List α} : atI (x :: xs) 0 = some x := atI_nat (j := 0) rfl
section
variable {K : PySem.W.Frag} {H H' : Hp} {v : V} {n c : Nat} {b : Bool}
/-- what a letter asks of a value -/
def HFQ (K : PySem.W.Frag) (H : Hp) (n c : Nat) (v : V) (b : Bool) : Prop :=
  (c = 110 ∧ ∃ i, v = .int i ∧ b = decide (0 ≤ i)) ∨ (c = 104 ∧ ∃ i, v = .int i ∧ 0 ≤ i ∧ i ≤ 5 ∧ b = true) ∨ (c = 119 ∧ ∃ m : Nm, v = .str m.str ∧ b = true) ∨ (c = 116 ∧ 1 ≤ n ∧ ∃ t, TmR K H v t ∧ t.ht ≤ n ∧ b = true)
theorem hfq_same (e : Same H H') (h : HFQ K H n c v b) : HFQ K H' n c v b := by
  rcases h with h | h | h | ⟨h1, h2, t, h3, h4⟩
  · exact .inl h
  · exact .inr (.inl h)
  · exact .inr (.inr (.inl h))
  · exact .inr (.inr (.inr ⟨h1, h2, t, dp_same e h3, h4⟩))
def spHF (K : PySem.W.Frag) (n : Nat) : Sp := fun vs H Q _ => ∃ c v b, vs = [.str ⟨#[c]⟩, v] ∧ HFQ K H n c v b ∧ ∀ H', Same H H' → Q (.bl b) H'
/-- whether a value is a term -/
def TermQ (K : PySem.W.Frag) (H : Hp) (v : V) (n : Nat) (b : Bool) : Prop :=
  (∃ t, TmR K H v t ∧ t.ht ≤ n ∧ b = true) ∨ (∃ c, Ty K H v c ∧ c ≠ "tuple" ∧ b = false) ∨ (∃ a k, v = .ref a ∧ SqT K H a [.str "hole", .int k] ∧ b = false) ∨ (∃ a, v = .ref a ∧ SqT K H a [.str "at", .int (-1)] ∧ b = false)
def spTerm (K : PySem.W.Frag) (n : Nat) : Sp := fun vs H Q _ => 1 ≤ n ∧ ∃ v b, vs = [v] ∧ TermQ K H v n b ∧ ∀ H', Same H H' → Q (.bl b) H'
/-- the letters of a term's form -/
def Lf.letters : Lf → List Nat
  | .at _ => [110]
  | .kind _ => [104]
  | .name _ => [119]
  | .thing _ => [119]
  | .maker _ _ => [119, 110]
  | .eater _ _ => [119, 104]
def Tm.letters : Tm → List Nat
  | .lf l => l.letters
  | .n2 _ _ _ => [116, 116]
  | .n3 _ _ _ _ => [116, 116, 116]
theorem form_cps (t : Tm) : t.form.cps.toList = t.letters := by
  cases t with
  | lf l => cases l <;> simp only [Tm.form, Lf.form, Tm.letters, Lf.letters] <;> decide +kernel
  | n2 w x y => simp only [Tm.form, Tm.letters]; decide +kernel
  | n3 w x y z => simp only [Tm.form, Tm.letters]; decide +kernel
theorem form_len (t : Tm) : t.form.length = t.letters.length := by
  rw [← form_cps]
  simp [Str.length]
theorem form_at {t : Tm} {i c : Nat} (h : t.form.cps[i]? = some c) : t.letters[i]? = some c := by
  rw [← form_cps]
  simpa using h
theorem letters_len (t : Tm) : t.letters.length = t.rest.length := by
  cases t with
  | lf l => cases l <;> rfl
  | n2 w x y => rfl
  | n3 w x y z => rfl
theorem letters_le (t : Tm) : t.letters.length ≤ 3 := by
  cases t with
  | lf l => cases l <;> simp [Tm.letters, Lf.letters]
  | n2 w x y => simp [Tm.letters]
  | n3 w x y z => simp [Tm.letters]
theorem parts_ok {t : Tm} {ps : List V} (hn : t.ht ≤ n + 1) (h : DpAll K H ps t.rest) {i : Nat} {y : V} (hc : t.letters[i]? = some c) (hy : ps[i]? = some y) : HFQ K H n c y true := by
  obtain ⟨d, hd, hy⟩ := dpA_get h hy
  have hp : ∀ {u : Tm}, u.ht + 1 ≤ n + 1 → TmR K H y u → HFQ K H n 116 y true := fun {u} hu r => by
    have := u.ht_pos
    exact .inr (.inr (.inr ⟨rfl, by omega, u, r, by omega, rfl⟩))
  have hnm : ∀ m : Nm, Dp K H y (.str m.str) → HFQ K H n 119 y true := fun m r => by
    cases r
    exact .inr (.inr (.inl ⟨rfl, m, rfl, rfl⟩))
  have hin : ∀ k : Nat, Dp K H y (.int k) → HFQ K H n 110 y true := fun k r => by
    cases r
    exact .inl ⟨rfl, _, rfl, (decide_eq_true (by omega)).symm⟩
  have hkd : ∀ k : _root_.Fin 6, Dp K H y (.int k.val) → HFQ K H n 104 y true := fun k r => by
    cases r
    exact .inr (.inl ⟨rfl, _, rfl, by omega, by have := k.isLt; omega, rfl⟩)
  cases t with
  | lf l =>
    cases l with
    | «at» k =>
      match i, hc, hd with
      | 0, hc, hd => cases hc; cases hd; exact hin _ hy
    | kind k =>
      match i, hc, hd with
      | 0, hc, hd => cases hc; cases hd; exact hkd _ hy
    | name k =>
      match i, hc, hd with
      | 0, hc, hd => cases hc; cases hd; exact hnm _ hy
    | thing k =>
      match i, hc, hd with
      | 0, hc, hd => cases hc; cases hd; exact hnm _ hy
    | maker m k =>
      match i, hc, hd with
      | 0, hc, hd => cases hc; cases hd; exact hnm _ hy
      | 1, hc, hd => cases hc; cases hd; exact hin _ hy
    | eater m k =>
      match i, hc, hd with
      | 0, hc, hd => cases hc; cases hd; exact hnm _ hy
      | 1, hc, hd => cases hc; cases hd; exact hkd _ hy
  | n2 w x z =>
    have h1 : max x.ht z.ht + 1 ≤ n + 1 := hn
    match i, hc, hd with
    | 0, hc, hd => cases hc; cases hd; exact hp (by omega) hy
    | 1, hc, hd => cases hc; cases hd; exact hp (by omega) hy
  | n3 w x z u =>
    have h1 : max x.ht (max z.ht u.ht) + 1 ≤ n + 1 := hn
    match i, hc, hd with
    | 0, hc, hd => cases hc; cases hd; exact hp (by omega) hy
    | 1, hc, hd => cases hc; cases hd; exact hp (by omega) hy
    | 2, hc, hd => cases hc; cases hd; exact hp (by omega) hy
end
section
variable {P : Program} {w : World} {K : PySem.W.Frag} {mg : Str → Option Value} {base : Heap}
abbrev N_has_form : List Str := ["letter", "thing"]
theorem sc_has_form : FnScope N_has_form N_has_form (defScope s_has_form) := ⟨rfl, rfl, rfl, by decide +kernel, rfl, by decide +kernel, by decide +kernel⟩
theorem c_has_form (T : Tx w K mg) {n k : Nat} (hk : 1 ≤ k) (c_is_term : Cal P w K mg base k "is_term" (spTerm K n) []) : Cal P w K mg base (k + 1) "has_form" (spHF K n) [] := by
  obtain ⟨fd, F⟩ := T.d_has_form
  obtain ⟨tMOST_KIND, hMOST_KIND⟩ := T.i_MOST_KIND
  refine cal_of F (F.ok sc_has_form (fun vs H Q E h => ?_) (fun cdv A outer s H vs Q E hr h => ⟨_, PSs.nox (pss_cons (ps_if (pt_cmpR op_eq (pv 0) pe_str (nomark _)) (pss_one (ps_ret (pe_c (c_is_number T) hr hk rfl (pa_cons (pv 1) pa_nil)))) pss_nil)
    (pss_cons (ps_if (pt_cmpR op_eq (pv 0) pe_str (nomark _)) (pss_one (ps_ret (pe_c (c_is_whole T) hr hk rfl (pa_cons (pv 1) (pa_cons pe_int (pa_cons (gI hMOST_KIND) pa_nil)))))) pss_nil)
    (pss_cons (ps_if (pt_cmpR op_eq (pv 0) pe_str (nomark _)) (pss_one (ps_ret (pe_c (c_is_name T) hr hk rfl (pa_cons (pv 1) pa_nil)))) pss_nil)
    (pss_one (ps_ret (pe_c c_is_term hr (Nat.le_refl _) rfl (pa_cons (pv 1) pa_nil))))))), ?_⟩)) T.g_has_form
    fun _ _ _ _ _ _ us hl => match us, hl with | [_, _], _ => rfl
  · obtain ⟨c, v, b, rfl, _⟩ := h
    rfl
  · obtain ⟨c, v, b, rfl, hq, q⟩ := h
    refine ⟨_, rfl, rfl, _, rfl, ?_⟩
    rcases hq with ⟨rfl, i, rfl, rfl⟩ | ⟨rfl, i, rfl, h0, h5, rfl⟩ | ⟨rfl, m, rfl, rfl⟩ | ⟨rfl, hn, t, ht, hl, rfl⟩
    · exact iT (by decide +kernel) ⟨_, rfl, _, _, rfl, .inl ⟨i, rfl, rfl⟩, q H (Same.refl H)⟩
    · refine iF (by decide +kernel) ⟨_, rfl, rfl, _, rfl, ?_⟩
      exact iT (by decide +kernel) ⟨_, rfl, i, 0, 5, rfl, h0, h5, q H (Same.refl H)⟩
    · refine iF (by decide +kernel) ⟨_, rfl, rfl, _, rfl, ?_⟩
      refine iF (by decide +kernel) ⟨_, rfl, rfl, _, rfl, ?_⟩
      exact iT (by decide +kernel) ⟨_, rfl, m, rfl, q⟩
    · refine iF (by decide +kernel) ⟨_, rfl, rfl, _, rfl, ?_⟩
      refine iF (by decide +kernel) ⟨_, rfl, rfl, _, rfl, ?_⟩
      refine iF (by decide +kernel) ⟨_, rfl, hn, _, _, rfl, .inl ⟨t, ht, hl, rfl⟩, q⟩
abbrev N_is_term : List Str := ["thing", "form", "letter", "part"]
abbrev P_is_term : List Str := ["thing"]
theorem sc_is_term : FnScope N_is_term P_is_term (defScope s_is_term) := ⟨rfl, rfl, rfl, by decide +kernel, rfl, by decide +kernel, by decide +kernel⟩
theorem c_is_term_step (T : Tx w K mg) {n k : Nat} (c_has_form : Cal P w K mg base k "has_form" (spHF K n) []) : Cal P w K mg base (k + 1) "is_term" (spTerm K (n + 1)) [] := by
  obtain ⟨fd, F⟩ := T.d_is_term
  obtain ⟨es, en, hFD⟩ := T.t_FORMS
  have X := fx_of T
  refine cal_of F (F.ok sc_is_term (fun vs H Q E h => ?_) (fun cdv A outer s H vs Q E hr h => ⟨_, PSs.nox (pss_cons (ps_if (PW.pt (pw_or (pt_not (pt_val (xIs T.n_isinstance T.n_tuple b_tuple (pv 0)))) (pw_or (pt_cmpR op_eq (pe_callB call_len rfl T.n_len PySem.boot_len (pa_cons (pv 0) pa_nil)) pe_int (nomark _)) (pw_or (pt_not (pt_val (xIs T.n_isinstance T.n_str b_str (pe_ix ix_tup (pv 0) pe_int (fun _ _ => rfl))))) (pw_or1 (pt_cmpR (op_notIn_kd hFD) (pe_ix ix_tup (pv 0) pe_int (fun _ _ => rfl)) (gR T.g_FORMS) (by rfl))))))) (pss_one (ps_ret pe_bl)) pss_nil)
    (pss_cons (ps_set (i := 1) sc_is_term.nd rfl (Or.inl rfl) (pe_ix ix_kdict (gR T.g_FORMS) (pe_ix ix_tup (pv 0) pe_int (fun _ _ => rfl)) (fun _ _ => rfl)))
    (pss_cons (ps_if (pt_cmpR op_ne (pe_callB call_len rfl T.n_len PySem.boot_len (pa_cons (pv 0) pa_nil)) (pe_op op_add (pe_callB call_len rfl T.n_len PySem.boot_len (pa_cons (pv 1) pa_nil)) pe_int) (nomark _)) (pss_one (ps_ret pe_bl)) pss_nil)
    (pss_one (ps_ret (pe_callB (cr_all rfl) rfl T.n_all b_all (pa_cons (pe_lc (own := [("letter", 2), ("part", 3)]) (g := gTup K 2 (gCons (gName 2) (gCons (gName 3) gNil))) (tt := tYes) (by rfl) sc_is_term.nd (pi_st (by rfl) T.n_zip (pa_cons (pv 1) (pa_cons (pe_slice sl_tupA (pv 0) (po_some pe_int) po_none) pa_nil))) (blkOk_by (N := N_is_term) (sc := defScope s_is_term) (by decide +kernel)) (fun _ _ _ _ _ => (pg_tup (by rfl) (pgs_cons (pg_name (i := 2) sc_is_term.nd rfl (Or.inl rfl)) (pgs_cons (pg_name (i := 3) sc_is_term.nd rfl (Or.inl rfl)) pgs_nil)))) (fun _ _ _ _ _ => pts_nil) (fun _ _ _ _ _ => (pe_c c_has_form hr (Nat.le_refl _) rfl (pa_cons (pv 2) (pa_cons (pv 3) pa_nil))))) pa_nil))))))), ?_⟩)) T.g_is_term
    fun _ _ _ _ _ _ us hl => match us, hl with | [_], _ => rfl
  · obtain ⟨_, v, b, rfl, _⟩ := h
    rfl
  obtain ⟨_, v, b, rfl, hq, q⟩ := h
  -- a tuple whose first word has a form
  have hq' : (∃ (a : Addr) (t : Tm) (ps : List V) (bs : List Bool), v = .ref a ∧ SqT K H a (.str t.word :: ps) ∧ ps.length = t.letters.length ∧ bs.length = ps.length ∧ (∀ (i c : Nat) (y : V) (x : Bool), t.letters[i]? = some c → ps[i]? = some y → bs[i]? = some x → HFQ K H n c y x) ∧ bs.all id = b) ∨
      (∃ c, Ty K H v c ∧ c ≠ "tuple" ∧ b = false) ∨ (∃ a k, v = .ref a ∧ SqT K H a [.str "hole", .int k] ∧ b = false) := by
    rcases hq with ⟨t, ht, hl, rfl⟩ | h | h | ⟨a, rfl, hS, rfl⟩
    · obtain ⟨a, ps, rfl, hS, hp⟩ := tm_tup ht
      have e1 : ps.length = t.letters.length := by rw [letters_len]; exact dpA_len hp
      refine .inl ⟨a, t, ps, List.replicate ps.length true, rfl, hS, e1, by simp, fun i c y x hc hy hx => ?_, by simp⟩
      rw [List.getElem?_replicate] at hx
      split at hx
      · cases hx
        exact parts_ok hl hp hc hy
      · cases hx
    · exact .inr (.inl h)
    · exact .inr (.inr h)
    · refine .inl ⟨a, .lf (.at 0), [.int (-1)], [false], rfl, hS, rfl, rfl, fun i c y x hc hy hx => ?_, rfl⟩
      match i, hc, hy, hx with
      | 0, hc, hy, hx =>
        cases hc; cases hy; cases hx
        exact .inl ⟨rfl, _, rfl, rfl⟩
  clear hq
  rcases hq' with ⟨a, t, ps, bs, rfl, hS, hl, hb, hp, ha⟩ | ⟨c, ty, hc, rfl⟩ | ⟨a, k', rfl, hS, rfl⟩
  · obtain ⟨u, hu⟩ := X.has t
    have h3 := letters_le t
    refine ⟨_, rfl, _, "tuple", "tuple", rfl, by decide, ty_tup hS, true, rfl, ?_⟩
    refine ⟨_, rfl, _, _, rfl, .inr ⟨_, hS, rfl⟩, rfl, _, rfl, ?_⟩
    refine iF (int_ne (by rw [List.length_cons]; omega)) ?_
    refine ⟨_, rfl, _, _, _, _, rfl, rfl, hS, atI0, _, "str", "str", rfl, by decide, ty_str K H _, true, rfl, ?_⟩
    refine ⟨_, rfl, _, _, _, _, rfl, rfl, hS, atI0, _, _, rfl, rfl, hu, _, rfl, iteF ?_⟩
    refine ⟨_, rfl, _, _, _, _, rfl, rfl, hS, atI0, _, _, _, rfl, rfl, X.form t, ?_⟩
    refine ⟨_, rfl, _, _, rfl, .inr ⟨_, hS, rfl⟩, _, rfl, _, _, rfl, ⟨by rw [form_len]; exact len_small (by omega), rfl⟩, _, _, rfl, rfl, rfl, _, rfl, ?_⟩
    refine niT (int_eq (by rw [form_len, List.length_cons, hl]; rfl)) ?_
    refine ⟨_, rfl, _, rfl, _, rfl, ?_⟩
    refine sl_one hS fun p hp2 => ?_
    have g0 : Same H (upd H p (.tup ps)) := same_new hp2 _
    refine ⟨_, _, ps, rfl, SqT.of upd_same, fun D hD => lc_it (walk_st (n := ps.length) (ys := ps) (by rw [show t.form.cps.size = t.form.length from rfl, form_len, hl]; omega)) (Lc D fun i acc H' => Same (upd H p (.tup ps)) H' ∧ acc = (bs.take i).map V.bl) (lc_start ⟨same_new hD _, rfl⟩) (fun i H' _ p => ?_) (fun i x H1 H2 hi p y => ?_) (fun H' p => ?_)⟩
    · obtain ⟨acc, e, _, g, _⟩ := p
      exact same_tup g (SqT.of upd_same)
    · obtain ⟨acc, e, hl', g, rfl⟩ := p
      obtain ⟨T', c, z, rfl, hT, rfl, hc, hz⟩ := y
      have hc' := form_at hc
      have hbi : i < bs.length := by omega
      have hx : bs[i]? = some bs[i] := List.getElem?_eq_getElem hbi
      refine ⟨_, _, rfl, SqT.of upd_same, rfl, _, _, rfl, _, _, rfl, rfl, rfl, yT ⟨_, rfl, _, rfl, c, z, bs[i], rfl, hfq_same (g0.trans (g.trans (same_new hT _))) (hp i c z _ hc' hz hx), fun H3 g3 => ?_⟩⟩
      have e3 := g3 D _ (same_new hT _ D _ e)
      refine lc_put e3 hl' (small1000 (by omega)) ⟨same_own (g.trans ((same_new hT _).trans g3)) hD _, ?_⟩
      rw [List.take_succ, hx, List.map_append]
      rfl
    · obtain ⟨acc, e, hl', g, rfl⟩ := p
      refine ⟨_, _, rfl, SqL.of e, ?_⟩
      rw [← hb, List.take_length, ha]
      exact q H' (g0.trans g)
  · refine ⟨_, rfl, _, "tuple", c, rfl, by decide, ty, false, by rw [isB_ne hc (by decide)], ?_⟩
    exact q H (Same.refl H)
  · refine ⟨_, rfl, _, "tuple", "tuple", rfl, by decide, ty_tup hS, true, rfl, ?_⟩
    refine ⟨_, rfl, _, _, rfl, .inr ⟨_, hS, rfl⟩, rfl, _, rfl, ?_⟩
    refine iF (int_ne (by simp)) ?_
    refine ⟨_, rfl, _, _, _, _, rfl, rfl, hS, atI0, _, "str", "str", rfl, by decide, ty_str K H _, true, rfl, ?_⟩
    exact ⟨_, rfl, _, _, _, _, rfl, rfl, hS, atI0, _, _, rfl, rfl, X.hole, _, rfl, iteT (q H (Same.refl H))⟩
theorem c_is_term0 (T : Tx w K mg) : Cal P w K mg base 1 "is_term" (spTerm K 0) [] := by
  obtain ⟨fd, F⟩ := T.d_is_term
  have no : ∀ vs H Q E, ¬ spTerm K 0 vs H Q E := fun vs H Q E h => by
    obtain ⟨h, _⟩ := h
    omega
  refine cal_of F (ps := P_is_term) ⟨fun vs H Q E h => absurd h (no vs H Q E), fun A outer s H args us vs Q E _ _ _ _ h => absurd h (no vs H Q E)⟩ T.g_is_term
    fun _ _ _ _ _ _ us hl => match us, hl with | [_], _ => rfl
theorem c_is_term (T : Tx w K mg) : ∀ n : Nat, Cal P w K mg base (2 * n + 1) "is_term" (spTerm K n) []
  | 0 => c_is_term0 T
  | n + 1 => c_is_term_step T (c_has_form T (by omega) (c_is_term T n))
/-! ### is_spot -/
/-- whether a value is a spot: a tuple of numbers; or no tuple; or a tuple with something else -/
def SpotQ (K : PySem.W.Frag) (H : Hp) (v : V) (b : Bool) : Prop := (∃ (a : Addr) (xs : List V) (bs : List Bool), v = .ref a ∧ SqT K H a xs ∧ xs.length ≤ 100 ∧ bs.length = xs.length ∧ (∀ (i : Nat) (y : V) (x : Bool), xs[i]? = some y → bs[i]? = some x → NumQ K H y (fun i => decide (0 ≤ i)) x) ∧ b = bs.all id) ∨ ∃ c, Ty K H v c ∧ c ≠ "tuple" ∧ b = false
def spSpot (K : PySem.W.Frag) : Sp := fun vs H Q _ => ∃ v b, vs = [v] ∧ SpotQ K H v b ∧ ∀ H', Same H H' → Q (.bl b) H'
theorem tyx_same {H H' : Hp} {v : V} {t : Value} (e : Same H H') (h : TyX K H v t) : TyX K H' v t := by
  cases h with
  | base h =>
    cases h with
    | non => exact .base .non
    | bl x => exact .base (.bl x)
    | int x => exact .base (.int x)
    | str x => exact .base (.str x)
    | flt x => exact .base (.flt x)
    | lst q => exact .base (.lst (e _ _ q))
    | frz q => exact .base (.frz (e _ _ q))
    | tup q => exact .base (.tup (e _ _ q))
    | dK q => exact .base (.dK (e _ _ q))
    | dT q => exact .base (.dT (e _ _ q))
    | ins q cl ha hn htk hm => exact .base (.ins (e _ _ q) cl ha hn htk hm)
  | byt b => exact .byt b
  | set q => exact .set (e _ _ q)
  | kList q c => exact .kList q c
  | kTuple q c => exact .kTuple q c
  | kDict q c => exact .kDict q c
  | fTuple q => exact .fTuple (e _ _ q)
  | fDict q => exact .fDict (e _ _ q)
theorem ty_same {H H' : Hp} {v : V} {c : String} (e : Same H H') (h : Ty K H v c) : Ty K H' v c := ⟨tyx_same e h.1, h.2⟩
theorem numq_same {H H' : Hp} {v : V} {p : Int → Bool} {b : Bool} (e : Same H H') (h : NumQ K H v p b) : NumQ K H' v p b := by
  rcases h with h | ⟨n, h1, h2⟩
  · exact .inl h
  · exact .inr ⟨n, ty_same e h1, h2⟩
theorem spotq_of {H : Hp} {v : V} {s : Spot} (h : SpR K H v s) (hl : s.length ≤ 100) : SpotQ K H v true := by
  obtain ⟨a, rfl, hS⟩ := sp_tup h
  refine .inl ⟨a, _, List.replicate s.length true, rfl, hS, by simpa using hl, by simp, fun i y x hy hx => ?_, by simp⟩
  rw [List.getElem?_map] at hy
  rw [List.getElem?_replicate] at hx
  cases e : s[i]? with
  | none => rw [e] at hy; cases hy
  | some m =>
    rw [e] at hy
    cases hy
    split at hx
    · cases hx
      exact .inl ⟨_, rfl, (decide_eq_true (by omega)).symm⟩
    · cases hx
abbrev N_is_spot : List Str := ["thing", "number"]
abbrev P_is_spot : List Str := ["thing"]
theorem sc_is_spot : FnScope N_is_spot P_is_spot (defScope s_is_spot) := ⟨rfl, rfl, rfl, by decide +kernel, rfl, by decide +kernel, by decide +kernel⟩
theorem c_is_spot (T : Tx w K mg) : Cal P w K mg base 2 "is_spot" (spSpot K) [] := by
  obtain ⟨fd, F⟩ := T.d_is_spot
  refine cal_of F (F.ok sc_is_spot (fun vs H Q E h => ?_) (fun cdv A outer s H vs Q E hr h => ⟨_, PSs.nox (pss_one (ps_ret (pe_and (xIs T.n_isinstance T.n_tuple b_tuple (pv 0)) (pe_one (pe_callB (cr_all rfl) rfl T.n_all b_all (pa_cons (pe_lc (own := [("number", 1)]) (g := gName 1) (tt := tYes) (by rfl) sc_is_spot.nd (pi_tup (pv 0)) (blkOk_by (N := N_is_spot) (sc := defScope s_is_spot) (by decide +kernel)) (fun _ _ _ _ _ => (pg_name (i := 1) sc_is_spot.nd rfl (Or.inl rfl))) (fun _ _ _ _ _ => pts_nil) (fun _ _ _ _ _ => (pe_c (c_is_number T) hr (by decide) rfl (pa_cons (pv 1) pa_nil)))) pa_nil)))))), ?_⟩)) T.g_is_spot
    fun _ _ _ _ _ _ us hl => match us, hl with | [_], _ => rfl
  · obtain ⟨v, b, rfl, _⟩ := h
    rfl
  obtain ⟨v, b, rfl, hq, q⟩ := h
  rcases hq with ⟨a, xs, bs, rfl, hS, h100, hb, hp, rfl⟩ | ⟨c, ty, hc, rfl⟩
  · refine ⟨_, rfl, _, "tuple", "tuple", rfl, by decide, ty_tup hS, true, rfl, iteT ?_⟩
    refine ⟨_, rfl, _, rfl, ⟨_, hS⟩, fun D hD => lc_it (walk_tup (xs := xs)) (Lc D fun i acc H' => Same H H' ∧ acc = (bs.take i).map V.bl) (lc_start ⟨same_new hD _, rfl⟩) (fun i H' _ p => ?_) (fun i x H1 H2 hi p y => ?_) (fun H' p => ?_)⟩
    · obtain ⟨acc, e, _, g, _⟩ := p
      exact same_tup g hS
    · obtain ⟨acc, e, hl', g, rfl⟩ := p
      obtain ⟨rfl, hy⟩ := y
      have hbi : i < bs.length := by omega
      have hx : bs[i]? = some bs[i] := List.getElem?_eq_getElem hbi
      refine ⟨rfl, yT ⟨_, rfl, x, bs[i], rfl, numq_same g (hp i x _ hy hx), ?_⟩⟩
      refine lc_put e hl' (small1000 (by omega)) ⟨same_own g hD _, ?_⟩
      rw [List.take_succ, hx, List.map_append]
      rfl
    · obtain ⟨acc, e, hl', g, rfl⟩ := p
      refine ⟨_, _, rfl, SqL.of e, ?_⟩
      rw [← hb, List.take_length]
      exact q H' g
  · refine ⟨_, rfl, _, "tuple", c, rfl, by decide, ty, false, by rw [isB_ne hc (by decide)], ?_⟩
    exact iteF (q H (Same.refl H))
end
end K89
namespace K89
open PySem PySem.Spec PyProof.Rows L2
open C8 (Cal pe_c)
/-! ### parts of a term -/
def Tm.withK : Tm → List Tm → Tm
  | .n2 w _ _, [x, y] => .n2 w x y
  | .n3 w _ _ _, [x, y, z] => .n3 w x y z
  | t, _ => t
theorem put_kid {t u : Tm} {k : Nat} {s : Spot} {o : Tm} (h : t.kids[k]? = some u) : t.put (k :: s) o = t.withK (t.kids.set k (u.put s o)) := by
  cases t with
  | lf l => cases h
  | n2 w x y =>
    match k, h with
    | 0, h => cases h; rfl
    | 1, h => cases h; rfl
  | n3 w x y z =>
    match k, h with
    | 0, h => cases h; rfl
    | 1, h => cases h; rfl
    | 2, h => cases h; rfl
theorem get_kid {t : Tm} {k : Nat} {s : Spot} (h : (t.get (k :: s)).isSome = true) : ∃ u, t.kids[k]? = some u ∧ (u.get s).isSome = true ∧ t.get (k :: s) = u.get s := by
  cases t with
  | lf l => cases h
  | n2 w x y =>
    match k, h with
    | 0, h => exact ⟨x, rfl, h, rfl⟩
    | 1, h => exact ⟨y, rfl, h, rfl⟩
  | n3 w x y z =>
    match k, h with
    | 0, h => exact ⟨x, rfl, h, rfl⟩
    | 1, h => exact ⟨y, rfl, h, rfl⟩
    | 2, h => exact ⟨z, rfl, h, rfl⟩
theorem kids_rest {t : Tm} (h : t.kids ≠ []) : t.rest = t.kids.map Tm.data := by
  cases t with
  | lf l => exact absurd rfl h
  | n2 w x y => rfl
  | n3 w x y z => rfl
theorem kids_le (t : Tm) : t.kids.length ≤ 3 := by
  cases t <;> simp [Tm.kids]
theorem with_data {t : Tm} {us : List Tm} (h : t.kids ≠ []) (hl : us.length = t.kids.length) : (t.withK us).data = .tuple (.str t.word :: us.map Tm.data) := by
  cases t with
  | lf l => exact absurd rfl h
  | n2 w x y =>
    match us, hl with
    | [_, _], _ => rfl
  | n3 w x y z =>
    match us, hl with
    | [_, _, _], _ => rfl
theorem t_letter (t : Tm) : (116 ∈ t.form.cps.toList) ↔ t.kids ≠ [] := by
  rw [form_cps]
  cases t with
  | lf l => cases l <;> simp [Tm.letters, Lf.letters, Tm.kids]
  | n2 w x y => simp [Tm.letters, Tm.kids]
  | n3 w x y z => simp [Tm.letters, Tm.kids]
theorem str_t : ("t" : Str) = ⟨#[116]⟩ := by decide +kernel
theorem dpA_set {K : PySem.W.Frag} {H : Hp} {v : V} {d : PyData} (h : Dp K H v d) : ∀ {vs : List V} {ds : List PyData} (k : Nat), DpAll K H vs ds → DpAll K H (vs.set k v) (ds.set k d)
  | _, _, _, .nil => .nil
  | _, _, 0, .cons _ r => .cons h r
  | _, _, k + 1, .cons q r => .cons q (dpA_set h k r)
theorem dpA_nil {K : PySem.W.Frag} {H : Hp} {vs : List V} (h : DpAll K H vs []) : vs = [] := by cases h; rfl
/-- the items of a leaf are no tuples, those of another term are -/
theorem rest_ty {K : PySem.W.Frag} {H : Hp} {t : Tm} {ps : List V} (h : DpAll K H ps t.rest) {i : Nat} {y : V} (hy : ps[i]? = some y) : ∃ c, Ty K H y c ∧ (c = "tuple" ↔ t.kids ≠ []) := by
  obtain ⟨d, hd, r⟩ := dpA_get h hy
  refine ⟨_, ty_dp r, ?_⟩
  cases t with
  | lf l =>
    simp only [Tm.kids, ne_eq, not_true_eq_false, iff_false]
    cases l with
    | «at» k => match i, hd with | 0, hd => cases hd; exact (by decide : ¬ ("int" = "tuple"))
    | kind k => match i, hd with | 0, hd => cases hd; exact (by decide : ¬ ("int" = "tuple"))
    | name k => match i, hd with | 0, hd => cases hd; exact (by decide : ¬ ("str" = "tuple"))
    | thing k => match i, hd with | 0, hd => cases hd; exact (by decide : ¬ ("str" = "tuple"))
    | maker m k =>
      match i, hd with
      | 0, hd => cases hd; exact (by decide : ¬ ("str" = "tuple"))
      | 1, hd => cases hd; exact (by decide : ¬ ("int" = "tuple"))
    | eater m k =>
      match i, hd with
      | 0, hd => cases hd; exact (by decide : ¬ ("str" = "tuple"))
      | 1, hd => cases hd; exact (by decide : ¬ ("int" = "tuple"))
  | n2 w x z =>
    have e : ∀ u : Tm, tyD u.data = "tuple" := fun u => by rw [Tm.data_eq]; rfl
    refine ⟨fun _ => by simp [Tm.kids], fun _ => ?_⟩
    match i, hd with
    | 0, hd => cases hd; exact e _
    | 1, hd => cases hd; exact e _
  | n3 w x z u =>
    have e : ∀ u : Tm, tyD u.data = "tuple" := fun u => by rw [Tm.data_eq]; rfl
    refine ⟨fun _ => by simp [Tm.kids], fun _ => ?_⟩
    match i, hd with
    | 0, hd => cases hd; exact e _
    | 1, hd => cases hd; exact e _
    | 2, hd => cases hd; exact e _
section
variable {P : Program} {w : World} {K : PySem.W.Frag} {mg : Str → Option Value} {base : Heap}
/-- a new list of a term's parts -/
def spInner (K : PySem.W.Frag) : Sp := fun vs H Q _ => ∃ v t, vs = [v] ∧ TmR K H v t ∧ ∀ p H' xs, Same H H' → H p = none → H' p = some (.lst xs) → DpAll K H' xs (t.kids.map Tm.data) → Q (.ref p) H'
abbrev N_inner : List Str := ["term"]
theorem sc_inner : FnScope N_inner N_inner (defScope s_inner) := ⟨rfl, rfl, rfl, by decide +kernel, rfl, by decide +kernel, by decide +kernel⟩
theorem c_inner (T : Tx w K mg) : Cal P w K mg base 1 "inner" (spInner K) [] := by
  obtain ⟨fd, F⟩ := T.d_inner
  have X := fx_of T
  refine cal_of F (F.ok sc_inner (fun vs H Q E h => ?_) (fun cdv A outer s H vs Q E hr h => ⟨_, PSs.nox (pss_one (ps_ret (pe_ifExp (pt_cmpR op_in_sign pe_str (pe_ix ix_kdict (gR T.g_FORMS) (pe_ix ix_tup (pv 0) pe_int (fun _ _ => rfl)) (fun _ _ => rfl)) (by rfl)) (pe_callTy call_list_of rfl T.n_list b_list (pa_cons (pe_slice sl_tupA (pv 0) (po_some pe_int) po_none) pa_nil)) (pe_lst pa_nil)))), ?_⟩)) T.g_inner
    fun _ _ _ _ _ _ us hl => match us, hl with | [_], _ => rfl
  · obtain ⟨v, t, rfl, _⟩ := h
    rfl
  · obtain ⟨v, t, rfl, ht, q⟩ := h
    obtain ⟨a, ps, rfl, hS, hp⟩ := tm_tup ht
    refine ⟨_, rfl, _, _, _, _, rfl, rfl, hS, atI0, _, _, _, rfl, rfl, X.form t, 116, _, by rw [str_t], rfl, _, rfl, ?_⟩
    by_cases hk : t.kids = []
    · refine iF (fun z => (t_letter t).mp z hk) ⟨(by show 0 ≤ sizeLine; decide), fun l hl => ?_⟩
      exact q l _ [] (same_new hl _) hl upd_same (by rw [hk]; exact .nil)
    · refine iT ((t_letter t).mpr hk) ?_
      refine ⟨_, rfl, _, rfl, ?_⟩
      refine sl_one hS fun p hp2 => ?_
      refine ⟨p, ps, rfl, .inr (SqT.of upd_same), fun l hl => ?_⟩
      have hl' : H l = none := (same_new hp2 _).free hl
      refine q l _ ps ((same_new hp2 _).trans (same_new hl _)) hl' upd_same ?_
      rw [kids_rest hk] at hp
      exact dps_same ((same_new hp2 _).trans (same_new hl _)) hp
/-! ### _law_is_hole, _law_inner -/
def spHole (K : PySem.W.Frag) : Sp := fun vs H Q _ => ∃ v t, vs = [v] ∧ TmR K H v t ∧ Q (.bl false) H
theorem word_hole (t : Tm) : t.word ≠ "hole" := by
  cases t with
  | lf l => cases l <;> simp only [Tm.word, Lf.word] <;> decide
  | n2 w x y => cases w <;> simp only [Tm.word, B2.str] <;> decide
  | n3 w x y z => cases w <;> simp only [Tm.word, B3.str] <;> decide
abbrev N_law_is_hole : List Str := ["pattern"]
theorem sc_law_is_hole : FnScope N_law_is_hole N_law_is_hole (defScope s_law_is_hole) := ⟨rfl, rfl, rfl, by decide +kernel, rfl, by decide +kernel, by decide +kernel⟩
theorem c_law_is_hole (T : Tx w K mg) : Cal P w K mg base 1 "_law_is_hole" (spHole K) [] := by
  obtain ⟨fd, F⟩ := T.d_law_is_hole
  refine cal_of F (F.ok sc_law_is_hole (fun vs H Q E h => ?_) (fun cdv A outer s H vs Q E hr h => ⟨_, PSs.nox (pss_one (ps_ret (pe_cmpR op_eq (pe_ix ix_tup (pv 0) pe_int (fun _ _ => rfl)) pe_str (nomark _)))), ?_⟩)) T.g_law_is_hole
    fun _ _ _ _ _ _ us hl => match us, hl with | [_], _ => rfl
  · obtain ⟨v, t, rfl, _⟩ := h
    rfl
  · obtain ⟨v, t, rfl, ht, q⟩ := h
    obtain ⟨a, ps, rfl, hS, hp⟩ := tm_tup ht
    exact ⟨_, rfl, _, _, _, _, rfl, rfl, hS, atI0, rfl, qF (fun e => word_hole t (V.str.inj e)) q⟩
abbrev N_law_inner : List Str := ["pattern", "part"]
abbrev P_law_inner : List Str := ["pattern"]
theorem sc_law_inner : FnScope N_law_inner P_law_inner (defScope s_law_inner) := ⟨rfl, rfl, rfl, by decide +kernel, rfl, by decide +kernel, by decide +kernel⟩
theorem c_law_inner (T : Tx w K mg) : Cal P w K mg base 2 "_law_inner" (spInner K) [] := by
  obtain ⟨fd, F⟩ := T.d_law_inner
  refine cal_of F (F.ok sc_law_inner (fun vs H Q E h => ?_) (fun cdv A outer s H vs Q E hr h => ⟨_, PSs.nox (pss_one (ps_ret (pe_ifExp (pt_val (pe_c (c_law_is_hole T) hr (by decide) rfl (pa_cons (pv 0) pa_nil))) (pe_lst pa_nil) (pe_lc (own := [("part", 1)]) (g := gName 1) (tt := tB (tCB (rIs K) (tCons (tVar 1) (tCons (tC (.ty "tuple")) tNil)))) (by rfl) sc_law_inner.nd (pi_tup (pe_slice sl_tupA (pv 0) (po_some pe_int) po_none)) (blkOk_by (N := N_law_inner) (sc := defScope s_law_inner) (by decide +kernel)) (fun _ _ _ _ _ => (pg_name (i := 1) sc_law_inner.nd rfl (Or.inl rfl))) (fun _ _ _ _ _ => (pts_one (pt_val (xIs T.n_isinstance T.n_tuple b_tuple (pv 1))))) (fun _ _ _ _ _ => (pv 1)))))), ?_⟩)) T.g_law_inner
    fun _ _ _ _ _ _ us hl => match us, hl with | [_], _ => rfl
  · obtain ⟨v, t, rfl, _⟩ := h
    rfl
  · obtain ⟨v, t, rfl, ht, q⟩ := h
    have ht' := ht
    obtain ⟨a, ps, rfl, hS, hp⟩ := tm_tup ht
    have hle : ps.length ≤ 3 := by rw [dpA_len hp, ← letters_len]; exact letters_le t
    refine ⟨_, rfl, _, t, rfl, ht', false, rfl, iteF ?_⟩
    refine ⟨_, rfl, _, rfl, ?_⟩
    refine sl_one hS fun p hp2 => ?_
    have g0 : Same H (upd H p (.tup ps)) := same_new hp2 _
    refine ⟨_, rfl, ⟨_, SqT.of upd_same⟩, fun D hD => lc_it (walk_tup (xs := ps)) (Lc D fun i acc H' => Same (upd H p (.tup ps)) H' ∧ acc = if t.kids = [] then [] else ps.take i) (lc_start ⟨same_new hD _, by simp⟩) (fun i H' _ p => ?_) (fun i x H1 H2 hi p y => ?_) (fun H' p => ?_)⟩
    · obtain ⟨acc, e, _, g, _⟩ := p
      exact same_tup g (SqT.of upd_same)
    · obtain ⟨acc, e, hl', g, ha⟩ := p
      obtain ⟨rfl, hy⟩ := y
      obtain ⟨c, ty, hc⟩ := rest_ty hp hy
      refine ⟨rfl, _, rfl, _, "tuple", c, rfl, by decide, ty_same (g0.trans g) ty, isB c "tuple", rfl, ?_⟩
      by_cases hk : t.kids = []
      · rw [if_pos hk] at ha
        have hc' : c ≠ "tuple" := fun z => hc.mp z hk
        rw [isB_ne hc' (by decide)]
        exact iteF ⟨acc, e, Nat.le_succ_of_le hl', g, by rw [if_pos hk]; exact ha⟩
      · rw [if_neg hk] at ha
        have hc' : c = "tuple" := hc.mpr hk
        subst hc'
        subst ha
        refine iteT ⟨_, rfl, lc_put e hl' (small1000 (by omega)) ⟨same_own g hD _, ?_⟩⟩
        rw [if_neg hk, List.take_succ, hy]
        rfl
    · obtain ⟨acc, e, hl', g, ha⟩ := p
      refine q D H' acc (g0.trans g) (g0.free hD) e ?_
      by_cases hk : t.kids = []
      · rw [if_pos hk] at ha
        rw [hk, ha]
        exact .nil
      · rw [if_neg hk, List.take_length] at ha
        rw [ha, ← kids_rest hk]
        exact dps_same (g0.trans g) hp
/-! ### with_parts, _law_with -/
/-- the same word with these parts -/
def spWith (K : PySem.W.Frag) : Sp := fun vs H Q _ => ∃ v l t xs us, vs = [v, .ref l] ∧ TmR K H v t ∧ H l = some (.lst xs) ∧ DpAll K H xs (us.map Tm.data) ∧ us.length = t.kids.length ∧ t.kids ≠ [] ∧ (∀ u ∈ us, u.ht ≤ 60) ∧ ∀ r H', Same H H' → TmR K H' r (t.withK us) → Q r H'
abbrev N_with_parts : List Str := ["term", "some"]
theorem sc_with_parts : FnScope N_with_parts N_with_parts (defScope s_with_parts) := ⟨rfl, rfl, rfl, by decide +kernel, rfl, by decide +kernel, by decide +kernel⟩
theorem c_with_parts (T : Tx w K mg) : Cal P w K mg base 1 "with_parts" (spWith K) [] := by
  obtain ⟨fd, F⟩ := T.d_with_parts
  refine cal_of F (F.ok sc_with_parts (fun vs H Q E h => ?_) (fun cdv A outer s H vs Q E hr h => ⟨_, PSs.nox (pss_one (ps_ret (pe_op op_catA (pe_tup (pa_cons (pe_ix ix_tup (pv 0) pe_int (fun _ _ => rfl)) pa_nil)) (pe_callTy call_tuple_of rfl T.n_tuple b_tuple (pa_cons (pv 1) pa_nil))))), ?_⟩)) T.g_with_parts
    fun _ _ _ _ _ _ us hl => match us, hl with | [_, _], _ => rfl
  · obtain ⟨v, l, t, xs, us, rfl, _⟩ := h
    rfl
  · obtain ⟨v, l, t, xs, us, rfl, ht, hL, hx, hu, hk, _, q⟩ := h
    obtain ⟨a, ps, rfl, hS, hp⟩ := tm_tup ht
    have hxl : xs.length = us.length := by rw [dpA_len hx, List.length_map]
    have h3 := kids_le t
    have hne : xs ≠ [] := fun e => hk (List.eq_nil_of_length_eq_zero (by rw [← hu, ← hxl, e]; rfl))
    refine ⟨_, rfl, _, _, _, _, rfl, rfl, hS, atI0, (by show 1 ≤ sizeLine; decide), fun p hp2 => ?_⟩
    have g1 : Same H (upd H p (.tup [.str t.word])) := same_new hp2 _
    refine ⟨_, rfl, l, xs, rfl, .inl ⟨SqL.of (g1 _ _ hL), fun r hr2 => ?_⟩⟩
    have g2 := g1.trans (same_new hr2 (.tup xs))
    refine ⟨p, r, _, xs, rfl, rfl, SqT.of (same_new hr2 _ _ _ upd_same), SqT.of upd_same, ?_, fun z => absurd z (List.cons_ne_nil _ _), fun _ z => absurd z hne, fun _ _ b hb => ?_⟩
    · show 1 + xs.length ≤ sizeLine
      exact len_small (by omega)
    · have g3 := g2.trans (same_new hb (.tup ([V.str t.word] ++ xs)))
      refine q _ _ g3 ?_
      unfold TmR
      rw [with_data hk hu]
      exact .tup (SqT.of upd_same) (.cons (.str _) (dps_same g3 hx))
theorem us_nil {us : List Tm} : us.map Tm.data = [] ↔ us = [] := by cases us <;> simp
abbrev N_law_with : List Str := ["pattern", "some"]
theorem sc_law_with : FnScope N_law_with N_law_with (defScope s_law_with) := ⟨rfl, rfl, rfl, by decide +kernel, rfl, by decide +kernel, by decide +kernel⟩
theorem sl_head {K : PySem.W.Frag} {Q : VK} {H : Hp} {a : Addr} {x y : V} {ps : List V} (h : SqT K H a (x :: y :: ps)) (q : ∀ p, H p = none → Q (.ref p) (upd H p (.tup [x]))) : rSlA K (.ref a) none (some 1) H Q := by
  have e : HT.sIx (x :: y :: ps).length (x :: y :: ps).length (some 1) = 1 := by
    show HT.sIx (x :: y :: ps).length _ (some ((1 : Nat) : Int)) = 1
    rw [HT.sIx_nat, List.length_cons]
    omega
  refine ⟨a, _, rfl, h, fun z => absurd z.2 (by rw [e]; simp), fun _ p hp => ?_⟩
  have e2 : cutV (x :: y :: ps) none (some 1) = [x] := by
    unfold cutV
    rw [e, HT.sIx_none]
    rfl
  rw [e2]
  exact q p hp
theorem c_law_with (T : Tx w K mg) : Cal P w K mg base 1 "_law_with" (spWith K) [] := by
  obtain ⟨fd, F⟩ := T.d_law_with
  refine cal_of F (F.ok sc_law_with (fun vs H Q E h => ?_) (fun cdv A outer s H vs Q E hr h => ⟨_, PSs.nox (pss_one (ps_ret (pe_ifExp (pt_cmpR (op_neD hr.units) (pv 1) (pe_lst pa_nil) (nomark _)) (pe_op op_catA (pe_slice sl_tupA (pv 0) po_none (po_some pe_int)) (pe_callTy call_tuple_of rfl T.n_tuple b_tuple (pa_cons (pv 1) pa_nil))) (pv 0)))), ?_⟩)) T.g_law_with
    fun _ _ _ _ _ _ us hl => match us, hl with | [_, _], _ => rfl
  · obtain ⟨v, l, t, xs, us, rfl, _⟩ := h
    rfl
  · obtain ⟨v, l, t, xs, us, rfl, ht, hL, hx, hu, hk, hh, q⟩ := h
    obtain ⟨a, ps, rfl, hS, hp⟩ := tm_tup ht
    have hxl : xs.length = us.length := by rw [dpA_len hx, List.length_map]
    have h3 := kids_le t
    have hne : xs ≠ [] := fun e => hk (List.eq_nil_of_length_eq_zero (by rw [← hu, ← hxl, e]; rfl))
    have hun : us ≠ [] := fun e => hk (List.eq_nil_of_length_eq_zero (by rw [← hu, e]; rfl))
    have hpl : ps.length = t.kids.length := by rw [dpA_len hp, kids_rest hk, List.length_map]
    obtain ⟨y, pr, rfl⟩ : ∃ y pr, ps = y :: pr := by
      cases ps with
      | nil => exact absurd (List.eq_nil_of_length_eq_zero hpl.symm) hk
      | cons y pr => exact ⟨y, pr, rfl⟩
    refine ⟨_, rfl, (by show 0 ≤ sizeLine; decide), fun n hn => ?_⟩
    have g0 : Same H (upd H n (.lst [])) := same_new hn _
    refine ⟨.list (us.map Tm.data), .list [], .lst (SqL.of (g0 _ _ hL)) (dps_same g0 hx), .lst (SqL.of upd_same) .nil, shaped_tms fun u hu2 => Nat.le_trans (hh u hu2) (by decide), shaped_nil, _, rfl, ?_⟩
    rw [eqv_list_nil]
    refine niF (fun z => hun (us_nil.mp z)) ?_
    refine ⟨_, rfl, _, rfl, ?_⟩
    refine sl_head (same_tup g0 hS) fun p hp2 => ?_
    have g1 := g0.trans (same_new hp2 (.tup [.str t.word]))
    refine ⟨_, rfl, l, xs, rfl, .inl ⟨SqL.of (g1 _ _ hL), fun r hr2 => ?_⟩⟩
    have g2 := g1.trans (same_new hr2 (.tup xs))
    refine ⟨p, r, _, xs, rfl, rfl, SqT.of (same_new hr2 _ _ _ upd_same), SqT.of upd_same, ?_, fun z => absurd z (List.cons_ne_nil _ _), fun _ z => absurd z hne, fun _ _ b hb => ?_⟩
    · show 1 + xs.length ≤ sizeLine
      exact len_small (by omega)
    · have g3 := g2.trans (same_new hb (.tup ([V.str t.word] ++ xs)))
      refine q _ _ g3 ?_
      unfold TmR
      rw [with_data hk hu]
      exact .tup (SqT.of upd_same) (.cons (.str _) (dps_same g3 hx))
end
end K89
namespace K89
open PySem PySem.Spec PyProof.Rows L2
open C8 (Cal pe_c)
section
variable {P : Program} {w : World} {K : PySem.W.Frag} {mg : Str → Option Value} {base : Heap}
/-- a part put at a spot; spots shorter than n -/
def spPut (K : PySem.W.Frag) (n : Nat) : Sp := fun vs H Q _ => ∃ v sv ov t s o, vs = [v, sv, ov] ∧ TmR K H v t ∧ SpR K H sv s ∧ TmR K H ov o ∧ (t.get s).isSome = true ∧ s.length < n ∧ t.ht ≤ 20 ∧ o.ht ≤ 20 ∧ ∀ r H', Same H H' → TmR K H' r (t.put s o) → Q r H'
theorem sp_cons {H : Hp} {v : V} {k : Nat} {s : Spot} (h : SpR K H v (k :: s)) : ∃ a, v = .ref a ∧ SqT K H a (.int (k : Nat) :: s.map fun n : Nat => V.int (n : Int)) := by
  obtain ⟨a, rfl, hS⟩ := sp_tup h
  exact ⟨a, rfl, hS⟩
theorem map_set_data (us : List Tm) (k : Nat) (u : Tm) : (us.set k u).map Tm.data = (us.map Tm.data).set k u.data := by rw [List.map_set]
theorem kid_get {vs : List V} {H : Hp} {us : List Tm} {k : Nat} {u : Tm} (h : DpAll K H vs (us.map Tm.data)) (hk : us[k]? = some u) : ∃ y, vs[k]? = some y ∧ TmR K H y u := by
  have hl := dpA_len h
  rw [List.length_map] at hl
  have hlt : k < us.length := (List.getElem?_eq_some_iff.mp hk).1
  have hv : vs[k]? = some (vs[k]'(by omega)) := List.getElem?_eq_getElem (by omega)
  obtain ⟨d, h1, h2⟩ := dpA_get h hv
  rw [List.getElem?_map, hk] at h1
  cases h1
  exact ⟨_, hv, h2⟩
theorem ixN_lt {n k : Nat} (h : k < n) : ixN n (k : Int) = some k := by
  unfold ixN
  rw [if_pos (by omega), if_pos (by omega)]
  simp
theorem set_ht {t : Tm} {k : Nat} {u : Tm} {n : Nat} (ht : t.ht ≤ n) (hu : u.ht ≤ n) : ∀ q ∈ t.kids.set k u, q.ht ≤ n := fun q hq => by
  rcases List.mem_or_eq_of_mem_set hq with h | rfl
  · have := Tm.ht_kid h
    omega
  · exact hu
/-! ### put_at -/
abbrev N_put_at : List Str := ["term", "spot", "other", "some"]
abbrev P_put_at : List Str := ["term", "spot", "other"]
theorem sc_put_at : FnScope N_put_at P_put_at (defScope s_put_at) := ⟨rfl, rfl, rfl, by decide +kernel, rfl, by decide +kernel, by decide +kernel⟩
theorem c_put_at_step (T : Tx w K mg) {n k : Nat} (hk : 2 ≤ k) (c_put_at : Cal P w K mg base k "put_at" (spPut K n) []) : Cal P w K mg base (k + 1) "put_at" (spPut K (n + 1)) [] := by
  obtain ⟨fd, F⟩ := T.d_put_at
  refine cal_of F (F.ok sc_put_at (fun vs H Q E h => ?_) (fun cdv A outer s H vs Q E hr h => ⟨_, PSs.nox (pss_cons (ps_if (pt_cmpR (op_eqD hr.units) (pv 1) (pe_tup pa_nil) (nomark _)) (pss_one (ps_ret (pv 2))) pss_nil)
    (pss_cons (ps_set (i := 3) sc_put_at.nd rfl (Or.inl rfl) (pe_c (c_inner T) hr (by omega) rfl (pa_cons (pv 0) pa_nil)))
    (pss_cons (ps_asg (pe_c c_put_at hr (Nat.le_refl _) rfl (pa_cons (pe_ix ix_list (pv 3) (pe_ix ix_tup (pv 1) pe_int (fun _ _ => rfl)) (fun _ _ => rfl)) (pa_cons (pe_slice sl_tupA (pv 1) (po_some pe_int) po_none) (pa_cons (pv 2) pa_nil)))) (pg_sub (pv 3) (pe_ix ix_tup (pv 1) pe_int (fun _ _ => rfl)) set_list))
    (pss_one (ps_ret (pe_c (c_with_parts T) hr (by omega) rfl (pa_cons (pv 0) (pa_cons (pv 3) pa_nil)))))))), ?_⟩)) T.g_put_at
    fun _ _ _ _ _ _ us hl => match us, hl with | [_, _, _], _ => rfl
  · obtain ⟨v, sv, ov, t, s, o, rfl, _⟩ := h
    rfl
  · obtain ⟨v, sv, ov, t, s, o, rfl, ht, hs, ho, hg, hn, h20, o20, q⟩ := h
    refine ⟨_, rfl, (by show 0 ≤ sizeLine; decide), fun e he => ?_⟩
    have g0 : Same H (upd H e (.tup [])) := same_new he _
    refine ⟨spD s, spD [], dp_same g0 hs, .tup (SqT.of upd_same) .nil, shaped_sp _, shaped_sp _, _, rfl, ?_⟩
    rw [eqv_sp]
    cases s with
    | nil =>
      refine iT rfl ⟨_, rfl, q ov _ g0 ?_⟩
      rw [put_nil]
      exact dp_same g0 ho
    | cons k s =>
      refine iF (List.cons_ne_nil _ _) ?_
      obtain ⟨u, hu, hg2, _⟩ := get_kid hg
      have hkl : k < t.kids.length := (List.getElem?_eq_some_iff.mp hu).1
      have hne : t.kids ≠ [] := fun e => by rw [e] at hkl; exact absurd hkl (Nat.not_lt_zero _)
      have hu20 : u.ht + 1 ≤ t.ht := Tm.ht_kid (List.mem_of_getElem? hu)
      refine ⟨_, rfl, v, t, rfl, dp_same g0 ht, fun l H1 xs g1 hl1 hL hx => ?_⟩
      obtain ⟨y, hy, hyu⟩ := kid_get hx hu
      have g01 := g0.trans g1
      obtain ⟨b, rfl, hS⟩ := sp_cons (dp_same g01 hs)
      refine ⟨_, rfl, _, rfl, _, _, _, _, rfl, rfl, hS, atI0, l, xs, _, y, rfl, rfl, SqL.of hL, atI_nat hy, _, rfl, _, rfl, ?_⟩
      refine sl_one hS fun p hp => ?_
      have g2 := g01.trans (same_new hp (.tup (s.map fun n : Nat => V.int (n : Int))))
      have sr : Same H1 (upd H1 p (.tup (s.map fun n : Nat => V.int (n : Int)))) := same_new hp _
      refine ⟨_, rfl, y, .ref p, ov, u, s, o, rfl, dp_same sr hyu, sp_of (SqT.of upd_same), dp_same g2 ho, hg2, by simp only [List.length_cons] at hn; omega, by omega, o20, fun r H2 g3 hr2 => ?_⟩
      have hL2 : H2 l = some (.lst xs) := g3 _ _ (sr _ _ hL)
      have hxl : xs.length = t.kids.length := by rw [dpA_len hx, List.length_map]
      refine ⟨_, rfl, _, rfl, _, _, _, _, rfl, rfl, same_tup (sr.trans g3) hS, atI0, l, xs, _, k, rfl, rfl, hL2, ixN_lt (by omega), ?_⟩
      have nl : H l = none := g0.free hl1
      have g4 : Same H (upd H2 l (.lst (xs.set k r))) := same_own (g2.trans g3) nl _
      have mo : Mo l H2 (upd H2 l (.lst (xs.set k r))) := Mo.upd
      have hput : (t.put (k :: s) o) = t.withK (t.kids.set k (u.put s o)) := put_kid hu
      have hph : (u.put s o).ht ≤ 60 := by
        have e1 := put_ht u s o
        have e2 : s.length < 20 := by
          cases eg : u.get s with
          | none => rw [eg] at hg2; cases hg2
          | some z =>
            have := get_ht u s z eg
            omega
        omega
      refine ⟨_, rfl, _, rfl, _, l, t, _, t.kids.set k (u.put s o), rfl, dp_same g4 ht, upd_same, ?_, by rw [List.length_set], hne, set_ht (by omega) hph, fun z H3 g5 hz => ?_⟩
      · rw [map_set_data]
        have f1 : flatTs (t.kids.map Tm.data) = true := by
          have : ∀ l : List Tm, flatTs (l.map Tm.data) = true := by
            intro l
            induction l with
            | nil => rfl
            | cons a r ih => simp [flatTs, flat_tm, ih]
          exact this _
        exact dpA_set (dp_tk (mo.tk hL2) (flat_tm _) hr2) k (dps_tk (mo.tk hL2) f1 (dps_same (sr.trans g3) hx))
      · rw [← hput] at hz
        exact q z H3 (g4.trans g5) hz
theorem c_put_at (T : Tx w K mg) : ∀ n : Nat, Cal P w K mg base (n + 2) "put_at" (spPut K n) []
  | 0 => by
    obtain ⟨fd, F⟩ := T.d_put_at
    have no : ∀ vs H Q E, ¬ spPut K 0 vs H Q E := fun vs H Q E h => by
      obtain ⟨v, sv, ov, t, s, o, _, _, _, _, _, hn, _⟩ := h
      omega
    refine cal_of F (ps := P_put_at) ⟨fun vs H Q E h => absurd h (no vs H Q E), fun A outer s H args us vs Q E _ _ _ _ h => absurd h (no vs H Q E)⟩ T.g_put_at
      fun _ _ _ _ _ _ us hl => match us, hl with | [_, _, _], _ => rfl
  | n + 1 => c_put_at_step T (by omega) (c_put_at T n)
/-! ### _law_put -/
abbrev N_law_put : List Str := ["term", "spot", "other", "parts"]
abbrev P_law_put : List Str := ["term", "spot", "other"]
theorem sc_law_put : FnScope N_law_put P_law_put (defScope s_law_put) := ⟨rfl, rfl, rfl, by decide +kernel, rfl, by decide +kernel, by decide +kernel⟩
theorem c_law_put_step (T : Tx w K mg) {n k : Nat} (hk : 2 ≤ k) (c_law_put : Cal P w K mg base k "_law_put" (spPut K n) []) : Cal P w K mg base (k + 1) "_law_put" (spPut K (n + 1)) [] := by
  obtain ⟨fd, F⟩ := T.d_law_put
  refine cal_of F (F.ok sc_law_put (fun vs H Q E h => ?_) (fun cdv A outer s H vs Q E hr h => ⟨_, PSs.nox (pss_cons (ps_if (pt_cmpR (op_eqD hr.units) (pv 1) (pe_tup pa_nil) (nomark _)) (pss_one (ps_ret (pv 2))) pss_nil)
    (pss_cons (ps_set (i := 3) sc_law_put.nd rfl (Or.inl rfl) (pe_c (c_law_inner T) hr (by omega) rfl (pa_cons (pv 0) pa_nil)))
    (pss_cons (ps_asg (pe_c c_law_put hr (Nat.le_refl _) rfl (pa_cons (pe_ix ix_list (pv 3) (pe_ix ix_tup (pv 1) pe_int (fun _ _ => rfl)) (fun _ _ => rfl)) (pa_cons (pe_slice sl_tupA (pv 1) (po_some pe_int) po_none) (pa_cons (pv 2) pa_nil)))) (pg_sub (pv 3) (pe_ix ix_tup (pv 1) pe_int (fun _ _ => rfl)) set_list))
    (pss_one (ps_ret (pe_c (c_law_with T) hr (by omega) rfl (pa_cons (pv 0) (pa_cons (pv 3) pa_nil)))))))), ?_⟩)) T.g_law_put
    fun _ _ _ _ _ _ us hl => match us, hl with | [_, _, _], _ => rfl
  · obtain ⟨v, sv, ov, t, s, o, rfl, _⟩ := h
    rfl
  · obtain ⟨v, sv, ov, t, s, o, rfl, ht, hs, ho, hg, hn, h20, o20, q⟩ := h
    refine ⟨_, rfl, (by show 0 ≤ sizeLine; decide), fun e he => ?_⟩
    have g0 : Same H (upd H e (.tup [])) := same_new he _
    refine ⟨spD s, spD [], dp_same g0 hs, .tup (SqT.of upd_same) .nil, shaped_sp _, shaped_sp _, _, rfl, ?_⟩
    rw [eqv_sp]
    cases s with
    | nil =>
      refine iT rfl ⟨_, rfl, q ov _ g0 ?_⟩
      rw [put_nil]
      exact dp_same g0 ho
    | cons k s =>
      refine iF (List.cons_ne_nil _ _) ?_
      obtain ⟨u, hu, hg2, _⟩ := get_kid hg
      have hkl : k < t.kids.length := (List.getElem?_eq_some_iff.mp hu).1
      have hne : t.kids ≠ [] := fun e => by rw [e] at hkl; exact absurd hkl (Nat.not_lt_zero _)
      have hu20 : u.ht + 1 ≤ t.ht := Tm.ht_kid (List.mem_of_getElem? hu)
      refine ⟨_, rfl, v, t, rfl, dp_same g0 ht, fun l H1 xs g1 hl1 hL hx => ?_⟩
      obtain ⟨y, hy, hyu⟩ := kid_get hx hu
      have g01 := g0.trans g1
      obtain ⟨b, rfl, hS⟩ := sp_cons (dp_same g01 hs)
      refine ⟨_, rfl, _, rfl, _, _, _, _, rfl, rfl, hS, atI0, l, xs, _, y, rfl, rfl, SqL.of hL, atI_nat hy, _, rfl, _, rfl, ?_⟩
      refine sl_one hS fun p hp => ?_
      have g2 := g01.trans (same_new hp (.tup (s.map fun n : Nat => V.int (n : Int))))
      have sr : Same H1 (upd H1 p (.tup (s.map fun n : Nat => V.int (n : Int)))) := same_new hp _
      refine ⟨_, rfl, y, .ref p, ov, u, s, o, rfl, dp_same sr hyu, sp_of (SqT.of upd_same), dp_same g2 ho, hg2, by simp only [List.length_cons] at hn; omega, by omega, o20, fun r H2 g3 hr2 => ?_⟩
      have hL2 : H2 l = some (.lst xs) := g3 _ _ (sr _ _ hL)
      have hxl : xs.length = t.kids.length := by rw [dpA_len hx, List.length_map]
      refine ⟨_, rfl, _, rfl, _, _, _, _, rfl, rfl, same_tup (sr.trans g3) hS, atI0, l, xs, _, k, rfl, rfl, hL2, ixN_lt (by omega), ?_⟩
      have nl : H l = none := g0.free hl1
      have g4 : Same H (upd H2 l (.lst (xs.set k r))) := same_own (g2.trans g3) nl _
      have mo : Mo l H2 (upd H2 l (.lst (xs.set k r))) := Mo.upd
      have hput : (t.put (k :: s) o) = t.withK (t.kids.set k (u.put s o)) := put_kid hu
      have hph : (u.put s o).ht ≤ 60 := by
        have e1 := put_ht u s o
        have e2 : s.length < 20 := by
          cases eg : u.get s with
          | none => rw [eg] at hg2; cases hg2
          | some z =>
            have := get_ht u s z eg
            omega
        omega
      refine ⟨_, rfl, _, rfl, _, l, t, _, t.kids.set k (u.put s o), rfl, dp_same g4 ht, upd_same, ?_, by rw [List.length_set], hne, set_ht (by omega) hph, fun z H3 g5 hz => ?_⟩
      · rw [map_set_data]
        have f1 : flatTs (t.kids.map Tm.data) = true := by
          have : ∀ l : List Tm, flatTs (l.map Tm.data) = true := by
            intro l
            induction l with
            | nil => rfl
            | cons a r ih => simp [flatTs, flat_tm, ih]
          exact this _
        exact dpA_set (dp_tk (mo.tk hL2) (flat_tm _) hr2) k (dps_tk (mo.tk hL2) f1 (dps_same (sr.trans g3) hx))
      · rw [← hput] at hz
        exact q z H3 (g4.trans g5) hz
theorem c_law_put (T : Tx w K mg) : ∀ n : Nat, Cal P w K mg base (n + 2) "_law_put" (spPut K n) []
  | 0 => by
    obtain ⟨fd, F⟩ := T.d_law_put
    have no : ∀ vs H Q E, ¬ spPut K 0 vs H Q E := fun vs H Q E h => by
      obtain ⟨v, sv, ov, t, s, o, _, _, _, _, _, hn, _⟩ := h
      omega
    refine cal_of F (ps := P_law_put) ⟨fun vs H Q E h => absurd h (no vs H Q E), fun A outer s H args us vs Q E _ _ _ _ h => absurd h (no vs H Q E)⟩ T.g_law_put
      fun _ _ _ _ _ _ us hl => match us, hl with | [_, _, _], _ => rfl
  | n + 1 => c_law_put_step T (by omega) (c_law_put T n)
end
end K89
namespace K89
open PySem PySem.Spec PyProof.Rows L2
open C8 (Cal pe_c)
/-! ### spots and unlike spots by the parts, one behind the other -/
def kf {α : Type} (f : α → List Spot) : Nat → List α → List Spot
  | _, [] => []
  | k, u :: r => (f u).map (k :: ·) ++ kf f (k + 1) r
theorem kf_append {α : Type} {f : α → List Spot} : ∀ (l m : List α) (k : Nat), kf f k (l ++ m) = kf f k l ++ kf f (k + l.length) m
  | [], m, k => rfl
  | u :: r, m, k => by
    show (f u).map (k :: ·) ++ kf f (k + 1) (r ++ m) = _
    rw [kf_append r m (k + 1), ← List.append_assoc]
    show (f u).map (k :: ·) ++ kf f (k + 1) r ++ kf f (k + 1 + r.length) m = (f u).map (k :: ·) ++ kf f (k + 1) r ++ kf f (k + (r.length + 1)) m
    rw [show k + 1 + r.length = k + (r.length + 1) by omega]
theorem kf_step {α : Type} {f : α → List Spot} {l : List α} {i : Nat} {u : α} (h : l[i]? = some u) : kf f 0 (l.take (i + 1)) = kf f 0 (l.take i) ++ (f u).map (i :: ·) := by
  have hi : i < l.length := (List.getElem?_eq_some_iff.mp h).1
  rw [List.take_succ, h, kf_append]
  show _ ++ ((f u).map ((0 + (l.take i).length) :: ·) ++ []) = _
  rw [List.append_nil, List.length_take, Nat.zero_add, Nat.min_eq_left (by omega)]
theorem kf_le {α : Type} {f : α → List Spot} (l : List α) (i : Nat) : (kf f 0 (l.take i)).length ≤ (kf f 0 l).length := by
  have e := kf_append (f := f) (l.take i) (l.drop i) 0
  rw [List.take_append_drop] at e
  rw [e, List.length_append]
  exact Nat.le_add_right _ _
theorem spots_kids (t : Tm) : t.spots = [] :: kf Tm.spots 0 t.kids := by
  cases t with
  | lf l => rfl
  | n2 w x y => simp [Tm.spots, Tm.kids, kf]
  | n3 w x y z => simp [Tm.spots, Tm.kids, kf]
/-- unlike at their own place -/
def Dif (t u : Tm) : Prop := t.word ≠ u.word ∨ (t.kids = [] ∧ t ≠ u)
instance (t u : Tm) : Decidable (Dif t u) := inferInstanceAs (Decidable (_ ∨ _))
theorem same_kids {t u : Tm} (h : t.word = u.word) : t.kids.length = u.kids.length ∧ (t.kids = [] ↔ u.kids = []) := by
  cases t with
  | lf l =>
    cases u with
    | lf m => exact ⟨rfl, Iff.rfl⟩
    | n2 w x y => exact absurd h (lf_word_b2 l w)
    | n3 w x y z => exact absurd h (lf_word_b3 l w)
  | n2 w x y =>
    cases u with
    | lf m => exact absurd h.symm (lf_word_b2 m w)
    | n2 w x y => exact ⟨rfl, by simp [Tm.kids]⟩
    | n3 w' x y z => exact absurd h (b2_word_b3 w w')
  | n3 w x y z =>
    cases u with
    | lf m => exact absurd h.symm (lf_word_b3 m w)
    | n2 w' x y => exact absurd h.symm (b2_word_b3 w' w)
    | n3 w x y z => exact ⟨rfl, by simp [Tm.kids]⟩
theorem unlike_dif {t u : Tm} (h : Dif t u) : t.unlike u = [[]] := by
  cases t with
  | lf l =>
    cases u with
    | lf m =>
      have : l ≠ m := by
        rcases h with h | h
        · exact fun e => h (by rw [e])
        · exact fun e => h.2 (by rw [e])
      simp [Tm.unlike, this]
    | n2 w x y => rfl
    | n3 w x y z => rfl
  | n2 w x y =>
    cases u with
    | lf m => rfl
    | n2 w' x' y' =>
      have : w ≠ w' := by
        rcases h with h | h
        · exact fun e => h (by rw [e]; rfl)
        · exact absurd h.1 (by simp [Tm.kids])
      simp [Tm.unlike, this]
    | n3 w' x y z => rfl
  | n3 w x y z =>
    cases u with
    | lf m => rfl
    | n2 w' x y => rfl
    | n3 w' x' y' z' =>
      have : w ≠ w' := by
        rcases h with h | h
        · exact fun e => h (by rw [e]; rfl)
        · exact absurd h.1 (by simp [Tm.kids])
      simp [Tm.unlike, this]
theorem unlike_kids {t u : Tm} (h : ¬ Dif t u) : t.unlike u = kf (fun p : Tm × Tm => p.1.unlike p.2) 0 (t.kids.zip u.kids) := by
  have h1 : t.word = u.word := Decidable.byContradiction fun e => h (.inl e)
  cases t with
  | lf l =>
    cases u with
    | lf m =>
      have : l = m := Decidable.byContradiction fun e => h (.inr ⟨rfl, fun z => e (Tm.lf.inj z)⟩)
      simp [Tm.unlike, this, Tm.kids, kf]
    | n2 w x y => exact absurd h1 (lf_word_b2 l w)
    | n3 w x y z => exact absurd h1 (lf_word_b3 l w)
  | n2 w x y =>
    cases u with
    | lf m => exact absurd h1.symm (lf_word_b2 m w)
    | n2 w' x' y' =>
      have : w = w' := B2.str_inj h1
      simp [Tm.unlike, this, Tm.kids, kf]
    | n3 w' x y z => exact absurd h1 (b2_word_b3 w w')
  | n3 w x y z =>
    cases u with
    | lf m => exact absurd h1.symm (lf_word_b3 m w)
    | n2 w' x y => exact absurd h1.symm (b2_word_b3 w' w)
    | n3 w' x' y' z' =>
      have : w = w' := B3.str_inj h1
      simp [Tm.unlike, this, Tm.kids, kf]
theorem spots_small {t : Tm} (h : t.ht ≤ 10) : t.spots.length ≤ 30000 := by
  have h1 := spots_len t
  have h2 := pow3 h
  have h3 : (3 : Nat) ^ 10 = 59049 := by decide
  omega
theorem unlike_small {t u : Tm} (h : t.ht ≤ 10) : (t.unlike u).length ≤ 30000 := Nat.le_trans (unlike_len t u) (spots_small h)
theorem line30 {n : Nat} (h : n ≤ 60000) : n ≤ sizeLine := Nat.le_trans h (by decide)
section
variable {K : PySem.W.Frag} {H H' : Hp}
/-- a list's items are these spots, each behind pre -/
def SpsR (K : PySem.W.Frag) (H : Hp) (xs : List V) (l : List Spot) : Prop := DpAll K H xs (l.map spD)
theorem sps_len {xs : List V} {l : List Spot} (h : SpsR K H xs l) : xs.length = l.length := by rw [dpA_len h, List.length_map]
theorem sps_app {xs ys : List V} {l m : List Spot} (h : SpsR K H xs l) (g : SpsR K H ys m) : SpsR K H (xs ++ ys) (l ++ m) := by
  unfold SpsR
  rw [List.map_append]
  exact dpA_app h g
theorem flat_sps : ∀ l : List Spot, flatTs (l.map spD) = true
  | [] => rfl
  | s :: r => by
    have h := flat_sps r
    simp only [List.map_cons, flatTs, h, Bool.and_true]
    exact flat_sp s
theorem sps_same {xs : List V} {l : List Spot} (e : Same H H') (h : SpsR K H xs l) : SpsR K H' xs l := dps_same e h
theorem sps_tk {xs : List V} {l : List Spot} (e : TK K H H') (h : SpsR K H xs l) : SpsR K H' xs l := dps_tk e (flat_sps l) h
/-- t + u of two spots -/
theorem cat_sp {Q : VK} {x y : V} {s r : Spot} (hs : SpR K H x s) (hr : SpR K H y r) (hl : s.length + r.length ≤ 1000) (q : ∀ z H', Same H H' → SpR K H' z (s ++ r) → Q z H') : rCatA K x y H Q := by
  obtain ⟨a, rfl, ha⟩ := sp_tup hs
  obtain ⟨b, rfl, hb⟩ := sp_tup hr
  refine ⟨a, b, _, _, rfl, rfl, ha, hb, by simpa using len_small hl, fun e => ?_, fun _ e => ?_, fun _ _ p hp => ?_⟩
  · have : s = [] := by simpa using e
    subst this
    exact q _ H (Same.refl H) hr
  · have : r = [] := by simpa using e
    subst this
    refine q _ H (Same.refl H) ?_
    rw [List.append_nil]
    exact hs
  · refine q _ _ (same_new hp _) (sp_of ?_)
    rw [List.map_append]
    exact SqT.of upd_same
/-- (k,) -/
theorem sp_one {p : Addr} {k : Nat} (h : H p = some (.tup [.int (k : Nat)])) : SpR K H (.ref p) [k] := sp_of (SqT.of h)
end
section
variable {P : Program} {w : World} {K : PySem.W.Frag} {mg : Str → Option Value} {base : Heap}
/-- a new list of spots -/
def NewSps (K : PySem.W.Frag) (H : Hp) (l : List Spot) (Q : VK) : Prop := ∀ r H' xs, Same H H' → H r = none → H' r = some (.lst xs) → SpsR K H' xs l → Q (.ref r) H'
/-! ### _law_spots -/
def spSpots (K : PySem.W.Frag) (n : Nat) : Sp := fun vs H Q _ => ∃ v sv t pre, vs = [v, sv] ∧ TmR K H v t ∧ SpR K H sv pre ∧ t.ht ≤ n ∧ t.ht ≤ 10 ∧ pre.length + t.ht ≤ 100 ∧ NewSps K H (t.spots.map (pre ++ ·)) Q
abbrev N_law_spots : List Str := ["term", "spot", "found", "k", "part"]
abbrev P_law_spots : List Str := ["term", "spot"]
theorem sc_law_spots : FnScope N_law_spots P_law_spots (defScope s_law_spots) := ⟨rfl, rfl, rfl, by decide +kernel, rfl, by decide +kernel, by decide +kernel⟩
theorem pre_step (pre : Spot) (k : Nat) (l : List Spot) : l.map ((pre ++ [k]) ++ ·) = (l.map (k :: ·)).map (pre ++ ·) := by
  rw [List.map_map]
  refine List.map_congr_left fun s _ => ?_
  simp
theorem c_law_spots_step (T : Tx w K mg) {n k : Nat} (hk : 2 ≤ k) (c_law_spots : Cal P w K mg base k "_law_spots" (spSpots K n) []) : Cal P w K mg base (k + 1) "_law_spots" (spSpots K (n + 1)) [] := by
  obtain ⟨fd, F⟩ := T.d_law_spots
  refine cal_of F (F.ok sc_law_spots (fun vs H Q E h => ?_) (fun cdv A outer s H vs Q E hr h => ⟨_, PSs.nox (pss_cons (ps_set (i := 2) sc_law_spots.nd rfl (Or.inl rfl) (pe_lst (pa_cons (pv 1) pa_nil)))
    (pss_cons (ps_for PassesOwn.never rfl (pi_enum (by rfl) T.n_enumerate (pa_cons (pe_c (c_law_inner T) hr hk rfl (pa_cons (pv 0) pa_nil)) pa_nil)) (pg_tup (n := 2) (by rfl) (pgs_cons (pg_name (i := 3) sc_law_spots.nd rfl (Or.inl rfl)) (pgs_cons (pg_name (i := 4) sc_law_spots.nd rfl (Or.inl rfl)) pgs_nil)))
      (pss_one (ps_set (i := 2) sc_law_spots.nd rfl (Or.inl rfl) (pe_op op_cat (pv 2) (pe_c c_law_spots hr (Nat.le_refl _) rfl (pa_cons (pv 4) (pa_cons (pe_op op_catA (pv 1) (pe_tup (pa_cons (pv 3) pa_nil))) pa_nil)))))))
    (pss_one (ps_ret (pv 2))))), ?_⟩)) T.g_law_spots
    fun _ _ _ _ _ _ us hl => match us, hl with | [_, _], _ => rfl
  · obtain ⟨v, sv, t, pre, rfl, _⟩ := h
    rfl
  obtain ⟨v, sv, t, pre, rfl, ht, hs, hn, h10, h100, q⟩ := h
  refine ⟨_, rfl, (by show 1 ≤ sizeLine; decide), fun r0 hr0 => ?_⟩
  have g0 : Same H (upd H r0 (.lst [sv])) := same_new hr0 _
  refine ⟨_, rfl, v, t, rfl, dp_same g0 ht, fun l H1 xs g1 hl1 hL hx => ?_⟩
  have g01 := g0.trans g1
  have hxl : xs.length = t.kids.length := by rw [dpA_len hx, List.length_map]
  refine ⟨l, xs, rfl, SqL.of hL, for_it (walk_enum (xs := xs)) (fun i σ H' => ∃ r ys x3 x4, σ = [some v, some sv, some (.ref r), x3, x4] ∧ Same H1 H' ∧ H r = none ∧ H' r = some (.lst ys) ∧ SpsR K H' ys ((([] : Spot) :: kf Tm.spots 0 (t.kids.take i)).map (pre ++ ·))) ?_ (fun i σ H' _ p => ?_) (fun i x σ H2 H3 hi p y => ?_) (fun σ H' p => ?_)⟩
  · refine ⟨r0, [sv], _, _, rfl, Same.refl _, hr0, g1 _ _ upd_same, ?_⟩
    show DpAll K H1 [sv] [spD (pre ++ [])]
    rw [List.append_nil]
    exact .cons (dp_same g01 hs) .nil
  · obtain ⟨r, ys, x3, x4, _, g, _⟩ := p
    exact SqL.of (g _ _ hL)
  · obtain ⟨r, ys, x3, x4, rfl, g, hr, hY, hS⟩ := p
    obtain ⟨T', x, y, rfl, hT, rfl, hk', hy⟩ := y
    cases hk'
    obtain ⟨u, hu⟩ : ∃ u, t.kids[i]? = some u := ⟨_, List.getElem?_eq_getElem (by omega)⟩
    obtain ⟨y', hy', hyu⟩ := kid_get hx hu
    have hy : xs[i]? = some y := hy
    rw [hy] at hy'
    cases hy'
    have hht : u.ht + 1 ≤ t.ht := Tm.ht_kid (List.mem_of_getElem? hu)
    have gT : Same H2 (upd H2 T' (.tup [.int (i : Nat), y])) := same_new hT _
    refine ⟨T', _, rfl, SqT.of upd_same, rfl, _, _, rfl, _, _, rfl, rfl, ?_⟩
    refine ⟨_, rfl, _, rfl, _, rfl, _, rfl, (by show 1 ≤ sizeLine; decide), fun p hp => ?_⟩
    have g2 := gT.trans (same_new hp (.tup [.int (i : Nat)]))
    refine cat_sp (s := pre) (r := [i]) (dp_same (g01.trans (g.trans g2)) hs) (sp_one upd_same) (by simp; omega) fun z H4 g4 hz => ?_
    have g5 := g2.trans g4
    refine ⟨y, z, u, pre ++ [i], rfl, dp_same (g.trans g5) hyu, hz, by omega, by omega, by simp; omega, fun r2 H5 zs g6 hr2 hR2 hZ => ?_⟩
    have g7 := g5.trans g6
    have hY2 := g7 _ _ hY
    have hl1' := sps_len hS
    have hl2' := sps_len hZ
    have h30 := spots_small h10
    have hkf := kf_le (f := Tm.spots) t.kids (i + 1)
    rw [kf_step hu, List.length_append, List.length_map] at hkf
    rw [spots_kids t, List.length_cons] at h30
    rw [List.length_map, List.length_cons] at hl1'
    rw [List.length_map] at hl2'
    refine ⟨r, r2, ys, zs, rfl, rfl, hY2, hR2, line30 (by omega), fun r3 hr3 => ?_⟩
    have g8 := g7.trans (same_new hr3 (.lst (ys ++ zs)))
    refine ⟨r3, ys ++ zs, _, _, rfl, g.trans g8, (g01.trans (g.trans g7)).free hr3, upd_same, ?_⟩
    rw [kf_step hu, ← List.cons_append, List.map_append, ← pre_step]
    exact sps_app (sps_same g8 hS) (sps_same (same_new hr3 _) hZ)
  · obtain ⟨r, ys, x3, x4, rfl, g, hr, hY, hS⟩ := p
    refine ⟨_, rfl, q r H' ys (g01.trans g) hr hY ?_⟩
    rw [hxl, List.take_length, ← spots_kids] at hS
    exact hS
theorem c_law_spots (T : Tx w K mg) : ∀ n : Nat, Cal P w K mg base (n + 2) "_law_spots" (spSpots K n) []
  | 0 => by
    obtain ⟨fd, F⟩ := T.d_law_spots
    have no : ∀ vs H Q E, ¬ spSpots K 0 vs H Q E := fun vs H Q E h => by
      obtain ⟨v, sv, t, pre, _, _, _, hn, _⟩ := h
      have := t.ht_pos
      omega
    refine cal_of F (ps := P_law_spots) ⟨fun vs H Q E h => absurd h (no vs H Q E), fun A outer s H args us vs Q E _ _ _ _ h => absurd h (no vs H Q E)⟩ T.g_law_spots
      fun _ _ _ _ _ _ us hl => match us, hl with | [_, _], _ => rfl
  | n + 1 => c_law_spots_step T (by omega) (c_law_spots T n)
end
end K89
namespace K89
open PySem PySem.Spec PyProof.Rows L2
open C8 (Cal pe_c)
theorem kids_ht {t : Tm} {n : Nat} (h : t.ht ≤ n) : ∀ u ∈ t.kids, u.ht ≤ n := fun u hu => by
  have := Tm.ht_kid hu
  omega
theorem data_nil {l : List Tm} : l.map Tm.data = [] ↔ l = [] := by cases l <;> simp
theorem word_eqv {t u : Tm} : V.str t.word = V.str u.word ↔ t.word = u.word := ⟨fun e => V.str.inj e, fun e => by rw [e]⟩
theorem PT.mono {X : Cx} {e : Expr} {t t' : TT} (h : PT X e t) (m : ∀ σ H Q, t' σ H Q → t σ H Q) : PT X e t' := ⟨fun pins s σ H Q I q => h.run pins s σ H Q I (m σ H Q q)⟩
theorem PE.mono {X : Cx} {e : Expr} {t t' : TE} (h : PE X e t) (m : ∀ σ H Q, t' σ H Q → t σ H Q) : PE X e t' := ⟨fun pins s σ H Q I q => h.run pins s σ H Q I (m σ H Q q)⟩
section
variable {P : Program} {w : World} {K : PySem.W.Frag} {mg : Str → Option Value} {base : Heap}
/-- the test whether two terms are unlike at their own place -/
def tDif (K : PySem.W.Frag) : TT := fun σ H Q => ∃ v v' t u, σ[0]? = some (some v) ∧ σ[1]? = some (some v') ∧ TmR K H v t ∧ TmR K H v' u ∧ t.ht ≤ 60 ∧ u.ht ≤ 60 ∧ ∀ H', Same H H' → Q (decide (Dif t u)) H'
/-! ### differ -/
def spDiffer (K : PySem.W.Frag) : Sp := fun vs H Q _ => ∃ v v' t u, vs = [v, v'] ∧ TmR K H v t ∧ TmR K H v' u ∧ t.ht ≤ 60 ∧ u.ht ≤ 60 ∧ ∀ H', Same H H' → Q (.bl (decide (Dif t u))) H'
abbrev N_differ : List Str := ["one", "other"]
theorem sc_differ : FnScope N_differ N_differ (defScope s_differ) := ⟨rfl, rfl, rfl, by decide +kernel, rfl, by decide +kernel, by decide +kernel⟩
theorem nF {c A B : Prop} [Decidable c] (h1 : ¬ c → A) (h2 : c → B) : if (!decide c) = true then A else B := by
  by_cases h : c
  · exact niT h (h2 h)
  · exact niF h (h1 h)
theorem c_differ (T : Tx w K mg) : Cal P w K mg base 2 "differ" (spDiffer K) [] := by
  obtain ⟨fd, F⟩ := T.d_differ
  refine cal_of F (F.ok sc_differ (fun vs H Q E h => ?_) (fun cdv A outer s H vs Q E hr h => ⟨_, PSs.nox (pss_one (ps_ret (pe_or (pe_cmpR op_ne (pe_ix ix_tup (pv 0) pe_int (fun _ _ => rfl)) (pe_ix ix_tup (pv 1) pe_int (fun _ _ => rfl)) (nomark _)) (pe_one (pe_and (pe_cmpR (op_eqD hr.units) (pe_c (c_inner T) hr (by decide) rfl (pa_cons (pv 0) pa_nil)) (pe_lst pa_nil) (nomark _)) (pe_one (pe_cmpR (op_neD hr.units) (pv 0) (pv 1) (nomark _)))))))), ?_⟩)) T.g_differ
    fun _ _ _ _ _ _ us hl => match us, hl with | [_, _], _ => rfl
  · obtain ⟨v, v', t, u, rfl, _⟩ := h
    rfl
  obtain ⟨v, v', t, u, rfl, ht, hu, h60, h60', q⟩ := h
  obtain ⟨a, ps, rfl, hS, hp⟩ := tm_tup ht
  obtain ⟨b, ps', rfl, hS', hp'⟩ := tm_tup hu
  refine ⟨_, rfl, _, _, _, _, rfl, rfl, hS, atI0, _, rfl, _, _, _, _, rfl, rfl, hS', atI0, rfl, _, rfl, ?_⟩
  refine nF (fun c => ?_) (fun c => ?_)
  · have d : Dif t u := .inl fun e => c (by rw [e])
    have z := q H (Same.refl H)
    rw [decide_eq_true d] at z
    exact z
  · have hw : t.word = u.word := word_eqv.mp c
    refine ⟨_, rfl, _, t, rfl, ht, fun l H1 xs g1 hl1 hL hx => ?_⟩
    refine ⟨(by show 0 ≤ sizeLine; decide), fun n hn => ?_⟩
    have g2 : Same H1 (upd H1 n (.lst [])) := same_new hn _
    refine ⟨.list (t.kids.map Tm.data), .list [], .lst (SqL.of (g2 _ _ hL)) (dps_same g2 hx), .lst (SqL.of upd_same) .nil, shaped_tms fun z hz => Nat.le_trans (kids_ht h60 z hz) (by decide), shaped_nil, _, rfl, ?_⟩
    rw [eqv_list_nil]
    by_cases hk : t.kids = []
    · refine iT (data_nil.mpr hk) ?_
      refine ⟨_, rfl, _, rfl, t.data, u.data, dp_same (g1.trans g2) ht, dp_same (g1.trans g2) hu, shaped_tm (by omega), shaped_tm (by omega), ?_⟩
      rw [eqv_tm]
      have z := q _ (g1.trans g2)
      have e : decide (Dif t u) = !decide (t = u) := by
        by_cases h : t = u
        · rw [decide_eq_true h, decide_eq_false]
          · rfl
          · exact fun d => d.elim (fun d => d hw) fun d => d.2 h
        · rw [decide_eq_false h, decide_eq_true]
          · rfl
          · exact .inr ⟨hk, h⟩
      rw [e] at z
      exact z
    · refine iF (fun z => hk (data_nil.mp z)) ?_
      have z := q _ (g1.trans g2)
      rw [decide_eq_false (fun d : Dif t u => d.elim (fun d => d hw) fun d => hk d.1)] at z
      exact z
/-! ### _law_unlike -/
def spLawUnlike (K : PySem.W.Frag) (n : Nat) : Sp := fun vs H Q _ => ∃ v v' sv t u pre, vs = [v, v', sv] ∧ TmR K H v t ∧ TmR K H v' u ∧ SpR K H sv pre ∧ t.ht ≤ n ∧ t.ht ≤ 10 ∧ u.ht ≤ 60 ∧ pre.length + t.ht ≤ 100 ∧ NewSps K H ((t.unlike u).map (pre ++ ·)) Q
abbrev N_law_unlike : List Str := ["one", "other", "spot", "found", "k", "part"]
abbrev P_law_unlike : List Str := ["one", "other", "spot"]
theorem sc_law_unlike : FnScope N_law_unlike P_law_unlike (defScope s_law_unlike) := ⟨rfl, rfl, rfl, by decide +kernel, rfl, by decide +kernel, by decide +kernel⟩
theorem zip_get {l m : List Tm} {i : Nat} {a b : Tm} (h1 : l[i]? = some a) (h2 : m[i]? = some b) : (l.zip m)[i]? = some (a, b) := by
  rw [List.getElem?_zip_eq_some]
  exact ⟨h1, h2⟩
theorem c_law_unlike_step (T : Tx w K mg) {n k : Nat} (hk : 2 ≤ k) (c_law_unlike : Cal P w K mg base k "_law_unlike" (spLawUnlike K n) []) : Cal P w K mg base (k + 1) "_law_unlike" (spLawUnlike K (n + 1)) [] := by
  obtain ⟨fd, F⟩ := T.d_law_unlike
  refine cal_of F (F.ok sc_law_unlike (fun vs H Q E h => ?_) (fun cdv A outer s H vs Q E hr h => ⟨_, PSs.nox (pss_cons (ps_if (PT.mono (t' := tDif K) (PW.pt (pw_or (pt_cmpR op_ne (pe_ix ix_tup (pv 0) pe_int (fun _ _ => rfl)) (pe_ix ix_tup (pv 1) pe_int (fun _ _ => rfl)) (nomark _)) (pw_or1 (PW.pt (pw_and (pt_cmpR (op_eqD hr.units) (pe_c (c_law_inner T) hr hk rfl (pa_cons (pv 0) pa_nil)) (pe_lst pa_nil) (nomark _)) (pw_and1 (pt_cmpR (op_neD hr.units) (pv 0) (pv 1) (nomark _)))))))) (fun σ H1 Q1 h1 => by
      obtain ⟨v, v', t, u, e0, e1, ht, hu, h60, h60', q⟩ := h1
      have ht0 := ht
      have hu0 := hu
      obtain ⟨a, ps, rfl, hS, hp⟩ := tm_tup ht
      obtain ⟨b, ps', rfl, hS', hp'⟩ := tm_tup hu
      refine ⟨_, e0, _, _, _, _, rfl, rfl, hS, atI0, _, e1, _, _, _, _, rfl, rfl, hS', atI0, rfl, _, rfl, ?_⟩
      refine nF (fun c => ?_) (fun c => ?_)
      · have d : Dif t u := .inl fun e => c (by rw [e])
        have z := q H1 (Same.refl H1)
        rw [decide_eq_true d] at z
        exact z
      · have hw : t.word = u.word := word_eqv.mp c
        refine ⟨_, e0, _, t, rfl, ht0, fun l H2 xs g1 hl1 hL hx => ?_⟩
        refine ⟨(by show 0 ≤ sizeLine; decide), fun n hn => ?_⟩
        have g2 : Same H2 (upd H2 n (.lst [])) := same_new hn _
        refine ⟨.list (t.kids.map Tm.data), .list [], .lst (SqL.of (g2 _ _ hL)) (dps_same g2 hx), .lst (SqL.of upd_same) .nil, shaped_tms fun z hz => Nat.le_trans (kids_ht h60 z hz) (by decide), shaped_nil, _, rfl, ?_⟩
        rw [eqv_list_nil]
        by_cases hk : t.kids = []
        · refine iT (data_nil.mpr hk) ?_
          refine ⟨_, e0, _, e1, t.data, u.data, dp_same (g1.trans g2) ht0, dp_same (g1.trans g2) hu0, shaped_tm (by omega), shaped_tm (by omega), _, rfl, ?_⟩
          rw [eqv_tm]
          have z := q _ (g1.trans g2)
          have e : decide (Dif t u) = !decide (t = u) := by
            by_cases h : t = u
            · rw [decide_eq_true h, decide_eq_false]
              · rfl
              · exact fun d => d.elim (fun d => d hw) fun d => d.2 h
            · rw [decide_eq_false h, decide_eq_true]
              · rfl
              · exact .inr ⟨hk, h⟩
          rw [e] at z
          exact z
        · refine iF (fun z => hk (data_nil.mp z)) ?_
          have z := q _ (g1.trans g2)
          rw [decide_eq_false (fun d : Dif t u => d.elim (fun d => d hw) fun d => hk d.1)] at z
          exact z)) (pss_one (ps_ret (pe_lst (pa_cons (pv 2) pa_nil)))) pss_nil)
    (pss_cons (ps_set (i := 3) sc_law_unlike.nd rfl (Or.inl rfl) (pe_lst pa_nil))
    (pss_cons (ps_for PassesOwn.never rfl (pi_enum (by rfl) T.n_enumerate (pa_cons (pe_c (c_law_inner T) hr hk rfl (pa_cons (pv 0) pa_nil)) pa_nil)) (pg_tup (n := 2) (by rfl) (pgs_cons (pg_name (i := 4) sc_law_unlike.nd rfl (Or.inl rfl)) (pgs_cons (pg_name (i := 5) sc_law_unlike.nd rfl (Or.inl rfl)) pgs_nil)))
      (pss_one (ps_set (i := 3) sc_law_unlike.nd rfl (Or.inl rfl) (pe_op op_cat (pv 3) (pe_c c_law_unlike hr (Nat.le_refl _) rfl (pa_cons (pv 5) (pa_cons (pe_ix ix_list (pe_c (c_law_inner T) hr hk rfl (pa_cons (pv 1) pa_nil)) (pv 4) (fun _ _ => rfl)) (pa_cons (pe_op op_catA (pv 2) (pe_tup (pa_cons (pv 4) pa_nil))) pa_nil))))))))
    (pss_one (ps_ret (pv 3)))))), ?_⟩)) T.g_law_unlike
    fun _ _ _ _ _ _ us hl => match us, hl with | [_, _, _], _ => rfl
  · obtain ⟨v, v', sv, t, u, pre, rfl, _⟩ := h
    rfl
  obtain ⟨v, v', sv, t, u, pre, rfl, ht, hu, hs, hn, h10, h60, h100, q⟩ := h
  refine ⟨v, v', t, u, rfl, rfl, ht, hu, by omega, h60, fun H0 g1 => ?_⟩
  by_cases d : Dif t u
  · refine iT d ⟨_, rfl, (by show 1 ≤ sizeLine; decide), fun r hr' => ?_⟩
    refine q r _ [sv] (g1.trans (same_new hr' _)) (g1.free hr') upd_same ?_
    rw [unlike_dif d]
    show DpAll K _ [sv] [spD (pre ++ [])]
    rw [List.append_nil]
    exact .cons (dp_same (g1.trans (same_new hr' _)) hs) .nil
  · refine iF d ⟨(by show 0 ≤ sizeLine; decide), fun r0 hr0 => ?_⟩
    have g0 := g1.trans (same_new hr0 (.lst []))
    have hw : t.word = u.word := Decidable.byContradiction fun e => d (.inl e)
    have hkl := (same_kids hw).1
    refine ⟨_, rfl, v, t, rfl, dp_same g0 ht, fun l H2 xs g2 hl2 hL hx => ?_⟩
    have g02 := g0.trans g2
    have hxl : xs.length = t.kids.length := by rw [dpA_len hx, List.length_map]
    refine ⟨l, xs, rfl, SqL.of hL, for_it (walk_enum (xs := xs)) (fun i σ H' => ∃ r ys x3 x4, σ = [some v, some v', some sv, some (.ref r), x3, x4] ∧ Same H2 H' ∧ H r = none ∧ H' r = some (.lst ys) ∧ SpsR K H' ys ((kf (fun p : Tm × Tm => p.1.unlike p.2) 0 ((t.kids.zip u.kids).take i)).map (pre ++ ·))) ?_ (fun i σ H' _ p => ?_) (fun i x σ H3 H4 hi p y => ?_) (fun σ H' p => ?_)⟩
    · exact ⟨r0, [], _, _, rfl, Same.refl _, g1.free hr0, g2 _ _ upd_same, .nil⟩
    · obtain ⟨r, ys, x3, x4, _, g, _⟩ := p
      exact SqL.of (g _ _ hL)
    · obtain ⟨r, ys, x3, x4, rfl, g, hr', hY, hS2⟩ := p
      obtain ⟨T', x, y, rfl, hT, rfl, hk', hy⟩ := y
      cases hk'
      obtain ⟨c, hc⟩ : ∃ c, t.kids[i]? = some c := ⟨_, List.getElem?_eq_getElem (by omega)⟩
      obtain ⟨c', hc'⟩ : ∃ c', u.kids[i]? = some c' := ⟨_, List.getElem?_eq_getElem (by omega)⟩
      obtain ⟨y', hy', hyu⟩ := kid_get hx hc
      have hy : xs[i]? = some y := hy
      rw [hy] at hy'
      cases hy'
      have hht : c.ht + 1 ≤ t.ht := Tm.ht_kid (List.mem_of_getElem? hc)
      have hht' : c'.ht + 1 ≤ u.ht := Tm.ht_kid (List.mem_of_getElem? hc')
      have gT : Same H3 (upd H3 T' (.tup [.int (i : Nat), y])) := same_new hT _
      refine ⟨T', _, rfl, SqT.of upd_same, rfl, _, _, rfl, _, _, rfl, rfl, ?_⟩
      refine ⟨_, rfl, _, rfl, _, rfl, v', u, rfl, dp_same (g02.trans (g.trans gT)) hu, fun m H5 ms g5 hm5 hM hmx => ?_⟩
      obtain ⟨z', hz', hzu⟩ := kid_get hmx hc'
      refine ⟨_, rfl, m, ms, _, z', rfl, rfl, SqL.of hM, atI_nat hz', ?_⟩
      refine ⟨_, rfl, _, rfl, (by show 1 ≤ sizeLine; decide), fun p hp => ?_⟩
      have gp : Same H5 (upd H5 p (.tup [.int (i : Nat)])) := same_new hp _
      have g6 := gT.trans (g5.trans gp)
      refine cat_sp (s := pre) (r := [i]) (dp_same (g02.trans (g.trans g6)) hs) (sp_one upd_same) (by simp; omega) fun z H6 g7 hz => ?_
      have g8 := g6.trans g7
      refine ⟨y, z', z, c, c', pre ++ [i], rfl, dp_same (g.trans g8) hyu, dp_same (gp.trans g7) hzu, hz, by omega, by omega, by omega, by simp; omega, fun r2 H7 zs g9 hr2 hR2 hZ => ?_⟩
      have g10 := g8.trans g9
      have hY2 := g10 _ _ hY
      have hl1' := sps_len hS2
      have hl2' := sps_len hZ
      have h30 := unlike_small (u := u) h10
      have hkf := kf_le (f := fun p : Tm × Tm => p.1.unlike p.2) (t.kids.zip u.kids) (i + 1)
      rw [kf_step (zip_get hc hc'), List.length_append, List.length_map] at hkf
      have e9 : ((c, c').1.unlike (c, c').2).length = (c.unlike c').length := rfl
      rw [e9] at hkf
      rw [unlike_kids d] at h30
      rw [List.length_map] at hl1' hl2'
      refine ⟨r, r2, ys, zs, rfl, rfl, hY2, hR2, line30 (by omega), fun r3 hr3 => ?_⟩
      have g11 := g10.trans (same_new hr3 (.lst (ys ++ zs)))
      refine ⟨r3, ys ++ zs, _, _, rfl, g.trans g11, (g02.trans (g.trans g10)).free hr3, upd_same, ?_⟩
      rw [kf_step (zip_get hc hc'), List.map_append, ← pre_step]
      exact sps_app (sps_same g11 hS2) (sps_same (same_new hr3 _) hZ)
    · obtain ⟨r, ys, x3, x4, rfl, g, hr', hY, hS2⟩ := p
      refine ⟨_, rfl, q r H' ys (g02.trans g) hr' hY ?_⟩
      have e : xs.length = (t.kids.zip u.kids).length := by rw [List.length_zip, ← hkl, Nat.min_self, hxl]
      rw [e, List.take_length, ← unlike_kids d] at hS2
      exact hS2
theorem c_law_unlike (T : Tx w K mg) : ∀ n : Nat, Cal P w K mg base (n + 2) "_law_unlike" (spLawUnlike K n) []
  | 0 => by
    obtain ⟨fd, F⟩ := T.d_law_unlike
    have no : ∀ vs H Q E, ¬ spLawUnlike K 0 vs H Q E := fun vs H Q E h => by
      obtain ⟨v, v', sv, t, u, pre, _, _, _, _, hn, _⟩ := h
      have := t.ht_pos
      omega
    refine cal_of F (ps := P_law_unlike) ⟨fun vs H Q E h => absurd h (no vs H Q E), fun A outer s H args us vs Q E _ _ _ _ h => absurd h (no vs H Q E)⟩ T.g_law_unlike
      fun _ _ _ _ _ _ us hl => match us, hl with | [_, _, _], _ => rfl
  | n + 1 => c_law_unlike_step T (by omega) (c_law_unlike T n)
end
end K89
/-! for i, (x, y) in enumerate(zip(xs, ys)): the zip's own pair is out from the first turn on; whether that pair still lives is not known -/
namespace K89
open PySem PySem.Spec PyProof.Rows L2
open Sem (wp)
/-- a zip with what it last gave out -/
abbrev Zp (h : Heap) (z TI TO : Addr) (g : Value) (f : Bool) : Prop :=
  h.get? z = some { cls := .type "zip", dict := none, data := .fields #[g, .bool f, .bool false, .ref TI, .ref TO], slots := #[] }
def Gone (g : Value) (f : Bool) : Prop := (g = .none ∧ f = false) ∨ ∃ T : Addr, g = rawInt (T : Int)
section
variable {prog : Program} {w : World} {A : Around} {E : Value → Shared → Prop} {s : Shared} {z TI TO T i1 i2 l1 l2 : Addr} {f : Bool} {k1 k2 : Nat} {xs ys : Array Value} {x y a b : Value}
theorem zp_dead {Q : Bool → Shared → Prop} (hz : Zp s.heap z TI TO (rawInt (T : Int)) f) (hT : s.heap.get? T = none) (h : Q true s) : wpAny (model prog w) A (Builtin.SmallTypes.ownedTupleIsFree (.ref z)) Q E s := by
  have e : ∀ q : Option Obj → Shared → Prop, q none s → wpAny (model prog w) A (loadIfAlive T) q E s := fun q r => by
    have r' : q (s.heap.get? T) s := by rw [hT]; exact r
    exact fun _ _ _ => r'
  unfold Builtin.SmallTypes.ownedTupleIsFree
  refine wpAny_bind (wpAny_field hz rfl (x := rawInt (T : Int)) rfl ?_)
  show wpAny (model prog w) A (loadIfAlive (Int.toNat (T : Int)) >>= _) Q E s
  rw [Int.toNat_natCast]
  refine wpAny_bind (e _ ?_)
  simp only [Option.isNone_none, if_true]
  exact wpAny_pure h
/-- the pair is dead: the zip takes up its own tuple again -/
theorem zp_item {Q : Value → Shared → Prop} (D : ZipApart z TI TO i1 i2 l1 l2) (hz : Zp s.heap z TI TO (rawInt (T : Int)) f) (hT : s.heap.get? T = none) (hI : IsPair s.heap TI (.ref i1) (.ref i2)) (hO : IsPair s.heap TO a b)
    (j1 : s.heap.IsListIter i1 l1 k1) (j2 : s.heap.IsListIter i2 l2 k2) (m1 : s.heap.IsList l1 xs) (m2 : s.heap.IsList l2 ys) (ex : xs[k1]? = some x) (ey : ys[k2]? = some y)
    (q : ∀ h, Zp h z TI TO (rawInt (s.heap.objs.size : Int)) false → IsPair h TO x y → h.IsListIter i1 l1 (k1 + 1) → h.IsListIter i2 l2 (k2 + 1) → IsPair h s.heap.objs.size x y → h.objs.size = s.heap.objs.size + 1 →
      (∀ c o, c ≠ z → c ≠ TO → c ≠ i1 → c ≠ i2 → s.heap.get? c = some o → h.get? c = some o) → Q (.ref s.heap.objs.size) { s with heap := h }) :
    wpAny (model prog w) A (Builtin.«zip.__next__» ⟨[.ref z], []⟩) (fun r s' => ∃ v, r = .done (.ret v) ∧ Q v s') E s := by
  show wpAny (model prog w) A (field (.ref z) 2 >>= _) _ E s
  refine wpAny_bind (wpAny_field hz rfl (x := .bool false) rfl ?_)
  show wpAny (model prog w) A (field (.ref z) 3 >>= _) _ E s
  refine wpAny_bind (wpAny_field hz rfl (x := .ref TI) rfl ?_)
  refine wpAny_bind (wpAny_seqItems hI rfl ?_)
  show wpAny (model prog w) A (Builtin.SmallTypes.ownedTupleIsFree (.ref z) >>= _) _ E s
  refine wpAny_bind (zp_dead hz hT ?_)
  simp only [if_true]
  refine wpAny_bind (wpAny_rule (wpAny_bind (wpAny_field hz rfl (x := .ref TO) rfl ?_)))
  refine wpAny_bind (wpAny_setField_rec hz (by simp) fun ha za ba => ?_)
  replace za : Zp ha z TI TO .ellipsis f := za
  refine wpAny_bind ?_
  simp only [List.zipIdx_cons, List.zipIdx_nil, List.forIn_cons, List.forIn_nil]
  refine wpAny_bind (wpAny_bind (wpAny_onRaise ?_))
  show wpAny (model prog w) A (Builtin.SmallTypes.nextOf (.ref i1) >>= _) _ _ _
  refine wpAny_bind (wpAny_nextOf_list_item (j1.extBut ba.extBut D.i1z) (m1.extBut ba.extBut D.l1z) ex fun hb jb bb => wpAny_pure ?_)
  have ob : IsPair hb TO a b := bb.extBut _ _ D.TOi1 (ba.extBut _ _ D.TOz hO)
  refine wpAny_bind (wpAny_seqItems ob rfl (wpAny_bind (wpAny_updateSeq_pair ob fun hc oc bc => ?_)))
  replace oc : IsPair hc TO x b := oc
  refine wpAny_bind (wpAny_letGo (wpAny_pure ?_))
  refine wpAny_bind (wpAny_bind (wpAny_onRaise ?_))
  show wpAny (model prog w) A (Builtin.SmallTypes.nextOf (.ref i2) >>= _) _ _ _
  have jc := ((j2.extBut ba.extBut D.i2z).extBut bb.extBut D.i12.symm).extBut bc.extBut D.TOi2.symm
  have mc := ((m2.extBut ba.extBut D.l2z).extBut bb.extBut D.l2i1).extBut bc.extBut D.l2TO
  refine wpAny_bind (wpAny_nextOf_list_item jc mc ey fun hd jd bd => wpAny_pure ?_)
  have od : IsPair hd TO x b := bd.extBut _ _ D.TOi2 oc
  refine wpAny_bind (wpAny_seqItems od rfl (wpAny_bind (wpAny_updateSeq_pair od fun he oe be => ?_)))
  replace oe : IsPair he TO x y := oe
  refine wpAny_bind (wpAny_letGo (wpAny_pure (wpAny_pure ?_)))
  refine wpAny_bind (wpAny_seqItems oe rfl (wpAny_bind (wpAny_newTuple ?_)))
  have sz : he.objs.size = s.heap.objs.size := by rw [be.1, bd.1, bc.1, bb.1, ba.1]
  have ze : Zp he z TI TO .ellipsis f := be.extBut _ _ D.TOz.symm (bd.extBut _ _ D.i2z.symm (bc.extBut _ _ D.TOz.symm (bb.extBut _ _ D.i1z.symm za)))
  have kp : ∀ c o, c ≠ z → c ≠ TO → c ≠ i1 → c ≠ i2 → s.heap.get? c = some o → he.get? c = some o := fun c o n1 n2 n3 n4 e =>
    be.extBut _ _ n2 (bd.extBut _ _ n4 (bc.extBut _ _ n2 (bb.extBut _ _ n3 (ba.extBut _ _ n1 e))))
  have j1e : he.IsListIter i1 l1 (k1 + 1) := ((jb.extBut bc.extBut D.TOi1.symm).extBut bd.extBut D.i12).extBut be.extBut D.TOi1.symm
  have j2e : he.IsListIter i2 l2 (k2 + 1) := jd.extBut be.extBut D.TOi2.symm
  have lz : z < he.objs.size := Heap.lt_size ze
  show wpAny (model prog w) A (Builtin.SmallTypes.ownedTupleHandOut (.ref z) (.ref he.objs.size) >>= _) _ _ _
  refine wpAny_bind ?_
  unfold Builtin.SmallTypes.ownedTupleHandOut
  have zf : Zp (he.push { cls := .type "tuple", data := .seq #[x, y] }) z TI TO .ellipsis f := Heap.get?_push_of_some _ ze
  refine wpAny_bind (wpAny_setField_rec zf (by simp) fun hg zg bg => ?_)
  replace zg : Zp hg z TI TO (rawInt (he.objs.size : Int)) f := zg
  refine wpAny_setField_rec zg (by simp) fun hi zi bi => ?_
  replace zi : Zp hi z TI TO (rawInt (he.objs.size : Int)) false := zi
  have up : ∀ c o, c ≠ z → he.get? c = some o → hi.get? c = some o := fun c o n e => bi.extBut _ _ n (bg.extBut _ _ n (Heap.get?_push_of_some _ e))
  have pT : IsPair hi he.objs.size x y := bi.extBut _ _ (Nat.ne_of_gt lz) (bg.extBut _ _ (Nat.ne_of_gt lz) (Heap.get?_push_size _ rfl))
  have zs : hi.objs.size = he.objs.size + 1 := by rw [bi.1, bg.1, Heap.size_push]
  rw [sz] at zi pT zs
  refine wpAny_pure ⟨_, rfl, ?_⟩
  show Q (.ref he.objs.size) _
  rw [sz]
  exact q hi zi (up _ _ D.TOz oe) (j1e.at fun o e => up _ o D.i1z e) (j2e.at fun o e => up _ o D.i2z e) pT zs fun c o n1 n2 n3 n4 e => up c o n1 (kp c o n1 n2 n3 n4 e)
theorem zp_end {Q : Fin → Shared → Prop} (hh : A.handled = none) (D : ZipApart z TI TO i1 i2 l1 l2) (hz : Zp s.heap z TI TO (rawInt (T : Int)) f) (hT : s.heap.get? T = none) (hI : IsPair s.heap TI (.ref i1) (.ref i2))
    (j1 : s.heap.IsListIter i1 l1 k1) (m1 : s.heap.IsList l1 xs) (ex : xs[k1]? = none)
    (q : ∀ h e, (∀ c o, c ≠ z → c ≠ TO → c ≠ i1 → c ≠ i2 → s.heap.get? c = some o → h.get? c = some o) → (∃ o, h.get? e = some o ∧ o.cls = .type "StopIteration") → E (.ref e) { s with heap := h }) :
    wpAny (model prog w) A (Builtin.«zip.__next__» ⟨[.ref z], []⟩) Q E s := by
  show wpAny (model prog w) A (field (.ref z) 2 >>= _) Q E s
  refine wpAny_bind (wpAny_field hz rfl (x := .bool false) rfl ?_)
  show wpAny (model prog w) A (field (.ref z) 3 >>= _) Q E s
  refine wpAny_bind (wpAny_field hz rfl (x := .ref TI) rfl ?_)
  refine wpAny_bind (wpAny_seqItems hI rfl ?_)
  show wpAny (model prog w) A (Builtin.SmallTypes.ownedTupleIsFree (.ref z) >>= _) Q E s
  refine wpAny_bind (zp_dead hz hT ?_)
  simp only [if_true]
  refine wpAny_bind (wpAny_rule (wpAny_bind (wpAny_field hz rfl (x := .ref TO) rfl ?_)))
  refine wpAny_bind (wpAny_setField_rec hz (by simp) fun ha za ba => ?_)
  replace za : Zp ha z TI TO .ellipsis f := za
  refine wpAny_bind ?_
  simp only [List.zipIdx_cons, List.zipIdx_nil, List.forIn_cons, List.forIn_nil]
  refine wpAny_bind (wpAny_bind (wpAny_onRaise ?_))
  show wpAny (model prog w) A (Builtin.SmallTypes.nextOf (.ref i1) >>= _) _ _ _
  refine wpAny_bind (wpAny_nextOf_list_end hh (j1.extBut ba.extBut D.i1z) (m1.extBut ba.extBut D.l1z) ex fun hb e bb st => ?_)
  obtain ⟨o, ho, hc⟩ := st
  have zb : Zp hb z TI TO .ellipsis f := bb _ _ D.i1z.symm za
  have ne : e ≠ z := fun u => by
    subst u
    rw [zb] at ho
    cases ho
    simp at hc
  exact wpAny_setField_rec zb (by simp) fun hd _ bd => q hd e (fun c o n1 _ n3 _ u => bd.extBut _ _ n1 (bb _ _ n3 (ba.extBut _ _ n1 u))) ⟨o, bd.extBut _ _ ne ho, hc⟩
/-- the zip's next pair, whatever became of the last one -/
theorem zp_next {Q : Value → Shared → Prop} {g : Value} (D : ZipApart z TI TO i1 i2 l1 l2) (hz : Zp s.heap z TI TO g f) (hg : Gone g f) (hI : IsPair s.heap TI (.ref i1) (.ref i2)) (hO : IsPair s.heap TO a b)
    (j1 : s.heap.IsListIter i1 l1 k1) (j2 : s.heap.IsListIter i2 l2 k2) (m1 : s.heap.IsList l1 xs) (m2 : s.heap.IsList l2 ys) (ex : xs[k1]? = some x) (ey : ys[k2]? = some y)
    (q : ∀ h, (∃ g' f', Zp h z TI TO g' f' ∧ Gone g' f') → (∃ a' b', IsPair h TO a' b') → h.IsListIter i1 l1 (k1 + 1) → h.IsListIter i2 l2 (k2 + 1) → IsPair h s.heap.objs.size x y → h.objs.size = s.heap.objs.size + 1 →
      (∀ c o, c ≠ z → c ≠ TO → c ≠ i1 → c ≠ i2 → s.heap.get? c = some o → h.get? c = some o) → Q (.ref s.heap.objs.size) { s with heap := h }) :
    wpAny (model prog w) A (Builtin.SmallTypes.nextOf (.ref z)) Q E s := by
  have ty : s.TypeIs (.ref z) "zip" := ⟨_, hz, rfl⟩
  unfold Builtin.SmallTypes.nextOf
  refine wpAny_bind (wpAny_callSpecial?_slot (name := Str.ofString "__next__") ty F.slot_zip_next (wpAny_call_entry F.slot_zip_next ty F.entry_zip_next ?_ (F.args_zip_next_1 _)))
  rcases hg with ⟨rfl, rfl⟩ | ⟨T, rfl⟩
  · exact zip_next_item D hz hI hO j1 j2 m1 m2 ex ey fun h e1 e2 e3 e4 e5 e6 e7 => wpAny_pure (q h ⟨_, _, e1, .inr ⟨_, rfl⟩⟩ ⟨_, _, e2⟩ e3 e4 e5 e6 e7)
  · cases hT : s.heap.get? T with
    | none => exact zp_item D hz hT hI hO j1 j2 m1 m2 ex ey fun h e1 e2 e3 e4 e5 e6 e7 => wpAny_pure (q h ⟨_, _, e1, .inr ⟨_, rfl⟩⟩ ⟨_, _, e2⟩ e3 e4 e5 e6 e7)
    | some o => exact zip_next_item_held D hz hT hI j1 j2 m1 m2 ex ey fun h e1 e3 e4 e5 e6 e7 => wpAny_pure (q h ⟨_, _, e1, .inr ⟨_, rfl⟩⟩ ⟨a, b, e7 _ _ D.TOz D.TOi1 D.TOi2 hO⟩ e3 e4 e5 e6 fun c o n1 _ n3 n4 u => e7 c o n1 n3 n4 u)
theorem zp_stop {Q : Value → Shared → Prop} {g : Value} (hh : A.handled = none) (D : ZipApart z TI TO i1 i2 l1 l2) (hz : Zp s.heap z TI TO g f) (hg : Gone g f) (hI : IsPair s.heap TI (.ref i1) (.ref i2)) (hO : IsPair s.heap TO a b)
    (j1 : s.heap.IsListIter i1 l1 k1) (j2 : s.heap.IsListIter i2 l2 k2) (m1 : s.heap.IsList l1 xs) (m2 : s.heap.IsList l2 ys) (ex : xs[k1]? = none)
    (q : ∀ h e, (∀ c o, c ≠ z → c ≠ TO → c ≠ i1 → c ≠ i2 → s.heap.get? c = some o → h.get? c = some o) → (∃ o, h.get? e = some o ∧ o.cls = .type "StopIteration") → E (.ref e) { s with heap := h }) :
    wpAny (model prog w) A (Builtin.SmallTypes.nextOf (.ref z)) Q E s := by
  have ty : s.TypeIs (.ref z) "zip" := ⟨_, hz, rfl⟩
  unfold Builtin.SmallTypes.nextOf
  refine wpAny_bind (wpAny_callSpecial?_slot (name := Str.ofString "__next__") ty F.slot_zip_next (wpAny_call_entry F.slot_zip_next ty F.entry_zip_next ?_ (F.args_zip_next_1 _)))
  rcases hg with ⟨rfl, rfl⟩ | ⟨T, rfl⟩
  · exact zip_next_end hh D hz hI hO j1 j2 m1 m2 (.inl ex) q
  · cases hT : s.heap.get? T with
    | none => exact zp_end hh D hz hT hI j1 m1 ex q
    | some o => exact zip_next_end_held hh D hz hT hI j1 j2 m1 m2 (.inl ex) fun h e k => q h e fun c o n1 _ n3 n4 u => k c o n1 n3 n4 u
end
end K89
namespace K89
open PySem PySem.Spec PyProof.Rows L2
open Sem (wp)
section
variable {prog : Program} {w : World} {A : Around} {E : Value → Shared → Prop} {s : Shared} {e z : Addr} {c : Int} {old : Value} {R : Heap → Value → Prop}
/-- enumerate's next over anything whose next is known -/
theorem en_next {Q : Option Value → Shared → Prop} (he : IsEnum s.heap e z c old) (hn : ∀ (B : Around) (Q' E' : Value → Shared → Prop), B.handled = A.handled → (∀ h x, R h x → Q' x { s with heap := h }) → wpAny (model prog w) B (Builtin.SmallTypes.nextOf (.ref z)) Q' E' s)
    (hR : ∀ h x, R h x → IsEnum h e z c old)
    (q : ∀ h x h' tk, R h x → IsEnumOut h' e z (c + 1) x h.objs.size → h'.get? h.objs.size = some { cls := .type "tuple", data := .seq #[.int c tk, x] } → h'.objs.size = h.objs.size + 1 →
      (∀ b o, b ≠ e → h.get? b = some o → h'.get? b = some o) → Q (some (.ref h.objs.size)) { s with heap := h', toks := tk + 1 }) :
    wpAny (model prog w) A (pyNext (.ref e)) Q E s := by
  have ty : s.TypeIs (.ref e) "enumerate" := ⟨_, he, rfl⟩
  unfold pyNext
  refine wpAny_bind (wpAny_attempt (wpAny_callSpecial?_slot (name := Str.ofString "__next__") ty F.slot_enumerate_next (wpAny_call_entry F.slot_enumerate_next ty F.entry_enumerate_next ?_ (F.args_enumerate_next_1 _))))
  obtain ⟨hp, g, d, tk, os⟩ := s
  show wpAny _ _ (field (.ref e) 2 >>= _) _ _ _
  refine wpAny_bind (wpAny_field he rfl (x := .ref z) rfl (wpAny_bind (hn _ _ _ rfl fun h x r => ?_)))
  have e1 := hR h x r
  show wpAny _ _ (field (.ref e) 3 >>= _) _ _ ⟨h, g, d, tk, os⟩
  refine wpAny_bind (wpAny_field e1 rfl (x := rawInt c) rfl ?_)
  show wpAny _ _ (field (.ref e) 4 >>= _) _ _ ⟨h, g, d, tk, os⟩
  refine wpAny_bind (wpAny_field e1 rfl (x := .none) rfl ?_)
  show wpAny _ _ (mkInt c >>= _) _ _ ⟨h, g, d, tk, os⟩
  refine wpAny_bind (wpAny_mkInt ?_)
  show wpAny _ _ (setField (.ref e) 3 (rawInt (c + 1)) >>= _) _ _ ⟨h, g, d, tk + 1, os⟩
  refine wpAny_bind (wpAny_setField_rec e1 (by simp) fun ha ea ba => ?_)
  replace ea : IsEnum ha e z (c + 1) old := ea
  show wpAny _ _ (setField (.ref e) 4 .none >>= _) _ _ ⟨ha, g, d, tk + 1, os⟩
  refine wpAny_bind (wpAny_setField_rec ea (by simp) fun hb eb bb => ?_)
  replace eb : IsEnum hb e z (c + 1) old := eb
  replace ba : Heap.SameBut e h ha := ba
  replace bb : Heap.SameBut e ha hb := bb
  show wpAny _ _ (newTuple [.int c tk, x] >>= _) _ _ ⟨hb, g, d, tk + 1, os⟩
  refine wpAny_bind (wpAny_newTuple ?_)
  have ec : IsEnum (hb.push { cls := .type "tuple", data := .seq #[.int c tk, x] }) e z (c + 1) old := Heap.get?_push_of_some _ eb
  generalize hh : hb.push { cls := .type "tuple", data := .seq #[.int c tk, x] } = hc at ec
  have sz : hb.objs.size = h.objs.size := by rw [bb.1, ba.1]
  have le : e < h.objs.size := Heap.lt_size e1
  have tc : hc.get? h.objs.size = some { cls := .type "tuple", data := .seq #[.int c tk, x] } := by rw [← hh, ← sz]; exact Heap.get?_push_size _ rfl
  have zc : hc.objs.size = h.objs.size + 1 := by rw [← hh, Heap.size_push, sz]
  have kc : ∀ b o, b ≠ e → h.get? b = some o → hc.get? b = some o := fun b o n u => by
    rw [← hh]; exact Heap.get?_push_of_some _ (bb.extBut b o n (ba.extBut b o n u))
  show wpAny _ _ (Builtin.SmallTypes.ownedTupleIsFree (.ref e) >>= _) _ _ ⟨hc, g, d, tk + 1, os⟩
  rw [sz]
  clear hh eb bb ea ba sz hb ha
  refine wpAny_bind ?_
  unfold Builtin.SmallTypes.ownedTupleIsFree
  refine wpAny_bind (wpAny_field ec rfl (x := .none) rfl (wpAny_pure ?_))
  simp only [if_true]
  refine wpAny_bind (wpAny_rule (wpAny_bind (wpAny_field ec rfl (x := old) rfl (wpAny_bind (wpAny_setField_rec ec (by simp) fun hd ed bd => ?_)))))
  replace ed : IsEnum hd e z (c + 1) x := ed
  replace bd : Heap.SameBut e hc hd := bd
  show wpAny _ _ (Builtin.SmallTypes.ownedTupleHandOut (.ref e) (.ref h.objs.size) >>= _) _ _ ⟨hd, g, d, tk + 1, os⟩
  refine wpAny_bind ?_
  unfold Builtin.SmallTypes.ownedTupleHandOut
  refine wpAny_bind (wpAny_setField_rec ed (by simp) fun hf ef bf => ?_)
  replace ef : IsEnumOut hf e z (c + 1) x h.objs.size := ef
  replace bf : Heap.SameBut e hd hf := bf
  refine wpAny_setField_rec ef (by simp) fun hg eg bg => ?_
  replace eg : IsEnumOut hg e z (c + 1) x h.objs.size := eg
  replace bg : Heap.SameBut e hf hg := bg
  have kg : ∀ b o, b ≠ e → hc.get? b = some o → hg.get? b = some o := fun b o n u => bg.extBut b o n (bf.extBut b o n (bd.extBut b o n u))
  refine wpAny_bind (wpAny_letGo (wpAny_pure ⟨_, rfl, ?_⟩))
  exact wpAny_pure (q h x hg tk r eg (kg _ _ (Nat.ne_of_gt le) tc) (by rw [bg.1, bf.1, bd.1, zc]) fun b o n u => kg b o n (kc b o n u))
theorem en_stop {Q : Option Value → Shared → Prop} {i : Int} (he : IsEnum s.heap e z i old) (hn : ∀ (B : Around) (Q' E' : Value → Shared → Prop), B.handled = A.handled → (∀ h x, R h x → (∃ y o, x = .ref y ∧ h.get? y = some o ∧ o.cls = .type "StopIteration") → E' x { s with heap := h }) → wpAny (model prog w) B (Builtin.SmallTypes.nextOf (.ref z)) Q' E' s)
    (q : ∀ h x, R h x → Q none { s with heap := h }) : wpAny (model prog w) A (pyNext (.ref e)) Q E s := by
  have ty : s.TypeIs (.ref e) "enumerate" := ⟨_, he, rfl⟩
  unfold pyNext
  refine wpAny_bind (wpAny_attempt (wpAny_callSpecial?_slot (name := Str.ofString "__next__") ty F.slot_enumerate_next (wpAny_call_entry F.slot_enumerate_next ty F.entry_enumerate_next ?_ (F.args_enumerate_next_1 _))))
  show wpAny _ _ (field (.ref e) 2 >>= _) _ _ _
  refine wpAny_bind (wpAny_field he rfl (x := .ref z) rfl (wpAny_bind (hn _ _ _ rfl fun h x r st => ?_)))
  obtain ⟨y, o, rfl, ho, hc⟩ := st
  exact wpAny_bind (wpAny_isInstance (T := "StopIteration") (b := true) ⟨o, ho, hc⟩ isSubtype_stop (wpAny_pure (q _ _ r)))
end
theorem meets_enum_zip (z TI TO : Addr) (f0 : Value) :
    Meets (Builtin.«enumerate.__new__» ⟨[.type "enumerate", .ref z], []⟩) (fun _ R s => IsZip s.heap z TI TO f0 ∧
      R (.ok (.ret (.ref s.heap.objs.size))) { s with heap := s.heap.push { cls := .type "enumerate", data := .fields #[.none, .bool false, .ref z, rawInt 0, .none, .none] } }) :=
  .of_wp fun prog w A R s h => by
    obtain ⟨hp, g, d, tk, os⟩ := s
    obtain ⟨hz, h⟩ := h
    have hsub := sub_enumerate
    have q1 : ∀ {A' : Around} {E : Value → Shared → Prop} {Q : Value → Shared → Prop}, Q (.ref z) ⟨hp, g, d, tk, os⟩ → wpAny (model prog w) A' (pyIter (.ref z)) Q E ⟨hp, g, d, tk, os⟩ := fun q => wpAny_pyIter_zip hz q
    wp_walk using q1
    refine wpAny_stack_any fun st => wpAny_pure ?_
    split
    · rename_i c _ _ _ _ _
      cases (c == Value.type "enumerate")
      · wp_walk using q1
        exact ⟨_, rfl, h⟩
      · wp_walk using q1
        exact ⟨_, rfl, h⟩
    · wp_walk using q1
      exact ⟨_, rfl, h⟩
theorem call_enum_zip {prog : Program} {w : World} {A : Around} {E : Value → Shared → Prop} {s : Shared} {z TI TO : Addr} {f0 : Value} {Q : Value → Shared → Prop} (hz : IsZip s.heap z TI TO f0)
    (h : ∀ h', IsEnum h' s.heap.objs.size z 0 .none → h'.objs.size = s.heap.objs.size + 1 → (∀ b o, s.heap.get? b = some o → h'.get? b = some o) → Q (.ref s.heap.objs.size) { s with heap := h' }) :
    wpAny (model prog w) A (call (.type "enumerate") [.ref z]) Q E s := by
  refine callType_new F.called_enumerate (by decide) (F.typeCall_enumerate_1 _) (F.newCall_enumerate_1 _) (fun obj => F.args_object_init_2 obj _) F.entry_enumerate_new (meets_enum_zip z TI TO f0) ⟨hz, ?_⟩
  have he : IsEnum (s.heap.push { cls := .type "enumerate", data := .fields #[.none, .bool false, .ref z, rawInt 0, .none, .none] }) s.heap.objs.size z 0 .none := Heap.get?_push_size _ rfl
  exact ⟨⟨_, he, rfl⟩, h _ he (Heap.size_push ..) fun b o u => Heap.get?_push_of_some _ u⟩
end K89
namespace K89
open PySem PySem.Spec PyProof.Rows L2
/-- the lists at a and b, turn by turn, the items in a new pair within a new pair -/
def Itq (K : PySem.W.Frag) (a b : Addr) : It where
  go := fun i H => ∃ (xs ys : List V) (x y : V), SqL K H a xs ∧ SqL K H b ys ∧ xs[i]? = some x ∧ ys[i]? = some y
  yld := fun i H v H' => ∃ (T S : Addr) (x y : V), v = .ref T ∧ H S = none ∧ upd H S (.tup [x, y]) T = none ∧ H' = upd (upd H S (.tup [x, y])) T (.tup [.int (i : Nat), .ref S]) ∧ (∀ xs, SqL K H a xs → xs[i]? = some x) ∧ ∀ ys, SqL K H b ys → ys[i]? = some y
  stop := fun i H => ∃ (xs ys : List V), SqL K H a xs ∧ SqL K H b ys ∧ xs.length ≤ i
def tnEZ (a b e z TI TO i1 i2 : Addr) (i : Nat) (h : Heap) : Prop :=
  (∃ old, IsEnum h e z ((i : Nat) : Int) old) ∧ (∃ g f, Zp h z TI TO g f ∧ Gone g f) ∧ IsPair h TI (.ref i1) (.ref i2) ∧ (∃ x y, IsPair h TO x y) ∧ h.IsListIter i1 a i ∧ h.IsListIter i2 b i
theorem turn_ez {P : Program} {w : World} {K : PySem.W.Frag} {elts : List Expr} {kk : Nat} {tpos : Pos} {a b e z TI TO i1 i2 : Addr} (D : ZipApart z TI TO i1 i2 a b) (ne : e ≠ z ∧ e ≠ TI ∧ e ≠ TO ∧ e ≠ i1 ∧ e ≠ i2) :
    Turn P w K (.Tuple elts kk tpos) (Itq K a b) [e, z, TI, TO, i1, i2] e (tnEZ a b e z TI TO i1 i2) where
  mem := List.mem_cons_self
  obj := fun i h st c hc => by
    obtain ⟨⟨old, he⟩, ⟨g, f, hz, _⟩, hI, ⟨x, y, hO⟩, ⟨o1, e1, _, d1⟩, ⟨o2, e2, _, d2⟩⟩ := st
    simp only [List.mem_cons, List.not_mem_nil, or_false] at hc
    rcases hc with rfl | rfl | rfl | rfl | rfl | rfl
    · exact ⟨_, he, nofun⟩
    · exact ⟨_, hz, nofun⟩
    · exact ⟨_, hI, nofun⟩
    · exact ⟨_, hO, nofun⟩
    · exact ⟨o1, e1, fun v q => by rw [d1] at q; cases q⟩
    · exact ⟨o2, e2, fun v q => by rw [d2] at q; cases q⟩
  keep := fun i h h' st k => by
    obtain ⟨⟨old, he⟩, ⟨g, f, hz, hg⟩, hI, ⟨x, y, hO⟩, h1, h2⟩ := st
    exact ⟨⟨old, k e (by simp) _ he⟩, ⟨g, f, k z (by simp) _ hz, hg⟩, k TI (by simp) _ hI, ⟨x, y, k TO (by simp) _ hO⟩, h1.at fun o q => k i1 (by simp) o q, h2.at fun o q => k i2 (by simp) o q⟩
  item := by
    intro X hP hw hK hc i pins s σ H E I hf st hg
    subst hP hw hK
    obtain ⟨⟨old, he⟩, ⟨g, f, hz, hgone⟩, hI, ⟨u0, v0, hO⟩, h1, h2⟩ := st
    obtain ⟨xs, ys, x, y, hqx, hqy, hx, hy⟩ := hg
    obtain ⟨its, rv, p, _⟩ := I.list hqx
    obtain ⟨its2, rv2, p2, _⟩ := I.list hqy
    obtain ⟨u, hu, ru⟩ := rv.get hx
    obtain ⟨v, hv, rv'⟩ := rv2.get hy
    have le : e < s.heap.objs.size := Heap.lt_size he
    have lz : z < s.heap.objs.size := Heap.lt_size hz
    have lI : TI < s.heap.objs.size := Heap.lt_size hI
    have lO : TO < s.heap.objs.size := Heap.lt_size hO
    have l1 : i1 < s.heap.objs.size := by obtain ⟨_, q, _⟩ := h1; exact Heap.lt_size q
    have l2 : i2 < s.heap.objs.size := by obtain ⟨_, q, _⟩ := h2; exact Heap.lt_size q
    refine en_next (R := fun h w => w = .ref s.heap.objs.size ∧ (∃ g' f', Zp h z TI TO g' f' ∧ Gone g' f') ∧ (∃ a' b', IsPair h TO a' b') ∧ h.IsListIter i1 a (i + 1) ∧ h.IsListIter i2 b (i + 1) ∧ IsPair h s.heap.objs.size u v ∧ h.objs.size = s.heap.objs.size + 1 ∧
      (∀ c o, c ≠ z → c ≠ TO → c ≠ i1 → c ≠ i2 → s.heap.get? c = some o → h.get? c = some o)) he
      (fun B Q' E' _ k => zp_next D hz hgone hI hO h1 h2 p.isList p2.isList (x := u) (y := v) (by simpa using hu) (by simpa using hv) fun h r1 r2 r3 r4 r5 r6 r7 => k h _ ⟨rfl, r1, r2, r3, r4, r5, r6, r7⟩)
      (fun h w r => r.2.2.2.2.2.2.2 e _ ne.1 ne.2.2.1 ne.2.2.2.1 ne.2.2.2.2 he)
      (fun h w h' tk r ho hT hsz hk => ?_)
    obtain ⟨rfl, ⟨g', f', hz1, hgone'⟩, ⟨a', b', hO1⟩, hi1, hi2, hS, hsz1, hk1⟩ := r
    have newS : ObjOk X.prog X.w (upd H s.heap.objs.size (.tup [x, y])) h s.heap.objs.size (.tup [x, y]) := ⟨by show 2 ≤ sizeLine; decide, [u, v], .cons ru (.cons rv' .nil), ⟨_, hS, rfl, _, rfl⟩⟩
    have I1 : Inv X pins σ (upd H s.heap.objs.size (.tup [x, y])) { s with heap := h, toks := s.toks } :=
      I.turnedNew (ch := [e, z, TI, TO, i1, i2]) (fun c o hb q => by
        simp only [List.mem_cons, List.not_mem_nil, or_false, not_or] at hb
        exact hk1 c o hb.2.1 hb.2.2.2.1 hb.2.2.2.2.1 hb.2.2.2.2.2 q) hf (Nat.le_refl _) newS
    refine ⟨_, rfl, wpAny_letOwnedTupleGo_enum (s := { s with heap := h', toks := tk + 1 }) ho fun h'' he' sb => ?_⟩
    have leh : e < h.objs.size := by rw [hsz1]; exact Nat.lt_succ_of_lt le
    have hT2 : h''.get? h.objs.size = some { cls := .type "tuple", data := .seq #[.int ((i : Nat) : Int) tk, .ref s.heap.objs.size] } := (sb.2 _ (Nat.ne_of_gt leh)).trans hT
    have newT : ObjOk X.prog X.w (upd (upd H s.heap.objs.size (.tup [x, y])) h.objs.size (.tup [.int (i : Nat), .ref s.heap.objs.size])) h'' h.objs.size (.tup [.int (i : Nat), .ref s.heap.objs.size]) :=
      ⟨by show 2 ≤ sizeLine; decide, [.int ((i : Nat) : Int) tk, .ref s.heap.objs.size], .cons ⟨_, rfl⟩ (.cons rfl .nil), ⟨_, hT2, rfl, _, rfl⟩⟩
    have up : ∀ c o, c ≠ e → h.get? c = some o → h''.get? c = some o := fun c o n q => (sb.2 c n).trans (hk c o n q)
    have hf1 : ∀ c ∈ [e, z, TI, TO, i1, i2], FpOk X pins (upd H s.heap.objs.size (.tup [x, y])) c := fun c hc => by
      obtain ⟨f0, f1⟩ := hf c hc
      refine ⟨?_, f1⟩
      have : c ≠ s.heap.objs.size := by
        simp only [List.mem_cons, List.not_mem_nil, or_false] at hc
        rcases hc with rfl | rfl | rfl | rfl | rfl | rfl <;> exact Nat.ne_of_lt (by assumption)
      rw [upd_ne this]
      exact f0
    have I2 : Inv X pins σ (upd (upd H s.heap.objs.size (.tup [x, y])) h.objs.size (.tup [.int (i : Nat), .ref s.heap.objs.size])) { s with heap := h'', toks := tk + 1 } :=
      I1.turnedNew (ch := [e]) (fun c o hb q => up c o (fun z => hb (by simp [z])) q) (fun c hc => hf1 c (by simp at hc; simp [hc])) (Nat.le_refl _) newT
    refine ⟨.ref h.objs.size, _, I2, rfl, ⟨_, s.heap.objs.size, x, y, rfl, I.hok.fresh (Nat.le_refl _), I1.hok.fresh (Nat.le_refl _), rfl, fun l hl => by rw [I.list_inj hl hqx]; exact hx, fun l hl => by rw [I.list_inj hl hqy]; exact hy⟩, ⟨⟨.ref s.heap.objs.size, ?_⟩, ⟨g', f', up _ _ ne.1.symm hz1, hgone'⟩, up _ _ ne.2.1.symm (hk1 _ _ D.TIz D.TITO D.TIi1 D.TIi2 hI), ⟨a', b', up _ _ ne.2.2.1.symm hO1⟩, hi1.at fun o q => up _ o ne.2.2.2.1.symm q, hi2.at fun o q => up _ o ne.2.2.2.2.symm q⟩, fun c hc => ?_⟩
    · have e1 : ((i + 1 : Nat) : Int) = (i : Int) + 1 := by omega
      rw [e1]
      exact he'
    · have : c ≠ h.objs.size := by
        rw [hsz1]
        simp only [List.mem_cons, List.not_mem_nil, or_false] at hc
        rcases hc with rfl | rfl | rfl | rfl | rfl | rfl <;> exact Nat.ne_of_lt (Nat.lt_succ_of_lt (by assumption))
      rw [upd_ne this]
      exact (hf1 c hc).1
  done := by
    intro X hP hw hK hc i pins s σ H E I hf st hg
    subst hP hw hK
    obtain ⟨⟨old, he⟩, ⟨g, f, hz, hgone⟩, hI, ⟨u0, v0, hO⟩, h1, h2⟩ := st
    obtain ⟨xs, ys, hqx, hqy, hend⟩ := hg
    obtain ⟨its, rv, p, _⟩ := I.list hqx
    obtain ⟨its2, rv2, p2, _⟩ := I.list hqy
    have l1 := rv.length
    have ex : its.toArray[i]? = none := by simp; omega
    refine en_stop (R := fun h _ => ∀ c o, c ≠ z → c ≠ TO → c ≠ i1 → c ≠ i2 → s.heap.get? c = some o → h.get? c = some o) he
      (fun B Q' E' hB k => zp_stop (hB.trans (I.ok.hd hc)) D hz hgone hI hO h1 h2 p.isList p2.isList ex fun h x r1 r2 => k h _ r1 (by obtain ⟨o, r3, r4⟩ := r2; exact ⟨x, o, rfl, r3, r4⟩))
      (fun h x r => ⟨rfl, I.turnedL (t' := s.toks) (ch := [e, z, TI, TO, i1, i2]) (fun c o hb q => by
        simp only [List.mem_cons, List.not_mem_nil, or_false, not_or] at hb
        exact r c o hb.2.1 hb.2.2.2.1 hb.2.2.2.2.1 hb.2.2.2.2.2 q) hf⟩)
  self := fun A i s Q E st h => let ⟨⟨_, he⟩, _⟩ := st; wpAny_pyIter_enum he h
def iEZ (K : PySem.W.Frag) (ta : TA) : TI := fun σ H R => ta σ H fun vs H1 => ∃ a b xs ys, vs = [.ref a, .ref b] ∧ SqL K H1 a xs ∧ SqL K H1 b ys ∧ R (Itq K a b) H1
theorem pi_ez {X : Cx} {e e2 : Expr} {ta : TA} {p p2 pos pos2 tpos : Pos} {elts : List Expr} {kk : Nat} (hg : Gl X "enumerate") (hg2 : Gl X "zip") (hm : X.mg "enumerate" = none) (hm2 : X.mg "zip" = none) (ha : PA X [e, e2] ta)
    (hs : starEach [e, e2] X.env = (false, eval e X.env) :: starEach [e2] X.env := by rfl) (hpl : (backTo pos2 (starEach [e2] X.env)).any (·.1) = false := by rfl)
    (hs2 : starEach [.Call (.Name "zip" p2) [e, e2] [] pos2] X.env = [(false, eval (.Call (.Name "zip" p2) [e, e2] [] pos2) X.env)] := by rfl) :
    PI X (.Tuple elts kk tpos) (.Call (.Name "enumerate" p) [.Call (.Name "zip" p2) [e, e2] [] pos2] [] pos) (iEZ X.K ta) := by
  refine ⟨fun pins s σ H R I h => ?_⟩
  refine Call_ (ld_blt I hg hm boot_enumerate (PyProof.Rows.callWith_type1 ?_ hs2 rfl))
  rw [hs2]
  show wpAny (model X.prog X.w) X.A (spliced [(false, eval (.Call (.Name "zip" p2) [e, e2] [] pos2) X.env)]) _ _ s
  refine Calls.spliced_cons ?_
  refine Call_ (ld_blt I hg2 hm2 PyProof.Rows.boot_zip (PyProof.Rows.callWith_type1 (thn (ha.run pos2 pins s σ H _ I h) fun us s1 r => ?_) hs hpl))
  obtain ⟨vs, H1, I1, r1, a, b, xs, ys, ex, hqx, hqy, q⟩ := r
  subst ex
  cases r1 with
  | cons r rr =>
    cases rr with
    | cons r' rr =>
      cases rr
      cases r
      cases r'
      obtain ⟨its, rv, p1, _⟩ := I1.list hqx
      obtain ⟨its2, rv2, p3, _⟩ := I1.list hqy
      have la : a < s1.heap.objs.size := p1.lt
      have lb : b < s1.heap.objs.size := p3.lt
      refine call_zip_2 p1.isList p3.isList fun h' hz hTI hTO h1 h2 hsz hk => Calls.spliced_nil ?_
      refine call_enum_zip (s := { s1 with heap := h' }) hz fun h'' he hsz2 hk2 => wpAny_pyIter_enum he ?_
      have kk2 : ∀ b o, s1.heap.get? b = some o → h''.get? b = some o := fun b o u => hk2 b o (hk b o u)
      have I2 : Inv X pins σ H1 { s1 with heap := h'' } := I1.kept (t' := s1.toks) kk2
      have sz : h'.objs.size = s1.heap.objs.size + 5 := hsz
      refine ⟨h'.objs.size, [h'.objs.size, s1.heap.objs.size + 4, s1.heap.objs.size + 2, s1.heap.objs.size + 3, s1.heap.objs.size, s1.heap.objs.size + 1], _, _, H1, rfl, I2, turn_ez (PySem.W.ktu_apart s1.heap.objs.size a b la lb) ?_,
        ⟨⟨.none, he⟩, ⟨_, _, hk2 _ _ hz, .inl ⟨rfl, rfl⟩⟩, hk2 _ _ hTI, ⟨_, _, hk2 _ _ hTO⟩, h1.at fun o u => hk2 _ o u, h2.at fun o u => hk2 _ o u⟩, fun c hcm => ?_, q⟩
      · rw [sz]
        have n1 : ∀ j, j < 5 → s1.heap.objs.size + 5 ≠ s1.heap.objs.size + j := fun j hj => by omega
        exact ⟨n1 4 (by decide), n1 2 (by decide), n1 3 (by decide), n1 0 (by decide), n1 1 (by decide)⟩
      · have hle : s1.heap.objs.size ≤ c := by
          rw [sz] at hcm
          simp only [List.mem_cons, List.not_mem_nil, or_false] at hcm
          rcases hcm with rfl | rfl | rfl | rfl | rfl | rfl
          · exact Nat.le_add_right _ _
          · exact Nat.le_add_right _ _
          · exact Nat.le_add_right _ _
          · exact Nat.le_add_right _ _
          · exact Nat.le_refl _
          · exact Nat.le_add_right _ _
        exact I1.fpOk hle (I1.hok.fresh hle)
/-- a new pair of the number and of a new pair of the i-th of xs and the i-th of ys -/
def YPp (xs ys : List V) : Nat → Hp → V → Hp → Prop := fun i H v H' => ∃ (T S : Addr) (x y : V), v = .ref T ∧ H S = none ∧ upd H S (.tup [x, y]) T = none ∧ H' = upd (upd H S (.tup [x, y])) T (.tup [.int (i : Nat), .ref S]) ∧ xs[i]? = some x ∧ ys[i]? = some y
theorem walk_ez {K : PySem.W.Frag} {a b : Addr} {xs ys : List V} (hl : xs.length = ys.length) : Walk (Itq K a b) xs.length (fun H => SqL K H a xs ∧ SqL K H b ys) (YPp xs ys) := by
  refine ⟨fun i H hi q => ?_, fun H q => ⟨xs, ys, q.1, q.2, Nat.le_refl _⟩, fun i H v H' _ q y => ?_⟩
  · have h2 : i < ys.length := by omega
    exact ⟨xs, ys, xs[i], ys[i], q.1, q.2, by simp [hi], by simp [h2]⟩
  · obtain ⟨T, S, x, z, h1, h2, h3, h4, h5, h6⟩ := y
    exact ⟨T, S, x, z, h1, h2, h3, h4, h5 xs q.1, h6 ys q.2⟩
end K89
namespace K89
open PySem PySem.Spec PyProof.Rows L2
open C8 (Cal pe_c)
theorem op_catK {X : Cx} {K : PySem.W.Frag} (hK : X.K = K := by rfl) : OpR X (binaryOp .Add) (rCatA K) := by
  subst hK
  exact op_catA
section
variable {P : Program} {w : World} {K : PySem.W.Frag} {mg : Str → Option Value} {base : Heap}
/-! ### unlike_in -/
def spUnlikeIn (K : PySem.W.Frag) (n : Nat) : Sp := fun vs H Q _ => ∃ v v' t u, vs = [v, v'] ∧ TmR K H v t ∧ TmR K H v' u ∧ t.ht ≤ n ∧ t.ht ≤ 10 ∧ u.ht ≤ 60 ∧ NewSps K H (t.unlike u) Q
abbrev N_unlike_in : List Str := ["one", "other", "found", "number", "part", "match", "spot"]
abbrev P_unlike_in : List Str := ["one", "other"]
theorem sc_unlike_in : FnScope N_unlike_in P_unlike_in (defScope s_unlike_in) := ⟨rfl, rfl, rfl, by decide +kernel, rfl, by decide +kernel, by decide +kernel⟩
theorem line30' {n : Nat} (h : n ≤ 60000) : n < sizeLine := Nat.lt_of_le_of_lt h (by decide)
theorem unlike_sp_len {t u : Tm} {s : Spot} (h : s ∈ t.unlike u) : s.length ≤ t.ht := by
  obtain ⟨p, q, h1, _, _⟩ := unlike_has t u s h
  have := get_ht t s p h1
  omega
theorem c_unlike_in_step (T : Tx w K mg) {n k : Nat} (hk : 2 ≤ k) (c_unlike_in : Cal P w K mg base k "unlike_in" (spUnlikeIn K n) []) : Cal P w K mg base (k + 1) "unlike_in" (spUnlikeIn K (n + 1)) [] := by
  obtain ⟨fd, F⟩ := T.d_unlike_in
  refine cal_of F (F.ok sc_unlike_in (fun vs H Q E h => ?_) (fun cdv A outer s H vs Q E hr h => ⟨_, PSs.nox (pss_cons (ps_if (pt_val (pe_c (c_differ T) hr hk rfl (pa_cons (pv 0) (pa_cons (pv 1) pa_nil)))) (pss_one (ps_ret (pe_lst (pa_cons (pe_tup pa_nil) pa_nil)))) pss_nil)
    (pss_cons (ps_set (i := 2) sc_unlike_in.nd rfl (Or.inl rfl) (pe_lst pa_nil))
    (pss_cons (ps_for PassesOwn.never rfl (pi_ez (by rfl) (by rfl) T.n_enumerate T.n_zip (pa_cons (pe_c (c_inner T) hr (by omega) rfl (pa_cons (pv 0) pa_nil)) (pa_cons (pe_c (c_inner T) hr (by omega) rfl (pa_cons (pv 1) pa_nil)) pa_nil))) (pg_tup (n := 2) (by rfl) (pgs_cons (pg_name (i := 3) sc_unlike_in.nd rfl (Or.inr rfl)) (pgs_cons (pg_tup (n := 2) (by rfl) (pgs_cons (pg_name (i := 4) sc_unlike_in.nd rfl (Or.inl rfl)) (pgs_cons (pg_name (i := 5) sc_unlike_in.nd rfl (Or.inl rfl)) pgs_nil))) pgs_nil)))
      (pss_one (ps_expr (pe_bm PySem.F.plainAttrs_list PySem.F.slot_list_extend PySem.F.type_list_extend mt_extend (pv 2) (pa_cons (pe_lc (own := [("spot", 6)]) (g := (gName 6)) (tt := tYes) (by rfl) sc_unlike_in.nd (pi_list (pe_c c_unlike_in hr (Nat.le_refl _) rfl (pa_cons (pv 4) (pa_cons (pv 5) pa_nil)))) (blkOk_by (N := N_unlike_in) (sc := defScope s_unlike_in) (by decide +kernel)) (fun _ _ _ _ _ => (pg_name (i := 6) sc_unlike_in.nd rfl (Or.inl rfl))) (fun _ _ _ _ _ => pts_nil) (fun _ _ _ _ _ => (pe_op (op_catK (K := K)) (pe_tup (pa_cons (pv 3) pa_nil)) (pv 6)))) pa_nil)))))
    (pss_one (ps_ret (pv 2)))))), ?_⟩)) T.g_unlike_in
    fun _ _ _ _ _ _ us hl => match us, hl with | [_, _], _ => rfl
  · obtain ⟨v, v', t, u, rfl, _⟩ := h
    rfl
  obtain ⟨v, v', t, u, rfl, ht, hu, hn, h10, h60, q⟩ := h
  refine ⟨_, rfl, _, rfl, v, v', t, u, rfl, ht, hu, by omega, h60, fun H0 g1 => ⟨_, rfl, ?_⟩⟩
  by_cases d : Dif t u
  · refine iT d ⟨(by show 0 ≤ sizeLine; decide), fun e he => ⟨(by show 1 ≤ sizeLine; decide), fun r hr' => ?_⟩⟩
    have g2 := g1.trans (same_new he (.tup []))
    have g3 := g2.trans (same_new hr' (.lst [.ref e]))
    refine q r _ [.ref e] g3 (g2.free hr') upd_same ?_
    rw [unlike_dif d]
    exact .cons (.tup (SqT.of (same_new hr' _ _ _ upd_same)) .nil) .nil
  · refine iF d ⟨(by show 0 ≤ sizeLine; decide), fun r0 hr0 => ?_⟩
    have g0 := g1.trans (same_new hr0 (.lst []))
    have hr0' : H r0 = none := g1.free hr0
    have hw : t.word = u.word := Decidable.byContradiction fun e => d (.inl e)
    have hkl := (same_kids hw).1
    refine ⟨_, rfl, v, t, rfl, dp_same g0 ht, fun l H1 xs g2 hl2 hL hx => ?_⟩
    have g02 := g0.trans g2
    refine ⟨_, rfl, v', u, rfl, dp_same g02 hu, fun m H2 ys g3 hm3 hM hy => ?_⟩
    have g03 := g02.trans g3
    have hxl : xs.length = t.kids.length := by rw [dpA_len hx, List.length_map]
    have hyl : ys.length = u.kids.length := by rw [dpA_len hy, List.length_map]
    have hL2 : H2 l = some (.lst xs) := g3 _ _ hL
    have hR1 : H1 r0 = some (.lst []) := g2 _ _ upd_same
    have hR2 : H2 r0 = some (.lst []) := g3 _ _ hR1
    have nl : l ≠ r0 := (ne_of_none upd_same hl2).symm
    have nm : m ≠ r0 := (ne_of_none hR1 hm3).symm
    have hx2 := dps_same g3 hx
    refine ⟨l, m, xs, ys, rfl, SqL.of hL2, SqL.of hM, for_it (walk_ez (xs := xs) (ys := ys) (by omega)) (fun i σ H' => ∃ zs x3 x4 x5 x6, σ = [some v, some v', some (.ref r0), x3, x4, x5, x6] ∧ Mo r0 H2 H' ∧ Same H H' ∧ H' r0 = some (.lst zs) ∧ SpsR K H' zs (kf (fun p : Tm × Tm => p.1.unlike p.2) 0 ((t.kids.zip u.kids).take i))) ?_ (fun i σ H' _ p => ?_) (fun i x σ H3 H4 hi p y => ?_) (fun σ H' p => ?_)⟩
    · exact ⟨[], _, _, _, _, rfl, Mo.refl, g03, hR2, .nil⟩
    · obtain ⟨zs, x3, x4, x5, x6, _, mo, _⟩ := p
      exact ⟨SqL.of (mo _ _ nl hL2), SqL.of (mo _ _ nm hM)⟩
    · obtain ⟨zs, x3, x4, x5, x6, rfl, mo, g, hZ, hS⟩ := p
      obtain ⟨T', S, x, y, rfl, hSn, hT, rfl, hxi, hyi⟩ := y
      obtain ⟨c, hc⟩ : ∃ c, t.kids[i]? = some c := ⟨_, List.getElem?_eq_getElem (by omega)⟩
      obtain ⟨c', hc'⟩ : ∃ c', u.kids[i]? = some c' := ⟨_, List.getElem?_eq_getElem (by omega)⟩
      obtain ⟨x', hx', hxu⟩ := kid_get hx2 hc
      obtain ⟨y', hy', hyu⟩ := kid_get hy hc'
      rw [hxi] at hx'
      cases hx'
      rw [hyi] at hy'
      cases hy'
      have hht : c.ht + 1 ≤ t.ht := Tm.ht_kid (List.mem_of_getElem? hc)
      have hht' : c'.ht + 1 ≤ u.ht := Tm.ht_kid (List.mem_of_getElem? hc')
      have gS : Same H3 (upd H3 S (.tup [x, y])) := same_new hSn _
      have gT := gS.trans (same_new hT (.tup [.int (i : Nat), .ref S]))
      have tk : TK K H2 _ := (mo.tk hR2).trans (TK.of gT)
      refine ⟨T', _, rfl, SqT.of upd_same, rfl, _, _, rfl, _, _, rfl, ⟨S, _, rfl, SqT.of (same_new hT _ _ _ upd_same), rfl, _, _, rfl, _, _, rfl, rfl, rfl, ?_⟩⟩
      refine ⟨_, rfl, .inl ⟨rfl, _, SqL.of (gT _ _ hZ)⟩, ?_⟩
      refine ⟨_, rfl, _, rfl, x, y, c, c', rfl, dp_tk tk (flat_tm _) hxu, dp_tk tk (flat_tm _) hyu, by omega, by omega, by omega, fun r2 H5 ws g5 hr2 hR5 hW => ?_⟩
      have hwl : ws.length = (c.unlike c').length := sps_len hW
      have hws := unlike_small (t := c) (u := c') (by omega)
      refine ⟨r2, rfl, ⟨_, SqL.of hR5⟩, fun D hD => lc_it (walk_list (xs := ws)) (Lc D fun j acc H' => Same H5 H' ∧ SpsR K H' acc (((c.unlike c').take j).map (i :: ·))) (lc_start ⟨same_new hD _, .nil⟩) (fun j H' _ p => ?_) (fun j z H6 H7 hj p y2 => ?_) (fun H' p => ?_)⟩
      · obtain ⟨acc, e, _, g, _⟩ := p
        exact SqL.of (g _ _ hR5)
      · obtain ⟨acc, e, hl', g6, hA⟩ := p
        obtain ⟨rfl, hz⟩ := y2
        obtain ⟨sp, hsp⟩ : ∃ sp, (c.unlike c')[j]? = some sp := ⟨_, List.getElem?_eq_getElem (by omega)⟩
        obtain ⟨d', hd1, hd2⟩ := dpA_get hW hz
        rw [List.getElem?_map, hsp] at hd1
        cases hd1
        have hsl := unlike_sp_len (List.mem_of_getElem? hsp)
        refine ⟨rfl, yT ⟨_, rfl, (by show 1 ≤ sizeLine; decide), fun p hp => ⟨_, rfl, ?_⟩⟩⟩
        have gp : Same H7 (upd H7 p (.tup [.int (i : Nat)])) := same_new hp _
        refine cat_sp (s := [i]) (r := sp) (sp_one upd_same) (dp_same (g6.trans gp) hd2) (by simp; omega) fun q1 H8 g8 hq1 => ?_
        have e8 := g8 _ _ (gp _ _ e)
        have tk8 : TK K H8 _ := (Mo.upd (b := D) (H := H8) (o := .lst (acc ++ [q1]))).tk e8
        refine lc_put e8 hl' (line30' (by omega)) ⟨same_own (g6.trans (gp.trans g8)) hD _, ?_⟩
        rw [List.take_succ, hsp, List.map_append]
        exact sps_tk tk8 (sps_app (sps_same (gp.trans g8) hA) (.cons hq1 .nil))
      · obtain ⟨acc, e, hl', g6, hA⟩ := p
        rw [hwl, List.take_length] at hA
        have g7 := gT.trans (g5.trans g6)
        have hZ7 := g7 _ _ hZ
        have hl1' := sps_len hS
        have hl2' := sps_len hA
        have h30 := unlike_small (u := u) h10
        have hkf := kf_le (f := fun p : Tm × Tm => p.1.unlike p.2) (t.kids.zip u.kids) (i + 1)
        rw [kf_step (zip_get hc hc'), List.length_append, List.length_map] at hkf
        have e9 : ((c, c').1.unlike (c, c').2).length = (c.unlike c').length := rfl
        rw [e9] at hkf
        rw [unlike_kids d] at h30
        rw [List.length_map] at hl2'
        refine ⟨r0, D, zs, acc, rfl, rfl, hZ7, e, line30 (by omega), ⟨zs ++ acc, _, _, _, _, rfl, (mo.trans (Mo.of g7)).trans Mo.upd, same_own (g.trans g7) hr0' _, upd_same, ?_⟩⟩
        rw [kf_step (zip_get hc hc')]
        have tk9 : TK K H' _ := (Mo.upd (b := r0) (H := H') (o := .lst (zs ++ acc))).tk hZ7
        exact sps_tk tk9 (sps_app (sps_same g7 hS) hA)
    · obtain ⟨zs, x3, x4, x5, x6, rfl, mo, g, hZ, hS⟩ := p
      refine ⟨_, rfl, q r0 H' zs g hr0' hZ ?_⟩
      have e : xs.length = (t.kids.zip u.kids).length := by rw [List.length_zip, ← hkl, Nat.min_self, hxl]
      rw [e, List.take_length, ← unlike_kids d] at hS
      exact hS
theorem c_unlike_in (T : Tx w K mg) : ∀ n : Nat, Cal P w K mg base (n + 2) "unlike_in" (spUnlikeIn K n) []
  | 0 => by
    obtain ⟨fd, F⟩ := T.d_unlike_in
    have no : ∀ vs H Q E, ¬ spUnlikeIn K 0 vs H Q E := fun vs H Q E h => by
      obtain ⟨v, v', t, u, _, _, _, hn, _⟩ := h
      have := t.ht_pos
      omega
    refine cal_of F (ps := P_unlike_in) ⟨fun vs H Q E h => absurd h (no vs H Q E), fun A outer s H args us vs Q E _ _ _ _ h => absurd h (no vs H Q E)⟩ T.g_unlike_in
      fun _ _ _ _ _ _ us hl => match us, hl with | [_, _], _ => rfl
  | n + 1 => c_unlike_in_step T (by omega) (c_unlike_in T n)
end
end K89
namespace K89
open PySem PySem.Spec PyProof.Rows L2
open C8 (Cal pe_c)
/-! ### defs that may raise -/
structure CalR (P : Program) (w : World) (K : PySem.W.Frag) (mg : Str → Option Value) (base : Heap) (k : Nat) (x : Str) (sp : Sp) : Prop where
  ex : ∃ (f : Addr) (fd : FuncData) (ps : List Str), FnOk P w K mg base (L2.CX P w) k f fd ps sp ∧ mg x = some (.ref f) ∧ PySem.W.keepIn K (.ref f) = true ∧ Binds K fd ps []
section
variable {X : Cx} {k j : Nat} {x : Str} {sp : Sp} {p pos : Pos} {e : Expr} {es : List Expr} {t : TA} {W : WX}
/-- called where what it raises goes on -/
theorem pe_cr (c : CalR X.prog X.w X.K X.mg X.base k x sp) (hr : Room j X.A) (hk : k ≤ j) (hg : Gl X x) (tk : Takes X W) (ha : PA X (e :: es) t)
    (hdb : (x == ("__debug__" : Str)) = false := by decide) (he : starEach (e :: es) X.env = (false, eval e X.env) :: starEach es X.env := by rfl) (hpl : (backTo pos (starEach es X.env)).any (·.1) = false := by rfl) :
    PE X (.Call (.Name x p) (e :: es) [] pos) (tCallS sp (WE W) t) := by
  obtain ⟨f, fd, ps, F, hm, kp, b⟩ := c.ex
  exact pe_callS F (hr.mono hk) hg hm kp b (fun σ => passAt tk σ) ha hdb he hpl
theorem passF : Passes (L2.CX X.prog X.w) X C8.E0 := fun _ _ _ _ _ _ _ h => by
  obtain ⟨_, _, _, _, _, _, _, _, _, _, _, _, z⟩ := h
  exact z.elim
/-- called where it raises nothing -/
theorem pe_cq (c : CalR X.prog X.w X.K X.mg X.base k x sp) (hr : Room j X.A) (hk : k ≤ j) (hg : Gl X x) (ha : PA X (e :: es) t)
    (hdb : (x == ("__debug__" : Str)) = false := by decide) (he : starEach (e :: es) X.env = (false, eval e X.env) :: starEach es X.env := by rfl) (hpl : (backTo pos (starEach es X.env)).any (·.1) = false := by rfl) :
    PE X (.Call (.Name x p) (e :: es) [] pos) (tCall sp [] C8.E0 t) := by
  obtain ⟨f, fd, ps, F, hm, kp, b⟩ := c.ex
  exact pe_call F (hr.mono hk) hg hm kp b .nil passF ha hdb he hpl
end
section
variable {P : Program} {w : World} {K : PySem.W.Frag} {mg : Str → Option Value} {base : Heap}
theorem calR_of {x : Str} {params : Arguments} {body : List Stmt} {scope : Scope} {fd : FuncData} {ps : List Str} {k : Nat} {sp : Sp} (F : FunD K x x params body scope [] [] (He.ga K x) fd) (ok : FnOk P w K mg base (L2.CX P w) k (He.ga K x) fd ps sp) (g : mg x = some (.ref (He.ga K x)))
    (h : ∀ (kV doc pm : Value) (an : Option Addr) (cdv ct : Value) (us : List Value), us.length = ps.length → bindArgs (PySem.W.fnOf x x params body scope .none kV doc pm an cdv ct) ⟨us, []⟩ = pure (ps.zip us)) : CalR P w K mg base k x sp :=
  ⟨_, _, ps, ok, g, F.kp, F.bindsN h⟩
/-! ### the exceptions -/
def spInit (K : PySem.W.Frag) (C : Addr) : Sp := fun vs H Q _ => ∃ a v, vs = [.ref a, v] ∧ H a = some (exo a C none) ∧ OexC K C ∧ PySem.W.findIn K (.ref C) "found" = some none ∧ ∀ dx, H dx = none → dx ≠ a → Q .non (upd (upd H dx (exd dx [("found", v)])) a (exo a C (some dx)))
abbrev N_init : List Str := ["self", "found"]
theorem sc_init1 : FnScope N_init N_init (defScope m_NoTerm_init) := ⟨rfl, rfl, rfl, by decide +kernel, rfl, by decide +kernel, by decide +kernel⟩
theorem sc_init2 : FnScope N_init N_init (defScope m_NoSpot_init) := ⟨rfl, rfl, rfl, by decide +kernel, rfl, by decide +kernel, by decide +kernel⟩
theorem sc_init3 : FnScope N_init N_init (defScope m_NoList_init) := ⟨rfl, rfl, rfl, by decide +kernel, rfl, by decide +kernel, by decide +kernel⟩
/-- C's __init__, as it is called -/
def IniOk (P : Program) (w : World) (K : PySem.W.Frag) (mg : Str → Option Value) (base : Heap) (x : Str) : Prop := ∃ fd, FnOk P w K mg base C8.CX0 1 (He.ma K (He.ga K x) "__init__") fd N_init (spInit K (He.ga K x)) ∧ Binds K fd N_init []
theorem ini_len {C : Addr} : ∀ vs H Q E, spInit K C vs H Q E → vs.length = N_init.length := fun vs H Q E h => by
  obtain ⟨a, v, rfl, _⟩ := h
  rfl
theorem ini_T (T : Tx w K mg) : IniOk P w K mg base "NoTerm" := by
  obtain ⟨fd, F⟩ := T.d_NoTerm_init
  refine ⟨fd, F.ok sc_init1 ini_len (fun cdv A outer s H vs Q E hr h => ⟨_, PSs.nox (pss_one (ps_ost (pv 0) (pv 1))), ?_⟩), F.bindsN fun _ _ _ _ _ _ us hl => match us, hl with | [_, _], _ => rfl⟩
  obtain ⟨a, v, rfl, ha, ho, hf, q⟩ := h
  exact ⟨_, rfl, _, rfl, a, _, rfl, ho, hf, .inl ⟨ha, q⟩⟩
theorem ini_S (T : Tx w K mg) : IniOk P w K mg base "NoSpot" := by
  obtain ⟨fd, F⟩ := T.d_NoSpot_init
  refine ⟨fd, F.ok sc_init2 ini_len (fun cdv A outer s H vs Q E hr h => ⟨_, PSs.nox (pss_one (ps_ost (pv 0) (pv 1))), ?_⟩), F.bindsN fun _ _ _ _ _ _ us hl => match us, hl with | [_, _], _ => rfl⟩
  obtain ⟨a, v, rfl, ha, ho, hf, q⟩ := h
  exact ⟨_, rfl, _, rfl, a, _, rfl, ho, hf, .inl ⟨ha, q⟩⟩
theorem ini_L (T : Tx w K mg) : IniOk P w K mg base "NoList" := by
  obtain ⟨fd, F⟩ := T.d_NoList_init
  refine ⟨fd, F.ok sc_init3 ini_len (fun cdv A outer s H vs Q E hr h => ⟨_, PSs.nox (pss_one (ps_ost (pv 0) (pv 1))), ?_⟩), F.bindsN fun _ _ _ _ _ _ us hl => match us, hl with | [_, _], _ => rfl⟩
  obtain ⟨a, v, rfl, ha, ho, hf, q⟩ := h
  exact ⟨_, rfl, _, rfl, a, _, rfl, ho, hf, .inl ⟨ha, q⟩⟩
/-- the way out by an exception of the class x, found: v -/
def Bad (K : PySem.W.Frag) (H : Hp) (x : Str) (v : V) (E : XK) : Prop := ∀ d H', Same H H' → H d = none → H' d = some (.xd [("found", v)]) → E (.ref (He.ga K x)) (some d) H'
theorem Bad.same {H H' : Hp} {x : Str} {v : V} {E : XK} (h : Bad K H x v E) (e : Same H H') : Bad K H' x v E := fun d H2 g n q => h d H2 (e.trans g) (e.free n) q
/-- a reading, closed upward -/
def upT (te : TE) : TE := fun σ H Q => ∃ Q0 : VK, te σ H Q0 ∧ ∀ v H1, Q0 v H1 → Q v H1
theorem pe_up {X : Cx} {e : Expr} {te : TE} (h : PE X e te) : PE X e (upT te) := ⟨fun pins s σ H Q I q => by
  obtain ⟨Q0, q1, q2⟩ := q
  exact thn (h.run pins s σ H Q0 I q1) fun u s1 ⟨x, H1, I1, r1, z⟩ => ⟨x, H1, I1, r1, q2 _ _ z⟩⟩
def tBad (K : PySem.W.Frag) (x : Str) (te : TE) (W : WX) : TS := fun _ σ H => te σ H fun v H1 => Bad K H1 x v fun cls d H' => W cls d σ H'
theorem PS.mono {X : Cx} {s : Stmt} {t t' : TS} (h : PS X s t) (m : ∀ D σ H, t' D σ H → t D σ H) : PS X s t' := ⟨fun pins s σ H D I q => h.run pins s σ H D I (m D σ H q)⟩
theorem PMk.mono {X : Cx} {e : Expr} {t t' : L2.St → Hp → XK → Prop} (h : PMk X e t) (m : ∀ σ H Q, t' σ H Q → t σ H Q) : PMk X e t' := fun pins s σ H Q I q => h pins s σ H Q I (m σ H Q q)
theorem ps_bad {X : Cx} {x : Str} {e : Expr} {te : TE} {W : WX} {p pos pos2 : Pos} {j : Nat} (hc : X.calm = true) (tk : Takes X W) (ini : IniOk X.prog X.w X.K X.mg X.base x) (f : ExcF X.K x) (hr : Room j X.A) (hj : 2 ≤ j) (hg : Gl X x) (hm : X.mg x = some (.ref (He.ga X.K x))) (he : PE X e te)
    (hdb : (x == ("__debug__" : Str)) = false := by decide) (hs : starEach (e :: []) X.env = (false, eval e X.env) :: starEach [] X.env := by rfl) (hpl : (backTo pos (starEach [] X.env)).any (·.1) = false := by rfl) :
    PS X (.Raise (some (.Call (.Name x p) [e] [] pos)) none pos2) (tBad X.K x te W) := by
  obtain ⟨fd, F, b⟩ := ini
  refine PS.mono (ps_raise hc tk (pmk_oex f.o f.i f.t F (hr.mono hj) b .nil C8.pass0 hg hm (pa_cons (pe_up he) pa_nil hs) hdb hs hpl)) (fun D σ H h => ⟨_, h, fun v H1 q => ⟨Nat.succ_le_succ (Nat.zero_le 999), fun a ha => ⟨a, v, rfl, upd_same, f.o, f.no, fun dx hd hne => ⟨rfl, dx, [("found", v)], upd_same, ?_, ?_, ?_⟩⟩⟩⟩)
  · rw [upd_ne hne, upd_same]
  · rw [upd_ne hne] at hd
    exact hd
  · rw [upd_ne hne] at hd
    refine q dx _ (fun c o e => ?_) hd upd_same
    have n1 : c ≠ dx := ne_of_none e hd
    have n2 : c ≠ a := ne_of_none e ha
    rw [upd_ne n1, del_ne n2, upd_ne n2, upd_ne n1, upd_ne n2]
    exact e
end
end K89
namespace K89
open PySem PySem.Spec PyProof.Rows L2
open C8 (Cal pe_c)
theorem get_app : ∀ (t : Tm) (a b : Spot), t.get (a ++ b) = (t.get a).bind (·.get b)
  | t, [], b => by rw [get_nil]; rfl
  | .lf l, k :: a, b => rfl
  | .n2 w x y, k :: a, b => by
    match k with
    | 0 => exact get_app x a b
    | 1 => exact get_app y a b
    | _ + 2 => rfl
  | .n3 w x y z, k :: a, b => by
    match k with
    | 0 => exact get_app x a b
    | 1 => exact get_app y a b
    | 2 => exact get_app z a b
    | _ + 3 => rfl
theorem get_one (t : Tm) (k : Nat) : t.get [k] = t.kids[k]? := by
  cases t with
  | lf l => rfl
  | n2 w x y =>
    match k with
    | 0 => exact get_nil x
    | 1 => exact get_nil y
    | _ + 2 => rfl
  | n3 w x y z =>
    match k with
    | 0 => exact get_nil x
    | 1 => exact get_nil y
    | 2 => exact get_nil z
    | _ + 3 => rfl
theorem get_next {t u : Tm} {s : Spot} {i k : Nat} (h : t.get (s.take i) = some u) (hk : s[i]? = some k) : t.get (s.take (i + 1)) = u.kids[k]? := by
  rw [List.take_succ, hk, get_app, h]
  exact get_one u k
theorem get_dead {t : Tm} {s : Spot} {i : Nat} (h : t.get (s.take i) = none) : t.get s = none := by
  have e : s = s.take i ++ s.drop i := (List.take_append_drop i s).symm
  rw [e, get_app, h]
  rfl
section
variable {P : Program} {w : World} {K : PySem.W.Frag} {mg : Str → Option Value} {base : Heap}
/-! ### need_term -/
def spNeed (K : PySem.W.Frag) : Sp := fun vs H Q E => ∃ v b, vs = [v] ∧ TermQ K H v 10 b ∧ (b = true → ∀ H', Same H H' → Q .non H') ∧ (b = false → Bad K H "NoTerm" v E)
abbrev N_need_term : List Str := ["thing"]
theorem sc_need_term : FnScope N_need_term N_need_term (defScope s_need_term) := ⟨rfl, rfl, rfl, by decide +kernel, rfl, by decide +kernel, by decide +kernel⟩
theorem c_need_term (T : Tx w K mg) : CalR P w K mg base 22 "need_term" (spNeed K) := by
  obtain ⟨fd, F⟩ := T.d_need_term
  have X := fx_of T
  refine calR_of F (F.ok sc_need_term (fun vs H Q E h => ?_) (fun cdv A outer s H vs Q E hr h => ⟨_, (pss_one (ps_if (pt_not (pt_val (pe_c (c_is_term T 10) hr (by decide) rfl (pa_cons (pv 0) pa_nil)))) (pss_one (ps_bad rfl (takes_of rfl rfl rfl rfl) (ini_T T) X.eT hr (by decide) rfl T.g_NoTerm (pv 0))) pss_nil)), ?_⟩)) T.g_need_term
    fun _ _ _ _ _ _ us hl => match us, hl with | [_], _ => rfl
  · obtain ⟨v, b, rfl, _⟩ := h
    rfl
  obtain ⟨v, b, rfl, hq, q1, q2⟩ := h
  refine ⟨_, rfl, by decide, v, b, rfl, hq, fun H' g => ?_⟩
  cases b with
  | true => exact ⟨true, rfl, q1 rfl H' g⟩
  | false => exact ⟨false, rfl, iteT ⟨_, rfl, (q2 rfl).same g⟩⟩
/-! ### binds -/
def spBinds (K : PySem.W.Frag) : Sp := fun vs H Q _ => ∃ v t k, vs = [v, .int k] ∧ TmR K H v t ∧ ∀ i : Int, Q (.int i) H
abbrev N_binds : List Str := ["term", "number"]
theorem sc_binds : FnScope N_binds N_binds (defScope s_binds) := ⟨rfl, rfl, rfl, by decide +kernel, rfl, by decide +kernel, by decide +kernel⟩
theorem c_binds (T : Tx w K mg) : Cal P w K mg base 1 "binds" (spBinds K) [] := by
  obtain ⟨fd, F⟩ := T.d_binds
  have X := fx_of T
  refine cal_of F (F.ok sc_binds (fun vs H Q E h => ?_) (fun cdv A outer s H vs Q E hr h => ⟨_, PSs.nox (pss_one (ps_ret (pe_callTy call_int1 rfl T.n_int b_int (pa_cons (pe_and (pe_cmpR op_in_seq (pe_ix ix_tup (pv 0) pe_int (fun _ _ => rfl)) (gR T.g_BINDERS) (by rfl)) (pe_one (pe_cmpR op_eq (pv 1) pe_int (nomark _)))) pa_nil)))), ?_⟩)) T.g_binds
    fun _ _ _ _ _ _ us hl => match us, hl with | [_, _], _ => rfl
  · obtain ⟨v, t, k, rfl, _⟩ := h
    rfl
  obtain ⟨v, t, k, rfl, ht, q⟩ := h
  obtain ⟨a, ps, rfl, hS, hp⟩ := tm_tup ht
  refine ⟨_, rfl, _, _, _, _, rfl, rfl, hS, atI0, _, _, rfl, .inr (X.binders H), rfl, rfl, _, rfl, ?_⟩
  refine ite2 (fun _ => ?_) (fun _ => ?_)
  · exact ⟨_, rfl, rfl, .inr ⟨_, rfl, q _⟩⟩
  · exact .inr ⟨_, rfl, q _⟩
/-! ### gone_to -/
def spGone (K : PySem.W.Frag) : Sp := fun vs H Q E => ∃ v sv t s, vs = [v, sv] ∧ TmR K H v t ∧ SpR K H sv s ∧ s.length ≤ 100 ∧ t.ht ≤ 60 ∧ (∀ u, t.get s = some u → ∀ b pv i H', Same H H' → H' b = some (.tup [pv, .int i]) → TmR K H' pv u → Q (.ref b) H') ∧ (t.get s = none → Bad K H "NoSpot" sv E)
abbrev N_gone_to : List Str := ["term", "spot", "part", "binders", "number"]
abbrev P_gone_to : List Str := ["term", "spot"]
theorem sc_gone_to : FnScope N_gone_to P_gone_to (defScope s_gone_to) := ⟨rfl, rfl, rfl, by decide +kernel, rfl, by decide +kernel, by decide +kernel⟩
theorem c_gone_to (T : Tx w K mg) : CalR P w K mg base 3 "gone_to" (spGone K) := by
  obtain ⟨fd, F⟩ := T.d_gone_to
  have X := fx_of T
  refine calR_of F (F.ok sc_gone_to (fun vs H Q E h => ?_) (fun cdv A outer s H vs Q E hr h => ⟨_, (pss_cons (ps_if (pt_not (pt_val (pe_c (c_is_spot T) hr (by decide) rfl (pa_cons (pv 1) pa_nil)))) (pss_one (ps_bad rfl (takes_of rfl rfl rfl rfl) (ini_S T) X.eS hr (by decide) rfl T.g_NoSpot (pv 1))) pss_nil)
    (pss_cons (ps_set (i := 2) sc_gone_to.nd rfl (Or.inl rfl) (pv 0))
    (pss_cons (ps_set (i := 3) sc_gone_to.nd rfl (Or.inl rfl) pe_int)
    (pss_cons (ps_for (passes_of rfl) rfl (pi_tup (pv 1)) (pg_name (i := 4) sc_gone_to.nd rfl (Or.inl rfl))
      (pss_cons (ps_if (pt_cmpR op_ge (pv 4) (pe_callB call_len rfl T.n_len PySem.boot_len (pa_cons (pe_c (c_inner T) hr (by decide) rfl (pa_cons (pv 2) pa_nil)) pa_nil)) (nomark _)) (pss_one (ps_bad rfl (takes_of rfl rfl rfl rfl) (ini_S T) X.eS hr (by decide) rfl T.g_NoSpot (pv 1))) pss_nil)
    (pss_cons (ps_aug (i := 3) sc_gone_to.nd rfl (Or.inl rfl) (pe_c (c_binds T) hr (by decide) rfl (pa_cons (pv 2) (pa_cons (pv 4) pa_nil))) ip_add)
    (pss_one (ps_set (i := 2) sc_gone_to.nd rfl (Or.inl rfl) (pe_ix ix_list (pe_c (c_inner T) hr (by decide) rfl (pa_cons (pv 2) pa_nil)) (pv 4) (fun _ _ => rfl)))))))
    (pss_one (ps_ret (pe_tup (pa_cons (pv 2) (pa_cons (pv 3) pa_nil))))))))), ?_⟩)) T.g_gone_to
    fun _ _ _ _ _ _ us hl => match us, hl with | [_, _], _ => rfl
  · obtain ⟨v, sv, t, s, rfl, _⟩ := h
    rfl
  obtain ⟨v, sv, t, s, rfl, ht, hs, h100, h60, q1, q2⟩ := h
  refine ⟨_, rfl, sv, true, rfl, spotq_of hs h100, fun H1 g1 => ⟨true, rfl, ?_⟩⟩
  refine ⟨_, rfl, ?_⟩
  obtain ⟨a, rfl, hS⟩ := sp_tup hs
  refine ⟨_, rfl, a, rfl, ⟨_, same_tup g1 hS⟩, for_it (walk_tup (xs := s.map fun n : Nat => V.int (n : Int))) (fun i σ H' => ∃ part n x4 u, σ = [some v, some (.ref a), some part, some (.int n), x4] ∧ Same H H' ∧ TmR K H' part u ∧ t.get (s.take i) = some u) ?_ (fun i σ H' _ p => ?_) (fun i x σ H3 H4 hi p y => ?_) (fun σ H' p => ?_)⟩
  · exact ⟨v, 0, _, t, rfl, g1, dp_same g1 ht, get_nil t⟩
  · obtain ⟨part, n, x4, u, _, g, _⟩ := p
    exact same_tup g hS
  · obtain ⟨part, n, x4, u, rfl, g, hu, hg⟩ := p
    obtain ⟨rfl, hx⟩ := y
    rw [List.length_map] at hi
    have hsi : s[i]? = some s[i] := List.getElem?_eq_getElem hi
    have hx' : x = .int ((s[i] : Nat) : Int) := by
      rw [List.getElem?_map, hsi] at hx
      exact (Option.some.inj hx).symm
    subst hx'
    have hnx := get_next hg hsi
    refine ⟨_, rfl, _, rfl, part, u, rfl, hu, fun l H5 xs g5 hl hL hxs => ?_⟩
    have hxl : xs.length = u.kids.length := by rw [dpA_len hxs, List.length_map]
    refine ⟨_, _, rfl, .inl ⟨xs, SqL.of hL, rfl⟩, _, _, rfl, rfl, _, rfl, ?_⟩
    refine ite2 (fun c => ?_) (fun c => ?_)
    · have c' : ((s[i] : Nat) : Int) ≥ ((xs.length : Nat) : Int) := of_decide_eq_true c
      rw [List.getElem?_eq_none (by omega)] at hnx
      exact ⟨_, rfl, (q2 (get_dead hnx)).same (g.trans g5)⟩
    · have c' : ¬ ((s[i] : Nat) : Int) ≥ ((xs.length : Nat) : Int) := of_decide_eq_false (Bool.eq_false_iff.mpr c)
      have hlt : s[i] < u.kids.length := by omega
      obtain ⟨u', hu'⟩ : ∃ u', u.kids[s[i]]? = some u' := ⟨_, List.getElem?_eq_getElem hlt⟩
      rw [hu'] at hnx
      refine ⟨_, rfl, _, rfl, _, rfl, part, u, _, rfl, dp_same g5 hu, fun j => ⟨_, _, rfl, rfl, ?_⟩⟩
      refine ⟨_, rfl, part, u, rfl, dp_same g5 hu, fun l2 H6 ys g6 hl2 hL2 hys => ?_⟩
      obtain ⟨y, hy, hyu⟩ := kid_get hys hu'
      exact ⟨_, rfl, l2, ys, _, y, rfl, rfl, SqL.of hL2, atI_nat hy, y, _, _, u', rfl, g.trans (g5.trans g6), hyu, hnx⟩
  · obtain ⟨part, n, x4, u, rfl, g, hu, hg⟩ := p
    rw [List.length_map, List.take_length] at hg
    exact ⟨_, rfl, _, rfl, (by show 2 ≤ sizeLine; decide), fun b hb => q1 u hg b part n _ (g.trans (same_new hb _)) upd_same (dp_same (same_new hb _) hu)⟩
/-! ### part_at -/
def spPartAt (K : PySem.W.Frag) : Sp := fun vs H Q _ => ∃ v sv t s u, vs = [v, sv] ∧ TmR K H v t ∧ SpR K H sv s ∧ s.length ≤ 100 ∧ t.ht ≤ 10 ∧ t.get s = some u ∧ ∀ r H', Same H H' → TmR K H' r u → Q r H'
abbrev N_part_at : List Str := ["term", "spot"]
theorem sc_part_at : FnScope N_part_at N_part_at (defScope s_part_at) := ⟨rfl, rfl, rfl, by decide +kernel, rfl, by decide +kernel, by decide +kernel⟩
theorem c_part_at (T : Tx w K mg) : Cal P w K mg base 23 "part_at" (spPartAt K) [] := by
  obtain ⟨fd, F⟩ := T.d_part_at
  refine cal_of F (F.ok sc_part_at (fun vs H Q E h => ?_) (fun cdv A outer s H vs Q E hr h => ⟨_, PSs.nox (pss_cons (ps_expr (pe_cq (c_need_term T) hr (by decide) rfl (pa_cons (pv 0) pa_nil)))
    (pss_one (ps_ret (pe_ix ix_tup (pe_cq (c_gone_to T) hr (by decide) rfl (pa_cons (pv 0) (pa_cons (pv 1) pa_nil))) pe_int (fun _ _ => rfl))))), ?_⟩)) T.g_part_at
    fun _ _ _ _ _ _ us hl => match us, hl with | [_, _], _ => rfl
  · obtain ⟨v, sv, t, s, u, rfl, _⟩ := h
    rfl
  obtain ⟨v, sv, t, s, u, rfl, ht, hs, h100, h10, hg, q⟩ := h
  refine ⟨_, rfl, v, true, rfl, .inl ⟨t, ht, h10, rfl⟩, fun _ H1 g1 => ?_, fun z => absurd z (by decide)⟩
  refine ⟨_, rfl, _, rfl, v, sv, t, s, rfl, dp_same g1 ht, dp_same g1 hs, h100, by omega, fun u' hu b pv i H2 g2 hb hp => ?_, fun z => absurd (z.symm.trans hg) (by simp)⟩
  rw [hg] at hu
  cases hu
  exact ⟨b, _, _, pv, rfl, rfl, SqT.of hb, atI0, q pv H2 (g1.trans g2) hp⟩
/-! ### unlike_spots -/
def spUnlike (K : PySem.W.Frag) : Sp := fun vs H Q E => ∃ v v', vs = [v, v'] ∧ ((TermQ K H v 10 false ∧ Bad K H "NoTerm" v E) ∨ (∃ t, TmR K H v t ∧ t.ht ≤ 10 ∧ ((TermQ K H v' 10 false ∧ Bad K H "NoTerm" v' E) ∨ ∃ u, TmR K H v' u ∧ u.ht ≤ 10 ∧ NewSps K H (t.unlike u) Q)))
abbrev N_unlike_spots : List Str := ["one", "other"]
theorem sc_unlike_spots : FnScope N_unlike_spots N_unlike_spots (defScope s_unlike_spots) := ⟨rfl, rfl, rfl, by decide +kernel, rfl, by decide +kernel, by decide +kernel⟩
theorem termq_same {H H' : Hp} {v : V} {n : Nat} {b : Bool} (e : Same H H') (h : TermQ K H v n b) : TermQ K H' v n b := by
  rcases h with ⟨t, h1, h2⟩ | ⟨c, h1, h2⟩ | ⟨a, k, h1, h2, h3⟩ | ⟨a, h1, h2, h3⟩
  · exact .inl ⟨t, dp_same e h1, h2⟩
  · exact .inr (.inl ⟨c, ty_same e h1, h2⟩)
  · exact .inr (.inr (.inl ⟨a, k, h1, same_tup e h2, h3⟩))
  · exact .inr (.inr (.inr ⟨a, h1, same_tup e h2, h3⟩))
theorem NewSps.same {H H' : Hp} {l : List Spot} {Q : VK} (h : NewSps K H l Q) (e : Same H H') : NewSps K H' l Q := fun r H2 xs g n q1 q2 => h r H2 xs (e.trans g) (e.free n) q1 q2
theorem ok_unlike_spots (T : Tx w K mg) : ∃ fd, FnOk P w K mg base (L2.CX P w) 23 (He.ga K "unlike_spots") fd N_unlike_spots (spUnlike K) ∧ FunD K "unlike_spots" "unlike_spots" (defArgs s_unlike_spots) (defBody s_unlike_spots) (defScope s_unlike_spots) [] [] (He.ga K "unlike_spots") fd := by
  obtain ⟨fd, F⟩ := T.d_unlike_spots
  refine ⟨fd, F.ok sc_unlike_spots (fun vs H Q E h => ?_) (fun cdv A outer s H vs Q E hr h => ⟨_, (pss_cons (ps_expr (pe_cr (c_need_term T) hr (by decide) rfl (takes_of rfl rfl rfl rfl) (pa_cons (pv 0) pa_nil)))
    (pss_cons (ps_expr (pe_cr (c_need_term T) hr (by decide) rfl (takes_of rfl rfl rfl rfl) (pa_cons (pv 1) pa_nil)))
    (pss_one (ps_ret (pe_c (c_unlike_in T 10) hr (by decide) rfl (pa_cons (pv 0) (pa_cons (pv 1) pa_nil))))))), ?_⟩), F⟩
  · obtain ⟨v, v', rfl, _⟩ := h
    rfl
  obtain ⟨v, v', rfl, h⟩ := h
  rcases h with ⟨hv, hb⟩ | ⟨t, ht, h10, h⟩
  · exact ⟨_, rfl, v, false, rfl, hv, fun z => absurd z (by decide), fun _ => hb⟩
  · refine ⟨_, rfl, v, true, rfl, .inl ⟨t, ht, h10, rfl⟩, fun _ H1 g1 => ?_, fun z => absurd z (by decide)⟩
    rcases h with ⟨hv, hb⟩ | ⟨u, hu, h10', q⟩
    · exact ⟨_, rfl, v', false, rfl, termq_same g1 hv, fun z => absurd z (by decide), fun _ => hb.same g1⟩
    · refine ⟨_, rfl, v', true, rfl, .inl ⟨u, dp_same g1 hu, h10', rfl⟩, fun _ H2 g2 => ?_, fun z => absurd z (by decide)⟩
      exact ⟨_, rfl, _, rfl, v, v', t, u, rfl, dp_same (g1.trans g2) ht, dp_same (g1.trans g2) hu, h10, h10, by omega, q.same (g1.trans g2)⟩
theorem c_unlike_spots (T : Tx w K mg) : CalR P w K mg base 23 "unlike_spots" (spUnlike K) := by
  obtain ⟨fd, ok, F⟩ := ok_unlike_spots (P := P) (base := base) T
  exact calR_of F ok T.g_unlike_spots fun _ _ _ _ _ _ us hl => match us, hl with | [_, _], _ => rfl
end
end K89
namespace K89
open PySem PySem.Spec PyProof.Rows L2
open C8 (Cal pe_c)
section
variable {P : Program} {w : World} {K : PySem.W.Frag} {mg : Str → Option Value} {base : Heap}
/-! ### is_row -/
/-- whether a value is a row: a spot with a term -/
def RowQ (K : PySem.W.Frag) (H : Hp) (v : V) (b : Bool) : Prop :=
  (∃ a sv ov s o, v = .ref a ∧ SqT K H a [sv, ov] ∧ SpR K H sv s ∧ TmR K H ov o ∧ o.ht ≤ 10 ∧ s.length ≤ 100 ∧ b = true) ∨ (∃ c, Ty K H v c ∧ c ≠ "tuple" ∧ b = false) ∨ (∃ a xs, v = .ref a ∧ SqT K H a xs ∧ xs.length ≠ 2 ∧ b = false) ∨
    (∃ a x y, v = .ref a ∧ SqT K H a [x, y] ∧ SpotQ K H x false ∧ b = false) ∨ (∃ a x y, v = .ref a ∧ SqT K H a [x, y] ∧ SpotQ K H x true ∧ TermQ K H y 10 false ∧ b = false)
def spRow (K : PySem.W.Frag) : Sp := fun vs H Q _ => ∃ v b, vs = [v] ∧ RowQ K H v b ∧ ∀ H', Same H H' → Q (.bl b) H'
theorem spotq_same {H H' : Hp} {v : V} {b : Bool} (e : Same H H') (h : SpotQ K H v b) : SpotQ K H' v b := by
  rcases h with ⟨a, xs, bs, h1, h2, h3, h4, h5, h6⟩ | ⟨c, h1, h2⟩
  · exact .inl ⟨a, xs, bs, h1, same_tup e h2, h3, h4, fun i y x hy hx => numq_same e (h5 i y x hy hx), h6⟩
  · exact .inr ⟨c, ty_same e h1, h2⟩
theorem rowq_same {H H' : Hp} {v : V} {b : Bool} (e : Same H H') (h : RowQ K H v b) : RowQ K H' v b := by
  rcases h with ⟨a, sv, ov, s, o, h1, h2, h3, h4, h5⟩ | ⟨c, h1, h2⟩ | ⟨a, xs, h1, h2, h3⟩ | ⟨a, x, y, h1, h2, h3, h4⟩ | ⟨a, x, y, h1, h2, h3, h4, h5⟩
  · exact .inl ⟨a, sv, ov, s, o, h1, same_tup e h2, dp_same e h3, dp_same e h4, h5⟩
  · exact .inr (.inl ⟨c, ty_same e h1, h2⟩)
  · exact .inr (.inr (.inl ⟨a, xs, h1, same_tup e h2, h3⟩))
  · exact .inr (.inr (.inr (.inl ⟨a, x, y, h1, same_tup e h2, spotq_same e h3, h4⟩)))
  · exact .inr (.inr (.inr (.inr ⟨a, x, y, h1, same_tup e h2, spotq_same e h3, termq_same e h4, h5⟩)))
abbrev N_is_row : List Str := ["thing"]
theorem sc_is_row : FnScope N_is_row N_is_row (defScope s_is_row) := ⟨rfl, rfl, rfl, by decide +kernel, rfl, by decide +kernel, by decide +kernel⟩
theorem c_is_row (T : Tx w K mg) : Cal P w K mg base 22 "is_row" (spRow K) [] := by
  obtain ⟨fd, F⟩ := T.d_is_row
  refine cal_of F (F.ok sc_is_row (fun vs H Q E h => ?_) (fun cdv A outer s H vs Q E hr h => ⟨_, PSs.nox (pss_one (ps_ret (pe_and (xIs T.n_isinstance T.n_tuple b_tuple (pv 0)) (pe_and (pe_cmpR op_eq (pe_callB call_len rfl T.n_len PySem.boot_len (pa_cons (pv 0) pa_nil)) pe_int (nomark _)) (pe_and (pe_c (c_is_spot T) hr (by decide) rfl (pa_cons (pe_ix ix_tup (pv 0) pe_int (fun _ _ => rfl)) pa_nil)) (pe_one (pe_c (c_is_term T 10) hr (by decide) rfl (pa_cons (pe_ix ix_tup (pv 0) pe_int (fun _ _ => rfl)) pa_nil)))))))), ?_⟩)) T.g_is_row
    fun _ _ _ _ _ _ us hl => match us, hl with | [_], _ => rfl
  · obtain ⟨v, b, rfl, _⟩ := h
    rfl
  obtain ⟨v, b, rfl, hq, q⟩ := h
  have hq' : (∃ c, Ty K H v c ∧ c ≠ "tuple" ∧ b = false) ∨ (∃ a xs, v = .ref a ∧ SqT K H a xs ∧ xs.length ≠ 2 ∧ b = false) ∨
      (∃ a x y b1 b2, v = .ref a ∧ SqT K H a [x, y] ∧ SpotQ K H x b1 ∧ (b1 = true → TermQ K H y 10 b2) ∧ b = (b1 && b2)) := by
    rcases hq with ⟨a, sv, ov, s, o, h1, h2, h3, h4, h5, h6, h7⟩ | h | h | ⟨a, x, y, h1, h2, h3, h4⟩ | ⟨a, x, y, h1, h2, h3, h4, h5⟩
    · exact .inr (.inr ⟨a, sv, ov, true, true, h1, h2, spotq_of h3 h6, fun _ => .inl ⟨o, h4, h5, rfl⟩, h7⟩)
    · exact .inl h
    · exact .inr (.inl h)
    · exact .inr (.inr ⟨a, x, y, false, true, h1, h2, h3, fun z => absurd z (by decide), h4⟩)
    · exact .inr (.inr ⟨a, x, y, true, false, h1, h2, h3, fun _ => h4, h5⟩)
  rcases hq' with ⟨c, ty, hc, rfl⟩ | ⟨a, xs, rfl, hS, hl, rfl⟩ | ⟨a, x, y, b1, b2, rfl, hS, h1, h2, rfl⟩
  · refine ⟨_, rfl, _, "tuple", c, rfl, by decide, ty, false, by rw [isB_ne hc (by decide)], iteF (q H (Same.refl H))⟩
  · refine ⟨_, rfl, _, "tuple", "tuple", rfl, by decide, ty_tup hS, true, rfl, iteT ?_⟩
    refine ⟨_, rfl, _, _, rfl, .inr ⟨_, hS, rfl⟩, rfl, _, rfl, ?_⟩
    exact iF (int_ne (by omega)) (q H (Same.refl H))
  · refine ⟨_, rfl, _, "tuple", "tuple", rfl, by decide, ty_tup hS, true, rfl, iteT ?_⟩
    refine ⟨_, rfl, _, _, rfl, .inr ⟨_, hS, rfl⟩, rfl, _, rfl, ?_⟩
    refine iT (int_eq rfl) ?_
    refine ⟨_, rfl, _, _, _, _, rfl, rfl, hS, atI0, x, b1, rfl, h1, fun H1 g1 => ⟨b1, rfl, ?_⟩⟩
    cases b1 with
    | false => exact iteF (q H1 g1)
    | true => exact iteT ⟨_, rfl, _, _, _, _, rfl, rfl, same_tup g1 hS, atI_nat (j := 1) rfl, by decide, y, b2, rfl, termq_same g1 (h2 rfl), fun H2 g2 => q H2 (g1.trans g2)⟩
/-! ### stand_apart -/
/-- none leads to another one -/
def ApL (l : List Spot) : Prop := ∀ (i j : Nat) (s r : Spot), l[i]? = some s → l[j]? = some r → j ≠ i → ¬ s <+: r
def spApart (K : PySem.W.Frag) : Sp := fun vs H Q _ => ∃ a xs l, vs = [.ref a] ∧ SqL K H a xs ∧ SpsR K H xs l ∧ l.length ≤ 30000 ∧ (ApL l → ∀ H', Same H H' → Q (.bl true) H') ∧ (¬ ApL l → ∀ H', Same H H' → Q (.bl false) H')
theorem sl_sp {H : Hp} {Q : VK} {v : V} {s : Spot} {n : Nat} (h : SpR K H v s) (q : ∀ z H', Same H H' → SpR K H' z (s.take n) → Q z H') : rSlA K v none (some ((n : Nat) : Int)) H Q := by
  obtain ⟨a, rfl, hS⟩ := sp_tup h
  refine ⟨a, _, rfl, hS, fun e => ?_, fun _ p hp => ?_⟩
  · have e2 := e.2
    rw [HT.sIx_nat, List.length_map] at e2
    refine q _ H (Same.refl H) ?_
    rw [List.take_of_length_le (by omega)]
    exact h
  · refine q _ _ (same_new hp _) (sp_of ?_)
    have e2 : cutV (s.map fun n : Nat => V.int (n : Int)) none (some ((n : Nat) : Int)) = (s.take n).map fun n : Nat => V.int (n : Int) := by
      unfold cutV
      rw [HT.sIx_nat, HT.sIx_none, List.drop_zero, Nat.sub_zero, List.length_map, List.map_take]
      by_cases hn : n ≤ s.length
      · rw [Nat.min_eq_left hn]
      · rw [Nat.min_eq_right (by omega), List.take_of_length_le (by simp), List.take_of_length_le (by simp; omega)]
    rw [e2]
    exact SqT.of upd_same
theorem pre_take {s r : Spot} : r.take s.length = s ↔ s <+: r := by
  rw [List.prefix_iff_eq_take]
  exact eq_comm
theorem sl_tupK {X : Cx} {K : PySem.W.Frag} (hK : X.K = K := by rfl) : SlR X (rSlA K) := by
  subst hK
  exact sl_tupA
theorem op_eqDK {X : Cx} {K : PySem.W.Frag} (hu : X.A.units + 64 < cLine) (hK : X.K = K := by rfl) : OpR X (compareOp .Eq) (rEqD K) := by
  subst hK
  exact op_eqD hu
def rLenK (K : PySem.W.Frag) : List V → Hp → VK → Prop := fun xs H Q => ∃ p ys, xs = [.ref p] ∧ (SqL K H p ys ∨ SqT K H p ys) ∧ Q (.int ys.length) H
theorem call_lenK {X : Cx} {K : PySem.W.Frag} (hK : X.K = K := by rfl) : CallR X (.builtin "len") (rLenK K) := by
  subst hK
  exact call_len_seq
theorem bl_any {bs : List Bool} : bs.any id = decide (true ∈ bs) := by
  induction bs with
  | nil => rfl
  | cons b r ih => cases b <;> simp [ih]
abbrev N_stand_apart : List Str := ["spots", "number", "spot", "at", "other"]
abbrev P_stand_apart : List Str := ["spots"]
theorem sc_stand_apart : FnScope N_stand_apart P_stand_apart (defScope s_stand_apart) := ⟨rfl, rfl, rfl, by decide +kernel, rfl, by decide +kernel, by decide +kernel⟩
theorem c_stand_apart (T : Tx w K mg) : Cal P w K mg base 1 "stand_apart" (spApart K) [] := by
  obtain ⟨fd, F⟩ := T.d_stand_apart
  refine cal_of F (F.ok sc_stand_apart (fun vs H Q E h => ?_) (fun cdv A outer s H vs Q E hr h => ⟨_, PSs.nox (pss_cons (ps_for PassesOwn.never rfl (pi_enum (by rfl) T.n_enumerate (pa_cons (pv 0) pa_nil)) (pg_tup (n := 2) (by rfl) (pgs_cons (pg_name (i := 1) sc_stand_apart.nd rfl (Or.inr rfl)) (pgs_cons (pg_name (i := 2) sc_stand_apart.nd rfl (Or.inr rfl)) pgs_nil)))
      (pss_one (ps_if (pt_val (pe_callB (cr_any rfl) rfl T.n_any b_any (pa_cons (pe_lc (own := [("at", 3), ("other", 4)]) (g := (gTup K 2 (gCons (gName 3) (gCons (gName 4) gNil)))) (tt := tTest (tOp rNe (tVar 3) (tVar 1))) (by rfl) sc_stand_apart.nd (pi_enum (by rfl) T.n_enumerate (pa_cons (pv 0) pa_nil)) (blkOk_by (N := N_stand_apart) (sc := defScope s_stand_apart) (by decide +kernel)) (fun _ _ _ _ _ => (pg_tup (n := 2) (by rfl) (pgs_cons (pg_name (i := 3) sc_stand_apart.nd rfl (Or.inl rfl)) (pgs_cons (pg_name (i := 4) sc_stand_apart.nd rfl (Or.inl rfl)) pgs_nil)))) (fun _ _ _ _ _ => (pts_one (pt_cmpR op_ne (pv 3) (pv 1) (nomark _)))) (fun _ _ _ _ _ => (pe_cmpR (op_eqDK (K := K) hr.units) (pe_slice (sl_tupK (K := K)) (pv 4) po_none (po_some (pe_callB (call_lenK (K := K)) rfl T.n_len PySem.boot_len (pa_cons (pv 2) pa_nil)))) (pv 2) (nomark _)))) pa_nil))) (pss_one (ps_ret pe_bl)) pss_nil)))
    (pss_one (ps_ret pe_bl))), ?_⟩)) T.g_stand_apart
    fun _ _ _ _ _ _ us hl => match us, hl with | [_], _ => rfl
  · obtain ⟨a, xs, l, rfl, _⟩ := h
    rfl
  obtain ⟨a, xs, l, rfl, hL, hS, h30, q1, q2⟩ := h
  have hxl := sps_len hS
  refine ⟨_, rfl, a, xs, rfl, hL, for_it (walk_enum (xs := xs)) (fun i σ H' => ∃ x1 x2 x3 x4, σ = [some (.ref a), x1, x2, x3, x4] ∧ Same H H' ∧ ∀ (n j : Nat) (s r : Spot), n < i → l[n]? = some s → l[j]? = some r → j ≠ n → ¬ s <+: r) ?_ (fun i σ H' _ p => ?_) (fun i x σ H3 H4 hi p y => ?_) (fun σ H' p => ?_)⟩
  · exact ⟨_, _, _, _, rfl, Same.refl H, fun n j s r hn => absurd hn (Nat.not_lt_zero _)⟩
  · obtain ⟨x1, x2, x3, x4, _, g, _⟩ := p
    exact g.seq hL
  · obtain ⟨x1, x2, x3, x4, rfl, g, hp⟩ := p
    obtain ⟨T', x, y, rfl, hT, rfl, hk', hy⟩ := y
    cases hk'
    have hy : xs[i]? = some y := hy
    obtain ⟨s, hs⟩ : ∃ s, l[i]? = some s := ⟨_, List.getElem?_eq_getElem (by omega)⟩
    obtain ⟨d, hd1, hd2⟩ := dpA_get hS hy
    rw [List.getElem?_map, hs] at hd1
    cases hd1
    have gT : Same H3 (upd H3 T' (.tup [.int (i : Nat), y])) := same_new hT _
    have g1 := g.trans gT
    refine ⟨T', _, rfl, SqT.of upd_same, rfl, _, _, rfl, _, _, rfl, rfl, ?_⟩
    refine ⟨_, rfl, a, xs, rfl, g1.seq hL, fun D hD => lc_it (walk_enum (xs := xs)) (Lc D fun k acc H' => Same (upd H3 T' (.tup [.int (i : Nat), y])) H' ∧ ∃ bs : List Bool, acc = bs.map V.bl ∧ (true ∈ bs ↔ ∃ (j : Nat) (r : Spot), j < k ∧ l[j]? = some r ∧ j ≠ i ∧ s <+: r))
      (lc_start ⟨same_new hD _, [], rfl, by simp⟩) (fun k H' _ p => ?_) (fun k x H5 H6 hk p y2 => ?_) (fun H' p => ?_)⟩
    · obtain ⟨acc, e, _, g2, _⟩ := p
      exact g2.seq (g1.seq hL)
    · obtain ⟨acc, e, hl', g2, bs, rfl, hb⟩ := p
      obtain ⟨T2, x, z, rfl, hT2, rfl, hk2, hz⟩ := y2
      cases hk2
      have hz : xs[k]? = some z := hz
      obtain ⟨r, hr'⟩ : ∃ r, l[k]? = some r := ⟨_, List.getElem?_eq_getElem (by omega)⟩
      obtain ⟨d, he1, he2⟩ := dpA_get hS hz
      rw [List.getElem?_map, hr'] at he1
      cases he1
      have gT2 : Same H5 (upd H5 T2 (.tup [.int (k : Nat), z])) := same_new hT2 _
      refine ⟨T2, _, rfl, SqT.of upd_same, rfl, _, _, rfl, _, _, rfl, rfl, rfl, _, rfl, _, rfl, rfl, _, rfl, ?_⟩
      have e1 := gT2 _ _ e
      refine nF (fun c => ?_) (fun c => ?_)
      · have c' : k ≠ i := fun z => c (int_eq (by rw [z]))
        have g3 := g1.trans (g2.trans gT2)
        obtain ⟨b2, rfl, hS2⟩ := sp_tup (dp_same g3 hd2)
        refine ⟨_, rfl, _, rfl, b2, _, rfl, .inr hS2, _, rfl, ?_⟩
        rw [List.length_map]
        refine sl_sp (dp_same g3 he2) fun z2 H7 g7 hz2 => ?_
        refine ⟨_, rfl, _, _, hz2, dp_same (g3.trans g7) hd2, shaped_sp _, shaped_sp _, ?_⟩
        rw [eqv_sp]
        refine lc_put (g7 _ _ e1) hl' (line30' (by omega)) ⟨same_own (g2.trans (gT2.trans g7)) hD _, bs ++ [decide (r.take s.length = s)], by rw [List.map_append]; rfl, ?_⟩
        rw [List.mem_append, List.mem_singleton, hb]
        constructor
        · rintro (⟨j, r', h1, h2⟩ | h)
          · exact ⟨j, r', by omega, h2⟩
          · exact ⟨k, r, by omega, hr', c', pre_take.mp (of_decide_eq_true h.symm)⟩
        · rintro ⟨j, r', h1, h2, h3, h4⟩
          by_cases e : j = k
          · subst e
            rw [hr'] at h2
            cases h2
            exact .inr (decide_eq_true (pre_take.mpr h4)).symm
          · exact .inl ⟨j, r', by omega, h2, h3, h4⟩
      · have c' : k = i := by have := V.int.inj c; omega
        refine ⟨_, e1, Nat.le_succ_of_le hl', g2.trans gT2, bs, rfl, ?_⟩
        rw [hb]
        constructor
        · rintro ⟨j, r', h1, h2⟩
          exact ⟨j, r', by omega, h2⟩
        · rintro ⟨j, r', h1, h2, h3, h4⟩
          exact ⟨j, r', by omega, h2, h3, h4⟩
    · obtain ⟨acc, e, hl', g2, bs, rfl, hb⟩ := p
      refine ⟨_, _, rfl, SqL.of e, _, rfl, ?_⟩
      rw [bl_any]
      refine ite2 (fun c => ?_) (fun c => ?_)
      · obtain ⟨j, r, h1, h2, h3, h4⟩ := hb.mp (of_decide_eq_true c)
        exact q2 (fun z => z i j s r hs h2 h3 h4) H' (g1.trans g2)
      · refine ⟨_, _, _, _, rfl, g1.trans g2, fun n j s' r hn h1 h2 h3 h4 => ?_⟩
        by_cases e : n = i
        · subst e
          rw [hs] at h1
          cases h1
          have hj : j < xs.length := by
            have := (List.getElem?_eq_some_iff.mp h2).1
            omega
          exact c (decide_eq_true (hb.mpr ⟨j, r, hj, h2, h3, h4⟩))
        · exact hp n j s' r (by omega) h1 h2 h3 h4
  · obtain ⟨x1, x2, x3, x4, rfl, g, hp⟩ := p
    refine q1 (fun n j s r h1 h2 h3 => hp n j s r ?_ h1 h2 h3) H' g
    have := (List.getElem?_eq_some_iff.mp h1).1
    omega
end
end K89
namespace K89
open PySem PySem.Spec PyProof.Rows L2
open C8 (Cal pe_c)
/-! ### a list or a tuple, walked -/
def SqA (K : PySem.W.Frag) (H : Hp) (a : Addr) (xs : List V) : Prop := SqL K H a xs ∨ SqT K H a xs
theorem SqA.same {K : PySem.W.Frag} {H H' : Hp} {a : Addr} {xs : List V} (h : SqA K H a xs) (e : Same H H') : SqA K H' a xs := h.elim (fun h => .inl (e.seq h)) fun h => .inr (same_tup e h)
def iSeq (K : PySem.W.Frag) (i : Nat) : TI := fun σ H R => ∃ a xs, σ[i]? = some (some (.ref a)) ∧ SqA K H a xs ∧ ∀ J, Walk J xs.length (Same H) (YAt xs) → R J H
theorem pi_seq {X : Cx} {K : PySem.W.Frag} {tg : Expr} (i : Nat) {x : Str} {pos : Pos} (hN : X.N[i]? = some x := by rfl) (hv : Vis X.env.scope x := by first | exact Or.inl rfl | exact Or.inr (Or.inl rfl) | exact Or.inr (Or.inr rfl)) (hd : (x == ("__debug__" : Str)) = false := by decide)
    (hcd : (x == ("__classdict__" : Str)) = false := by decide) (hK : X.K = K := by rfl) : PI X tg (.Name x pos) (iSeq K i) := by
  subst hK
  refine ⟨fun pins s σ H R I h => ?_⟩
  obtain ⟨a, xs, e, hS, q⟩ := h
  rcases hS with hS | hS
  · exact (pi_list (pv i hN hv hd hcd)).run pins s σ H R I ⟨_, e, a, rfl, ⟨xs, hS⟩, q _ (walk_list.mono (fun H' g => g.seq hS) fun _ _ _ _ _ _ y => y)⟩
  · exact (pi_tup (pv i hN hv hd hcd)).run pins s σ H R I ⟨_, e, a, rfl, ⟨xs, hS⟩, q _ (walk_tup.mono (fun H' g => same_tup g hS) fun _ _ _ _ _ _ y => y)⟩
/-! ### rows -/
def RowR (K : PySem.W.Frag) (H : Hp) (y : V) (r : Rw) (sv : V) : Prop := ∃ b ov, y = .ref b ∧ SqT K H b [sv, ov] ∧ SpR K H sv r.1 ∧ TmR K H ov r.2
inductive RowsR (K : PySem.W.Frag) (H : Hp) : List V → List Rw → List V → Prop where
  | nil : RowsR K H [] [] []
  | cons {y : V} {r : Rw} {sv : V} {xs : List V} {rs : List Rw} {svs : List V} : RowR K H y r sv → RowsR K H xs rs svs → RowsR K H (y :: xs) (r :: rs) (sv :: svs)
section
variable {K : PySem.W.Frag} {H H' : Hp}
theorem RowR.same {y sv : V} {r : Rw} (h : RowR K H y r sv) (e : Same H H') : RowR K H' y r sv := by
  obtain ⟨b, ov, h1, h2, h3, h4⟩ := h
  exact ⟨b, ov, h1, same_tup e h2, dp_same e h3, dp_same e h4⟩
theorem RowsR.same {xs svs : List V} {rs : List Rw} (h : RowsR K H xs rs svs) (e : Same H H') : RowsR K H' xs rs svs := by
  induction h with
  | nil => exact .nil
  | cons h _ ih => exact .cons (h.same e) ih
theorem RowsR.len {xs svs : List V} {rs : List Rw} (h : RowsR K H xs rs svs) : xs.length = rs.length ∧ svs.length = rs.length := by
  induction h with
  | nil => exact ⟨rfl, rfl⟩
  | cons _ _ ih => exact ⟨congrArg Nat.succ ih.1, congrArg Nat.succ ih.2⟩
theorem RowsR.get {xs svs : List V} {rs : List Rw} (h : RowsR K H xs rs svs) : ∀ {i : Nat} {y : V}, xs[i]? = some y → ∃ r sv, rs[i]? = some r ∧ svs[i]? = some sv ∧ RowR K H y r sv := by
  induction h with
  | nil => intro i y h; simp at h
  | @cons y r sv xs rs svs h _ ih =>
    intro i z hz
    cases i with
    | zero => simp at hz; subst hz; exact ⟨r, sv, rfl, rfl, h⟩
    | succ i =>
      obtain ⟨r', sv', h1, h2, h3⟩ := ih (i := i) (y := z) (by simpa using hz)
      exact ⟨r', sv', by simpa using h1, by simpa using h2, h3⟩
theorem fit_get {t : Tm} : ∀ {rows : List Rw} {i : Nat} {r : Rw}, Fit t rows → rows[i]? = some r → ((putAll t (rows.take i)).get r.1).isSome = true := fun {rows i r} h hr => by
  have hi : i < rows.length := (List.getElem?_eq_some_iff.mp hr).1
  have e : rows[i] = r := by
    rw [List.getElem?_eq_getElem hi] at hr
    exact Option.some.inj hr
  rw [putAll_get fun q hq => ?_]
  · exact h.has r (List.mem_of_getElem? hr)
  · obtain ⟨j, hj, hq⟩ := List.mem_iff_getElem.mp hq
    rw [List.length_take] at hj
    rw [List.getElem_take] at hq
    have := (List.pairwise_iff_getElem.mp h.ap) j i (by omega) hi (by omega)
    rw [hq, e] at this
    exact this
theorem fit_apl {t : Tm} {rows : List Rw} (h : Fit t rows) : ApL (rows.map (·.1)) := by
  intro i j s r hi hj hne hp
  have key : ∀ (i j : Nat) (s r : Spot), (rows.map (·.1))[i]? = some s → (rows.map (·.1))[j]? = some r → i < j → Apart s r := fun i j s r hi hj hlt => by
    have ap := h.ap
    rw [← List.pairwise_map (f := fun r : Rw => r.1) (R := Apart)] at ap
    obtain ⟨hi1, hi2⟩ := List.getElem?_eq_some_iff.mp hi
    obtain ⟨hj1, hj2⟩ := List.getElem?_eq_some_iff.mp hj
    have := (List.pairwise_iff_getElem.mp ap) i j hi1 hj1 hlt
    rw [hi2, hj2] at this
    exact this
  rcases Nat.lt_or_gt_of_ne hne with h1 | h1
  · exact (key j i r s hj hi h1).2 hp
  · exact (key i j s r hi hj h1).1 hp
end
section
variable {P : Program} {w : World} {K : PySem.W.Frag} {mg : Str → Option Value} {base : Heap}
/-- a new list of spots of the rows -/
theorem call_is2K {X : Cx} {K : PySem.W.Frag} (hK : X.K = K := by rfl) : CallR X (.builtin "isinstance") (rIs2 K) := by
  subst hK
  exact call_is2
/-- not isinstance(rows, (list, tuple)) or not all([is_row(row) for row in rows]) -/
def tRows (K : PySem.W.Frag) : TT := fun σ H Q => ∃ v x0 x2 x3 x4 x5, σ = [x0, some v, x2, x3, x4, x5] ∧ ((∃ c, Ty K H v c ∧ c ≠ "list" ∧ c ≠ "tuple" ∧ ∀ H', Same H H' → Q true H') ∨
  ∃ (a : Addr) (xs : List V) (bs : List Bool), v = .ref a ∧ SqA K H a xs ∧ xs.length ≤ 30000 ∧ bs.length = xs.length ∧ (∀ (i : Nat) (y : V) (b : Bool), xs[i]? = some y → bs[i]? = some b → RowQ K H y b) ∧ ∀ H', Same H H' → Q (!bs.all id) H')
/-- not stand_apart([spot for spot, other in rows]) -/
def tAparts (K : PySem.W.Frag) : TT := fun σ H Q => ∃ a xs rows svs x0 x2 x3 x4 x5, σ = [x0, some (.ref a), x2, x3, x4, x5] ∧ SqA K H a xs ∧ RowsR K H xs rows svs ∧ rows.length ≤ 30000 ∧ (ApL (rows.map (·.1)) → ∀ H', Same H H' → Q false H') ∧ (¬ ApL (rows.map (·.1)) → ∀ H', Same H H' → Q true H')
theorem sqa_ty {H : Hp} {a : Addr} {xs : List V} (h : SqA K H a xs) : ∃ c, Ty K H (.ref a) c ∧ (isB c "list" || isB c "tuple") = true := by
  rcases h with h | h
  · exact ⟨_, ty_lst h, rfl⟩
  · exact ⟨_, ty_tup h, rfl⟩
def spChanged (K : PySem.W.Frag) : Sp := fun vs H Q E => ∃ v rv, vs = [v, rv] ∧ ((TermQ K H v 10 false ∧ Bad K H "NoTerm" v E) ∨ ∃ t, TmR K H v t ∧ t.ht ≤ 10 ∧
  ((∃ c, Ty K H rv c ∧ c ≠ "list" ∧ c ≠ "tuple" ∧ Bad K H "NoList" rv E) ∨
   (∃ (a : Addr) (xs : List V) (bs : List Bool), rv = .ref a ∧ SqA K H a xs ∧ xs.length ≤ 30000 ∧ bs.length = xs.length ∧ (∀ (i : Nat) (y : V) (b : Bool), xs[i]? = some y → bs[i]? = some b → RowQ K H y b) ∧ bs.all id = false ∧ Bad K H "NoList" rv E) ∨
   (∃ a xs rows svs, rv = .ref a ∧ SqA K H a xs ∧ RowsR K H xs rows svs ∧ rows.length ≤ 30000 ∧ (∀ r ∈ rows, r.1.length ≤ 100 ∧ r.2.ht ≤ 10) ∧
     ((¬ ApL (rows.map (·.1)) ∧ Bad K H "NoList" rv E) ∨ (Fit t rows ∧ ∀ r H', Same H H' → TmR K H' r (putAll t rows) → Q r H') ∨ (∃ s o sv, rows = [(s, o)] ∧ svs = [sv] ∧ t.get s = none ∧ Bad K H "NoSpot" sv E)))))
abbrev N_changed_all : List Str := ["term", "rows", "found", "spot", "other", "row"]
abbrev P_changed_all : List Str := ["term", "rows"]
theorem sc_changed_all : FnScope N_changed_all P_changed_all (defScope s_changed_all) := ⟨rfl, rfl, rfl, by decide +kernel, rfl, by decide +kernel, by decide +kernel⟩
theorem rows_q {H : Hp} {xs svs : List V} {rows : List Rw} (h : RowsR K H xs rows svs) (hb : ∀ r ∈ rows, r.1.length ≤ 100 ∧ r.2.ht ≤ 10) {i : Nat} {y : V} {b : Bool} (hy : xs[i]? = some y) (hx : (List.replicate xs.length true)[i]? = some b) : RowQ K H y b := by
  obtain ⟨r, sv, h1, _, b', ov, h2, h3, h4, h5⟩ := h.get hy
  obtain ⟨h6, h7⟩ := hb r (List.mem_of_getElem? h1)
  rw [List.getElem?_replicate] at hx
  split at hx
  · cases hx
    exact .inl ⟨b', sv, ov, r.1, r.2, h2, h3, h4, h5, h7, h6, rfl⟩
  · cases hx
theorem rows_sps {H : Hp} {xs svs : List V} {rows : List Rw} (h : RowsR K H xs rows svs) : SpsR K H svs (rows.map (·.1)) := by
  induction h with
  | nil => exact .nil
  | cons h _ ih =>
    obtain ⟨b, ov, _, _, h3, _⟩ := h
    exact .cons h3 ih
theorem ok_changed_all (T : Tx w K mg) : ∃ fd, FnOk P w K mg base (L2.CX P w) 23 (He.ga K "changed_all") fd P_changed_all (spChanged K) ∧ FunD K "changed_all" "changed_all" (defArgs s_changed_all) (defBody s_changed_all) (defScope s_changed_all) [] [] (He.ga K "changed_all") fd := by
  obtain ⟨fd, F⟩ := T.d_changed_all
  have X := fx_of T
  refine ⟨fd, F.ok sc_changed_all (fun vs H Q E h => ?_) (fun cdv A outer s H vs Q E hr h => ⟨_, (pss_cons (ps_expr (pe_cr (c_need_term T) hr (by decide) rfl (takes_of rfl rfl rfl rfl) (pa_cons (pv 0) pa_nil)))
    (pss_cons (ps_if (PT.mono (t' := tRows K) (PW.pt (pw_or (pt_not (pt_val (pe_callB call_is2 rfl T.n_isinstance b_isinstance (pa_cons (pv 1) (pa_cons (pe_tup (pa_cons (pe_bltn rfl T.n_list b_list (v := .ty "list") rfl) (pa_cons (pe_bltn rfl T.n_tuple b_tuple (v := .ty "tuple") rfl) pa_nil))) pa_nil))))) (pw_or1 (pt_not (pt_val (pe_callB (cr_all rfl) rfl T.n_all b_all (pa_cons (pe_lc (own := [("row", 5)]) (g := (gName 5)) (tt := tYes) (by rfl) sc_changed_all.nd (pi_seq (K := K) 1) (blkOk_by (N := N_changed_all) (sc := defScope s_changed_all) (by decide +kernel)) (fun _ _ _ _ _ => (pg_name (i := 5) sc_changed_all.nd rfl (Or.inl rfl))) (fun _ _ _ _ _ => pts_nil) (fun _ _ _ _ _ => (pe_c (c_is_row T) hr (by decide) rfl (pa_cons (pv 5) pa_nil)))) pa_nil))))))) (fun σ H1 Q1 h1 => ?_)) (pss_one (ps_bad rfl (takes_of rfl rfl rfl rfl) (ini_L T) X.eL hr (by decide) rfl T.g_NoList (pv 1))) pss_nil)
    (pss_cons (ps_if (PT.mono (t' := tAparts K) (pt_not (pt_val (pe_c (c_stand_apart T) hr (by decide) rfl (pa_cons (pe_lc (own := [("spot", 3), ("other", 4)]) (g := (gTup K 2 (gCons (gName 3) (gCons (gName 4) gNil)))) (tt := tYes) (by rfl) sc_changed_all.nd (pi_seq (K := K) 1) (blkOk_by (N := N_changed_all) (sc := defScope s_changed_all) (by decide +kernel)) (fun _ _ _ _ _ => (pg_tup (n := 2) (by rfl) (pgs_cons (pg_name (i := 3) sc_changed_all.nd rfl (Or.inl rfl)) (pgs_cons (pg_name (i := 4) sc_changed_all.nd rfl (Or.inl rfl)) pgs_nil)))) (fun _ _ _ _ _ => pts_nil) (fun _ _ _ _ _ => (pv 3))) pa_nil)))) (fun σ H1 Q1 h1 => ?_)) (pss_one (ps_bad rfl (takes_of rfl rfl rfl rfl) (ini_L T) X.eL hr (by decide) rfl T.g_NoList (pv 1))) pss_nil)
    (pss_cons (ps_set (i := 2) sc_changed_all.nd rfl (Or.inl rfl) (pv 0))
    (pss_cons (ps_for (passes_of rfl) rfl (pi_seq (K := K) 1) (pg_tup (n := 2) (by rfl) (pgs_cons (pg_name (i := 3) sc_changed_all.nd rfl (Or.inl rfl)) (pgs_cons (pg_name (i := 4) sc_changed_all.nd rfl (Or.inl rfl)) pgs_nil)))
      (pss_cons (ps_expr (pe_cr (c_gone_to T) hr (by decide) rfl (takes_of rfl rfl rfl rfl) (pa_cons (pv 2) (pa_cons (pv 3) pa_nil))))
    (pss_one (ps_set (i := 2) sc_changed_all.nd rfl (Or.inl rfl) (pe_c (c_put_at T 12) hr (by decide) rfl (pa_cons (pv 2) (pa_cons (pv 3) (pa_cons (pv 4) pa_nil))))))))
    (pss_one (ps_ret (pv 2)))))))), ?_⟩), F⟩
  · obtain ⟨v, rv, rfl, _⟩ := h
    rfl
  · -- the first test
    obtain ⟨v, x0, x2, x3, x4, x5, rfl, h1⟩ := h1
    rcases h1 with ⟨c, ty, hc1, hc2, q⟩ | ⟨a, xs, bs, rfl, hS, h30, hb, hp, q⟩
    · refine ⟨_, rfl, (by show 2 ≤ sizeLine; decide), fun p hp => ?_⟩
      have g : Same H1 (upd H1 p (.tup [.ty "list", .ty "tuple"])) := same_new hp _
      refine ⟨v, p, "list", "tuple", c, rfl, upd_same, by decide, by decide, ty_same g ty, false, ?_, ?_⟩
      · rw [isB_ne hc1 (by decide), isB_ne hc2 (by decide)]
        rfl
      · exact q _ g
    · refine ⟨_, rfl, (by show 2 ≤ sizeLine; decide), fun p hp2 => ?_⟩
      have g : Same H1 (upd H1 p (.tup [.ty "list", .ty "tuple"])) := same_new hp2 _
      obtain ⟨c, ty, hc⟩ := sqa_ty hS
      refine ⟨_, p, "list", "tuple", c, rfl, upd_same, by decide, by decide, ty_same g ty, true, by rw [hc], ?_⟩
      refine ⟨a, xs, rfl, hS.same g, fun J wk D hD => lc_it wk (Lc D fun i acc H' => Same (upd H1 p (.tup [.ty "list", .ty "tuple"])) H' ∧ acc = (bs.take i).map V.bl) (lc_start ⟨same_new hD _, rfl⟩) (fun i H' _ p => ?_) (fun i x H2 H3 hi p y => ?_) (fun H' p => ?_)⟩
      · obtain ⟨acc, e, _, g2, _⟩ := p
        exact g2
      · obtain ⟨acc, e, hl', g2, rfl⟩ := p
        obtain ⟨rfl, hy⟩ := y
        have hbi : i < bs.length := by omega
        have hx : bs[i]? = some bs[i] := List.getElem?_eq_getElem hbi
        refine ⟨rfl, yT ⟨_, rfl, x, bs[i], rfl, rowq_same (g.trans g2) (hp i x _ hy hx), fun H4 g4 => ?_⟩⟩
        refine lc_put (g4 _ _ e) hl' (line30' (by omega)) ⟨same_own (g2.trans g4) hD _, ?_⟩
        rw [List.take_succ, hx, List.map_append]
        rfl
      · obtain ⟨acc, e, hl', g2, rfl⟩ := p
        refine ⟨_, _, rfl, SqL.of e, _, rfl, ?_⟩
        rw [← hb, List.take_length]
        exact q H' (g.trans g2)
  · -- the second test
    obtain ⟨a, xs, rows, svs, x0, x2, x3, x4, x5, rfl, hS, hR, h30, q1, q2⟩ := h1
    have hlen := hR.len
    refine ⟨a, xs, rfl, hS, fun J wk D hD => lc_it wk (Lc D fun i acc H' => Same H1 H' ∧ acc = svs.take i) (lc_start ⟨same_new hD _, rfl⟩) (fun i H' _ p => ?_) (fun i x H2 H3 hi p y => ?_) (fun H' p => ?_)⟩
    · obtain ⟨acc, e, _, g2, _⟩ := p
      exact g2
    · obtain ⟨acc, e, hl', g2, rfl⟩ := p
      obtain ⟨rfl, hy⟩ := y
      obtain ⟨r, sv, h1, h2, b, ov, rfl, hb, _, _⟩ := hR.get hy
      refine ⟨b, _, rfl, same_tup g2 hb, rfl, _, _, rfl, _, _, rfl, rfl, rfl, yT ⟨_, rfl, ?_⟩⟩
      refine lc_put e hl' (line30' (by omega)) ⟨same_own g2 hD _, ?_⟩
      rw [List.take_succ, h2]
      rfl
    · obtain ⟨acc, e, hl', g2, rfl⟩ := p
      rw [hlen.1, ← hlen.2, List.take_length] at e
      refine ⟨D, svs, _, rfl, SqL.of e, sps_same g2 (rows_sps hR), by rw [List.length_map]; exact h30, fun z H4 g4 => ?_, fun z H4 g4 => ?_⟩
      · exact ⟨_, rfl, q1 z H4 (g2.trans g4)⟩
      · exact ⟨_, rfl, q2 z H4 (g2.trans g4)⟩
  · obtain ⟨v, rv, rfl, h⟩ := h
    rcases h with ⟨hv, hb⟩ | ⟨t, ht, h10, h⟩
    · exact ⟨_, rfl, v, false, rfl, hv, fun z => absurd z (by decide), fun _ => hb⟩
    refine ⟨_, rfl, v, true, rfl, .inl ⟨t, ht, h10, rfl⟩, fun _ H1 g1 => ?_, fun z => absurd z (by decide)⟩
    rcases h with ⟨c, ty, hc1, hc2, hb⟩ | ⟨a, xs, bs, rfl, hS, h30, hbl, hp, hall, hb⟩ | ⟨a, xs, rows, svs, rfl, hS, hR, h30, hbd, h⟩
    · exact ⟨_, _, _, _, _, _, rfl, .inl ⟨c, ty_same g1 ty, hc1, hc2, fun H2 g2 => iteT ⟨_, rfl, hb.same (g1.trans g2)⟩⟩⟩
    · refine ⟨_, _, _, _, _, _, rfl, .inr ⟨a, xs, bs, rfl, hS.same g1, h30, hbl, fun i y b hy hx => rowq_same g1 (hp i y b hy hx), fun H2 g2 => ?_⟩⟩
      rw [hall]
      exact iteT ⟨_, rfl, hb.same (g1.trans g2)⟩
    have hlen := hR.len
    refine ⟨_, _, _, _, _, _, rfl, .inr ⟨a, xs, List.replicate xs.length true, rfl, hS.same g1, by omega, by simp, fun i y b hy hx => rowq_same g1 (rows_q hR hbd hy hx), fun H2 g2 => ?_⟩⟩
    have ea : (!(List.replicate xs.length true).all id) = false := by simp
    rw [ea]
    refine iteF ⟨a, xs, rows, svs, _, _, _, _, _, rfl, hS.same (g1.trans g2), hR.same (g1.trans g2), h30, fun hap H3 g3 => ?_, fun hap H3 g3 => ?_⟩
    · refine iteF ?_
      have g03 := g1.trans (g2.trans g3)
      have good : (∀ i r sv, rows[i]? = some r → svs[i]? = some sv → ((putAll t (rows.take i)).get r.1).isSome = true ∨ ((putAll t (rows.take i)).get r.1 = none ∧ Bad K H "NoSpot" sv E)) ∧ (Fit t rows → ∀ r H', Same H H' → TmR K H' r (putAll t rows) → Q r H') ∧ (∀ i r, rows[i]? = some r → ((putAll t (rows.take i)).get r.1).isSome = true → r.1.length < 10) ∧ ((∀ i r, rows[i]? = some r → ((putAll t (rows.take i)).get r.1).isSome = true) → Fit t rows) := by
        rcases h with ⟨z, _⟩ | ⟨hf, q⟩ | ⟨s, o, sv, rfl, rfl, hn, hb⟩
        · exact absurd hap z
        · refine ⟨fun i r sv hr _ => .inl (fit_get hf hr), fun _ => q, fun i r hr _ => ?_, fun _ => hf⟩
          have hg := hf.has r (List.mem_of_getElem? hr)
          cases eg : t.get r.1 with
          | none => rw [eg] at hg; cases hg
          | some u =>
            have h1 := get_ht t r.1 u eg
            have h2 := u.ht_pos
            omega
        · refine ⟨fun i r sv' hr hs => ?_, fun hf => ?_, fun i r hr z => ?_, fun z => ?_⟩
          · match i, hr, hs with
            | 0, hr, hs =>
              cases hr; cases hs
              exact .inr ⟨hn, hb⟩
          · have := hf.has (s, o) List.mem_cons_self
            rw [hn] at this
            cases this
          · match i, hr, z with
            | 0, hr, z =>
              cases hr
              have e : (putAll t ([(s, o)].take 0)).get (s, o).1 = none := hn
              rw [e] at z
              cases z
          · have := z 0 (s, o) rfl
            have e : (putAll t ([(s, o)].take 0)).get (s, o).1 = none := hn
            rw [e] at this
            cases this
      obtain ⟨go1, go2, go4, go3⟩ := good
      refine ⟨_, rfl, a, xs, rfl, hS.same g03, fun J wk => for_it wk (fun i σ H' => ∃ f x3 x4 x5, σ = [some v, some (.ref a), some f, x3, x4, x5] ∧ Same H3 H' ∧ TmR K H' f (putAll t (rows.take i)) ∧ (putAll t (rows.take i)).ht ≤ 20 ∧ ∀ j r, j < i → rows[j]? = some r → ((putAll t (rows.take j)).get r.1).isSome = true) ?_ (fun i σ H' _ p => ?_) (fun i x σ H4 H5 hi p y => ?_) (fun σ H' p => ?_)⟩
      · exact ⟨v, _, _, _, rfl, Same.refl _, dp_same g03 ht, (by show t.ht ≤ 20; omega), fun j r hj => absurd hj (Nat.not_lt_zero _)⟩
      · obtain ⟨f, x3, x4, x5, _, g, _⟩ := p
        exact g
      · obtain ⟨f, x3, x4, x5, rfl, g, hf, hht, hpr⟩ := p
        obtain ⟨rfl, hy⟩ := y
        obtain ⟨r, sv, hr1, hs1, b, ov, rfl, hb, hsp, hot⟩ := hR.get hy
        have g04 := g03.trans g
        obtain ⟨hb1, hb2⟩ := hbd r (List.mem_of_getElem? hr1)
        refine ⟨b, _, rfl, same_tup g04 hb, rfl, _, _, rfl, _, _, rfl, rfl, ?_⟩
        refine ⟨_, rfl, _, rfl, f, sv, putAll t (rows.take i), r.1, rfl, hf, dp_same g04 hsp, hb1, by omega, fun u hu b2 pv i2 H6 g6 hb6 hp6 => ?_, fun hn => ?_⟩
        · have hso : ((putAll t (rows.take i)).get r.1).isSome = true := by rw [hu]; rfl
          have hlen0 := go4 i r hr1 hso
          have hlen1 : r.1.length < 12 := by omega
          refine ⟨_, rfl, _, rfl, _, rfl, f, sv, ov, putAll t (rows.take i), r.1, r.2, rfl, dp_same g6 hf, dp_same (g04.trans g6) hsp, dp_same (g04.trans g6) hot, hso, hlen1, hht, by omega, fun z H7 g7 hz => ?_⟩
          have e : putAll t (rows.take (i + 1)) = (putAll t (rows.take i)).put r.1 r.2 := by
            rw [List.take_succ, hr1, putAll_append]
            rfl
          refine ⟨z, _, _, _, rfl, g.trans (g6.trans g7), by rw [e]; exact hz, ?_, fun j r' hj hr' => ?_⟩
          · rw [e]
            have := put_ht (putAll t (rows.take i)) r.1 r.2
            omega
          · by_cases ej : j = i
            · subst ej
              rw [hr1] at hr'
              cases hr'
              exact hso
            · exact hpr j r' (by omega) hr'
        · rcases go1 i r sv hr1 hs1 with z | ⟨_, z⟩
          · rw [hn] at z
            cases z
          · exact z.same g04
      · obtain ⟨f, x3, x4, x5, rfl, g, hf, hht, hpr⟩ := p
        rw [hlen.1, List.take_length] at hf
        refine ⟨_, rfl, go2 (go3 fun i r hr => hpr i r ?_ hr) f H' (g03.trans g) hf⟩
        have := (List.getElem?_eq_some_iff.mp hr).1
        omega
    · refine iteT ⟨_, rfl, ?_⟩
      rcases h with ⟨_, hb⟩ | ⟨hf, _⟩ | ⟨s, o, sv, rfl, rfl, hn, hb⟩
      · exact hb.same (g1.trans (g2.trans g3))
      · exact absurd (fit_apl hf) hap
      · refine absurd (fun i j s' r hi hj hne => ?_) hap
        match i, j, hi, hj with
        | 0, 0, _, _ => exact absurd rfl hne
theorem c_changed_all (T : Tx w K mg) : CalR P w K mg base 23 "changed_all" (spChanged K) := by
  obtain ⟨fd, ok, F⟩ := ok_changed_all (P := P) (base := base) T
  exact calR_of F ok T.g_changed_all fun _ _ _ _ _ _ us hl => match us, hl with | [_, _], _ => rfl
end
end K89
namespace K89
open PySem PySem.Spec PyProof.Rows L2
open C8 (Cal pe_c)
section
variable {P : Program} {w : World} {K : PySem.W.Frag} {mg : Str → Option Value} {base : Heap}
/-! ### _law_cell, _law_box -/
def spCell (K : PySem.W.Frag) : Sp := fun vs H Q _ => ∃ (a : Addr) (ns : List Int) (k : Nat), vs = [.ref a, .int (k : Nat)] ∧ SqL K H a (ns.map V.int) ∧ k ≤ 100 ∧ ∀ i H', Same H H' → Q (.int i) H'
abbrev N_law_cell : List Str := ["script", "k"]
theorem sc_law_cell : FnScope N_law_cell N_law_cell (defScope s_law_cell) := ⟨rfl, rfl, rfl, by decide +kernel, rfl, by decide +kernel, by decide +kernel⟩
theorem c_law_cell (T : Tx w K mg) : Cal P w K mg base 1 "_law_cell" (spCell K) [] := by
  obtain ⟨fd, F⟩ := T.d_law_cell
  refine cal_of F (F.ok sc_law_cell (fun vs H Q E h => ?_) (fun cdv A outer s H vs Q E hr h => ⟨_, PSs.nox (pss_one (ps_ret (pe_ifExp (pt_cmpR op_lt (pv 1) (pe_callB call_len rfl T.n_len PySem.boot_len (pa_cons (pv 0) pa_nil)) (nomark _)) (pe_ix ix_list (pv 0) (pv 1) (fun _ _ => rfl)) (pe_op op_add (pe_op op_mul pe_int (pv 1)) (pe_op op_mod (pe_callTy call_int1 rfl T.n_int b_int (pa_cons (pe_callB (cr_sum rfl) rfl T.n_sum b_sum (pa_cons (pe_slice sl_list (pv 0) po_none (po_some pe_int)) pa_nil)) pa_nil)) pe_int))))), ?_⟩)) T.g_law_cell
    fun _ _ _ _ _ _ us hl => match us, hl with | [_, _], _ => rfl
  · obtain ⟨a, ns, k, rfl, _⟩ := h
    rfl
  obtain ⟨a, ns, k, rfl, hL, h100, q⟩ := h
  refine ⟨_, rfl, _, rfl, _, _, rfl, .inl ⟨_, hL, rfl⟩, _, _, rfl, rfl, _, rfl, ?_⟩
  rw [List.length_map]
  by_cases c : k < ns.length
  · refine iT (by omega) ⟨_, rfl, _, rfl, a, _, _, .int ns[k], rfl, rfl, hL, atI_nat (by rw [List.getElem?_map, List.getElem?_eq_getElem c]; rfl), q _ H (Same.refl H)⟩
  · refine iF (by omega) ⟨_, rfl, _, _, rfl, rfl, .inl ⟨by decide, by decide⟩, _, rfl, _, rfl, a, _, rfl, hL, fun p hp => ?_⟩
    have e : cutV (ns.map V.int) none (some 1) = (ns.take (min 1 ns.length)).map V.int := by
      unfold cutV
      show List.take (HT.sIx (ns.map V.int).length (ns.map V.int).length (some ((1 : Nat) : Int)) - HT.sIx _ 0 none) _ = _
      rw [HT.sIx_nat, HT.sIx_none, Nat.sub_zero, List.drop_zero, List.length_map, List.map_take]
    refine ⟨p, ns.take (min 1 ns.length), rfl, SqL.of (by rw [← e]; exact upd_same), .inl ⟨_, rfl, _, _, rfl, rfl, (by show (0 : Int) < 1000003; decide), _, _, rfl, rfl, q _ _ (same_new hp _)⟩⟩
/-- at b stands a box that has been asked at most n times -/
def Bx (H : Hp) (b : Addr) (n : Nat) : Prop := ∃ (x : Int) (c : Bool) (y z : Int), H b = some (.lst [.int x, .bl c, .int y, .int z]) ∧ 0 ≤ y ∧ y < 2147483629 ∧ 0 ≤ z ∧ z ≤ n
theorem Bx.mono {H : Hp} {b : Addr} {n m : Nat} (h : Bx H b n) (e : n ≤ m) : Bx H b m := by
  obtain ⟨x, c, y, z, h1, h2, h3, h4, h5⟩ := h
  exact ⟨x, c, y, z, h1, h2, h3, h4, by omega⟩
theorem Bx.same {H H' : Hp} {b : Addr} {n : Nat} (h : Bx H b n) (e : Same H H') : Bx H' b n := by
  obtain ⟨x, c, y, z, h1, h2⟩ := h
  exact ⟨x, c, y, z, e _ _ h1, h2⟩
theorem Bx.lst {H : Hp} {b : Addr} {n : Nat} (h : Bx H b n) : ∃ ys, H b = some (.lst ys) := by
  obtain ⟨x, c, y, z, h1, h2⟩ := h
  exact ⟨_, h1⟩
def spBox (K : PySem.W.Frag) : Sp := fun vs H Q _ => ∃ i : Int, vs = [.int i] ∧ ∀ b H', Same H H' → H b = none → Bx H' b 0 → Q (.ref b) H'
abbrev N_law_box : List Str := ["great"]
theorem sc_law_box : FnScope N_law_box N_law_box (defScope s_law_box) := ⟨rfl, rfl, rfl, by decide +kernel, rfl, by decide +kernel, by decide +kernel⟩
theorem c_law_box (T : Tx w K mg) : Cal P w K mg base 1 "_law_box" (spBox K) [] := by
  obtain ⟨fd, F⟩ := T.d_law_box
  refine cal_of F (F.ok sc_law_box (fun vs H Q E h => ?_) (fun cdv A outer s H vs Q E hr h => ⟨_, PSs.nox (pss_one (ps_ret (pe_lst (pa_cons (pe_callB call_abs rfl T.n_abs b_abs (pa_cons (pv 0) pa_nil)) (pa_cons (pe_cmpR op_ge (pe_callB call_abs rfl T.n_abs b_abs (pa_cons (pv 0) pa_nil)) (pe_op op_pow pe_int pe_int) (nomark _)) (pa_cons (pe_op op_mod (pe_callTy call_int1 rfl T.n_int b_int (pa_cons (pe_callB call_abs rfl T.n_abs b_abs (pa_cons (pv 0) pa_nil)) pa_nil)) pe_int) (pa_cons pe_int pa_nil))))))), ?_⟩)) T.g_law_box
    fun _ _ _ _ _ _ us hl => match us, hl with | [_], _ => rfl
  · obtain ⟨i, rfl, _⟩ := h
    rfl
  obtain ⟨i, rfl, q⟩ := h
  refine ⟨_, rfl, _, rfl, _, rfl, _, rfl, _, _, rfl, rfl, ⟨by decide, by decide, by decide⟩, _, _, rfl, rfl, _, rfl, _, rfl, .inl ⟨_, rfl, _, _, rfl, rfl, (by show (0 : Int) < 2147483629; decide), (by show 4 ≤ sizeLine; decide), fun b hb => ?_⟩⟩
  exact q b _ (same_new hb _) hb ⟨_, _, _, _, upd_same, Int.emod_nonneg _ (by decide), Int.emod_lt_of_pos _ (by decide), Int.le_refl _, Int.le_refl _⟩
/-! ### _law_take -/
def spTake (K : PySem.W.Frag) : Sp := fun vs H Q _ => ∃ (b : Addr) (many : Int) (n : Nat), vs = [.ref b, .int many] ∧ Bx H b n ∧ n ≤ 1000000 ∧ 0 < many ∧ many < 1000000 ∧ ∀ r H', Mo b H H' → Bx H' b (n + 1) → 0 ≤ r → r < many → Q (.int r) H'
abbrev N_law_take : List Str := ["box", "many", "mixed", "digit"]
abbrev P_law_take : List Str := ["box", "many"]
theorem sc_law_take : FnScope N_law_take P_law_take (defScope s_law_take) := ⟨rfl, rfl, rfl, by decide +kernel, rfl, by decide +kernel, by decide +kernel⟩
theorem pw60 {x j : Int} (h0 : 0 ≤ x) (h : x < 2 ^ 60) (hj : 0 ≤ j ∧ j ≤ 1000000) : CPow x j := by
  refine ⟨hj.1, hj.2, ?_⟩
  have e : x.natAbs < 2 ^ 60 := by omega
  exact Nat.lt_of_lt_of_le e (by decide)
/-- box[1] and box[0] > 0 -/
def tFast : TT := fun σ H Q => ∃ b x c y z, σ[0]? = some (some (.ref b)) ∧ H b = some (.lst [.int x, .bl c, .int y, .int z]) ∧ Q (c && decide (x > 0)) H
theorem c_law_take (T : Tx w K mg) : Cal P w K mg base 1 "_law_take" (spTake K) [] := by
  obtain ⟨fd, F⟩ := T.d_law_take
  refine cal_of F (F.ok sc_law_take (fun vs H Q E h => ?_) (fun cdv A outer s H vs Q E hr h => ⟨_, PSs.nox (pss_cons (ps_if (PT.mono (t' := tFast) (PW.pt (pw_and (pt_val (pe_ix ix_list (pv 0) pe_int (fun _ _ => rfl))) (pw_and1 (pt_cmpR op_gt (pe_ix ix_list (pv 0) pe_int (fun _ _ => rfl)) pe_int (nomark _))))) (fun σ H1 Q1 h1 => ?_)) (pss_cons (ps_set (i := 3) sc_law_take.nd rfl (Or.inl rfl) (pe_op op_mod (pe_callTy call_int1 rfl T.n_int b_int (pa_cons (pe_ix ix_list (pv 0) pe_int (fun _ _ => rfl)) pa_nil)) (pv 1)))
    (pss_cons (ps_asg (pe_op op_fdivW (pe_ix ix_list (pv 0) pe_int (fun _ _ => rfl)) (pv 1)) (pg_sub (pv 0) pe_int set_list))
    (pss_one (ps_ret (pv 3))))) pss_nil)
    (pss_cons (ps_asg (pe_op op_add (pe_ix ix_list (pv 0) pe_int (fun _ _ => rfl)) pe_int) (pg_sub (pv 0) pe_int set_list))
    (pss_cons (ps_set (i := 2) sc_law_take.nd rfl (Or.inl rfl) (pe_op op_mod (pe_callTy call_int1 rfl T.n_int b_int (pa_cons (pe_op op_pow (pe_op op_add (pe_op op_add (pe_ix ix_list (pv 0) pe_int (fun _ _ => rfl)) (pe_op op_mul pe_int (pe_ix ix_list (pv 0) pe_int (fun _ _ => rfl)))) pe_int) pe_int) pa_nil)) pe_int))
    (pss_one (ps_ret (pe_op op_mod (pe_callTy call_int1 rfl T.n_int b_int (pa_cons (pe_op op_fdivW (pe_op op_mod (pe_callTy call_int1 rfl T.n_int b_int (pa_cons (pe_op op_pow (pe_op op_add (pe_op op_mul (pv 2) pe_int) (pe_op op_mul pe_int (pe_ix ix_list (pv 0) pe_int (fun _ _ => rfl)))) pe_int) pa_nil)) pe_int) pe_int) pa_nil)) (pv 1))))))), ?_⟩)) T.g_law_take
    fun _ _ _ _ _ _ us hl => match us, hl with | [_, _], _ => rfl
  · obtain ⟨b, many, n, rfl, _⟩ := h
    rfl
  · obtain ⟨b, x, c, y, z, e0, hb, q⟩ := h1
    refine ⟨_, e0, b, _, _, .bl c, rfl, rfl, SqL.of hb, atI_nat (j := 1) rfl, c, rfl, ?_⟩
    cases c with
    | false => exact iteF q
    | true => exact iteT ⟨_, e0, b, _, _, .int x, rfl, rfl, SqL.of hb, atI_nat (j := 0) rfl, _, _, rfl, rfl, _, rfl, q⟩
  obtain ⟨b, many, n, rfl, hB, hn, hm0, hm1, q⟩ := h
  obtain ⟨x, c, y, z, hb, hy0, hy1, hz0, hz1⟩ := hB
  refine ⟨b, x, c, y, z, rfl, hb, ?_⟩
  by_cases hc : (c && decide (x > 0)) = true
  · rw [hc]
    have wd : CDivW x many := wide_div (b := 40) hm0 (by omega) (by decide) (by decide)
    refine iteT ⟨_, rfl, b, _, _, .int x, rfl, rfl, SqL.of hb, atI_nat (j := 0) rfl, .inl ⟨_, rfl, _, rfl, _, _, rfl, rfl, hm0, ?_⟩⟩
    refine ⟨_, rfl, b, _, _, .int x, rfl, rfl, SqL.of hb, atI_nat (j := 0) rfl, _, rfl, _, _, rfl, rfl, wd, ?_⟩
    refine ⟨_, rfl, b, _, _, 0, rfl, rfl, hb, ixN_lt (k := 0) (by simp), _, rfl, ?_⟩
    exact q _ _ Mo.upd ⟨_, _, y, z, upd_same, hy0, hy1, hz0, by omega⟩ (Int.emod_nonneg _ (by omega)) (Int.emod_lt_of_pos _ hm0)
  · have hc' : (c && decide (x > 0)) = false := by simpa using hc
    rw [hc']
    refine iteF ⟨_, rfl, b, _, _, .int z, rfl, rfl, SqL.of hb, atI_nat (j := 3) rfl, _, _, rfl, rfl, ?_⟩
    refine ⟨_, rfl, b, _, _, 3, rfl, rfl, hb, ixN_lt (k := 3) (by simp), ?_⟩
    have hb1 : (upd H b (.lst [.int x, .bl c, .int y, .int (z + 1)])) b = some (.lst [.int x, .bl c, .int y, .int (z + 1)]) := upd_same
    refine ⟨_, rfl, b, _, _, .int y, rfl, rfl, SqL.of hb1, atI_nat (j := 2) rfl, _, rfl, b, _, _, .int (z + 1), rfl, rfl, SqL.of hb1, atI_nat (j := 3) rfl, _, _, rfl, rfl, .inl ⟨by decide, by decide⟩, _, _, rfl, rfl, _, _, rfl, rfl, _, _, rfl, rfl, pw60 (by omega) (by omega) ⟨by decide, by decide⟩, ?_⟩
    refine .inl ⟨_, rfl, _, _, rfl, rfl, (by show (0 : Int) < 2147483647; decide), ?_⟩
    generalize hm : (y + 15486941 * (z + 1) + 179425619) ^ (5 : Int).toNat % 2147483647 = m
    have m0 : 0 ≤ m := by rw [← hm]; exact Int.emod_nonneg _ (by decide)
    have m1 : m < 2147483647 := by rw [← hm]; exact Int.emod_lt_of_pos _ (by decide)
    refine ⟨_, rfl, _, _, rfl, rfl, .inl ⟨by omega, by omega⟩, ?_⟩
    refine ⟨_, rfl, b, _, _, .int (z + 1), rfl, rfl, SqL.of hb1, atI_nat (j := 3) rfl, _, _, rfl, rfl, .inl ⟨by decide, by decide⟩, _, _, rfl, rfl, _, _, rfl, rfl, pw60 (by omega) (by omega) ⟨by decide, by decide⟩, ?_⟩
    refine .inl ⟨_, rfl, _, _, rfl, rfl, (by show (0 : Int) < 2147483587; decide), _, _, rfl, rfl, wide_div (b := 40) (by decide) (by decide) (by decide) (by decide), .inl ⟨_, rfl, _, rfl, _, _, rfl, rfl, hm0, ?_⟩⟩
    exact q _ _ Mo.upd ⟨_, _, y, z + 1, hb1, hy0, hy1, by omega, by omega⟩ (Int.emod_nonneg _ (by omega)) (Int.emod_lt_of_pos _ hm0)
end
end K89
namespace K89
open PySem PySem.Spec PyProof.Rows L2
open C8 (Cal pe_c)
theorem str_a : ("a" : Str) = ⟨#[97]⟩ := by decide +kernel
theorem str_b : ("b" : Str) = ⟨#[98]⟩ := by decide +kernel
section
variable {K : PySem.W.Frag} {H H' H1 H2 : Hp} {b p : Addr} {v : V} {n : Nat}
/-- what became of a box: what stood elsewhere stands -/
theorem Bx.tk (h : Bx H b n) (e : Mo b H H') : TK K H H' := by
  obtain ⟨ys, hb⟩ := h.lst
  exact e.tk hb
theorem tm_keep {t : Tm} (h : Bx H b n) (e : Mo b H H') (r : TmR K H v t) : TmR K H' v t := dp_tk (h.tk e) (flat_tm t) r
theorem nat_of {i : Int} (h : 0 ≤ i) : ∃ k : Nat, i = (k : Int) := ⟨i.toNat, by omega⟩
/-- two, three words in a new tuple -/
theorem lf_of {l : Lf} {x : V} {ps : List V} (h : H p = some (.tup (x :: ps))) (e : x = .str l.word) (r : DpAll K H ps l.rest) : TmR K H (.ref p) (.lf l) := by
  subst e
  exact tm_of (t := .lf l) (SqT.of h) r
end
section
variable {P : Program} {w : World} {K : PySem.W.Frag} {mg : Str → Option Value} {base : Heap}
def spLeaf (K : PySem.W.Frag) : Sp := fun vs H Q _ => ∃ (b : Addr) (deep : Int) (n : Nat), vs = [.ref b, .int deep, .int 0] ∧ Bx H b n ∧ n + 10 ≤ 1000000 ∧ 0 ≤ deep ∧ deep ≤ 1000 ∧ ∀ r H' l, Mo b H H' → Bx H' b (n + 10) → TmR K H' r (.lf l) → Q r H'
/-- way < 3 and holes > 0, where there are no holes -/
def tNoHole : TT := fun σ H Q => ∃ way : Int, σ[3]? = some (some (.int way)) ∧ σ[2]? = some (some (.int 0)) ∧ Q false H
abbrev N_law_leaf : List Str := ["box", "deep", "holes", "way", "some"]
abbrev P_law_leaf : List Str := ["box", "deep", "holes"]
theorem sc_law_leaf : FnScope N_law_leaf P_law_leaf (defScope s_law_leaf) := ⟨rfl, rfl, rfl, by decide +kernel, rfl, by decide +kernel, by decide +kernel⟩
theorem c_law_leaf (T : Tx w K mg) : Cal P w K mg base 2 "_law_leaf" (spLeaf K) [] := by
  obtain ⟨fd, F⟩ := T.d_law_leaf
  have c_law_take := c_law_take (P := P) (base := base) T
  refine cal_of F (F.ok sc_law_leaf (fun vs H Q E h => ?_) (fun cdv A outer s H vs Q E hr h => ⟨_, PSs.nox (pss_cons (ps_set (i := 3) sc_law_leaf.nd rfl (Or.inl rfl) (pe_c c_law_take hr (by decide) rfl (pa_cons (pv 0) (pa_cons pe_int pa_nil))))
    (pss_cons (ps_if (PT.mono (t' := tNoHole) (PW.pt (pw_and (pt_cmpR op_lt (pv 3) pe_int (nomark _)) (pw_and1 (pt_cmpR op_gt (pv 2) pe_int (nomark _))))) (fun σ H1 Q1 h1 => ?_)) (pss_one (ps_ret (pe_tup (pa_cons pe_str (pa_cons (pe_op op_mul (pe_c c_law_take hr (by decide) rfl (pa_cons (pv 0) (pa_cons (pv 2) pa_nil))) (pe_ix ix_list (pe_lst (pa_cons pe_int (pa_cons pe_int (pa_cons pe_int pa_nil)))) (pe_c c_law_take hr (by decide) rfl (pa_cons (pv 0) (pa_cons pe_int pa_nil))) (fun _ _ => rfl))) pa_nil))))) pss_nil)
    (pss_cons (ps_if (pt_cmpR op_lt (pv 3) pe_int (nomark _)) (pss_one (ps_ret (pe_tup (pa_cons pe_str (pa_cons (pe_c c_law_take hr (by decide) rfl (pa_cons (pv 0) (pa_cons (pe_op op_add (pv 1) pe_int) pa_nil))) pa_nil))))) pss_nil)
    (pss_cons (ps_set (i := 4) sc_law_leaf.nd rfl (Or.inl rfl) (pe_lst (pa_cons (pe_tup (pa_cons pe_str (pa_cons (pe_c c_law_take hr (by decide) rfl (pa_cons (pv 0) (pa_cons pe_int pa_nil))) pa_nil))) (pa_cons (pe_tup (pa_cons pe_str (pa_cons (pe_ix ix_str pe_str (pe_c c_law_take hr (by decide) rfl (pa_cons (pv 0) (pa_cons pe_int pa_nil))) (fun _ _ => rfl)) pa_nil))) (pa_cons (pe_tup (pa_cons pe_str (pa_cons (pe_ix ix_list (pe_lst (pa_cons pe_str (pa_cons pe_str pa_nil))) (pe_c c_law_take hr (by decide) rfl (pa_cons (pv 0) (pa_cons pe_int pa_nil))) (fun _ _ => rfl)) pa_nil))) pa_nil)))))
    (pss_one (ps_ret (pe_ix ix_list (pe_op op_cat (pv 4) (pe_lst (pa_cons (pe_tup (pa_cons pe_str (pa_cons pe_str (pa_cons (pe_c c_law_take hr (by decide) rfl (pa_cons (pv 0) (pa_cons pe_int pa_nil))) pa_nil)))) (pa_cons (pe_tup (pa_cons pe_str (pa_cons pe_str (pa_cons (pe_c c_law_take hr (by decide) rfl (pa_cons (pv 0) (pa_cons pe_int pa_nil))) pa_nil)))) pa_nil)))) (pe_c c_law_take hr (by decide) rfl (pa_cons (pv 0) (pa_cons pe_int pa_nil))) (fun _ _ => rfl)))))))), ?_⟩)) T.g_law_leaf
    fun _ _ _ _ _ _ us hl => match us, hl with | [_, _, _], _ => rfl
  · obtain ⟨b, deep, n, rfl, _⟩ := h
    rfl
  · obtain ⟨way, e3, e2, q⟩ := h1
    refine ⟨_, e3, _, _, rfl, rfl, _, rfl, ?_⟩
    by_cases c : way < 3
    · exact iT c ⟨_, e2, _, _, rfl, rfl, _, rfl, q⟩
    · exact iF c q
  obtain ⟨b, deep, n, rfl, hB, hn, hd0, hd1, q⟩ := h
  refine ⟨_, rfl, b, 9, n, rfl, hB, by omega, by decide, by decide, fun way H1 m1 B1 w0 w1 => ?_⟩
  refine ⟨way, rfl, rfl, iteF ?_⟩
  refine ⟨_, rfl, _, _, rfl, rfl, _, rfl, ?_⟩
  by_cases c : way < 5
  · refine iT c ⟨_, rfl, _, rfl, _, _, rfl, rfl, b, deep + 2, n + 1, rfl, B1, by omega, by omega, by omega, fun r H2 m2 B2 r0 r1 => ?_⟩
    obtain ⟨k, rfl⟩ := nat_of r0
    refine ⟨(by show 2 ≤ sizeLine; decide), fun p hp => ?_⟩
    have g := same_new hp (.tup [.str "at", .int (k : Nat)])
    exact q _ _ (.at k) (m1.trans (m2.trans (Mo.of g))) ((B2.mono (by omega)).same g) (lf_of upd_same rfl (.cons (.int _) .nil))
  · refine iF c ?_
    -- ('kind', ..)
    refine ⟨_, rfl, b, 3, n + 1, rfl, B1, by omega, by decide, by decide, fun r H2 m2 B2 r0 r1 => ?_⟩
    obtain ⟨k1, rfl⟩ := nat_of r0
    refine ⟨(by show 2 ≤ sizeLine; decide), fun p1 hp1 => ?_⟩
    have g1 := same_new hp1 (.tup [.str "kind", .int (k1 : Nat)])
    have t1 : TmR K (upd H2 p1 (.tup [.str "kind", .int (k1 : Nat)])) (.ref p1) (.lf (.kind ⟨k1, by omega⟩)) := lf_of upd_same rfl (.cons (.int _) .nil)
    -- ('name', ..)
    refine ⟨_, rfl, b, 2, n + 2, rfl, B2.same g1, by omega, by decide, by decide, fun r H3 m3 B3 r0 r1 => ?_⟩
    obtain ⟨k2, rfl⟩ := nat_of r0
    obtain ⟨nm, c2, hc2, hnm⟩ : ∃ (nm : Nm) (c2 : Nat), atI ("ab" : Str).cps.toList (k2 : Int) = some c2 ∧ V.str ⟨#[c2]⟩ = V.str nm.str := by
      match k2, r1 with
      | 0, _ => exact ⟨.a, 97, by decide +kernel, by rw [Nm.str, str_a]⟩
      | 1, _ => exact ⟨.b, 98, by decide +kernel, by rw [Nm.str, str_b]⟩
    refine ⟨_, _, c2, rfl, rfl, (by decide +kernel), hc2, (by show 2 ≤ sizeLine; decide), fun p2 hp2 => ?_⟩
    have g2 := same_new hp2 (.tup [.str "name", .str ⟨#[c2]⟩])
    have t1' := dp_same g2 (tm_keep (B2.same g1) m3 t1)
    have t2 : TmR K (upd H3 p2 (.tup [.str "name", .str ⟨#[c2]⟩])) (.ref p2) (.lf (.name nm)) := lf_of upd_same rfl (by rw [hnm]; exact .cons (.str _) .nil)
    -- ('thing', ..)
    refine ⟨(by show 2 ≤ sizeLine; decide), fun p3 hp3 => ?_⟩
    have g3 := g2.trans (same_new hp3 (.lst [.str "num", .str "a"]))
    have B3' := B3.same g3
    refine ⟨_, rfl, b, 2, n + 3, rfl, B3', by omega, by decide, by decide, fun r H4 m4 B4 r0 r1 => ?_⟩
    obtain ⟨k3, rfl⟩ := nat_of r0
    have hp3b : p3 ≠ b := fun z => by
      obtain ⟨ys, hb⟩ := (B3.same g2).lst
      rw [z, hb] at hp3
      cases hp3
    have hl3 : H4 p3 = some (.lst [.str "num", .str "a"]) := m4 _ _ hp3b upd_same
    obtain ⟨nm3, hc3⟩ : ∃ nm : Nm, atI [V.str "num", V.str "a"] (k3 : Int) = some (.str nm.str) := by
      match k3, r1 with
      | 0, _ => exact ⟨.num, rfl⟩
      | 1, _ => exact ⟨.a, rfl⟩
    refine ⟨p3, _, _, _, rfl, rfl, SqL.of hl3, hc3, (by show 2 ≤ sizeLine; decide), fun p4 hp4 => ?_⟩
    have g4 := same_new hp4 (.tup [.str "thing", .str nm3.str])
    have s23 := same_new hp3 (.lst [.str "num", .str "a"])
    have t1'' := dp_same g4 (tm_keep B3' m4 (dp_same s23 t1'))
    have t2' := dp_same g4 (tm_keep B3' m4 (dp_same s23 t2))
    have t3 : TmR K (upd H4 p4 (.tup [.str "thing", .str nm3.str])) (.ref p4) (.lf (.thing nm3)) := lf_of upd_same rfl (.cons (.str _) .nil)
    refine ⟨(by show 3 ≤ sizeLine; decide), fun p5 hp5 => ?_⟩
    have g5 := same_new hp5 (.lst [.ref p1, .ref p2, .ref p4])
    have B4' := B4.same (g4.trans g5)
    have mH : Mo b H (upd (upd H4 p4 (.tup [.str "thing", .str nm3.str])) p5 (.lst [.ref p1, .ref p2, .ref p4])) := m1.trans (m2.trans ((Mo.of g1).trans (m3.trans ((Mo.of g3).trans (m4.trans (Mo.of (g4.trans g5)))))))
    have hp5b : p5 ≠ b := fun z => by
      obtain ⟨ys, hb⟩ := (B4.same g4).lst
      rw [z, hb] at hp5
      cases hp5
    -- ('maker', ..), ('eater', ..)
    refine ⟨_, rfl, _, rfl, b, 2, n + 4, rfl, B4', by omega, by decide, by decide, fun r H5 m5 B5 r0 r1 => ?_⟩
    obtain ⟨k4, rfl⟩ := nat_of r0
    refine ⟨(by show 3 ≤ sizeLine; decide), fun p6 hp6 => ?_⟩
    have g6 := same_new hp6 (.tup [.str "maker", .str "num", .int (k4 : Nat)])
    have t4 : TmR K (upd H5 p6 (.tup [.str "maker", .str "num", .int (k4 : Nat)])) (.ref p6) (.lf (.maker .num k4)) := lf_of upd_same rfl (.cons (.str _) (.cons (.int _) .nil))
    refine ⟨_, rfl, b, 2, n + 5, rfl, B5.same g6, by omega, by decide, by decide, fun r H6 m6 B6 r0 r1 => ?_⟩
    obtain ⟨k5, rfl⟩ := nat_of r0
    refine ⟨(by show 3 ≤ sizeLine; decide), fun p7 hp7 => ?_⟩
    have g7 := same_new hp7 (.tup [.str "eater", .str "num", .int (k5 : Nat)])
    have t5 : TmR K (upd H6 p7 (.tup [.str "eater", .str "num", .int (k5 : Nat)])) (.ref p7) (.lf (.eater .num ⟨k5, by omega⟩)) := lf_of upd_same rfl (.cons (.str _) (.cons (.int _) .nil))
    refine ⟨(by show 2 ≤ sizeLine; decide), fun p8 hp8 => ?_⟩
    have g8 := g7.trans (same_new hp8 (.lst [.ref p6, .ref p7]))
    have h5 : (upd (upd H6 p7 (.tup [.str "eater", .str "num", .int (k5 : Nat)])) p8 (.lst [.ref p6, .ref p7])) p5 = some (.lst [.ref p1, .ref p2, .ref p4]) :=
      g8 _ _ (m6 _ _ hp5b (g6 _ _ (m5 _ _ hp5b upd_same)))
    refine ⟨p5, p8, _, _, rfl, rfl, h5, upd_same, (by show 5 ≤ sizeLine; decide), fun p9 hp9 => ?_⟩
    have g9 := same_new hp9 (.lst ([.ref p1, .ref p2, .ref p4] ++ [.ref p6, .ref p7]))
    have g89 := g8.trans g9
    have B6' := B6.same g89
    -- the pick
    have all : ∀ {v : V} {t : Tm}, TmR K (upd H4 p4 (.tup [.str "thing", .str nm3.str])) v t → TmR K _ v t := fun {v t} h => dp_same g89 (tm_keep (B5.same g6) m6 (dp_same g6 (tm_keep B4' m5 (dp_same g5 h))))
    have t4' := dp_same g89 (tm_keep (B5.same g6) m6 t4)
    have t5' := dp_same (same_new hp9 (.lst ([.ref p1, .ref p2, .ref p4] ++ [.ref p6, .ref p7]))) (dp_same (same_new hp8 (.lst [.ref p6, .ref p7])) t5)
    have u1 := all t1''
    have u2 := all t2'
    have u3 := all t3
    refine ⟨_, rfl, b, 5, n + 6, rfl, B6', by omega, by decide, by decide, fun r H7 m7 B7 r0 r1 => ?_⟩
    obtain ⟨k6, rfl⟩ := nat_of r0
    have hp9b : p9 ≠ b := fun z => by
      obtain ⟨ys, hb⟩ := (B6.same g8).lst
      rw [z, hb] at hp9
      cases hp9
    have h9 : H7 p9 = some (.lst ([.ref p1, .ref p2, .ref p4] ++ [.ref p6, .ref p7])) := m7 _ _ hp9b upd_same
    have mF : Mo b H H7 := mH.trans (m5.trans ((Mo.of g6).trans (m6.trans ((Mo.of g89).trans m7))))
    have BF := B7.mono (show n + 6 + 1 ≤ n + 10 by omega)
    have pick : ∃ (v : V) (l : Lf), atI (([.ref p1, .ref p2, .ref p4] : List V) ++ [.ref p6, .ref p7]) (k6 : Int) = some v ∧ TmR K H7 v (.lf l) := by
      match k6, r1 with
      | 0, _ => exact ⟨_, _, rfl, tm_keep B6' m7 u1⟩
      | 1, _ => exact ⟨_, _, rfl, tm_keep B6' m7 u2⟩
      | 2, _ => exact ⟨_, _, rfl, tm_keep B6' m7 u3⟩
      | 3, _ => exact ⟨_, _, rfl, tm_keep B6' m7 t4'⟩
      | 4, _ => exact ⟨_, _, rfl, tm_keep B6' m7 t5'⟩
    obtain ⟨v, l, e, hv⟩ := pick
    exact ⟨p9, _, _, v, rfl, rfl, SqL.of h9, e, q v H7 l mF BF hv⟩
end
end K89
namespace K89
open PySem PySem.Spec PyProof.Rows L2
open C8 (Cal pe_c)
/-- how often a box is asked for a term of fuel n -/
def cst : Nat → Nat
  | 0 => 0
  | n + 1 => 3 * cst n + 10
theorem cst_mono : ∀ {n m : Nat}, n ≤ m → cst n ≤ cst m
  | 0, _, _ => Nat.zero_le _
  | n + 1, 0, h => by omega
  | n + 1, m + 1, h => by
    have := cst_mono (n := n) (m := m) (by omega)
    show 3 * cst n + 10 ≤ 3 * cst m + 10
    omega
/-- a drawn word: how many parts it has -/
inductive Wd : Str → Nat → Prop where
  | two (w : B2) : Wd w.str 2
  | three (w : B3) : Wd w.str 3
theorem wd_make {w : Str} {m : Nat} (h : Wd w m) {us : List Tm} (hl : us.length = m) : ∃ t : Tm, t.data = .tuple (.str w :: us.map Tm.data) ∧ (∀ n, (∀ u ∈ us, u.ht ≤ n) → t.ht ≤ n + 1) := by
  cases h with
  | two w =>
    match us, hl with
    | [x, y], _ =>
      refine ⟨.n2 w x y, rfl, fun n h => ?_⟩
      have h1 := h x (by simp)
      have h2 := h y (by simp)
      show max x.ht y.ht + 1 ≤ n + 1
      omega
  | three w =>
    match us, hl with
    | [x, y, z], _ =>
      refine ⟨.n3 w x y z, rfl, fun n h => ?_⟩
      have h1 := h x (by simp)
      have h2 := h y (by simp)
      have h3 := h z (by simp)
      show max x.ht (max y.ht z.ht) + 1 ≤ n + 1
      omega
theorem wd_in {w : Str} {m : Nat} (h : Wd w m) : inV (.str w) [.str "same", .str "put"] = decide (m = 3) := by
  cases h with
  | two w => cases w <;> decide +kernel
  | three w => cases w <;> decide +kernel
section
variable {K : PySem.W.Frag} {H H' : Hp} {b l : Addr} {n : Nat}
theorem new_ne {xs : List V} {o : HO} (h : Bx H b n) (hl : H l = none) : l ≠ b := fun z => by
  obtain ⟨ys, hb⟩ := h.lst
  rw [z, hb] at hl
  cases hl
theorem flat_tms : ∀ l : List Tm, flatTs (l.map Tm.data) = true
  | [] => rfl
  | t :: r => by simp [flatTs, flat_tm, flat_tms r]
theorem tms_tk {xs : List V} {us : List Tm} (e : TK K H H') (h : DpAll K H xs (us.map Tm.data)) : DpAll K H' xs (us.map Tm.data) := dps_tk e (flat_tms us) h
end
section
variable {P : Program} {w : World} {K : PySem.W.Frag} {mg : Str → Option Value} {base : Heap}
def tMany : TE := fun σ H Q => ∃ wd many, σ[4]? = some (some (.str wd)) ∧ Wd wd many ∧ ∀ H', Same H H' → Q (.int (many : Nat)) H'
def tDeep : TE := fun σ H Q => ∃ (wd : Str) (d k : Int), σ[4]? = some (some (.str wd)) ∧ σ[2]? = some (some (.int d)) ∧ σ[7]? = some (some (.int k)) ∧ ∀ (r : Int) H', Same H H' → (r = d ∨ r = d + 1) → Q (.int r) H'
def spDrawn (K : PySem.W.Frag) (n : Nat) : Sp := fun vs H Q _ => ∃ (b : Addr) (size deep : Int) (m : Nat), vs = [.ref b, .int size, .int deep, .int 0] ∧ 1 ≤ n ∧ 2 * size ≤ 2 ^ n ∧ 0 ≤ size ∧ 0 ≤ deep ∧ deep + n ≤ 1000 ∧ Bx H b m ∧ m + cst n ≤ 1000000 ∧ ∀ r H' t, Mo b H H' → Bx H' b (m + cst n) → TmR K H' r t → t.ht ≤ n → Q r H'
abbrev N_law_drawn : List Str := ["box", "size", "deep", "holes", "word", "many", "parts", "k", "inner_v"]
abbrev P_law_drawn : List Str := ["box", "size", "deep", "holes"]
theorem sc_law_drawn : FnScope N_law_drawn P_law_drawn (defScope s_law_drawn) := ⟨rfl, rfl, rfl, by decide +kernel, rfl, by decide +kernel, by decide +kernel⟩
theorem c_law_drawn_step (T : Tx w K mg) {n k : Nat} (hk : 2 ≤ k) (c_law_drawn : Cal P w K mg base k "_law_drawn" (spDrawn K n) []) : Cal P w K mg base (k + 1) "_law_drawn" (spDrawn K (n + 1)) [] := by
  obtain ⟨fd, F⟩ := T.d_law_drawn
  have c_law_take := c_law_take (P := P) (base := base) T
  refine cal_of F (F.ok sc_law_drawn (fun vs H Q E h => ?_) (fun cdv A outer s H vs Q E hr h => ⟨_, PSs.nox (pss_cons (ps_if (pt_cmpR op_lt (pv 1) pe_int (nomark _)) (pss_one (ps_ret (pe_c (c_law_leaf T) hr hk rfl (pa_cons (pv 0) (pa_cons (pv 2) (pa_cons (pv 3) pa_nil)))))) pss_nil)
    (pss_cons (ps_set (i := 4) sc_law_drawn.nd rfl (Or.inl rfl) (pe_ix ix_list (pe_lst (pa_cons pe_str (pa_cons pe_str (pa_cons pe_str (pa_cons pe_str (pa_cons pe_str (pa_cons pe_str (pa_cons pe_str pa_nil)))))))) (pe_c c_law_take hr (by omega) rfl (pa_cons (pv 0) (pa_cons pe_int pa_nil))) (fun _ _ => rfl)))
    (pss_cons (ps_set (i := 5) sc_law_drawn.nd rfl (Or.inl rfl) (PE.mono (t' := tMany) (pe_ifExp (pt_cmpR op_in_seq (pv 4) (pe_tup (pa_cons pe_str (pa_cons pe_str pa_nil))) (by rfl)) pe_int pe_int) (fun σ H1 Q1 h1 => ?_)))
    (pss_cons (ps_set (i := 6) sc_law_drawn.nd rfl (Or.inl rfl) (pe_lst pa_nil))
    (pss_cons (ps_for PassesOwn.never rfl (pi_range1 (by rfl) T.n_range (pa_cons (pv 5) pa_nil)) (pg_name (i := 7) sc_law_drawn.nd rfl (Or.inl rfl))
      (pss_cons (ps_set (i := 8) sc_law_drawn.nd rfl (Or.inl rfl) (PE.mono (t' := tDeep) (pe_op op_add (pv 2) (pe_callTy call_int1 rfl T.n_int b_int (pa_cons (pe_and (pe_cmpR op_in_seq (pv 4) (pe_tup (pa_cons pe_str (pa_cons pe_str pa_nil))) (by rfl)) (pe_one (pe_cmpR op_eq (pv 7) pe_int (nomark _)))) pa_nil))) (fun σ H1 Q1 h1 => ?_)))
    (pss_one (ps_expr (pe_bm PySem.F.plainAttrs_list PySem.F.slot_list_append PySem.F.type_list_append mt_append (pv 6) (pa_cons (pe_c c_law_drawn hr (Nat.le_refl _) rfl (pa_cons (pv 0) (pa_cons (pe_op op_add (pe_op op_fdivW (pe_op op_sub (pv 1) pe_int) (pv 5)) (pe_c c_law_take hr (by omega) rfl (pa_cons (pv 0) (pa_cons pe_int pa_nil)))) (pa_cons (pv 8) (pa_cons (pv 3) pa_nil))))) pa_nil))))))
    (pss_one (ps_ret (pe_op op_catA (pe_tup (pa_cons (pv 4) pa_nil)) (pe_callTy call_tuple_of rfl T.n_tuple b_tuple (pa_cons (pv 6) pa_nil)))))))))), ?_⟩)) T.g_law_drawn
    fun _ _ _ _ _ _ us hl => match us, hl with | [_, _, _, _], _ => rfl
  · obtain ⟨b, size, deep, m, rfl, _⟩ := h
    rfl
  · obtain ⟨wd, many, e4, hwd, q⟩ := h1
    refine ⟨_, e4, (by show 2 ≤ sizeLine; decide), fun p1 hp1 => ?_⟩
    have g1 := same_new hp1 (.tup [.str "same", .str "put"])
    refine ⟨p1, _, rfl, .inr (SqT.of upd_same), rfl, rfl, _, rfl, ?_⟩
    rw [if_neg (by decide : ¬ (false = true)), wd_in hwd]
    cases hwd with
    | two w => exact iF (by decide) (q _ g1)
    | three w => exact iT rfl (q _ g1)
  · obtain ⟨wd, d, k, e4, e2, e7, q⟩ := h1
    refine ⟨_, e2, _, e4, (by show 2 ≤ sizeLine; decide), fun p1 hp1 => ?_⟩
    have g1 := same_new hp1 (.tup [.str "all", .str "fun"])
    refine ⟨p1, _, rfl, .inr (SqT.of upd_same), rfl, rfl, _, rfl, ?_⟩
    refine ite2 (fun _ => ⟨_, e7, rfl, .inr ⟨_, rfl, _, _, rfl, rfl, q _ _ g1 ?_⟩⟩) (fun _ => .inr ⟨_, rfl, _, _, rfl, rfl, q _ _ g1 ?_⟩)
    · split
      · exact .inr rfl
      · exact .inl (by omega)
    · exact .inl (by show d + 0 = d; omega)
  obtain ⟨b, size, deep, m, rfl, _, hs, hs0, hd0, hd1, hB, hm, q⟩ := h
  have hc1 : cst (n + 1) = 3 * cst n + 10 := rfl
  refine ⟨_, rfl, _, _, rfl, rfl, _, rfl, ?_⟩
  by_cases c : size < 2
  · refine iT c ⟨_, rfl, _, rfl, _, rfl, b, deep, m, rfl, hB, by omega, hd0, by omega, fun r H' l m1 B1 h1 => ?_⟩
    exact q r H' (.lf l) m1 (B1.mono (by omega)) h1 (by show 1 ≤ n + 1; omega)
  · refine iF c ?_
    have hn1 : 1 ≤ n := by
      match n, hs with
      | 0, hs => omega
      | n + 1, _ => omega
    obtain ⟨e, he⟩ : ∃ e : Int, (2 : Int) ^ n = 2 * e := ⟨2 ^ (n - 1), by
      obtain ⟨j, rfl⟩ : ∃ j, n = j + 1 := ⟨n - 1, by omega⟩
      rw [Nat.add_sub_cancel, Int.pow_succ, Int.mul_comm]⟩
    have hpw : (2 : Int) ^ (n + 1) = 2 * 2 ^ n := by rw [Int.pow_succ, Int.mul_comm]
    rw [hpw, he] at hs
    -- the word
    refine ⟨(by show 7 ≤ sizeLine; decide), fun p0 hp0 => ?_⟩
    have g0 := same_new hp0 (.lst [.str "app", .str "app", .str "all", .str "fun", .str "same", .str "self", .str "put"])
    refine ⟨_, rfl, b, 7, m, rfl, hB.same g0, by omega, by decide, by decide, fun r H1 m1 B1 r0 r1 => ?_⟩
    obtain ⟨kw, rfl⟩ := nat_of r0
    have hp0b : p0 ≠ b := new_ne (xs := []) (o := .tup []) hB hp0
    have h0 := m1 _ _ hp0b (upd_same (H := H) (a := p0))
    obtain ⟨wd, many, hat, hwd, hmany⟩ : ∃ (wd : Str) (many : Nat), atI [V.str "app", V.str "app", V.str "all", V.str "fun", V.str "same", V.str "self", V.str "put"] (kw : Int) = some (.str wd) ∧ Wd wd many ∧ (many = 2 ∨ many = 3) := by
      match kw, r1 with
      | 0, _ => exact ⟨_, _, rfl, .two .app, .inl rfl⟩
      | 1, _ => exact ⟨_, _, rfl, .two .app, .inl rfl⟩
      | 2, _ => exact ⟨_, _, rfl, .two .all, .inl rfl⟩
      | 3, _ => exact ⟨_, _, rfl, .two .fn, .inl rfl⟩
      | 4, _ => exact ⟨_, _, rfl, .three .same, .inr rfl⟩
      | 5, _ => exact ⟨_, _, rfl, .two .slf, .inl rfl⟩
      | 6, _ => exact ⟨_, _, rfl, .three .put, .inr rfl⟩
    refine ⟨p0, _, _, _, rfl, rfl, SqL.of h0, hat, ?_⟩
    refine ⟨wd, many, rfl, hwd, fun H2 g2 => ?_⟩
    refine ⟨(by show 0 ≤ sizeLine; decide), fun l hl => ?_⟩
    have g3 := g2.trans (same_new hl (.lst []))
    have B3 := B1.same g3
    have mH : Mo b H (upd H2 l (.lst [])) := (Mo.of g0).trans (m1.trans (Mo.of g3))
    have hlb : l ≠ b := new_ne (xs := []) (o := .tup []) (B1.same g2) hl
    have hlH : H l = none := by
      cases e : H l with
      | none => rfl
      | some o =>
        have := ((Mo.of g0).trans (m1.trans (Mo.of g2))) l o hlb e
        rw [hl] at this
        cases this
    refine ⟨_, rfl, (many : Int), rfl, by omega, by omega, for_it (walk_range (lo := 0) (n := many)) (fun i σ H' => ∃ (ps : List V) (us : List Tm) (x7 x8 : Option V), σ = [some (.ref b), some (.int size), some (.int deep), some (.int 0), some (.str wd), some (.int (many : Nat)), some (.ref l), x7, x8] ∧ Mo b H H' ∧ Bx H' b (m + 1 + i * (cst n + 1)) ∧ H' l = some (.lst ps) ∧ DpAll K H' ps (us.map Tm.data) ∧ us.length = i ∧ ∀ u ∈ us, u.ht ≤ n) ?_ (fun i σ H' _ p => trivial) (fun i x σ H3 H4 hi p y => ?_) (fun σ H' p => ?_)⟩
    · exact ⟨[], [], _, _, rfl, mH, by simpa using B3, upd_same, .nil, rfl, fun u hu => by cases hu⟩
    · obtain ⟨ps, us, x7, x8, rfl, mo, B, hps, hD, hul, hht⟩ := p
      obtain ⟨rfl, rfl⟩ := y
      have hbd : m + 1 + i * (cst n + 1) + cst n + 1 ≤ 1000000 := by
        have h2 : i ≤ 2 := by omega
        have h3 : i * (cst n + 1) ≤ 2 * (cst n + 1) := Nat.mul_le_mul_right _ h2
        omega
      refine ⟨wd, deep, (0 : Int) + (i : Nat), rfl, rfl, rfl, fun r H5 g5 hr5 => ?_⟩
      have hB5 := B.same g5
      refine ⟨_, rfl, .inl ⟨rfl, _, SqL.of (g5 _ _ hps)⟩, ?_⟩
      refine ⟨_, rfl, _, rfl, _, _, rfl, rfl, _, rfl, _, _, rfl, rfl, ⟨by omega, (wide_div (i := 0) (b := 10) (by omega) (by omega) (by decide) (by decide)).2⟩, ?_⟩
      refine ⟨_, rfl, b, 2, _, rfl, hB5, by omega, by decide, by decide, fun s1 H6 m6 B6 s0 s2 => ⟨_, _, rfl, rfl, ?_⟩⟩
      have hq : 0 ≤ (size - 1) / (many : Int) := Int.ediv_nonneg (by omega) (by omega)
      have hq2 : (size - 1) / (many : Int) ≤ e - 1 := by
        rcases hmany with rfl | rfl
        · omega
        · omega
      refine ⟨_, rfl, _, rfl, b, (size - 1) / (many : Int) + s1, r, _, rfl, hn1, by rw [he]; omega, by omega, by omega, by omega, B6, by omega, fun v H7 t m7 B7 hv hth => ?_⟩
      have m57 : Mo b H4 H7 := (Mo.of g5).trans (m6.trans m7)
      have hps7 := m57 _ _ hlb hps
      have tk7 : TK K H4 H7 := B.tk m57
      refine ⟨l, ps, v, rfl, rfl, hps7, small1000 (by rw [dpA_len hD, List.length_map, hul]; omega), ⟨ps ++ [v], us ++ [t], _, _, rfl, ?_, ?_, upd_same, ?_, by rw [List.length_append, hul]; rfl, fun u hu => ?_⟩⟩
      · exact (mo.trans m57).own hlH _
      · obtain ⟨x, c, y, z, h1, h2, h3, h4, h5⟩ := B7
        have e1 : m + 1 + i * (cst n + 1) + 1 + cst n = m + 1 + (i + 1) * (cst n + 1) := by rw [Nat.add_mul]; omega
        rw [e1] at h5
        exact ⟨x, c, y, z, by rw [upd_ne hlb.symm]; exact h1, h2, h3, h4, h5⟩
      · have tk8 : TK K H7 (upd H7 l (.lst (ps ++ [v]))) := (Mo.upd (b := l)).tk hps7
        rw [List.map_append]
        exact dpA_app (tms_tk tk8 (tms_tk tk7 hD)) (.cons (dp_tk tk8 (flat_tm t) hv) .nil)
      · rcases List.mem_append.mp hu with h | h
        · exact hht u h
        · cases List.mem_singleton.mp h
          exact hth
    · obtain ⟨ps, us, x7, x8, rfl, mo, B, hps, hD, hul, hht⟩ := p
      obtain ⟨t, ht1, ht2⟩ := wd_make hwd hul
      have hpl : ps.length = many := by rw [dpA_len hD, List.length_map, hul]
      have hne : ps ≠ [] := fun z => by
        rw [z] at hpl
        have : many = 0 := hpl.symm
        omega
      refine ⟨_, rfl, (by show 1 ≤ sizeLine; decide), fun p1 hp1 => ?_⟩
      have g4 := same_new hp1 (.tup [.str wd])
      refine ⟨_, rfl, l, ps, rfl, .inl ⟨SqL.of (g4 _ _ hps), fun p2 hp2 => ?_⟩⟩
      have g5 := g4.trans (same_new hp2 (.tup ps))
      refine ⟨p1, p2, _, ps, rfl, rfl, SqT.of (same_new hp2 _ _ _ upd_same), SqT.of upd_same, len_small (by show 1 + ps.length ≤ 1000; omega), fun z => absurd z (List.cons_ne_nil _ _), fun _ z => absurd z hne, fun _ _ p3 hp3 => ?_⟩
      have g6 := g5.trans (same_new hp3 (.tup ([V.str wd] ++ ps)))
      refine q _ _ t (mo.trans (Mo.of g6)) ((B.same g6).mono ?_) ?_ (ht2 n hht)
      · have h3 : many * (cst n + 1) ≤ 3 * (cst n + 1) := Nat.mul_le_mul_right _ (by omega)
        omega
      · unfold TmR
        rw [ht1]
        exact .tup (SqT.of upd_same) (.cons (.str _) (dps_same g6 hD))
theorem c_law_drawn (T : Tx w K mg) : ∀ n : Nat, Cal P w K mg base (n + 2) "_law_drawn" (spDrawn K n) []
  | 0 => by
    obtain ⟨fd, F⟩ := T.d_law_drawn
    have no : ∀ vs H Q E, ¬ spDrawn K 0 vs H Q E := fun vs H Q E h => by
      obtain ⟨b, size, deep, m, _, hn, _⟩ := h
      omega
    refine cal_of F (ps := P_law_drawn) ⟨fun vs H Q E h => absurd h (no vs H Q E), fun A outer s H args us vs Q E _ _ _ _ h => absurd h (no vs H Q E)⟩ T.g_law_drawn
      fun _ _ _ _ _ _ us hl => match us, hl with | [_, _, _, _], _ => rfl
  | n + 1 => c_law_drawn_step T (by omega) (c_law_drawn T n)
end
end K89
namespace K89
open PySem PySem.Spec PyProof.Rows L2
open C8 (Cal pe_c)
theorem mo_new {H H' : Hp} {b l : Addr} (e : Mo b H H') (h : H' l = none) (hb : l ≠ b) : H l = none := by
  cases q : H l with
  | none => rfl
  | some o => rw [e l o hb q] at h; cases h
/-- another list is written: the box stays -/
theorem Bx.upd {H : Hp} {b l : Addr} {n : Nat} {o : HO} (h : Bx H b n) (hl : l ≠ b) : Bx (L2.upd H l o) b n := by
  obtain ⟨x, c, y, z, h1, h2⟩ := h
  exact ⟨x, c, y, z, by rw [upd_ne hl.symm]; exact h1, h2⟩
theorem sps_perm {K : PySem.W.Frag} {H : Hp} {xs ys : List V} (p : ys.Perm xs) : ∀ {l : List Spot}, SpsR K H xs l → ∃ m, SpsR K H ys m ∧ m.Perm l := by
  induction p.symm with
  | nil => intro l h; exact ⟨l, h, .refl _⟩
  | cons x q ih =>
    intro l h
    cases l with
    | nil => cases h
    | cons s r =>
      cases h with
      | cons h1 h2 =>
        obtain ⟨m, h3, h4⟩ := ih q.symm h2
        exact ⟨s :: m, .cons h1 h3, h4.cons s⟩
  | swap x y r =>
    intro l h
    match l, h with
    | s :: s' :: r', .cons h1 (.cons h2 h3) => exact ⟨s' :: s :: r', .cons h2 (.cons h1 h3), .swap ..⟩
  | trans p1 p2 ih1 ih2 =>
    intro l h
    obtain ⟨m, h1, h2⟩ := ih1 p1.symm h
    obtain ⟨m', h3, h4⟩ := ih2 p2.symm h1
    exact ⟨m', h3, h4.trans h2⟩
section
variable {P : Program} {w : World} {K : PySem.W.Frag} {mg : Str → Option Value} {base : Heap}
/-! ### _law_shuffled -/
def spShuffled (K : PySem.W.Frag) : Sp := fun vs H Q _ => ∃ (b a : Addr) (n : Nat) (xs : List V), vs = [.ref b, .ref a] ∧ Bx H b n ∧ SqL K H a xs ∧ xs.length ≤ 30000 ∧ n + xs.length ≤ 1000000 ∧
  ∀ r H' ys, Mo b H H' → H r = none → H' r = some (.lst ys) → ys.Perm xs → Bx H' b (n + xs.length) → Q (.ref r) H'
abbrev N_law_shuffled : List Str := ["box", "items", "k", "left", "found"]
abbrev P_law_shuffled : List Str := ["box", "items"]
theorem sc_law_shuffled : FnScope N_law_shuffled P_law_shuffled (defScope s_law_shuffled) := ⟨rfl, rfl, rfl, by decide +kernel, rfl, by decide +kernel, by decide +kernel⟩
theorem pick_perm {α : Type} : ∀ {l : List α} {k : Nat} (h : k < l.length), (l[k] :: l.eraseIdx k).Perm l
  | [], _, h => absurd h (Nat.not_lt_zero _)
  | x :: r, 0, _ => .refl _
  | x :: r, k + 1, h => by
    have hk : k < r.length := Nat.lt_of_succ_lt_succ h
    have e := pick_perm hk
    show (r[k] :: x :: r.eraseIdx k).Perm (x :: r)
    exact (List.Perm.swap ..).trans (e.cons x)
theorem c_law_shuffled (T : Tx w K mg) : Cal P w K mg base 2 "_law_shuffled" (spShuffled K) [] := by
  obtain ⟨fd, F⟩ := T.d_law_shuffled
  have c_law_take := c_law_take (P := P) (base := base) T
  refine cal_of F (F.ok sc_law_shuffled (fun vs H Q E h => ?_) (fun cdv A outer s H vs Q E hr h => ⟨_, PSs.nox (pss_cons (ps_par (i := 3) (j := 4) (by rfl) sc_law_shuffled.nd rfl rfl (by decide) rfl rfl (pa_cons (pe_callTy call_list_of rfl T.n_list b_list (pa_cons (pv 1) pa_nil)) (pa_cons (pe_lst pa_nil) pa_nil)) (by rfl))
    (pss_cons (ps_for PassesOwn.never rfl (pi_range1 (by rfl) T.n_range (pa_cons (pe_callB call_len rfl T.n_len PySem.boot_len (pa_cons (pv 1) pa_nil)) pa_nil)) (pg_name (i := 2) sc_law_shuffled.nd rfl (Or.inl rfl))
      (pss_one (ps_expr (pe_bm PySem.F.plainAttrs_list PySem.F.slot_list_append PySem.F.type_list_append mt_append (pv 4) (pa_cons (pe_bm PySem.F.plainAttrs_list PySem.F.slot_list_pop PySem.F.type_list_pop mt_popAt (pv 3) (pa_cons (pe_c c_law_take hr (by decide) rfl (pa_cons (pv 0) (pa_cons (pe_callB call_len rfl T.n_len PySem.boot_len (pa_cons (pv 3) pa_nil)) pa_nil))) pa_nil)) pa_nil)))))
    (pss_one (ps_ret (pv 4))))), ?_⟩)) T.g_law_shuffled
    fun _ _ _ _ _ _ us hl => match us, hl with | [_, _], _ => rfl
  · obtain ⟨b, a, n, xs, rfl, _⟩ := h
    rfl
  obtain ⟨b, a, n, xs, rfl, hB, hL, h30, hn, q⟩ := h
  refine ⟨_, rfl, a, xs, rfl, .inl hL, fun l hl => ⟨(by show 0 ≤ sizeLine; decide), fun f hf => ⟨_, _, rfl, ?_⟩⟩⟩
  have g1 := same_new hl (.lst xs)
  have g2 := g1.trans (same_new hf (.lst []))
  have hlb : l ≠ b := new_ne (xs := []) (o := .tup []) hB hl
  have hfb : f ≠ b := new_ne (xs := []) (o := .tup []) (hB.same g1) hf
  have hfl : l ≠ f := ne_of_none upd_same hf
  have hfH : H f = none := g1.free hf
  refine ⟨_, rfl, _, _, rfl, .inl ⟨_, g2.seq hL, rfl⟩, (xs.length : Int), rfl, by omega, by omega, for_it (walk_range (lo := 0) (n := xs.length)) (fun i σ H' => ∃ (ls fs : List V) (x2 : Option V), σ = [some (.ref b), some (.ref a), x2, some (.ref l), some (.ref f)] ∧ Mo b H H' ∧ Bx H' b (n + i) ∧ H' l = some (.lst ls) ∧ H' f = some (.lst fs) ∧ (fs ++ ls).Perm xs ∧ ls.length + i = xs.length) ?_ (fun i σ H' _ p => trivial) (fun i x σ H3 H4 hi p y => ?_) (fun σ H' p => ?_)⟩
  · exact ⟨xs, [], _, rfl, Mo.of g2, hB.same g2, (same_new hf _) _ _ upd_same, upd_same, .refl _, rfl⟩
  · obtain ⟨ls, fs, x2, rfl, mo, B, hls, hfs, hp, hlen⟩ := p
    obtain ⟨rfl, rfl⟩ := y
    refine ⟨_, rfl, .inl ⟨rfl, _, SqL.of hfs⟩, _, rfl, .inl ⟨rfl, _, SqL.of hls⟩, ?_⟩
    refine ⟨_, rfl, _, rfl, _, _, rfl, .inl ⟨_, SqL.of hls, rfl⟩, b, (ls.length : Int), n + i, rfl, B, by omega, by omega, by omega, fun r H5 m5 B5 r0 r1 => ?_⟩
    have hls5 := m5 _ _ hlb hls
    have hfs5 := m5 _ _ hfb hfs
    have hk : r.toNat < ls.length := by omega
    refine ⟨l, ls, r, r.toNat, ls[r.toNat], rfl, rfl, hls5, by omega, by omega, seqIndex_of r0 r1, List.getElem?_eq_getElem hk, ?_⟩
    have hfs6 : (upd H5 l (.lst (ls.eraseIdx r.toNat))) f = some (.lst fs) := by rw [upd_ne hfl.symm]; exact hfs5
    have hfsl : fs.length = i := by
      have := hp.length_eq
      rw [List.length_append] at this
      omega
    refine ⟨f, fs, _, rfl, rfl, hfs6, line30' (by omega), ⟨ls.eraseIdx r.toNat, fs ++ [ls[r.toNat]], _, rfl, ?_, ?_, ?_, upd_same, ?_, ?_⟩⟩
    · exact ((mo.trans m5).own hl _).own hfH _
    · have := (B5.upd (o := .lst (ls.eraseIdx r.toNat)) hlb).upd (o := .lst (fs ++ [ls[r.toNat]])) hfb
      exact this
    · rw [upd_ne hfl, upd_same]
    · rw [List.append_assoc]
      refine (List.Perm.append_left fs ?_).trans hp
      exact pick_perm hk
    · rw [List.length_eraseIdx_of_lt hk]
      omega
  · obtain ⟨ls, fs, x2, rfl, mo, B, hls, hfs, hp, hlen⟩ := p
    have : ls = [] := List.eq_nil_of_length_eq_zero (by omega)
    subst this
    rw [List.append_nil] at hp
    exact ⟨_, rfl, q f H' fs mo hfH hfs hp B⟩
end
end K89
namespace K89
open PySem PySem.Spec PyProof.Rows L2
open C8 (Cal pe_c)
instance (s r : Spot) : Decidable (s <+: r) := decidable_of_iff (s.isPrefixOf r = true) List.isPrefixOf_iff_prefix
instance (s r : Spot) : Decidable (Apart s r) := inferInstanceAs (Decidable (_ ∧ _))
section
variable {P : Program} {w : World} {K : PySem.W.Frag} {mg : Str → Option Value} {base : Heap}
/-! ### _law_apart -/
def spLawApart (K : PySem.W.Frag) : Sp := fun vs H Q _ => ∃ (b : Addr) (v : V) (many : Int) (n : Nat) (t : Tm), vs = [.ref b, v, .int many] ∧ Bx H b n ∧ n + 121 ≤ 1000000 ∧ TmR K H v t ∧ t.ht ≤ 5 ∧
  ∀ r H' ys l, Mo b H H' → H r = none → H' r = some (.lst ys) → SpsR K H' ys l → l.Pairwise Apart → (∀ s ∈ l, s ∈ t.spots) → ((l.length : Nat) : Int) ≤ max many 0 → Bx H' b (n + 121) → Q (.ref r) H'
/-- other[:len(spot)] == spot or spot[:len(other)] == other -/
def tLead (K : PySem.W.Frag) : TT := fun σ H Q => ∃ ov sv o s, σ[5]? = some (some ov) ∧ σ[4]? = some (some sv) ∧ SpR K H ov o ∧ SpR K H sv s ∧ ∀ H', Same H H' → Q (decide (s <+: o) || decide (o <+: s)) H'
/-- [other for other in found if ..] == [] and len(found) < many -/
def tFree (K : PySem.W.Frag) : TT := fun σ H Q => ∃ x0 x1 many f sv x5 fs l s, σ = [x0, x1, some (.int many), some (.ref f), some sv, x5] ∧ H f = some (.lst fs) ∧ SpsR K H fs l ∧ l.length ≤ 1000 ∧ SpR K H sv s ∧
  ∀ H', Same H H' → Q (decide (∀ o ∈ l, Apart o s) && decide (((l.length : Nat) : Int) < many)) H'
abbrev N_law_apart : List Str := ["box", "term", "many", "found", "spot", "other"]
abbrev P_law_apart : List Str := ["box", "term", "many"]
theorem sc_law_apart : FnScope N_law_apart P_law_apart (defScope s_law_apart) := ⟨rfl, rfl, rfl, by decide +kernel, rfl, by decide +kernel, by decide +kernel⟩
theorem filt_nil {l : List Spot} {p : Spot → Bool} : l.filter p = [] ↔ ∀ o ∈ l, p o = false := by simp [List.filter_eq_nil_iff]
theorem sps_nil {l : List Spot} : l.map spD = [] ↔ l = [] := by cases l <;> simp
theorem c_law_apart (T : Tx w K mg) : Cal P w K mg base 13 "_law_apart" (spLawApart K) [] := by
  obtain ⟨fd, F⟩ := T.d_law_apart
  refine cal_of F (F.ok sc_law_apart (fun vs H Q E h => ?_) (fun cdv A outer s H vs Q E hr h => ⟨_, PSs.nox (pss_cons (ps_set (i := 3) sc_law_apart.nd rfl (Or.inl rfl) (pe_lst pa_nil))
    (pss_cons (ps_for PassesOwn.never rfl (pi_list (pe_c (c_law_shuffled T) hr (by decide) rfl (pa_cons (pv 0) (pa_cons (pe_c (c_law_spots T 10) hr (by decide) rfl (pa_cons (pv 1) (pa_cons (pe_tup pa_nil) pa_nil))) pa_nil)))) (pg_name (i := 4) sc_law_apart.nd rfl (Or.inr rfl))
      (pss_one (ps_if (PT.mono (t' := tFree K) (PW.pt (pw_and (pt_cmpR (op_eqD hr.units) (pe_lc (own := [("other", 5)]) (g := (gName 5)) (tt := tLead K) (by rfl) sc_law_apart.nd (pi_list (pv 3)) (blkOk_by (N := N_law_apart) (sc := defScope s_law_apart) (by decide +kernel)) (fun _ _ _ _ _ => (pg_name (i := 5) sc_law_apart.nd rfl (Or.inl rfl))) (fun _ _ _ _ _ => (pts_one (PT.mono (PW.pt (pw_or (pt_cmpR (op_eqDK (K := K) hr.units) (pe_slice (sl_tupK (K := K)) (pv 5) po_none (po_some (pe_callB (call_lenK (K := K)) rfl T.n_len PySem.boot_len (pa_cons (pv 4) pa_nil)))) (pv 4) (nomark _)) (pw_or1 (pt_cmpR (op_eqDK (K := K) hr.units) (pe_slice (sl_tupK (K := K)) (pv 4) po_none (po_some (pe_callB (call_lenK (K := K)) rfl T.n_len PySem.boot_len (pa_cons (pv 5) pa_nil)))) (pv 5) (nomark _))))) (fun σ H1 Q1 h1 => by
        obtain ⟨ov, sv, o, s, e5, e4, ho, hs, q⟩ := h1
        have ho0 := ho
        have hs0 := hs
        obtain ⟨ao, rfl, hO⟩ := sp_tup ho
        obtain ⟨as, rfl, hS⟩ := sp_tup hs
        refine ⟨_, e5, _, e4, as, _, rfl, .inr hS, _, rfl, ?_⟩
        rw [List.length_map]
        refine sl_sp ho0 fun z H2 g2 hz => ?_
        refine ⟨_, e4, _, _, hz, dp_same g2 hs0, shaped_sp _, shaped_sp _, _, rfl, ?_⟩
        rw [eqv_sp]
        by_cases c : o.take s.length = s
        · refine iT c ?_
          have := q H2 g2
          rw [decide_eq_true (pre_take.mp c)] at this
          exact this
        · refine iF c ?_
          refine ⟨_, e4, _, e5, ao, _, rfl, .inr (same_tup g2 hO), _, rfl, ?_⟩
          rw [List.length_map]
          refine sl_sp (dp_same g2 hs0) fun z3 H3 g3 hz3 => ?_
          refine ⟨_, e5, _, _, hz3, dp_same (g2.trans g3) ho0, shaped_sp _, shaped_sp _, _, rfl, ?_⟩
          rw [eqv_sp]
          have := q H3 (g2.trans g3)
          rw [decide_eq_false (fun z => c (pre_take.mpr z)), Bool.false_or] at this
          have e : decide (s.take o.length = o) = decide (o <+: s) := by
            by_cases d : o <+: s
            · rw [decide_eq_true d, decide_eq_true (pre_take.mpr d)]
            · rw [decide_eq_false d, decide_eq_false (fun z => d (pre_take.mp z))]
          rw [e]
          exact this)))) (fun _ _ _ _ _ => (pv 5))) (pe_lst pa_nil) (nomark _)) (pw_and1 (pt_cmpR op_lt (pe_callB call_len rfl T.n_len PySem.boot_len (pa_cons (pv 3) pa_nil)) (pv 2) (nomark _))))) (fun σ H1 Q1 h1 => ?_)) (pss_one (ps_expr (pe_bm PySem.F.plainAttrs_list PySem.F.slot_list_append PySem.F.type_list_append mt_append (pv 3) (pa_cons (pv 4) pa_nil)))) pss_nil)))
    (pss_one (ps_ret (pv 3))))), ?_⟩)) T.g_law_apart
    fun _ _ _ _ _ _ us hl => match us, hl with | [_, _, _], _ => rfl
  · obtain ⟨b, v, many, n, t, rfl, _⟩ := h
    rfl
  · obtain ⟨x0, x1, many, f, sv, x5, fs, l, s, rfl, hF, hL, hl, hs, q⟩ := h1
    have hfl := sps_len hL
    refine ⟨_, rfl, f, rfl, ⟨_, SqL.of hF⟩, fun D hD => lc_it (walk_list (xs := fs)) (Lc D fun i acc H' => Same H1 H' ∧ SpsR K H' acc ((l.take i).filter fun o => decide (s <+: o) || decide (o <+: s))) (lc_start ⟨same_new hD _, .nil⟩) (fun i H' _ p => ?_) (fun i x H2 H3 hi p y => ?_) (fun H' p => ?_)⟩
    · obtain ⟨acc, e, _, g, _⟩ := p
      exact SqL.of (g _ _ hF)
    · obtain ⟨acc, e, hl', g, hA⟩ := p
      obtain ⟨rfl, hy⟩ := y
      obtain ⟨d, hd1, hd2⟩ := dpA_get hL hy
      obtain ⟨o, ho⟩ : ∃ o, l[i]? = some o := ⟨_, List.getElem?_eq_getElem (by omega)⟩
      rw [List.getElem?_map, ho] at hd1
      cases hd1
      refine ⟨rfl, x, sv, o, s, rfl, rfl, dp_same g hd2, dp_same g hs, fun H4 g4 => ?_⟩
      have e4 := g4 _ _ e
      have hA4 := sps_same g4 hA
      by_cases c : (decide (s <+: o) || decide (o <+: s)) = true
      · rw [c]
        refine iteT ⟨_, rfl, lc_put e4 hl' (line30' (by omega)) ⟨same_own (g.trans g4) hD _, ?_⟩⟩
        have tk : TK K H4 (upd H4 D (.lst (acc ++ [x]))) := (Mo.upd (b := D)).tk e4
        rw [List.take_succ, ho, List.filter_append]
        have ef : (some o).toList.filter (fun o => decide (s <+: o) || decide (o <+: s)) = [o] := by
          show [o].filter _ = [o]
          rw [List.filter_cons, if_pos c]
          rfl
        rw [ef]
        exact sps_tk tk (sps_app hA4 (.cons (dp_same (g.trans g4) hd2) .nil))
      · have c' : (decide (s <+: o) || decide (o <+: s)) = false := by simpa using c
        rw [c']
        refine iteF ⟨acc, e4, Nat.le_succ_of_le hl', g.trans g4, ?_⟩
        rw [List.take_succ, ho, List.filter_append]
        have ef : (some o).toList.filter (fun o => decide (s <+: o) || decide (o <+: s)) = [] := by
          show [o].filter _ = []
          rw [List.filter_cons, if_neg c]
          rfl
        rw [ef, List.append_nil]
        exact hA4
    · obtain ⟨acc, e, hl', g, hA⟩ := p
      rw [hfl, List.take_length] at hA
      refine ⟨(by show 0 ≤ sizeLine; decide), fun z hz => ?_⟩
      have gz : Same H' (upd H' z (.lst [])) := same_new hz _
      refine ⟨.list _, .list [], .lst (SqL.of (gz _ _ e)) (dps_same gz hA), .lst (SqL.of upd_same) .nil, shaped_sps _, shaped_nil, _, rfl, ?_⟩
      rw [eqv_list_nil]
      have key : (((l.filter fun o => decide (s <+: o) || decide (o <+: s)).map spD) = []) ↔ ∀ o ∈ l, Apart o s := by
        rw [sps_nil, filt_nil]
        refine forall_congr' fun o => forall_congr' fun _ => ?_
        rw [Bool.or_eq_false_iff, decide_eq_false_iff_not, decide_eq_false_iff_not]
        exact ⟨fun h => ⟨h.2, h.1⟩, fun h => ⟨h.2, h.1⟩⟩
      have qq := q _ (g.trans gz)
      by_cases c : ∀ o ∈ l, Apart o s
      · refine iT (key.mpr c) ?_
        rw [decide_eq_true c, Bool.true_and] at qq
        refine ⟨_, rfl, _, _, rfl, .inl ⟨_, SqL.of ((g.trans gz) _ _ hF), rfl⟩, _, rfl, _, _, rfl, rfl, _, rfl, ?_⟩
        rw [hfl]
        exact qq
      · refine iF (fun z => c (key.mp z)) ?_
        rw [decide_eq_false c, Bool.false_and] at qq
        exact qq
  obtain ⟨b, v, many, n, t, rfl, hB, hn, ht, h5, q⟩ := h
  refine ⟨(by show 0 ≤ sizeLine; decide), fun f hf => ?_⟩
  have g0 := same_new hf (.lst [])
  have hfb : f ≠ b := new_ne (xs := []) (o := .tup []) hB hf
  refine ⟨_, rfl, _, rfl, (by show 0 ≤ sizeLine; decide), fun e he => ?_⟩
  have g1 := g0.trans (same_new he (.tup []))
  refine ⟨v, .ref e, t, [], rfl, dp_same g1 ht, .tup (SqT.of upd_same) .nil, by omega, by omega, by simp; omega, fun r1 H1 xs g2 hr1 hR1 hX => ?_⟩
  have g02 := g1.trans g2
  have hsp : t.spots.length ≤ 121 := by
    have h1 := spots_len t
    have h2 := pow3 h5
    have h3 : (3 : Nat) ^ 5 = 243 := by decide
    omega
  have hxl : xs.length = t.spots.length := by rw [sps_len hX, List.length_map]
  refine ⟨b, r1, n, xs, rfl, hB.same g02, SqL.of hR1, by omega, by omega, fun r2 H2 ys m2 hr2 hR2 hp B2 => ?_⟩
  have em : t.spots.map (([] : Spot) ++ ·) = t.spots := by simp
  rw [em] at hX
  obtain ⟨m, hM, hMp⟩ := sps_perm hp (sps_tk ((hB.same g02).tk m2) hX)
  have hf2 : H2 f = some (.lst []) := m2 _ _ hfb (g2 _ _ ((same_new he _) _ _ upd_same))
  have hr2f : r2 ≠ f := fun z => by
    have hf1 : H1 f = some (.lst []) := g2 _ _ ((same_new he _) _ _ upd_same)
    rw [z, hf1] at hr2
    cases hr2
  have mo2 : Mo b H H2 := (Mo.of g02).trans m2
  have hml := sps_len hM
  have hyl : ys.length = xs.length := hp.length_eq
  refine ⟨r2, rfl, ⟨_, SqL.of hR2⟩, for_it (walk_list (xs := ys)) (fun i σ H' => ∃ fs l x4 x5, σ = [some (.ref b), some v, some (.int many), some (.ref f), x4, x5] ∧ Mo f H2 H' ∧ H' f = some (.lst fs) ∧ SpsR K H' fs l ∧ l.Pairwise Apart ∧ (∀ s ∈ l, s ∈ t.spots) ∧ ((l.length : Nat) : Int) ≤ max many 0 ∧ l.length ≤ i) ?_ (fun i σ H' _ p => ?_) (fun i x σ H3 H4 hi p y => ?_) (fun σ H' p => ?_)⟩
  · exact ⟨[], [], _, _, rfl, Mo.refl, hf2, .nil, .nil, fun s hs => (by cases hs), (by show (0 : Int) ≤ max many 0; omega), Nat.le_refl _⟩
  · obtain ⟨fs, l, x4, x5, _, mo, _⟩ := p
    exact SqL.of (mo _ _ hr2f hR2)
  · obtain ⟨fs, l, x4, x5, rfl, mo, hfs, hS, hap, hsub, hlm, hli⟩ := p
    obtain ⟨rfl, hy⟩ := y
    obtain ⟨d, hd1, hd2⟩ := dpA_get hM hy
    obtain ⟨s, hs⟩ : ∃ s, m[i]? = some s := ⟨_, List.getElem?_eq_getElem (by omega)⟩
    rw [List.getElem?_map, hs] at hd1
    cases hd1
    have hst : s ∈ t.spots := hMp.mem_iff.mp (List.mem_of_getElem? hs)
    have tk : TK K H2 H4 := mo.tk hf2
    have hxs := dp_tk tk (flat_sp s) hd2
    refine ⟨_, _, many, f, x, _, fs, l, s, rfl, hfs, hS, by omega, hxs, fun H5 g5 => ?_⟩
    have hfs5 := g5 _ _ hfs
    refine ite2 (fun c => ?_) (fun c => ?_)
    · rw [Bool.and_eq_true] at c
      have c1 := of_decide_eq_true c.1
      have c2 := of_decide_eq_true c.2
      refine ⟨_, rfl, .inl ⟨rfl, _, SqL.of hfs5⟩, _, rfl, f, fs, x, rfl, rfl, hfs5, small1000 (by rw [sps_len hS]; omega), ⟨fs ++ [x], l ++ [s], _, _, rfl, (mo.trans (Mo.of g5)).trans Mo.upd, upd_same, ?_, ?_, fun q hq => ?_, by rw [List.length_append]; simp; omega, by rw [List.length_append]; simp; omega⟩⟩
      · have tk5 : TK K H5 (upd H5 f (.lst (fs ++ [x]))) := (Mo.upd (b := f)).tk hfs5
        exact sps_tk tk5 (sps_app (sps_same g5 hS) (.cons (dp_same g5 hxs) .nil))
      · rw [List.pairwise_append]
        refine ⟨hap, List.pairwise_singleton _ _, fun o ho q hq => ?_⟩
        cases List.mem_singleton.mp hq
        exact c1 o ho
      · rcases List.mem_append.mp hq with h | h
        · exact hsub q h
        · cases List.mem_singleton.mp h
          exact hst
    · exact ⟨fs, l, _, _, rfl, mo.trans (Mo.of g5), hfs5, sps_same g5 hS, hap, hsub, hlm, by omega⟩
  · obtain ⟨fs, l, x4, x5, rfl, mo, hfs, hS, hap, hsub, hlm, _⟩ := p
    have hb2 : Bx H' b (n + xs.length) := by
      obtain ⟨x, c, y, z, h1, h2⟩ := B2
      exact ⟨x, c, y, z, mo _ _ hfb.symm h1, h2⟩
    have mF : Mo b H H' := fun a o hab ho => by
      have h1 := mo2 a o hab ho
      exact mo a o (ne_of_none ho hf) h1
    exact ⟨_, rfl, q f H' fs l mF hf hfs hS hap hsub hlm (hb2.mono (by omega))⟩
end
end K89
namespace K89
open PySem PySem.Spec PyProof.Rows L2
open C8 (Cal pe_c)
theorem spot_len {t : Tm} {s : Spot} (h : s ∈ t.spots) : s.length + 1 ≤ t.ht := by
  have h1 := spots_get t s h
  cases e : t.get s with
  | none => rw [e] at h1; cases h1
  | some u =>
    have h2 := get_ht t s u e
    have h3 := u.ht_pos
    omega
theorem cst3 : cst 3 = 130 := rfl
theorem cst5 : cst 5 = 1210 := rfl
section
variable {P : Program} {w : World} {K : PySem.W.Frag} {mg : Str → Option Value} {base : Heap}
/-- a change at one of the spots that stand apart leaves the others -/
theorem put_keep {t : Tm} {l : List Spot} {i : Nat} {s : Spot} {o d : Tm} (hap : l.Pairwise Apart) (hs : l[i]? = some s) (h : ∀ j r, i ≤ j → l[j]? = some r → (o.get r).isSome = true) : ∀ j r, i + 1 ≤ j → l[j]? = some r → ((o.put s d).get r).isSome = true := fun j r hj hr => by
  have hi := (List.getElem?_eq_some_iff.mp hs)
  have hj2 := (List.getElem?_eq_some_iff.mp hr)
  obtain ⟨hi1, hi2⟩ := hi
  obtain ⟨hj1, hj3⟩ := hj2
  have := (List.pairwise_iff_getElem.mp hap) i j hi1 hj1 (by omega)
  rw [hi2, hj3] at this
  rw [get_put_apart o s r d this]
  exact h j r (by omega) hr
/-! ### _law_pair -/
def spPair (K : PySem.W.Frag) : Sp := fun vs H Q _ => ∃ (b : Addr) (n : Nat), vs = [.ref b] ∧ Bx H b n ∧ n + 5000 ≤ 1000000 ∧ ∀ r H' v v' t u, Mo b H H' → H r = none → H' r = some (.lst [v, v']) → TmR K H' v t → TmR K H' v' u → t.ht ≤ 5 → u.ht ≤ 8 → Bx H' b (n + 5000) → Q (.ref r) H'
abbrev N_law_pair : List Str := ["box", "one", "other", "spot"]
abbrev P_law_pair : List Str := ["box"]
theorem sc_law_pair : FnScope N_law_pair P_law_pair (defScope s_law_pair) := ⟨rfl, rfl, rfl, by decide +kernel, rfl, by decide +kernel, by decide +kernel⟩
theorem c_law_pair (T : Tx w K mg) : Cal P w K mg base 15 "_law_pair" (spPair K) [] := by
  obtain ⟨fd, F⟩ := T.d_law_pair
  have c_law_take := c_law_take (P := P) (base := base) T
  refine cal_of F (F.ok sc_law_pair (fun vs H Q E h => ?_) (fun cdv A outer s H vs Q E hr h => ⟨_, PSs.nox (pss_cons (ps_set (i := 1) sc_law_pair.nd rfl (Or.inl rfl) (pe_c (c_law_drawn T 5) hr (by decide) rfl (pa_cons (pv 0) (pa_cons (pe_op op_add pe_int (pe_c c_law_take hr (by decide) rfl (pa_cons (pv 0) (pa_cons pe_int pa_nil)))) (pa_cons pe_int (pa_cons pe_int pa_nil))))))
    (pss_cons (ps_if (pt_cmpR op_eq (pe_c c_law_take hr (by decide) rfl (pa_cons (pv 0) (pa_cons pe_int pa_nil))) pe_int (nomark _)) (pss_one (ps_ret (pe_lst (pa_cons (pv 1) (pa_cons (pe_c (c_law_drawn T 5) hr (by decide) rfl (pa_cons (pv 0) (pa_cons (pe_op op_add pe_int (pe_c c_law_take hr (by decide) rfl (pa_cons (pv 0) (pa_cons pe_int pa_nil)))) (pa_cons pe_int (pa_cons pe_int pa_nil))))) pa_nil))))) pss_nil)
    (pss_cons (ps_set (i := 2) sc_law_pair.nd rfl (Or.inl rfl) (pv 1))
    (pss_cons (ps_for PassesOwn.never rfl (pi_list (pe_c (c_law_apart T) hr (by decide) rfl (pa_cons (pv 0) (pa_cons (pv 1) (pa_cons (pe_c c_law_take hr (by decide) rfl (pa_cons (pv 0) (pa_cons pe_int pa_nil))) pa_nil))))) (pg_name (i := 3) sc_law_pair.nd rfl (Or.inl rfl))
      (pss_one (ps_set (i := 2) sc_law_pair.nd rfl (Or.inl rfl) (pe_c (c_law_put T 12) hr (by decide) rfl (pa_cons (pv 2) (pa_cons (pv 3) (pa_cons (pe_c (c_law_drawn T 3) hr (by decide) rfl (pa_cons (pv 0) (pa_cons (pe_op op_add pe_int (pe_c c_law_take hr (by decide) rfl (pa_cons (pv 0) (pa_cons pe_int pa_nil)))) (pa_cons pe_int (pa_cons pe_int pa_nil))))) pa_nil)))))))
    (pss_one (ps_ret (pe_lst (pa_cons (pv 1) (pa_cons (pv 2) pa_nil))))))))), ?_⟩)) T.g_law_pair
    fun _ _ _ _ _ _ us hl => match us, hl with | [_], _ => rfl
  · obtain ⟨b, n, rfl, _⟩ := h
    rfl
  obtain ⟨b, n, rfl, hB, hn, q⟩ := h
  refine ⟨_, rfl, _, rfl, b, 9, n, rfl, hB, by omega, by decide, by decide, fun s1 H1 m1 B1 a0 a1 => ⟨_, _, rfl, rfl, ?_⟩⟩
  refine ⟨b, 1 + s1, 0, n + 1, rfl, by decide, by omega, by omega, by decide, by decide, B1, by rw [cst5]; omega, fun v H2 t m2 B2 hv ht => ?_⟩
  rw [cst5] at B2
  refine ⟨_, rfl, b, 5, n + 1 + 1210, rfl, B2, by omega, by decide, by decide, fun s2 H3 m3 B3 b0 b1 => ⟨rfl, _, rfl, ?_⟩⟩
  have hv3 := tm_keep B2 m3 hv
  have mo3 : Mo b H H3 := m1.trans (m2.trans m3)
  refine ite2 (fun c => ?_) (fun c => ?_)
  · refine ⟨_, rfl, _, rfl, _, rfl, b, 9, _, rfl, B3, by omega, by decide, by decide, fun s3 H4 m4 B4 c0 c1 => ⟨_, _, rfl, rfl, ?_⟩⟩
    refine ⟨b, 1 + s3, 0, _, rfl, by decide, by omega, by omega, by decide, by decide, B4, by rw [cst5]; omega, fun v' H5 u m5 B5 hv' hu => ?_⟩
    refine ⟨(by show 2 ≤ sizeLine; decide), fun r hr5 => ?_⟩
    rw [cst5] at B5
    have mo5 : Mo b H H5 := mo3.trans (m4.trans m5)
    have hrb : r ≠ b := new_ne (xs := []) (o := .tup []) B5 hr5
    have g := same_new hr5 (.lst [v, v'])
    have hv5 := tm_keep B4 m5 (tm_keep B3 m4 hv3)
    exact q r _ v v' t u (mo5.trans (Mo.of g)) (mo_new mo5 hr5 hrb) upd_same (dp_same g hv5) (dp_same g hv') ht (by omega) ((B5.same g).mono (by omega))
  · refine ⟨_, rfl, _, rfl, _, rfl, _, rfl, b, 4, _, rfl, B3, by omega, by decide, by decide, fun s3 H4 m4 B4 c0 c1 => ?_⟩
    have hv4 := tm_keep B3 m4 hv3
    refine ⟨b, v, s3, _, t, rfl, B4, by omega, hv4, ht, fun r1 H5 ys l m5 hr1 hR1 hS hap hsub hlm B5 => ?_⟩
    have hr1b : r1 ≠ b := new_ne (xs := []) (o := .tup []) B4 hr1
    have mo5 : Mo b H H5 := mo3.trans (m4.trans m5)
    have hv5 := tm_keep B4 m5 hv4
    have hyl := sps_len hS
    have hl3 : l.length ≤ 3 := by omega
    refine ⟨r1, rfl, ⟨_, SqL.of hR1⟩, for_it (walk_list (xs := ys)) (fun i σ H' => ∃ ov o x3, σ = [some (.ref b), some v, some ov, x3] ∧ Mo b H5 H' ∧ TmR K H' ov o ∧ o.ht ≤ 8 ∧ (∀ j r, i ≤ j → l[j]? = some r → (o.get r).isSome = true) ∧ Bx H' b (n + 1400 + i * 200)) ?_ (fun i σ H' _ p => ?_) (fun i x σ H6 H7 hi p y => ?_) (fun σ H' p => ?_)⟩
    · exact ⟨v, t, _, rfl, Mo.refl, hv5, by omega, fun j r _ hr => spots_get t r (hsub r (List.mem_of_getElem? hr)), B5.mono (by omega)⟩
    · obtain ⟨ov, o, x3, _, mo, _⟩ := p
      exact SqL.of (mo _ _ hr1b hR1)
    · obtain ⟨ov, o, x3, rfl, mo, ho, hoh, hget, B⟩ := p
      obtain ⟨rfl, hy⟩ := y
      obtain ⟨d, hd1, hd2⟩ := dpA_get hS hy
      obtain ⟨s, hs⟩ : ∃ s, l[i]? = some s := ⟨_, List.getElem?_eq_getElem (by omega)⟩
      rw [List.getElem?_map, hs] at hd1
      cases hd1
      have hsl := spot_len (hsub s (List.mem_of_getElem? hs))
      have hx := dp_tk (B5.tk mo) (flat_sp s) hd2
      refine ⟨_, rfl, _, rfl, _, rfl, _, rfl, b, 3, _, rfl, B, by omega, by decide, by decide, fun s4 H8 m8 B8 d0 d1 => ⟨_, _, rfl, rfl, ?_⟩⟩
      refine ⟨b, 1 + s4, 0, _, rfl, by decide, by omega, by omega, by decide, by decide, B8, by rw [cst3]; omega, fun dv H9 dt m9 B9 hdv hdt => ?_⟩
      rw [cst3] at B9
      have m79 : Mo b H7 H9 := m8.trans m9
      refine ⟨ov, x, dv, o, s, dt, rfl, tm_keep B m79 ho, dp_tk (B.tk m79) (flat_sp s) hx, hdv, hget i s (Nat.le_refl _) hs, by omega, by omega, by omega, fun z H10 g10 hz => ?_⟩
      refine ⟨z, o.put s dt, _, rfl, mo.trans (m79.trans (Mo.of g10)), hz, ?_, put_keep (t := t) hap hs hget, (B9.same g10).mono (by omega)⟩
      have := put_ht o s dt
      omega
    · obtain ⟨ov, o, x3, rfl, mo, ho, hoh, hget, B⟩ := p
      refine ⟨_, rfl, _, rfl, (by show 2 ≤ sizeLine; decide), fun r hr' => ?_⟩
      have moF : Mo b H H' := mo5.trans mo
      have hrb : r ≠ b := new_ne (xs := []) (o := .tup []) B hr'
      have g := same_new hr' (.lst [v, ov])
      exact q r _ v ov t o (moF.trans (Mo.of g)) (mo_new moF hr' hrb) upd_same (dp_same g (tm_keep B5 mo hv5)) (dp_same g ho) ht hoh ((B.same g).mono (by omega))
end
end K89
namespace K89
open PySem PySem.Spec PyProof.Rows L2
open C8 (Cal pe_c)
/-! ### what is never reached -/
section
variable {X : Cx} {e : Expr} {s : Stmt} {ss : List Stmt}
theorem pe_never : PE X e (fun _ _ _ => False) := ⟨fun _ _ _ _ _ _ h => h.elim⟩
theorem ps_never : PS X s (fun _ _ _ => False) := ⟨fun _ _ _ _ _ _ h => h.elim⟩
theorem pss_never : PSs X ss (fun _ _ _ => False) := ⟨fun _ _ _ _ _ _ h => h.elim⟩
theorem ix_seqK {K : PySem.W.Frag} (hK : X.K = K := by rfl) : IxR X (rIx K) := by
  subst hK
  exact ix_seq
end
/-! ### list(d) -/
def rListD : List V → Hp → VK → Prop := fun xs H Q => ∃ (a : Addr) (kvs : List (Key × V)), xs = [.ref a] ∧ H a = some (.dK kvs) ∧ ∀ l, H l = none → Q (.ref l) (upd H l (.lst (kvs.map fun p => kV p.1)))
section
variable {X : Cx} {pins : List (Addr × Obj)} {σ : L2.St} {H : Hp} {s : Shared} {a : Addr} {kvs : List (Key × V)}
theorem dict_at (I : Inv X pins σ H s) (h : H a = some (.dK kvs)) : ∃ (o : Obj) (ep : Nat) (vs : List (Key × Value)), (a == sysModules) = false ∧ s.heap.get? a = some o ∧ kvs.length ≤ sizeLine ∧ KV kvs vs ∧ s.heap.DictAt (mixKind X.prog X.w) a vs ep := by
  obtain ⟨z, hs, vs, kv, o', es, ep, ho, hx, hdt, r⟩ := I.hok a _ h
  exact ⟨o', ep, vs, hs, ho, z, kv, o', es, ho, hx, hdt, r⟩
theorem vals_at : ∀ {xs : List V} {us : List Value}, xs.length = us.length → (∀ (i : Nat) x u, xs[i]? = some x → us[i]? = some u → RelV x u) → Vals xs us
  | [], [], _, _ => .nil
  | [], _ :: _, h, _ => by cases h
  | _ :: _, [], h, _ => by cases h
  | x :: xs, u :: us, h, f => .cons (f 0 x u rfl rfl) (vals_at (Nat.succ.inj h) fun i y v h1 h2 => f (i + 1) y v (by simpa using h1) (by simpa using h2))
theorem keys_vals {vs : List (Key × Value)} (kv : KV kvs vs) {us : List Value} (hl : us.length = vs.length) (hu : ∀ (j : Nat) (u : Value), us[j]? = some u → ∃ k x, vs[j]? = some (k, x) ∧ keyIs k u = true) : Vals (kvs.map fun p => kV p.1) us := by
  have hkl : kvs.length = vs.length := Paired.length kv
  refine vals_at (by rw [List.length_map, hkl, hl]) fun i x u h1 h2 => ?_
  obtain ⟨k, y, h3, h4⟩ := hu i u h2
  rw [List.getElem?_map] at h1
  cases e : kvs[i]? with
  | none => rw [e] at h1; cases h1
  | some p =>
    rw [e] at h1
    cases h1
    obtain ⟨w, h5, _⟩ := kv_get (k := p.1) (v := p.2) kv e
    rw [h3] at h5
    cases h5
    exact relV_key h4
theorem call_list_dict (hc : X.calm = true) : CallR X (.type "list") rListD := by
  intro pins s σ H xs us Q I r h
  obtain ⟨a, kvs, rfl, ha, q⟩ := h
  obtain ⟨u, rfl, rx⟩ := vals1 r
  cases rx
  obtain ⟨o, ep, vs, hs, ho, hz, kv, hm⟩ := dict_at I ha
  have hkl : kvs.length = vs.length := Paired.length kv
  refine PySem.W.kdl_call (PySem.W.kdl_dict (kvs := vs) (ep := ep) hs) (I.ok.hd hc) hm (by omega) fun h' tk acc' c' hk hS hacc => ?_
  obtain ⟨hl, hi⟩ := hacc
  have rv : Vals (kvs.map fun p => kV p.1) acc'.toList := keys_vals kv (by simpa using hl) fun j u hu => hi j u (by simpa using hu)
  refine ⟨.ref s.heap.objs.size, _, I.laid (t' := tk) hk (Nat.le_refl _) (show ObjOk X.prog X.w _ h' _ (.lst (kvs.map fun p => kV p.1)) from ⟨by rw [List.length_map]; exact hz, acc'.toList, c', rv, by simpa using hS⟩), rfl, q _ (I.hok.fresh (Nat.le_refl _))⟩
end
end K89
namespace K89
open PySem PySem.Spec PyProof.Rows L2
open C8 (Cal pe_c)
/-- the same data, to depth n -/
inductive SamD (K : PySem.W.Frag) (H : Hp) : Nat → V → V → Prop where
  | non (n : Nat) : SamD K H n .non .non
  | bl (n : Nat) (b : Bool) : SamD K H n (.bl b) (.bl b)
  | int (n : Nat) (i : Int) : SamD K H n (.int i) (.int i)
  | str (n : Nat) (x : Str) (h : x.length ≤ 1000) : SamD K H n (.str x) (.str x)
  | lst {n : Nat} {a b : Addr} {xs ys : List V} (h : SqL K H a xs) (g : SqL K H b ys) (l : xs.length = ys.length) (z : ys.length ≤ 30000) (f : ∀ (i : Nat) x y, xs[i]? = some x → ys[i]? = some y → SamD K H n x y) : SamD K H (n + 1) (.ref a) (.ref b)
  | tup {n : Nat} {a b : Addr} {xs ys : List V} (h : SqT K H a xs) (g : SqT K H b ys) (l : xs.length = ys.length) (z : ys.length ≤ 30000) (f : ∀ (i : Nat) x y, xs[i]? = some x → ys[i]? = some y → SamD K H n x y) : SamD K H (n + 1) (.ref a) (.ref b)
  | dct {n : Nat} {a : Addr} {kvs : List (Key × V)} (h : H a = some (.dK kvs)) (z : kvs.length ≤ 100) (f : ∀ p ∈ kvs, ∃ (x : Str) (i : Int), p = (Sum.inr x, .int i) ∧ PyData.strOk x = true ∧ valV kvs (Sum.inr x) = some (.int i)) : SamD K H (n + 1) (.ref a) (.ref a)
section
variable {K : PySem.W.Frag} {H H' : Hp} {v w : V} {n m : Nat}
theorem SamD.same (h : SamD K H n v w) (e : Same H H') : SamD K H' n v w := by
  induction h with
  | non n => exact .non n
  | bl n b => exact .bl n b
  | int n i => exact .int n i
  | str n x h => exact .str n x h
  | lst h g l z f ih => exact .lst (e.seq h) (e.seq g) l z ih
  | tup h g l z f ih => exact .tup (same_tup e h) (same_tup e g) l z ih
  | dct h z f => exact .dct (e _ _ h) z f
theorem SamD.mono (h : SamD K H n v w) : ∀ {m : Nat}, n ≤ m → SamD K H m v w := by
  induction h with
  | non n => intro m _; exact .non m
  | bl n b => intro m _; exact .bl m b
  | int n i => intro m _; exact .int m i
  | str n x h => intro m _; exact .str m x h
  | lst h g l z f ih =>
    intro m hm
    obtain ⟨k, rfl⟩ : ∃ k, m = k + 1 := ⟨m - 1, by omega⟩
    exact .lst h g l z fun i x y hx hy => ih i x y hx hy (by omega)
  | tup h g l z f ih =>
    intro m hm
    obtain ⟨k, rfl⟩ : ∃ k, m = k + 1 := ⟨m - 1, by omega⟩
    exact .tup h g l z fun i x y hx hy => ih i x y hx hy (by omega)
  | dct h z f =>
    intro m hm
    obtain ⟨k, rfl⟩ : ∃ k, m = k + 1 := ⟨m - 1, by omega⟩
    exact .dct h z f
/-- by data: what a heap says of both -/
def smallD : PyData → Bool
  | .str x => decide (x.length ≤ 1000)
  | .list ds => decide (ds.length ≤ 30000)
  | .tuple ds => decide (ds.length ≤ 30000)
  | _ => true
mutual
def smallT : PyData → Bool
  | .str x => decide (x.length ≤ 1000)
  | .list ds => decide (ds.length ≤ 30000) && smallTs ds
  | .tuple ds => decide (ds.length ≤ 30000) && smallTs ds
  | _ => true
def smallTs : List PyData → Bool
  | [] => true
  | d :: ds => smallT d && smallTs ds
end
theorem smallTs_get : ∀ {ds : List PyData} {i : Nat} {d : PyData}, smallTs ds = true → ds[i]? = some d → smallT d = true
  | [], i, d, _, h => by simp at h
  | d :: r, 0, d', h, e => by
    simp only [smallTs, Bool.and_eq_true] at h
    simp at e
    subst e
    exact h.1
  | d :: r, i + 1, d', h, e => by
    simp only [smallTs, Bool.and_eq_true] at h
    exact smallTs_get h.2 (by simpa using e)
theorem depthAll_get : ∀ {ds : List PyData} {i : Nat} {d : PyData}, ds[i]? = some d → d.depth ≤ PyData.depthAll ds
  | [], i, d, h => by simp at h
  | d :: r, 0, d', e => by
    simp at e
    subst e
    simp only [PyData.depthAll]
    omega
  | d :: r, i + 1, d', e => by
    have := depthAll_get (ds := r) (i := i) (d := d') (by simpa using e)
    simp only [PyData.depthAll]
    omega
theorem sam_dp : ∀ (n : Nat) {v w : V} {d : PyData}, d.depth ≤ n → smallT d = true → Dp K H v d → Dp K H w d → SamD K H n v w
  | n, _, _, _, _, _, .non, .non => .non n
  | n, _, _, _, _, _, .bl b, .bl _ => .bl n b
  | n, _, _, _, _, _, .int i, .int _ => .int n i
  | n, _, _, .str x, _, s, .str _, .str _ => .str n x (of_decide_eq_true s)
  | 0, _, _, .list ds, h, _, _, _ => by simp [PyData.depth] at h
  | 0, _, _, .tuple ds, h, _, _, _ => by simp [PyData.depth] at h
  | n + 1, _, _, .list ds, h, s, .lst h1 r1, .lst h2 r2 => by
    have s' : (decide (ds.length ≤ 30000) && smallTs ds) = true := s
    rw [Bool.and_eq_true] at s'
    have l1 := dpA_len r1
    have l2 := dpA_len r2
    have hd : PyData.depthAll ds ≤ n := by simp only [PyData.depth] at h; omega
    refine .lst h1 h2 (by omega) (by have := of_decide_eq_true s'.1; omega) fun i x y hx hy => ?_
    obtain ⟨d, e1, q1⟩ := dpA_get r1 hx
    obtain ⟨d', e2, q2⟩ := dpA_get r2 hy
    rw [e1] at e2
    cases e2
    exact sam_dp n (Nat.le_trans (depthAll_get e1) hd) (smallTs_get s'.2 e1) q1 q2
  | n + 1, _, _, .tuple ds, h, s, .tup h1 r1, .tup h2 r2 => by
    have s' : (decide (ds.length ≤ 30000) && smallTs ds) = true := s
    rw [Bool.and_eq_true] at s'
    have l1 := dpA_len r1
    have l2 := dpA_len r2
    have hd : PyData.depthAll ds ≤ n := by simp only [PyData.depth] at h; omega
    refine .tup h1 h2 (by omega) (by have := of_decide_eq_true s'.1; omega) fun i x y hx hy => ?_
    obtain ⟨d, e1, q1⟩ := dpA_get r1 hx
    obtain ⟨d', e2, q2⟩ := dpA_get r2 hy
    rw [e1] at e2
    cases e2
    exact sam_dp n (Nat.le_trans (depthAll_get e1) hd) (smallTs_get s'.2 e1) q1 q2
theorem small_nm (n : Nm) : n.str.length ≤ 1000 := by cases n <;> decide +kernel
theorem small_rest (l : Lf) : smallTs l.rest = true := by cases l <;> simp [Lf.rest, smallTs, smallT, small_nm]
theorem small_lfw (l : Lf) : l.word.length ≤ 1000 := by cases l <;> simp only [Lf.word] <;> decide +kernel
theorem small_b2 (n : B2) : n.str.length ≤ 1000 := by cases n <;> decide +kernel
theorem small_b3 (n : B3) : n.str.length ≤ 1000 := by cases n <;> decide +kernel
theorem rest_len (l : Lf) : l.rest.length ≤ 3 := by cases l <;> simp [Lf.rest]
theorem small_tm : ∀ t : Tm, smallT t.data = true
  | .lf l => by
    have := rest_len l
    simp only [Tm.data, smallT, smallTs, small_rest, decide_eq_true (small_lfw l), Bool.and_true, List.length_cons]
    exact decide_eq_true (by omega)
  | .n2 w x y => by simp [Tm.data, smallT, smallTs, small_b2, small_tm x, small_tm y]
  | .n3 w x y z => by simp [Tm.data, smallT, smallTs, small_b3, small_tm x, small_tm y, small_tm z]
theorem small_ints : ∀ s : List Nat, smallTs (s.map fun n : Nat => PyData.int (n : Int)) = true
  | [] => rfl
  | n :: r => by simp [smallTs, smallT, small_ints r]
theorem small_sp {s : Spot} (h : s.length ≤ 30000) : smallT (spD s) = true := by simp [spD, smallT, small_ints, h]
theorem small_sps : ∀ {l : List Spot}, (∀ s ∈ l, s.length ≤ 30000) → smallTs (l.map spD) = true
  | [], _ => rfl
  | s :: r, h => by
    simp only [List.map_cons, smallTs, small_sp (h s List.mem_cons_self), small_sps (l := r) fun q hq => h q (List.mem_cons_of_mem _ hq), Bool.and_self]
theorem sam_tm {t : Tm} (h : t.ht ≤ n) (h1 : TmR K H v t) (h2 : TmR K H w t) : SamD K H n v w := sam_dp n (by rw [dep_tm]; exact h) (small_tm t) h1 h2
theorem sam_sp {s : Spot} (h : s.length ≤ 30000) (h1 : SpR K H v s) (h2 : SpR K H w s) : SamD K H 1 v w := sam_dp 1 (by simp [spD, PyData.depth, dep_ints]) (small_sp h) h1 h2
theorem sam_sps {a b : Addr} {xs ys : List V} {l : List Spot} (h1 : SqL K H a xs) (h2 : SpsR K H xs l) (g1 : SqL K H b ys) (g2 : SpsR K H ys l) (hl : l.length ≤ 30000) (hs : ∀ s ∈ l, s.length ≤ 30000) : SamD K H 2 (.ref a) (.ref b) :=
  sam_dp (d := .list (l.map spD)) 2 (by have := dep_sps l; simp only [PyData.depth]; omega) (by simp only [smallT, List.length_map, decide_eq_true hl, small_sps hs, Bool.and_self]) (.lst h1 h2) (.lst g1 g2)
end
/-! ### cuts of a text -/
theorem cut_one {z : Str} {k : Nat} (h : k < z.length) : ∃ c, atI z.cps.toList (k : Int) = some c ∧ cutS z (some ((k : Nat) : Int)) (some (((k + 1 : Nat)) : Int)) = ⟨#[c]⟩ := by
  have hk : k < z.cps.toList.length := by simpa [Str.length] using h
  refine ⟨z.cps.toList[k], atI_nat (List.getElem?_eq_getElem hk), ?_⟩
  unfold cutS
  rw [HT.sIx_nat, HT.sIx_nat, Nat.min_eq_left (by omega), Nat.min_eq_left (by omega)]
  have e : (z.cps.toList.drop k).take (k + 1 - k) = [z.cps.toList[k]] := by
    rw [Nat.add_sub_cancel_left, List.drop_eq_getElem_cons hk]
    rfl
  rw [e]
section
variable {K : PySem.W.Frag}
def spSame (K : PySem.W.Frag) (n : Nat) : Sp := fun vs H Q _ => 1 ≤ n ∧ ∃ v w, vs = [v, w] ∧ SamD K H (n - 1) v w ∧ ∀ H', Same H H' → Q (.bl true) H'
abbrev N_law_same : List Str := ["given", "due", "k"]
abbrev P_law_same : List Str := ["given", "due"]
theorem sc_law_same : FnScope N_law_same P_law_same (defScope s_law_same) := ⟨rfl, rfl, rfl, by decide +kernel, rfl, by decide +kernel, by decide +kernel⟩
end
end K89
namespace K89
open PySem PySem.Spec PyProof.Rows L2
open C8 (Cal pe_c)
/-! ### a dict's keys as data -/
def keyD (p : Key × V) : PyData := match p.1 with
  | .inl i => .int i
  | .inr x => .str x
theorem keyD_all {K : PySem.W.Frag} (H : Hp) : ∀ kvs : List (Key × V), DpAll K H (kvs.map fun p => kV p.1) (kvs.map keyD)
  | [] => .nil
  | (.inl i, v) :: r => .cons (.int i) (keyD_all H r)
  | (.inr x, v) :: r => .cons (.str x) (keyD_all H r)
theorem keyD_lay {kvs l : List (Key × V)} (f : ∀ p ∈ l, ∃ (x : Str) (i : Int), p = (Sum.inr x, .int i) ∧ PyData.strOk x = true ∧ valV kvs (Sum.inr x) = some (.int i)) : PyData.canLayAll0 (l.map keyD) = true ∧ PyData.depthAll (l.map keyD) = 0 := by
  induction l with
  | nil => exact ⟨rfl, rfl⟩
  | cons p r ih =>
    obtain ⟨h1, h2⟩ := ih fun q hq => f q (List.mem_cons_of_mem _ hq)
    obtain ⟨x, i, rfl, hx, _⟩ := f p List.mem_cons_self
    refine ⟨?_, ?_⟩
    · show (PyData.strOk x && PyData.canLayAll0 (r.map keyD)) = true
      rw [hx, h1]
      rfl
    · show max 0 (PyData.depthAll (r.map keyD)) = 0
      rw [h2]
      rfl
theorem keyD_shaped {kvs : List (Key × V)} (f : ∀ p ∈ kvs, ∃ (x : Str) (i : Int), p = (Sum.inr x, .int i) ∧ PyData.strOk x = true ∧ valV kvs (Sum.inr x) = some (.int i)) : SeqAt.shaped (.list (kvs.map keyD)) = true := by
  obtain ⟨h1, h2⟩ := keyD_lay f
  unfold SeqAt.shaped
  simp only [PyData.canLay0, PyData.depth, h1, h2]
  decide
theorem keyD_eqv {kvs : List (Key × V)} (f : ∀ p ∈ kvs, ∃ (x : Str) (i : Int), p = (Sum.inr x, .int i) ∧ PyData.strOk x = true ∧ valV kvs (Sum.inr x) = some (.int i)) : PyData.eqv (.list (kvs.map keyD)) (.list (kvs.map keyD)) = true :=
  SeqAt.eqv_refl _ (keyD_lay f).1
section
variable {P : Program} {w : World} {K : PySem.W.Frag} {mg : Str → Option Value} {base : Heap}
theorem c_law_same_step (T : Tx w K mg) {n k : Nat} (c_law_same : Cal P w K mg base k "_law_same" (spSame K n) []) : Cal P w K mg base (k + 1) "_law_same" (spSame K (n + 1)) [] := by
  obtain ⟨fd, F⟩ := T.d_law_same
  refine cal_of F (F.ok sc_law_same (fun vs H Q E h => ?_) (fun cdv A outer s H vs Q E hr h => ⟨_, PSs.nox (pss_cons (ps_if (PW.pt (pw_or (pt_cmpR op_isN (pv 1) pe_non (nomark _)) (pw_or1 (pt_val (xIs T.n_isinstance T.n_bool b_bool (pv 1)))))) (pss_one (ps_ret (pe_ifExp (pt_cmpR op_isN (pv 1) pe_non (nomark _)) (pe_cmpR op_isN (pv 0) pe_non (nomark _)) (pe_and (xIs T.n_isinstance T.n_bool b_bool (pv 0)) (pe_one (pe_cmpR op_eq (pe_cmpR op_isBl (pv 0) pe_bl (nomark _)) (pe_cmpR op_isBl (pv 1) pe_bl (nomark _)) (nomark _))))))) pss_nil)
    (pss_cons (ps_if (pt_val (xIs T.n_isinstance T.n_int b_int (pv 1))) (pss_one (ps_ret (pe_and (xIs T.n_isinstance T.n_int b_int (pv 0)) (pe_and (pe_not (xIs T.n_isinstance T.n_bool b_bool (pv 0))) (pe_one (pe_cmpR op_eq (pe_op op_sub (pe_callTy call_int1 rfl T.n_int b_int (pa_cons (pv 0) pa_nil)) (pv 1)) pe_int (nomark _))))))) pss_nil)
    (pss_cons (ps_if (pt_val (xIs T.n_isinstance T.n_str b_str (pv 1))) (pss_one (ps_ret (pe_and (xIs T.n_isinstance T.n_str b_str (pv 0)) (pe_and (pe_cmpR op_eq (pe_callB call_len rfl T.n_len PySem.boot_len (pa_cons (pv 0) pa_nil)) (pe_callB call_len rfl T.n_len PySem.boot_len (pa_cons (pv 1) pa_nil)) (nomark _)) (pe_one (pe_cmpR (op_eqD hr.units) (pe_lc (own := [("k", 2)]) (g := gName 2) (tt := tTest (tOp rNe (tSl rSlS (tVar 0) (tPart (tVar 2)) (tPart (tOp (rI0 fun i j => .int (i + j)) (tVar 2) (tC (.int 1))))) (tOp rIxS (tVar 1) (tVar 2)))) rfl sc_law_same.nd (pi_range1 (by rfl) T.n_range (pa_cons (pe_callB call_len rfl T.n_len PySem.boot_len (pa_cons (pv 1) pa_nil)) pa_nil)) (blkOk_by (N := N_law_same) (sc := defScope s_law_same) (by decide +kernel)) (fun _ _ _ _ _ => (pg_name (i := 2) sc_law_same.nd rfl (Or.inl rfl))) (fun _ _ _ _ _ => (pts_one (pt_cmpR op_ne (pe_slice sl_str (pv 0) (po_some (pv 2)) (po_some (pe_op op_add (pv 2) pe_int))) (pe_ix ix_str (pv 1) (pv 2) (fun _ _ => rfl)) (nomark _)))) (fun _ _ _ _ _ => (pv 2))) (pe_lst pa_nil) (nomark _))))))) pss_nil)
    (pss_cons (ps_if (pt_val (xIs T.n_isinstance T.n_dict b_dict (pv 1))) (pss_one (ps_ret (pe_and (xIs T.n_isinstance T.n_dict b_dict (pv 0)) (pe_and (pe_cmpR (op_eqD hr.units) (pe_callTy (call_list_dict rfl) rfl T.n_list b_list (pa_cons (pv 0) pa_nil)) (pe_callTy (call_list_dict rfl) rfl T.n_list b_list (pa_cons (pv 1) pa_nil)) (nomark _)) (pe_one (pe_cmpR (op_eqD hr.units) (pe_lock (pe_lc (own := [("k", 2)]) (g := gName 2) (tt := tNot (tB (tCall (spSame K n) [] C8.E0 (tCons (tDGet (tVar 0) (tVar 2)) (tCons (tDGet (tVar 1) (tVar 2)) tNil))))) rfl sc_law_same.nd (pi_keys (pv 1)) (blkOk_by (N := N_law_same) (sc := defScope s_law_same) (by decide +kernel)) (fun _ _ _ _ _ => (pg_name (i := 2) sc_law_same.nd rfl (Or.inl rfl))) (fun _ _ _ _ _ => (pts_one (pt_not (pt_val (pe_c c_law_same hr (Nat.le_refl _) rfl (pa_cons (pe_dget (hu_of hr) (pv 0) (pv 2) (fun _ _ => rfl)) (pa_cons (pe_dget (hu_of hr) (pv 1) (pv 2) (fun _ _ => rfl)) pa_nil))))))) (fun _ _ _ _ _ => (pv 2)))) (pe_lst pa_nil) (nomark _))))))) pss_nil)
    (pss_cons (ps_if (PW.pt (pw_or (pt_cmpR op_ne (xIs T.n_isinstance T.n_list b_list (pv 0)) (xIs T.n_isinstance T.n_list b_list (pv 1)) (nomark _)) (pw_or1 (pt_cmpR op_ne (xIs T.n_isinstance T.n_tuple b_tuple (pv 0)) (xIs T.n_isinstance T.n_tuple b_tuple (pv 1)) (nomark _))))) (pss_one (ps_ret pe_bl)) pss_nil)
    (pss_cons (ps_if (pt_not (pt_val (pe_callB call_is2 rfl T.n_isinstance b_isinstance (pa_cons (pv 1) (pa_cons (pe_tup (pa_cons (pe_bltn rfl T.n_list b_list (v := .ty "list") rfl) (pa_cons (pe_bltn rfl T.n_tuple b_tuple (v := .ty "tuple") rfl) pa_nil))) pa_nil))))) pss_never pss_nil)
    (pss_one (ps_ret (pe_and (pe_cmpR op_eq (pe_callB call_len rfl T.n_len PySem.boot_len (pa_cons (pv 0) pa_nil)) (pe_callB call_len rfl T.n_len PySem.boot_len (pa_cons (pv 1) pa_nil)) (nomark _)) (pe_one (pe_cmpR (op_eqD hr.units) (pe_lc (own := [("k", 2)]) (g := gName 2) (tt := tNot (tB (tCall (spSame K n) [] C8.E0 (tCons (tOp (rIx K) (tVar 0) (tVar 2)) (tCons (tOp (rIx K) (tVar 1) (tVar 2)) tNil))))) rfl sc_law_same.nd (pi_range1 (by rfl) T.n_range (pa_cons (pe_callB call_len rfl T.n_len PySem.boot_len (pa_cons (pv 1) pa_nil)) pa_nil)) (blkOk_by (N := N_law_same) (sc := defScope s_law_same) (by decide +kernel)) (fun _ _ _ _ _ => (pg_name (i := 2) sc_law_same.nd rfl (Or.inl rfl))) (fun _ _ _ _ _ => (pts_one (pt_not (pt_val (pe_c c_law_same hr (Nat.le_refl _) rfl (pa_cons (pe_ix (ix_seqK (K := K)) (pv 0) (pv 2) (fun _ _ => rfl)) (pa_cons (pe_ix (ix_seqK (K := K)) (pv 1) (pv 2) (fun _ _ => rfl)) pa_nil))))))) (fun _ _ _ _ _ => (pv 2))) (pe_lst pa_nil) (nomark _)))))))))))), ?_⟩)) T.g_law_same
    fun _ _ _ _ _ _ us hl => match us, hl with | [_, _], _ => rfl
  · obtain ⟨_, v, w', rfl, _⟩ := h
    rfl
  obtain ⟨_, v, w', rfl, hS, q⟩ := h
  have hS : SamD K H n v w' := hS
  cases hS with
  | non m =>
    exact ⟨_, rfl, rfl, _, rfl, iT rfl (iteT ⟨_, rfl, rfl, _, rfl, iT rfl ⟨_, rfl, rfl, qT rfl (q H (Same.refl H))⟩⟩)⟩
  | bl m b =>
    refine ⟨_, rfl, rfl, _, rfl, iF nofun ⟨_, rfl, _, "bool", "bool", rfl, by decide, ty_bl K H b, true, rfl, iteT ?_⟩⟩
    refine ⟨_, rfl, rfl, _, rfl, iF nofun ⟨_, rfl, _, "bool", "bool", rfl, by decide, ty_bl K H b, true, rfl, iteT ?_⟩⟩
    exact ⟨_, rfl, _, _, rfl, rfl, _, rfl, _, _, rfl, rfl, rfl, qT rfl (q H (Same.refl H))⟩
  | int m i =>
    refine ⟨_, rfl, rfl, _, rfl, iF nofun ?_⟩
    refine ⟨_, rfl, _, "bool", "int", rfl, by decide, ty_int K H i, false, rfl, ?_⟩
    refine iteF ?_
    refine ⟨_, rfl, _, "int", "int", rfl, by decide, ty_int K H i, true, rfl, iteT ?_⟩
    refine ⟨_, rfl, _, "int", "int", rfl, by decide, ty_int K H i, true, rfl, iteT ?_⟩
    refine ⟨_, rfl, _, "bool", "int", rfl, by decide, ty_int K H i, false, rfl, true, rfl, iteT ?_⟩
    exact ⟨_, rfl, .inl ⟨_, rfl, _, rfl, _, _, rfl, rfl, rfl, qT (int_eq (by omega)) (q H (Same.refl H))⟩⟩
  | str m x hx =>
    refine ⟨_, rfl, rfl, _, rfl, iF nofun ?_⟩
    refine ⟨_, rfl, _, "bool", "str", rfl, by decide, ty_str K H x, false, rfl, ?_⟩
    refine iteF ?_
    refine ⟨_, rfl, _, "int", "str", rfl, by decide, ty_str K H x, false, rfl, ?_⟩
    refine iteF ?_
    refine ⟨_, rfl, _, "str", "str", rfl, by decide, ty_str K H x, true, rfl, iteT ?_⟩
    refine ⟨_, rfl, _, "str", "str", rfl, by decide, ty_str K H x, true, rfl, iteT ?_⟩
    refine ⟨_, rfl, _, _, rfl, ⟨len_small hx, rfl⟩, _, rfl, _, _, rfl, ⟨len_small hx, rfl⟩, rfl, _, rfl, iT rfl ?_⟩
    refine ⟨_, rfl, _, _, rfl, ⟨len_small hx, rfl⟩, (x.length : Int), rfl, by omega, by omega, fun D hD => lc_it (walk_range (lo := 0) (n := x.length)) (Lc D fun i acc H' => Same H H' ∧ acc = []) (lc_start ⟨same_new hD _, rfl⟩) (fun i H' _ p => trivial) (fun i y H1 H2 hi p y2 => ?_) (fun H' p => ?_)⟩
    · obtain ⟨acc, e, hl', g, rfl⟩ := p
      obtain ⟨rfl, rfl⟩ := y2
      obtain ⟨c, h1, h2⟩ := cut_one hi
      have e0 : (0 : Int) + (i : Nat) = ((i : Nat) : Int) := by omega
      refine ⟨rfl, _, rfl, _, rfl, _, rfl, _, rfl, _, _, rfl, rfl, _, rfl, x, rfl, len_small hx, _, rfl, _, rfl, x, _, c, rfl, rfl, len_small hx, by rw [e0]; exact h1, rfl, _, rfl, ?_⟩
      refine niT ?_ ⟨[], e, Nat.zero_le _, g, rfl⟩
      have e1 : (0 : Int) + (i : Nat) + 1 = (((i + 1 : Nat)) : Int) := by omega
      rw [e1, e0, h2]
    · obtain ⟨acc, e, hl', g, rfl⟩ := p
      refine ⟨(by show 0 ≤ sizeLine; decide), fun z hz => ?_⟩
      have gz : Same H' (upd H' z (.lst [])) := same_new hz _
      refine ⟨.list [], .list [], .lst (SqL.of (gz _ _ e)) .nil, .lst (SqL.of upd_same) .nil, shaped_nil, shaped_nil, ?_⟩
      exact q _ (g.trans gz)
  | @dct m a kvs h hz f =>
    have ty : Ty K H (.ref a) "dict" := ty_dK (.inl h)
    refine ⟨_, rfl, rfl, _, rfl, iF nofun ?_⟩
    refine ⟨_, rfl, _, "bool", "dict", rfl, by decide, ty, false, rfl, ?_⟩
    refine iteF ?_
    refine ⟨_, rfl, _, "int", "dict", rfl, by decide, ty, false, rfl, ?_⟩
    refine iteF ?_
    refine ⟨_, rfl, _, "str", "dict", rfl, by decide, ty, false, rfl, ?_⟩
    refine iteF ?_
    refine ⟨_, rfl, _, "dict", "dict", rfl, by decide, ty, true, rfl, iteT ?_⟩
    refine ⟨_, rfl, _, "dict", "dict", rfl, by decide, ty, true, rfl, iteT ?_⟩
    refine ⟨_, rfl, a, kvs, rfl, h, fun l hl => ?_⟩
    have g1 := same_new hl (.lst (kvs.map fun p => kV p.1))
    refine ⟨_, rfl, a, kvs, rfl, g1 _ _ h, fun l2 hl2 => ?_⟩
    have g2 := g1.trans (same_new hl2 (.lst (kvs.map fun p => kV p.1)))
    refine ⟨.list (kvs.map keyD), .list (kvs.map keyD), .lst (SqL.of ((same_new hl2 _) _ _ upd_same)) (keyD_all _ kvs), .lst (SqL.of upd_same) (keyD_all _ kvs), keyD_shaped f, keyD_shaped f, _, rfl, ?_⟩
    rw [keyD_eqv f]
    refine iteT ⟨a, _, g2 _ _ h, trivial, fun od => ?_⟩
    have h2 := g2 _ _ h
    generalize hG : (upd (upd H l (HO.lst (kvs.map fun p => kV p.1))) l2 (HO.lst (kvs.map fun p => kV p.1))) = G at h2 g2 ⊢
    refine ⟨_, rfl, a, od, rfl, .inl ⟨kvs, upd_same, fun D hD => lc_it (walk_keys (d := a) (o := od) (kvs := kvs)) (Lc D fun i acc H' => Same (upd G a (.frz od (.dK kvs))) H' ∧ acc = []) (lc_start ⟨same_new hD _, rfl⟩) (fun i H' _ p => ?_) (fun i y H3 H4 hi p y2 => ?_) (fun H' p => ?_)⟩⟩
    · obtain ⟨acc, e, hl', g, rfl⟩ := p
      exact g _ _ upd_same
    · obtain ⟨acc, e, hl', g, rfl⟩ := p
      obtain ⟨rfl, k, v, hk, rfl⟩ := y2
      obtain ⟨x, i2, hp, _, hv⟩ := f (k, v) (List.mem_of_getElem? hk)
      cases hp
      have hd : DGet H4 a (kV (Sum.inr x)) (some (.int i2)) := .inl ⟨kvs, Sum.inr x, .inr ⟨od, g _ _ upd_same⟩, rfl, hv.symm⟩
      refine ⟨rfl, _, rfl, _, rfl, a, _, rfl, hd, _, rfl, _, rfl, a, _, rfl, hd, by omega, .int i2, .int i2, rfl, .int _ i2, fun H5 g5 => ⟨true, rfl, ?_⟩⟩
      exact iteF ⟨[], g5 _ _ e, Nat.zero_le _, g.trans g5, rfl⟩
    · obtain ⟨acc, e, hl', g, rfl⟩ := p
      refine ⟨g _ _ upd_same, ?_⟩
      have ha : a ≠ D := ne_of_none upd_same hD
      have gF : Same G (upd H' a (.dK kvs)) := fun c o hc => by
        by_cases hca : c = a
        · subst hca
          rw [h2] at hc
          cases hc
          exact upd_same
        · rw [upd_ne hca]
          exact g _ _ (by rw [upd_ne hca]; exact hc)
      have e' : (upd H' a (.dK kvs)) D = some (.lst []) := by rw [upd_ne ha.symm]; exact e
      refine ⟨(by show 0 ≤ sizeLine; decide), fun z hz => ?_⟩
      have gz : Same (upd H' a (.dK kvs)) (upd (upd H' a (.dK kvs)) z (.lst [])) := same_new hz _
      refine ⟨.list [], .list [], .lst (SqL.of (gz _ _ e')) .nil, .lst (SqL.of upd_same) .nil, shaped_nil, shaped_nil, ?_⟩
      exact q _ (g2.trans (gF.trans gz))
  | @lst m a b xs ys h h' hl hz f =>
    have ty : Ty K H (.ref a) "list" := ty_lst h
    have ty' : Ty K H (.ref b) "list" := ty_lst h'
    refine ⟨_, rfl, rfl, _, rfl, iF nofun ?_⟩
    refine ⟨_, rfl, _, "bool", "list", rfl, by decide, ty', false, rfl, ?_⟩
    refine iteF ?_
    refine ⟨_, rfl, _, "int", "list", rfl, by decide, ty', false, rfl, ?_⟩
    refine iteF ?_
    refine ⟨_, rfl, _, "str", "list", rfl, by decide, ty', false, rfl, ?_⟩
    refine iteF ?_
    refine ⟨_, rfl, _, "dict", "list", rfl, by decide, ty', false, rfl, ?_⟩
    refine iteF ?_
    refine ⟨_, rfl, _, "list", "list", rfl, by decide, ty, _, rfl, _, "list", "list", rfl, by decide, ty', rfl, _, rfl, niT rfl ?_⟩
    refine ⟨_, rfl, _, "tuple", "list", rfl, by decide, ty, _, rfl, _, "tuple", "list", rfl, by decide, ty', rfl, _, rfl, niT rfl ?_⟩
    refine ⟨_, rfl, (by show 2 ≤ sizeLine; decide), fun p hp => ?_⟩
    have g := same_new hp (.tup [.ty "list", .ty "tuple"])
    refine ⟨_, p, "list", "tuple", "list", rfl, upd_same, by decide, by decide, ty_same g ty', true, rfl, iteF ?_⟩
    refine ⟨_, rfl, _, _, rfl, .inl ⟨_, (g.seq h), rfl⟩, _, rfl, _, _, rfl, .inl ⟨_, (g.seq h'), rfl⟩, rfl, _, rfl, iT (int_eq (by rw [hl])) ?_⟩
    refine ⟨_, rfl, _, _, rfl, .inl ⟨_, (g.seq h'), rfl⟩, (ys.length : Int), rfl, by omega, by omega, fun D hD => lc_it (walk_range (lo := 0) (n := ys.length)) (Lc D fun i acc H' => Same (upd H p (.tup [.ty "list", .ty "tuple"])) H' ∧ acc = []) (lc_start ⟨same_new hD _, rfl⟩) (fun i H' _ p => trivial) (fun i y H1 H2 hi p y2 => ?_) (fun H' p => ?_)⟩
    · obtain ⟨acc, e, hl', g2, rfl⟩ := p
      obtain ⟨rfl, rfl⟩ := y2
      have e0 : (0 : Int) + (i : Nat) = ((i : Nat) : Int) := by omega
      have hx : xs[i]? = some (xs[i]'(by omega)) := List.getElem?_eq_getElem (by omega)
      have hy : ys[i]? = some ys[i] := List.getElem?_eq_getElem hi
      have g3 := g.trans g2
      refine ⟨rfl, _, rfl, _, rfl, .inl ⟨a, xs, _, _, rfl, rfl, (g3.seq h), by rw [e0]; exact atI_nat hx, _, rfl, _, rfl, .inl ⟨b, ys, _, _, rfl, rfl, (g3.seq h'), by rw [e0]; exact atI_nat hy, by omega, _, _, rfl, (f i _ _ hx hy).same g3, fun H5 g5 => ⟨true, rfl, ?_⟩⟩⟩⟩
      exact iteF ⟨[], g5 _ _ e, Nat.zero_le _, g2.trans g5, rfl⟩
    · obtain ⟨acc, e, hl', g2, rfl⟩ := p
      refine ⟨(by show 0 ≤ sizeLine; decide), fun z hz => ?_⟩
      have gz : Same H' (upd H' z (.lst [])) := same_new hz _
      refine ⟨.list [], .list [], .lst (SqL.of (gz _ _ e)) .nil, .lst (SqL.of upd_same) .nil, shaped_nil, shaped_nil, ?_⟩
      exact q _ (g.trans (g2.trans gz))
  | @tup m a b xs ys h h' hl hz f =>
    have ty : Ty K H (.ref a) "tuple" := ty_tup h
    have ty' : Ty K H (.ref b) "tuple" := ty_tup h'
    refine ⟨_, rfl, rfl, _, rfl, iF nofun ?_⟩
    refine ⟨_, rfl, _, "bool", "tuple", rfl, by decide, ty', false, rfl, ?_⟩
    refine iteF ?_
    refine ⟨_, rfl, _, "int", "tuple", rfl, by decide, ty', false, rfl, ?_⟩
    refine iteF ?_
    refine ⟨_, rfl, _, "str", "tuple", rfl, by decide, ty', false, rfl, ?_⟩
    refine iteF ?_
    refine ⟨_, rfl, _, "dict", "tuple", rfl, by decide, ty', false, rfl, ?_⟩
    refine iteF ?_
    refine ⟨_, rfl, _, "list", "tuple", rfl, by decide, ty, _, rfl, _, "list", "tuple", rfl, by decide, ty', rfl, _, rfl, niT rfl ?_⟩
    refine ⟨_, rfl, _, "tuple", "tuple", rfl, by decide, ty, _, rfl, _, "tuple", "tuple", rfl, by decide, ty', rfl, _, rfl, niT rfl ?_⟩
    refine ⟨_, rfl, (by show 2 ≤ sizeLine; decide), fun p hp => ?_⟩
    have g := same_new hp (.tup [.ty "list", .ty "tuple"])
    refine ⟨_, p, "list", "tuple", "tuple", rfl, upd_same, by decide, by decide, ty_same g ty', true, rfl, iteF ?_⟩
    refine ⟨_, rfl, _, _, rfl, .inr ⟨_, (same_tup g h), rfl⟩, _, rfl, _, _, rfl, .inr ⟨_, (same_tup g h'), rfl⟩, rfl, _, rfl, iT (int_eq (by rw [hl])) ?_⟩
    refine ⟨_, rfl, _, _, rfl, .inr ⟨_, (same_tup g h'), rfl⟩, (ys.length : Int), rfl, by omega, by omega, fun D hD => lc_it (walk_range (lo := 0) (n := ys.length)) (Lc D fun i acc H' => Same (upd H p (.tup [.ty "list", .ty "tuple"])) H' ∧ acc = []) (lc_start ⟨same_new hD _, rfl⟩) (fun i H' _ p => trivial) (fun i y H1 H2 hi p y2 => ?_) (fun H' p => ?_)⟩
    · obtain ⟨acc, e, hl', g2, rfl⟩ := p
      obtain ⟨rfl, rfl⟩ := y2
      have e0 : (0 : Int) + (i : Nat) = ((i : Nat) : Int) := by omega
      have hx : xs[i]? = some (xs[i]'(by omega)) := List.getElem?_eq_getElem (by omega)
      have hy : ys[i]? = some ys[i] := List.getElem?_eq_getElem hi
      have g3 := g.trans g2
      refine ⟨rfl, _, rfl, _, rfl, .inr (.inl ⟨a, xs, _, _, rfl, rfl, (same_tup g3 h), by rw [e0]; exact atI_nat hx, _, rfl, _, rfl, .inr (.inl ⟨b, ys, _, _, rfl, rfl, (same_tup g3 h'), by rw [e0]; exact atI_nat hy, by omega, _, _, rfl, (f i _ _ hx hy).same g3, fun H5 g5 => ⟨true, rfl, ?_⟩⟩)⟩)⟩
      exact iteF ⟨[], g5 _ _ e, Nat.zero_le _, g2.trans g5, rfl⟩
    · obtain ⟨acc, e, hl', g2, rfl⟩ := p
      refine ⟨(by show 0 ≤ sizeLine; decide), fun z hz => ?_⟩
      have gz : Same H' (upd H' z (.lst [])) := same_new hz _
      refine ⟨.list [], .list [], .lst (SqL.of (gz _ _ e)) .nil, .lst (SqL.of upd_same) .nil, shaped_nil, shaped_nil, ?_⟩
      exact q _ (g.trans (g2.trans gz))
theorem c_law_same (T : Tx w K mg) : ∀ n : Nat, Cal P w K mg base (n + 1) "_law_same" (spSame K n) []
  | 0 => by
    obtain ⟨fd, F⟩ := T.d_law_same
    have no : ∀ vs H Q E, ¬ spSame K 0 vs H Q E := fun vs H Q E h => by
      obtain ⟨hn, _⟩ := h
      omega
    refine cal_of F (ps := P_law_same) ⟨fun vs H Q E h => absurd h (no vs H Q E), fun A outer s H args us vs Q E _ _ _ _ h => absurd h (no vs H Q E)⟩ T.g_law_same
      fun _ _ _ _ _ _ us hl => match us, hl with | [_, _], _ => rfl
  | n + 1 => c_law_same_step T (c_law_same T n)
end
end K89
/-! several clauses 'except X as e'; calls by keywords alone of defs that may raise -/
namespace K89
open PySem PySem.Spec PyProof.Rows L2
open C8 (Cal pe_c)
abbrev TSx := Addr → Value → Option Addr → TS
/-- what the clauses wish, one behind the other; slot i is the name's -/
def wClauses (K : PySem.W.Frag) (i : Nat) (Wout : WX) (D : Ends) : List (Value × TSx) → WX
  | [] => Wout
  | (c, ts) :: r => wAs K c i ts (wClauses K i Wout D r) D
inductive Clauses (X : Cx) (n : Str) : List ExceptHandler → List (Value × TSx) → Prop where
  | nil : Clauses X n [] []
  | cons {x : Str} {c : Value} {ts : TSx} {b : Stmt} {bs : List Stmt} {p q : Pos} {hs : List ExceptHandler} {l : List (Value × TSx)} (nm : Names X x c)
      (su : ∀ (a : Addr) (o : Obj) (cls : Value) (d : Option Addr) (pn : List (Addr × Obj)), Zc cls d o → (∃ vs, o.data = .fields vs) → PSs (X.suite a ((a, o) :: pn)) (b :: bs) (ts a cls d)) (r : Clauses X n hs l) :
      Clauses X n (.ExceptHandler (some (.Name x p)) (some n) (b :: bs) q :: hs) ((c, ts) :: l)
section
variable {X : Cx} {n : Str} {i : Nat} {body : List Stmt} {h0 : ExceptHandler} {hs : List ExceptHandler} {l : List (Value × TSx)} {pos : Pos} {tb : WX → TS} {Wout : WX}
theorem ps_try_clauses (st : X.stack = X.env :: X.outer) (hf : X.env.frame = some X.env.locals) (hN : X.N.Nodup) (hi : X.N[i]? = some n) (hln : X.env.kindOf n = some .local) (tk : Takes X Wout)
    (hb : ∀ (W : WX) (pn : List (Addr × Obj)) (xe : Value → Shared → Prop), Takes (X.tr pn xe) W → PassesOwn (model X.prog X.w) X.A X.env xe → PSs (X.tr pn xe) body (tb W)) (hc : Clauses X n (h0 :: hs) l) :
    PS X (.Try body (h0 :: hs) [] [] pos) (fun D σ H => tb (wClauses X.K i Wout D l) D σ H) := by
  refine ⟨fun pins s σ H D I h => ?_⟩
  have ok := I.ok
  have fr : X.A.frames = some (X.env :: X.outer) := by rw [ok.frames, st]
  have loc : Loc X.env.scope n := .inl hln
  let wish : Value → Shared → Prop := fun e s₁ => wpAny (model X.prog X.w) X.A (noteFrame e X.env) (fun _ s₂ => wpAny (model X.prog X.w) X.A (setFlight e none) (fun _ s₃ => wpAny (model X.prog X.w) X.A (handleBy e X.env (h0 :: hs)) (SP X pins D) X.xe s₃) X.xe s₂) X.xe s₁
  have caught : Takes (X.tr (X.pn ++ pins) wish) (wClauses X.K i Wout D l) := by
    intro u s' xx
    obtain ⟨a, B, sI, pins', σ', H', cls, d, rfl, J', nb, up, sky, na, os, ag, w⟩ := xx
    have J : Inv X pins σ' H' sI := J'.ofTry ok
    have sky' : Sky B (X.env :: X.outer) a (Zc cls d) X.env.locals s'.heap := by rw [← st]; exact sky
    show wpAny (model X.prog X.w) X.A (noteFrame (.ref a) X.env) _ _ _
    refine Sky.land Zc.steady fr hf sky' fun h3 fl up3 => ?_
    have J3 : Inv X pins σ' H' { s' with heap := h3 } := J.landed nb fl.1 (up.trans up3) os ag
    obtain ⟨oe, vs, he, hz, hd⟩ := fl.there
    have off : a ∉ frs (X.env :: X.outer) := fun hm => by
      obtain ⟨_, o', e', hnf⟩ := fl.2.2.1.mem hm
      rw [he] at e'
      cases e'
      exact hnf _ hd
    have nL : a ≠ X.env.locals := fun z => off (List.mem_filterMap.mpr ⟨X.env, List.mem_cons_self, by rw [hf, z]⟩)
    have nF : a ∉ X.fs := fun hm => by
      obtain ⟨e, he, q⟩ := List.mem_filterMap.mp hm
      exact off (List.mem_filterMap.mpr ⟨e, List.mem_cons_of_mem _ he, q⟩)
    have S3 := J3.suite he hd na nL nF
    have go : ∀ {hs' : List ExceptHandler} {l' : List (Value × TSx)}, Clauses X n hs' l' → wClauses X.K i Wout D l' cls d σ' H' → wpAny (model X.prog X.w) X.A (handleBy (.ref a) X.env hs') (SP X pins D) X.xe { s' with heap := h3 } := by
      intro hs' l' hk
      induction hk with
      | nil =>
        intro w
        refine wpAny_handleBy_nil ?_
        obtain ⟨_, _, _, oe2, vs2, T, oT, ts', he2, hz2, hd2, h1, _⟩ := id fl
        unfold PySem.passOn
        refine wpAny_bind (wpAny_field he2 hd2 h1 ?_)
        rw [if_neg (show ¬ ((Value.ref T == Value.none) = true) by simp)]
        have up_ : wpAny (model X.prog X.w) X.A (setFlight (.ref a) X.env.frame) (fun _ s4 => wpAny (model X.prog X.w) X.A (throw (.ref a) : Sem Flow) (SP X pins D) X.xe s4) X.xe { s' with heap := h3 } := by
          rw [hf]
          exact HandSPX.setFlight_upZ fl fun h4 hh4 up4 => wpAny_throw (tk _ _ ⟨a, B, sI, pins, σ', H', cls, d, rfl, J, nb, (up.trans up3).trans up4, .inr (.inr (by rw [st]; exact hh4)), na, os, ag, w⟩)
        first
          | exact wpAny_bind (wpAny_pure (wpAny_bind up_))
          | exact wpAny_bind up_
      | @cons x c ts b bs p q hs2 l2 nm su r ih =>
        intro w
        obtain ⟨k, hk1, yes, no⟩ := w
        refine wpAny_handleBy_cons (codeAny_handlers_test ?_) (by intro z; cases z)
        have LT : PySem.W.Looks (model X.prog X.w) h3 (typeOf (.ref a)) cls := fun A Q E s kk q => wpAny_typeOf_ref (kk _ _ he) (by rw [hz.1]; exact q)
        have LM := PySem.W.exm_one (M := model X.prog X.w) (J3.kIn) LT hk1
        have test : ∀ {Q : Value → Shared → Prop} {E : Value → Shared → Prop}, Q c { s' with heap := h3 } → wpAny (model X.prog X.w) (X.A.mark (some (.ref a))) (eval (.Name x p) X.env) Q E { s' with heap := h3 } := fun {Q E} q => by
          obtain ⟨hg, hdbg, hm | ⟨hm, hv, hnn⟩⟩ := nm
          · exact ld_glob (X := X.suite a ((a, oe) :: (X.pn ++ pins))) S3 hg hm q hdbg
          · exact ld_blt (X := X.suite a ((a, oe) :: (X.pn ++ pins))) S3 hg hm hv q hnn hdbg
        refine test (LM.here ?_)
        cases k with
        | true =>
          refine codeAny_handlers_suite_as (HandSPX.lands_againZ fl fun h4 fl4 up4 => ?_)
          have J4 : Inv X pins σ' H' { s' with heap := h4 } := J.landed nb fl4.1 ((up.trans up3).trans up4) os ag
          obtain ⟨oe4, vs4, he4, hz4, hd4⟩ := fl4.there
          refine store_ok (X := X.suite a ((a, oe4) :: (X.pn ++ pins))) (v := .ref a) (J4.suite he4 hd4 na nL nF) hN hi loc rfl (fun s5 S5 => ?_) (.inr hln)
          refine wpAny_mono ((su a oe4 cls d (X.pn ++ pins) hz4 ⟨_, hd4⟩).run [] s5 _ H' _ S5 (yes rfl a na)) (fun f s6 hsp => ?_) (fun _ _ z => False.elim z)
          have over : ∀ {σ6 : L2.St} {H6 : Hp} {Q : Shared → Prop}, Inv (X.suite a ((a, oe4) :: (X.pn ++ pins))) [] σ6 H6 s6 → (∀ s7, Inv X pins (σ6.set i none) H6 s7 → Q s7) →
              wpAny (model X.prog X.w) X.A (do bindName X.env n .none; unbindBehindTheSuite X.env n q) (fun _ s7 => Q s7) X.xe s6 := fun {σ6 H6 Q} S6 hq => gone_ok (S6.unsuite ok) hN hi hln hq
          cases f with
          | next => obtain ⟨σ6, H6, S6, q6⟩ := hsp; exact over S6 fun s7 J7 => ⟨_, _, J7, q6⟩
          | brk => obtain ⟨σ6, H6, S6, q6⟩ := hsp; exact over S6 fun s7 J7 => ⟨_, _, J7, q6⟩
          | cont => obtain ⟨σ6, H6, S6, q6⟩ := hsp; exact over S6 fun s7 J7 => ⟨_, _, J7, q6⟩
          | ret u => obtain ⟨v6, σ6, H6, S6, r6, q6⟩ := hsp; exact over S6 fun s7 J7 => ⟨_, _, _, J7, r6, q6⟩
        | false =>
          show wpAny _ X.A (handleBy (.ref a) X.env hs2) _ _ _
          exact ih (no rfl)
    exact go hc w
  refine wpAny_Try_except (wpAny_mono ((hb _ (X.pn ++ pins) wish caught PassesOwn.looking).run [] s σ H D (I.toTry _) h) (fun f s1 hsp => ?_) (fun e s1 he => he))
  cases f with
  | next => obtain ⟨σ', H', J', q⟩ := hsp; exact wpAny_execs_nil ⟨σ', H', J'.ofTry ok, q⟩
  | brk => obtain ⟨σ', H', J', q⟩ := hsp; exact ⟨σ', H', J'.ofTry ok, q⟩
  | cont => obtain ⟨σ', H', J', q⟩ := hsp; exact ⟨σ', H', J'.ofTry ok, q⟩
  | ret u => obtain ⟨v, σ', H', J', r, q⟩ := hsp; exact ⟨v, σ', H', J'.ofTry ok, r, q⟩
end
/-! ### f(k = v, ..) of a def that may raise -/
section
variable {X : Cx} {CX : CXT} {k : Nat} {f : Addr} {fd : FuncData} {ps ks : List Str} {sp : Sp} {E : L2.St → XK} {x : Str} {p pos : Pos} {kws : List Keyword} {tk : TA} {g : List Value → List Value → List Value} {gV : List V → List V → List V}
def tCallKS (m : Nat) (sp : Sp) (gV : List V → List V → List V) (E : L2.St → XK) (tk : TA) : TE := fun σ H Q => tk σ H fun zs H2 => zs.length = m ∧ sp (gV [] zs) H2 Q (E σ)
theorem pe_callKS (F : FnOk X.prog X.w X.K X.mg X.base CX k f fd ps sp) (hr : Room k X.A) (hg : Gl X x) (hm : X.mg x = some (.ref f)) (hk : PySem.W.keepIn X.K (.ref f) = true) (hb : KBn X.K fd ps 0 ks g gV) (hx : ∀ σ, PassesAt CX X σ (E σ))
    (hkw : PK X kws tk) (hall : (backToKw pos (keywordEach kws X.env)).all (·.1.isSome) = true := by rfl) (hks : (backToKw pos (keywordEach kws X.env)).filterMap (·.1) = ks := by rfl)
    (hdb : (x == ("__debug__" : Str)) = false := by decide)
    (hpl : ((backTo pos (starEach [] X.env)).any (·.1) || (backToKw pos (keywordEach kws X.env)).any (·.1.isNone)) = false := by rfl) :
    PE X (.Call (.Name x p) [] kws pos) (tCallKS ks.length sp gV E tk) := by
  refine ⟨fun pins s σ H Q I h => ?_⟩
  refine wpAny_Call_Name_kw (ld_glob I hg hm ?_ hdb)
  refine PySem.W.callWith_KW0 (h₀ := X.base) I.ok.mod.kin hk hall ?_ hpl
  refine thn (hkw.run pos pins s σ H _ I h) fun ws s2 r2 => ?_
  obtain ⟨zs, H2, I2, rz, l2, q2⟩ := r2
  refine ⟨I2.kIn, ?_⟩
  rw [hks]
  have rr := hb.rel (.nil : Vals [] []) rz
  refine wpAny_call (codeAny_mono (F.run X.A X.stack s2 H2 ⟨[], ks.zip ws⟩ (g [] ws) (gV [] zs) Q (E σ) hr I2.env0 (hb.to s2 [] ws I2.kIn rfl (rz.length.symm.trans l2)) rr q2) fun r s' hq => ?_)
  cases r with
  | error e => exact hx σ pins H2 s2 e s' I2 hq
  | ok fl =>
    cases fl with
    | ret u => exact I2.after hq
    | next => exact False.elim hq
    | brk => exact False.elim hq
    | cont => exact False.elim hq
end
end K89
namespace K89
open PySem PySem.Spec PyProof.Rows L2
open C8 (Cal pe_c)
def rev2 {α : Type} : List α → List α
  | [a, b] => [b, a]
  | l => l
theorem rev2_vals {vs : List V} {us : List Value} (r : Vals vs us) : Vals (rev2 vs) (rev2 us) := by
  cases r with
  | nil => exact .nil
  | cons h r =>
    cases r with
    | nil => exact .cons h .nil
    | cons h2 r =>
      cases r with
      | nil => exact .cons h2 (.cons h .nil)
      | cons h3 r => exact .cons h (.cons h2 (.cons h3 r))
section
variable {P : Program} {w : World} {K : PySem.W.Frag} {mg : Str → Option Value} {base : Heap}
theorem kb_of {x qual : Str} {params : Arguments} {body : List Stmt} {scope : Scope} {f : Addr} {fd : FuncData} {ps ks : List Str} (F : FunD K x qual params body scope [] [] f fd) (hk : ks.length = 2)
    (h : ∀ (kV doc pm : Value) (an : Option Addr) (cdv ct a b : Value), bindArgs (PySem.W.fnOf x qual params body scope .none kV doc pm an cdv ct) ⟨[], ks.zip [a, b]⟩ = pure (ps.zip [b, a])) : KBn K fd ps 0 ks (fun _ ws => rev2 ws) (fun _ zs => rev2 zs) := by
  obtain ⟨oc, od, dV, kV, doc, pm, an, cdv, ct, osl, rfl, lk, hcd, hD, hK⟩ := F.ex
  rcases hD with ⟨_, rfl⟩ | ⟨e, _⟩
  · refine ⟨fun s us ws X l1 l2 => ?_, fun r1 r2 => rev2_vals r2⟩
    match us, ws, l1, l2.trans hk with
    | [], [a, b], _, _ => exact .of_eq (h kV doc pm an cdv ct a b)
  · exact absurd rfl e
theorem kb_changed_all {fd : FuncData} (F : FunD K "changed_all" "changed_all" (defArgs s_changed_all) (defBody s_changed_all) (defScope s_changed_all) [] [] (He.ga K "changed_all") fd) : KBn K fd P_changed_all 0 ["rows", "term"] (fun _ ws => rev2 ws) (fun _ zs => rev2 zs) :=
  kb_of F rfl fun _ _ _ _ _ _ _ _ => rfl
theorem kb_unlike_spots {fd : FuncData} (F : FunD K "unlike_spots" "unlike_spots" (defArgs s_unlike_spots) (defBody s_unlike_spots) (defScope s_unlike_spots) [] [] (He.ga K "unlike_spots") fd) : KBn K fd N_unlike_spots 0 ["other", "one"] (fun _ ws => rev2 ws) (fun _ zs => rev2 zs) :=
  kb_of F rfl fun _ _ _ _ _ _ _ _ => rfl
/-! ### _law_grow -/
def spGrow (K : PySem.W.Frag) : Sp := fun vs H Q _ => ∃ v, vs = [v] ∧ ((∃ a xs, v = .ref a ∧ H a = some (.lst xs) ∧ xs.length ≤ 1000 ∧ Q .non (upd H a (.lst (xs ++ [.str "more"])))) ∨
  (∃ a kvs, v = .ref a ∧ H a = some (.dK kvs) ∧ kvs.length ≤ 1000 ∧ Q .non (upd H a (.dK (putK kvs (Sum.inr "more") (.int 1))))) ∨ (∃ c, Ty K H v c ∧ c ≠ "list" ∧ c ≠ "dict" ∧ c ≠ "tuple" ∧ Q .non H))
abbrev N_law_grow : List Str := ["value", "item"]
abbrev P_law_grow : List Str := ["value"]
theorem sc_law_grow : FnScope N_law_grow P_law_grow (defScope s_law_grow) := ⟨rfl, rfl, rfl, by decide +kernel, rfl, by decide +kernel, by decide +kernel⟩
theorem c_law_grow (T : Tx w K mg) : Cal P w K mg base 1 "_law_grow" (spGrow K) [] := by
  obtain ⟨fd, F⟩ := T.d_law_grow
  refine cal_of F (F.ok sc_law_grow (fun vs H Q E h => ?_) (fun cdv A outer s H vs Q E hr h => ⟨_, PSs.nox (pss_one (ps_if (pt_val (xIs T.n_isinstance T.n_list b_list (pv 0))) (pss_one (ps_expr (pe_bm PySem.F.plainAttrs_list PySem.F.slot_list_append PySem.F.type_list_append mt_append (pv 0) (pa_cons pe_str pa_nil)))) (pss_one (ps_if (pt_val (xIs T.n_isinstance T.n_dict b_dict (pv 0))) (pss_one (ps_dput (hu_of hr) (pv 0) pe_str pe_int rfl)) (pss_one (ps_if (pt_val (xIs T.n_isinstance T.n_tuple b_tuple (pv 0))) pss_never pss_nil)))))), ?_⟩)) T.g_law_grow
    fun _ _ _ _ _ _ us hl => match us, hl with | [_], _ => rfl
  · obtain ⟨v, rfl, _⟩ := h
    rfl
  obtain ⟨v, rfl, h⟩ := h
  rcases h with ⟨a, xs, rfl, hL, hl, q⟩ | ⟨a, kvs, rfl, hD, hl, q⟩ | ⟨c, ty, h1, h2, h3, q⟩
  · refine ⟨_, rfl, _, "list", "list", rfl, by decide, ty_lst (SqL.of hL), true, rfl, iteT ?_⟩
    exact ⟨_, rfl, .inl ⟨rfl, _, SqL.of hL⟩, a, xs, _, rfl, rfl, hL, small1000 hl, q⟩
  · refine ⟨_, rfl, _, "list", "dict", rfl, by decide, ty_dK (.inl hD), false, rfl, iteF ?_⟩
    refine ⟨_, rfl, _, "dict", "dict", rfl, by decide, ty_dK (.inl hD), true, rfl, iteT ?_⟩
    exact ⟨_, rfl, a, _, rfl, DPut.k (k := Sum.inr "more") hD (small1000 hl), q⟩
  · refine ⟨_, rfl, _, "list", c, rfl, by decide, ty, false, by rw [isB_ne h1 (by decide)], iteF ?_⟩
    refine ⟨_, rfl, _, "dict", c, rfl, by decide, ty, false, by rw [isB_ne h2 (by decide)], iteF ?_⟩
    refine ⟨_, rfl, _, "tuple", c, rfl, by decide, ty, false, by rw [isB_ne h3 (by decide)], iteF q⟩
/-! ### _law_asked -/
/-- a new list of a word and a value -/
def Told (H : Hp) (word : Str) (v : V) (Q : VK) : Prop := ∀ r H', Same H H' → H r = none → H' r = some (.lst [.str word, v]) → Q (.ref r) H'
theorem Told.same {H H' : Hp} {word : Str} {v : V} {Q : VK} (h : Told H word v Q) (e : Same H H') : Told H' word v Q := fun r H2 g n q => h r H2 (e.trans g) (e.free n) q
def spAsked (K : PySem.W.Frag) : Sp := fun vs H Q _ => ∃ (v rv : V) (turn : Int), vs = [v, rv, .int turn] ∧ spChanged K [v, rv] H (fun u H1 => Told H1 "told" u Q)
  (fun cls dd H1 => ∃ d x, dd = some d ∧ H1 d = some (.xd [("found", x)]) ∧ ((cls = .ref (He.ga K "NoTerm") ∧ Told H1 "term" x Q) ∨ (cls = .ref (He.ga K "NoList") ∧ Told H1 "list" x Q) ∨ (cls = .ref (He.ga K "NoSpot") ∧ Told H1 "spot" x Q)))
abbrev N_law_asked : List Str := ["term", "rows", "turn", "e"]
abbrev P_law_asked : List Str := ["term", "rows", "turn"]
theorem sc_law_asked : FnScope N_law_asked P_law_asked (defScope s_law_asked) := ⟨rfl, rfl, rfl, by decide +kernel, rfl, by decide +kernel, by decide +kernel⟩
theorem spChanged_mono {vs : List V} {H : Hp} {Q Q' : VK} {E E' : XK} (h : spChanged K vs H Q E) (hq : ∀ u H', Q u H' → Q' u H') (he : ∀ c d H', E c d H' → E' c d H') : spChanged K vs H Q' E' := by
  have hb : ∀ {x : Str} {v : V}, Bad K H x v E → Bad K H x v E' := fun h d H' g n q => he _ _ _ (h d H' g n q)
  obtain ⟨v, rv, e, h⟩ := h
  refine ⟨v, rv, e, ?_⟩
  rcases h with ⟨h1, h2⟩ | ⟨t, h1, h2, h⟩
  · exact .inl ⟨h1, hb h2⟩
  · refine .inr ⟨t, h1, h2, ?_⟩
    rcases h with ⟨c, h3, h4, h5, h6⟩ | ⟨a, xs, bs, h3, h4, h5, h6, h7, h8, h9⟩ | ⟨a, xs, rows, svs, h3, h4, h5, h6, h7, h⟩
    · exact .inl ⟨c, h3, h4, h5, hb h6⟩
    · exact .inr (.inl ⟨a, xs, bs, h3, h4, h5, h6, h7, h8, hb h9⟩)
    · refine .inr (.inr ⟨a, xs, rows, svs, h3, h4, h5, h6, h7, ?_⟩)
      rcases h with ⟨h8, h9⟩ | ⟨h8, h9⟩ | ⟨s, o, sv, h8, h9, h10, h11⟩
      · exact .inl ⟨h8, hb h9⟩
      · exact .inr (.inl ⟨h8, fun r H' g z => hq _ _ (h9 r H' g z)⟩)
      · exact .inr (.inr ⟨s, o, sv, h8, h9, h10, hb h11⟩)
theorem exm_of' {x y : Str} {b : Bool} (h : exmB K x y b = true) : PySem.W.exmOne K (.ref (He.ga K x)) (.ref (He.ga K y)) = some b := of_decide_eq_true h
theorem c_law_asked (T : Tx w K mg) : Cal P w K mg base 24 "_law_asked" (spAsked K) [] := by
  obtain ⟨fd, F⟩ := T.d_law_asked
  have X := fx_of T
  obtain ⟨fdc, okc, Fc⟩ := ok_changed_all (P := P) (base := base) T
  refine cal_of F (F.ok sc_law_asked (fun vs H Q E h => ?_) (fun cdv A outer s H vs Q E hr h => ⟨_, PSs.nox (pss_one (ps_try_clauses (i := 3) rfl rfl sc_law_asked.nd rfl rfl takes_none5
    (fun W pn xe tk _ => (pss_one (ps_ret (pe_lst (pa_cons pe_str (pa_cons (pe_ifExp (pt_cmpR op_eq (pv 2) pe_int (nomark _)) (pe_cr (c_changed_all T) hr (by decide) rfl tk (pa_cons (pv 0) (pa_cons (pv 1) pa_nil)))
      (pe_callKS okc (hr.mono (by decide)) rfl T.g_changed_all Fc.kp (kb_changed_all Fc) (fun σ => passAt tk σ) (pk_cons (pv 1) (pk_cons (pv 0) pk_nil)))) pa_nil))))))
    (.cons ⟨rfl, rfl, .inl T.g_NoTerm⟩ (fun a oe cls d pn hz hf => pss_one (ps_ret (pe_lst (pa_cons pe_str (pa_cons (pe_xf X.eT.f X.eT.no hz hf (pv 3)) pa_nil)))))
      (.cons ⟨rfl, rfl, .inl T.g_NoList⟩ (fun a oe cls d pn hz hf => pss_one (ps_ret (pe_lst (pa_cons pe_str (pa_cons (pe_xf X.eL.f X.eL.no hz hf (pv 3)) pa_nil)))))
        (.cons ⟨rfl, rfl, .inl T.g_NoSpot⟩ (fun a oe cls d pn hz hf => pss_one (ps_ret (pe_lst (pa_cons pe_str (pa_cons (pe_xf X.eS.f X.eS.no hz hf (pv 3)) pa_nil))))) .nil))))), ?_⟩)) T.g_law_asked
    fun _ _ _ _ _ _ us hl => match us, hl with | [_, _, _], _ => rfl
  · obtain ⟨v, rv, turn, rfl, _⟩ := h
    rfl
  obtain ⟨v, rv, turn, rfl, h⟩ := h
  have told : ∀ {word : Str} {x : V} {H1 : Hp}, Told H1 word x Q → ([V.str word, x] : List V).length ≤ sizeLine ∧ ∀ p, H1 p = none → Q (.ref p) (upd H1 p (.lst [.str word, x])) := fun h => ⟨(by show 2 ≤ sizeLine; decide), fun p hp => h p _ (same_new hp _) hp upd_same⟩
  refine ⟨_, rfl, rfl, _, rfl, ?_⟩
  refine ite2 (fun c => ⟨_, rfl, _, rfl, spChanged_mono h (fun u H1 q => told q) (fun cls dd H1 z => ?_)⟩) (fun c => ⟨_, rfl, _, rfl, rfl, spChanged_mono h (fun u H1 q => told q) (fun cls dd H1 z => ?_)⟩)
  all_goals
    obtain ⟨d, x, rfl, hd, z⟩ := z
    rcases z with ⟨rfl, z⟩ | ⟨rfl, z⟩ | ⟨rfl, z⟩
    · exact ⟨true, exm_of' X.tt, fun _ a ha => ⟨_, rfl, rfl, rfl, d, _, x, rfl, hd, rfl, told z⟩, fun y => nomatch y⟩
    · exact ⟨false, exm_of' X.lt, fun y => (nomatch y), fun _ => ⟨true, exm_of' X.ll, fun _ a ha => ⟨_, rfl, rfl, rfl, d, _, x, rfl, hd, rfl, told z⟩, fun y => nomatch y⟩⟩
    · exact ⟨false, exm_of' X.st, fun y => (nomatch y), fun _ => ⟨false, exm_of' X.sl, fun y => (nomatch y), fun _ => ⟨true, exm_of' X.ss, fun _ a ha => ⟨_, rfl, rfl, rfl, d, _, x, rfl, hd, rfl, told z⟩, fun y => nomatch y⟩⟩⟩
end
end K89
namespace K89
open PySem PySem.Spec PyProof.Rows L2
open C8 (Cal pe_c)
section
variable {K : PySem.W.Frag} {H H' : Hp}
theorem RowR.tk {y sv : V} {r : Rw} (h : RowR K H y r sv) (e : TK K H H') : RowR K H' y r sv := by
  obtain ⟨b, ov, h1, h2, h3, h4⟩ := h
  exact ⟨b, ov, h1, e _ _ h2, dp_tk e (flat_sp _) h3, dp_tk e (flat_tm _) h4⟩
theorem RowsR.tk {xs svs : List V} {rs : List Rw} (h : RowsR K H xs rs svs) (e : TK K H H') : RowsR K H' xs rs svs := by
  induction h with
  | nil => exact .nil
  | cons h _ ih => exact .cons (h.tk e) ih
theorem RowsR.snoc {xs svs : List V} {rs : List Rw} {y sv : V} {r : Rw} (h : RowsR K H xs rs svs) (g : RowR K H y r sv) : RowsR K H (xs ++ [y]) (rs ++ [r]) (svs ++ [sv]) := by
  induction h with
  | nil => exact .cons g .nil
  | cons h _ ih => exact .cons h ih
theorem RowsR.perm {xs ys : List V} (p : ys.Perm xs) : ∀ {rs : List Rw} {svs : List V}, RowsR K H xs rs svs → ∃ rs' svs', RowsR K H ys rs' svs' ∧ rs'.Perm rs := by
  induction p.symm with
  | nil => intro rs svs h; exact ⟨rs, svs, h, .refl _⟩
  | cons x q ih =>
    intro rs svs h
    cases h with
    | cons h1 h2 =>
      obtain ⟨rs', svs', h3, h4⟩ := ih q.symm h2
      exact ⟨_, _, .cons h1 h3, h4.cons _⟩
  | swap x y r =>
    intro rs svs h
    cases h with
    | cons h1 h2 =>
      cases h2 with
      | cons h2 h3 => exact ⟨_, _, .cons h2 (.cons h1 h3), .swap ..⟩
  | trans p1 p2 ih1 ih2 =>
    intro rs svs h
    obtain ⟨rs1, svs1, h1, h2⟩ := ih1 p1.symm h
    obtain ⟨rs2, svs2, h3, h4⟩ := ih2 p2.symm h1
    exact ⟨rs2, svs2, h3, h4.trans h2⟩
theorem RowsR.app {xs svs xs' svs' : List V} {rs rs' : List Rw} (h : RowsR K H xs rs svs) (g : RowsR K H xs' rs' svs') : RowsR K H (xs ++ xs') (rs ++ rs') (svs ++ svs') := by
  induction h with
  | nil => exact g
  | cons h _ ih => exact .cons h ih
theorem RowsR.take {xs svs : List V} {rs : List Rw} (h : RowsR K H xs rs svs) : ∀ k, RowsR K H (xs.take k) (rs.take k) (svs.take k) := by
  induction h with
  | nil => intro k; simp; exact .nil
  | cons h _ ih =>
    intro k
    cases k with
    | zero => exact .nil
    | succ k => exact .cons h (ih k)
theorem RowsR.drop {xs svs : List V} {rs : List Rw} (h : RowsR K H xs rs svs) : ∀ k, RowsR K H (xs.drop k) (rs.drop k) (svs.drop k) := by
  induction h with
  | nil => intro k; simp; exact .nil
  | cons h t ih =>
    intro k
    cases k with
    | zero => exact .cons h t
    | succ k => exact ih k
end
theorem rows_at {t u : Tm} {i : Nat} {s : Spot} (h : (t.unlike u)[i]? = some s) : ∃ p, (rowsOf t u)[i]? = some (s, p) ∧ u.get s = some p := by
  have e := rowsOf_spots t u
  have h2 : ((rowsOf t u).map (·.1))[i]? = some s := by rw [e]; exact h
  rw [List.getElem?_map] at h2
  cases hr : (rowsOf t u)[i]? with
  | none => rw [hr] at h2; cases h2
  | some r =>
    rw [hr] at h2
    cases h2
    exact ⟨r.2, rfl, (rowsOf_mem (List.mem_of_getElem? hr)).2⟩
theorem rows_len (t u : Tm) : (rowsOf t u).length = (t.unlike u).length := by rw [← rowsOf_spots t u, List.length_map]
theorem fit_sub {t : Tm} {rows rows' : List Rw} (h : Fit t rows) (s : rows'.Sublist rows) : Fit t rows' := ⟨h.ap.sublist s, fun r hr => h.has r (s.subset hr)⟩
/-- one row left out -/
theorem less_at {t u : Tm} {k : Nat} (h : k < (rowsOf t u).length) : putAll t ((rowsOf t u).take k ++ (rowsOf t u).drop (k + 1)) ≠ u := by
  refine putAll_less (r := (rowsOf t u)[k]) ?_
  rw [← List.drop_eq_getElem_cons h, List.take_append_drop]
theorem less_sub {α : Type} (l : List α) (k : Nat) : (l.take k ++ l.drop (k + 1)).Sublist l := by
  conv => rhs; rw [← List.take_append_drop k l]
  refine List.Sublist.append (List.Sublist.refl _) ?_
  have e : l.drop (k + 1) = (l.drop k).drop 1 := by rw [List.drop_drop]
  rw [e]
  exact List.drop_sublist _ _
theorem rows_bd {t u : Tm} (h : t.ht ≤ 8) (hu : u.ht ≤ 8) : ∀ r ∈ rowsOf t u, r.1.length ≤ 100 ∧ r.2.ht ≤ 10 := fun r hr => by
  obtain ⟨h1, h2⟩ := rowsOf_mem hr
  have h3 := unlike_sp_len h1
  have h4 := get_ht u r.1 r.2 h2
  omega
theorem putAll_ht {n : Nat} : ∀ (rows : List Rw) {t : Tm}, t.ht ≤ n → (∀ r ∈ rows, r.1.length + r.2.ht ≤ n) → (putAll t rows).ht ≤ n
  | [], _, h, _ => h
  | r :: rs, t, h, hr => by
    refine putAll_ht rs (t := step t r) ?_ fun q hq => hr q (List.mem_cons_of_mem _ hq)
    have e := put_ht t r.1 r.2
    have e2 := hr r List.mem_cons_self
    show (t.put r.1 r.2).ht ≤ n
    omega
theorem rows_sum {t u : Tm} (hu : u.ht ≤ 8) : ∀ r ∈ rowsOf t u, r.1.length + r.2.ht ≤ 8 := fun r hr => by
  obtain ⟨_, h2⟩ := rowsOf_mem hr
  have := get_ht u r.1 r.2 h2
  omega
theorem cut_take (xs : List V) (k : Nat) : cutV xs none (some ((k : Nat) : Int)) = xs.take k := by
  unfold cutV
  rw [HT.sIx_nat, HT.sIx_none, List.drop_zero, Nat.sub_zero]
  by_cases h : k ≤ xs.length
  · rw [Nat.min_eq_left h]
  · rw [Nat.min_eq_right (by omega), List.take_of_length_le (Nat.le_refl _), List.take_of_length_le (by omega)]
theorem cut_drop (xs : List V) (k : Nat) : cutV xs (some ((k : Nat) : Int)) none = xs.drop k := by
  unfold cutV
  rw [HT.sIx_nat, HT.sIx_none]
  by_cases h : k ≤ xs.length
  · rw [Nat.min_eq_left h, List.take_of_length_le (by rw [List.length_drop]; omega)]
  · rw [Nat.min_eq_right (by omega), List.drop_eq_nil_of_le (Nat.le_refl _), List.drop_eq_nil_of_le (by omega)]
    simp
section
variable {P : Program} {w : World} {K : PySem.W.Frag} {mg : Str → Option Value} {base : Heap}
/-- changed_all at good rows -/
theorem chg {H : Hp} {Q : VK} {E : XK} {v : V} {a : Addr} {xs svs : List V} {rows : List Rw} {t : Tm} (ht : TmR K H v t) (h8 : t.ht ≤ 8) (hS : SqA K H a xs) (hR : RowsR K H xs rows svs) (hl : rows.length ≤ 30000) (hb : ∀ r ∈ rows, r.1.length ≤ 100 ∧ r.2.ht ≤ 10) (hf : Fit t rows)
    (q : ∀ r H', Same H H' → TmR K H' r (putAll t rows) → Q r H') : spChanged K [v, .ref a] H Q E :=
  ⟨v, .ref a, rfl, .inr ⟨t, ht, by omega, .inr (.inr ⟨a, xs, rows, svs, rfl, hS, hR, hl, hb, .inr (.inl ⟨hf, q⟩)⟩)⟩⟩
/-- unlike_spots at two terms -/
theorem unl {H : Hp} {Q : VK} {E : XK} {v v' : V} {t u : Tm} (ht : TmR K H v t) (hu : TmR K H v' u) (h8 : t.ht ≤ 8) (h8' : u.ht ≤ 8) (q : NewSps K H (t.unlike u) Q) : spUnlike K [v, v'] H Q E :=
  ⟨v, v', rfl, .inr ⟨t, ht, by omega, .inr ⟨u, hu, by omega, q⟩⟩⟩
def tTold (K : PySem.W.Frag) : TE := fun σ H Q => ∃ (v v' : V) (turn : Int) (t u : Tm), σ[1]? = some (some v) ∧ σ[2]? = some (some v') ∧ σ[3]? = some (some (.int turn)) ∧ TmR K H v t ∧ TmR K H v' u ∧ t.ht ≤ 8 ∧ u.ht ≤ 8 ∧ NewSps K H (t.unlike u) Q
def tGiven (K : PySem.W.Frag) : TE := fun σ H Q => ∃ (b r : Addr) (turn : Int) (n : Nat) (xs : List V), σ[0]? = some (some (.ref b)) ∧ σ[3]? = some (some (.int turn)) ∧ σ[6]? = some (some (.ref r)) ∧ Bx H b n ∧ H r = some (.lst xs) ∧ xs.length ≤ 30000 ∧ n + xs.length ≤ 1000000 ∧
  ∀ g H' ys, Mo b H H' → SqA K H' g ys → ys.Perm xs → Bx H' b (n + xs.length) → Q (.ref g) H'
def tChg (K : PySem.W.Frag) : TE := fun σ H Q => ∃ (v : V) (a : Addr) (turn : Int) (t : Tm) (xs : List V) (rows : List Rw) (svs : List V), σ[1]? = some (some v) ∧ σ[3]? = some (some (.int turn)) ∧ σ[7]? = some (some (.ref a)) ∧ TmR K H v t ∧ t.ht ≤ 8 ∧ SqA K H a xs ∧ RowsR K H xs rows svs ∧ rows.length ≤ 30000 ∧ (∀ r ∈ rows, r.1.length ≤ 100 ∧ r.2.ht ≤ 10) ∧ Fit t rows ∧
  ∀ r H', Same H H' → TmR K H' r (putAll t rows) → Q r H'
def spRight (K : PySem.W.Frag) : Sp := fun vs H Q _ => ∃ (b : Addr) (v v' : V) (turn : Int) (n : Nat) (t u : Tm), vs = [.ref b, v, v', .int turn] ∧ Bx H b n ∧ n + 3500 ≤ 1000000 ∧ TmR K H v t ∧ TmR K H v' u ∧ t.ht ≤ 8 ∧ u.ht ≤ 8 ∧ ∀ H', Mo b H H' → Bx H' b (n + 3500) → Q (.bl true) H'
abbrev N_law_pair_right : List Str := ["box", "one", "other", "turn", "due", "told", "rows", "given", "k", "spot"]
abbrev P_law_pair_right : List Str := ["box", "one", "other", "turn"]
theorem sc_law_pair_right : FnScope N_law_pair_right P_law_pair_right (defScope s_law_pair_right) := ⟨rfl, rfl, rfl, by decide +kernel, rfl, by decide +kernel, by decide +kernel⟩
theorem c_law_pair_right (T : Tx w K mg) : Cal P w K mg base 25 "_law_pair_right" (spRight K) [] := by
  obtain ⟨fd, F⟩ := T.d_law_pair_right
  obtain ⟨fdc, okc, Fc⟩ := ok_changed_all (P := P) (base := base) T
  obtain ⟨fdu, oku, Fu⟩ := ok_unlike_spots (P := P) (base := base) T
  refine cal_of F (F.ok sc_law_pair_right (fun vs H Q E h => ?_) (fun cdv A outer s H vs Q E hr h => ⟨_, PSs.nox (pss_cons (ps_set (i := 4) sc_law_pair_right.nd rfl (Or.inl rfl) (pe_c (c_law_unlike T 10) hr (by decide) rfl (pa_cons (pv 1) (pa_cons (pv 2) (pa_cons (pe_tup pa_nil) pa_nil)))))
    (pss_cons (ps_set (i := 5) sc_law_pair_right.nd rfl (Or.inl rfl) (PE.mono (t' := tTold K) (pe_ifExp (pt_cmpR op_eq (pv 3) pe_int (nomark _)) (pe_cq (c_unlike_spots T) hr (by decide) rfl (pa_cons (pv 1) (pa_cons (pv 2) pa_nil))) (pe_callK0 oku (hr.mono (by decide)) rfl T.g_unlike_spots Fu.kp (kb_unlike_spots Fu) passF (pk_cons (pv 2) (pk_cons (pv 1) pk_nil)))) (fun σ H1 Q1 h1 => ?_)))
    (pss_cons (ps_if (PW.pt (pw_or (pt_not (pt_val (pe_c (c_law_same T 11) hr (by decide) rfl (pa_cons (pv 5) (pa_cons (pv 4) pa_nil))))) (pw_or1 (pt_cmpR op_ne (pe_cmpR (op_eqD hr.units) (pv 5) (pe_lst pa_nil) (nomark _)) (pe_cmpR (op_eqD hr.units) (pv 1) (pv 2) (nomark _)) (nomark _))))) (pss_one (ps_ret pe_bl)) pss_nil)
    (pss_cons (ps_expr (pe_bm PySem.F.plainAttrs_list PySem.F.slot_list_append PySem.F.type_list_append mt_append (pv 5) (pa_cons pe_str pa_nil)))
    (pss_cons (ps_setLc (i := 6) (own := [("spot", 9)]) (g := (gName 9)) (tt := tYes) (by rfl) sc_law_pair_right.nd rfl rfl (sw_true rfl rfl rfl (by decide +kernel)) (pi_list (pv 4)) (blkOk_by (N := N_law_pair_right) (sc := defScope s_law_pair_right) (by decide +kernel)) (fun _ _ _ _ _ => (pg_name (i := 9) sc_law_pair_right.nd rfl (Or.inl rfl))) (fun _ _ _ _ _ => pts_nil) (fun _ _ _ _ _ => (pe_tup (pa_cons (pv 9) (pa_cons (pe_c (c_part_at T) hr (by decide) rfl (pa_cons (pv 2) (pa_cons (pv 9) pa_nil))) pa_nil)))))
    (pss_cons (ps_set (i := 7) sc_law_pair_right.nd rfl (Or.inl rfl) (PE.mono (t' := tGiven K) (pe_ifExp (pt_cmpR op_eq (pv 3) pe_int (nomark _)) (pe_callTy call_tuple_of rfl T.n_tuple b_tuple (pa_cons (pv 6) pa_nil)) (pe_c (c_law_shuffled T) hr (by decide) rfl (pa_cons (pv 0) (pa_cons (pv 6) pa_nil)))) (fun σ H1 Q1 h1 => ?_)))
    (pss_cons (ps_if (PW.pt (pw_or (pt_not (pt_val (pe_c (c_law_same T 11) hr (by decide) rfl (pa_cons (PE.mono (t' := tChg K) (pe_ifExp (pt_cmpR op_eq (pv 3) pe_int (nomark _)) (pe_cq (c_changed_all T) hr (by decide) rfl (pa_cons (pv 1) (pa_cons (pv 7) pa_nil))) (pe_callK0 okc (hr.mono (by decide)) rfl T.g_changed_all Fc.kp (kb_changed_all Fc) passF (pk_cons (pv 7) (pk_cons (pv 1) pk_nil)))) (fun σ H1 Q1 h1 => ?_)) (pa_cons (pv 2) pa_nil))))) (pw_or1 (pt_not (pt_val (pe_c (c_law_same T 11) hr (by decide) rfl (pa_cons (pe_cq (c_unlike_spots T) hr (by decide) rfl (pa_cons (pv 1) (pa_cons (pv 2) pa_nil))) (pa_cons (pv 4) pa_nil)))))))) (pss_one (ps_ret pe_bl)) pss_nil)
    (pss_cons (ps_for PassesOwn.never rfl (pi_range1 (by rfl) T.n_range (pa_cons (pe_callB call_len rfl T.n_len PySem.boot_len (pa_cons (pv 6) pa_nil)) pa_nil)) (pg_name (i := 8) sc_law_pair_right.nd rfl (Or.inl rfl))
      (pss_one (ps_if (pt_cmpR (op_eqD hr.units) (pe_cq (c_changed_all T) hr (by decide) rfl (pa_cons (pv 1) (pa_cons (pe_op op_cat (pe_slice sl_list (pv 6) po_none (po_some (pv 8))) (pe_slice sl_list (pv 6) (po_some (pe_op op_add (pv 8) pe_int)) po_none)) pa_nil))) (pv 2) (nomark _)) (pss_one (ps_ret pe_bl)) pss_nil)))
    (pss_one (ps_ret pe_bl)))))))))), ?_⟩)) T.g_law_pair_right
    fun _ _ _ _ _ _ us hl => match us, hl with | [_, _, _, _], _ => rfl
  · obtain ⟨b, v, v', turn, n, t, u, rfl, _⟩ := h
    rfl
  · obtain ⟨v, v', turn, t, u, e1, e2, e3, ht, hu, h8, h8', q⟩ := h1
    refine ⟨_, e3, rfl, _, rfl, ite2 (fun c => ?_) (fun c => ?_)⟩
    · exact ⟨_, e1, _, e2, unl ht hu h8 h8' q⟩
    · exact ⟨_, e2, _, e1, rfl, unl ht hu h8 h8' q⟩
  · obtain ⟨b, r, turn, n, xs, e0, e3, e6, hB, hr1, hl, hn, q⟩ := h1
    refine ⟨_, e3, rfl, _, rfl, ite2 (fun c => ?_) (fun c => ?_)⟩
    · refine ⟨_, e6, r, xs, rfl, .inl ⟨SqL.of hr1, fun g hg => ?_⟩⟩
      have gg := same_new hg (.tup xs)
      exact q g _ xs (Mo.of gg) (.inr (SqT.of upd_same)) (.refl _) ((hB.same gg).mono (by omega))
    · exact ⟨_, e0, _, e6, b, r, n, xs, rfl, hB, SqL.of hr1, hl, hn, fun g H' ys m _ hg hp B => q g H' ys m (.inl (SqL.of hg)) hp B⟩
  · obtain ⟨v, a, turn, t, xs, rows, svs, e1, e3, e7, ht, h8, hS, hR, hl, hb, hf, q⟩ := h1
    refine ⟨_, e3, rfl, _, rfl, ite2 (fun c => ?_) (fun c => ?_)⟩
    · exact ⟨_, e1, _, e7, chg ht h8 hS hR hl hb hf q⟩
    · exact ⟨_, e7, _, e1, rfl, chg ht h8 hS hR hl hb hf q⟩
  obtain ⟨b, v, v', turn, n, t, u, rfl, hB, hn, ht, hu, h8, h8', q⟩ := h
  have hsl : (t.unlike u).length ≤ 3280 := by
    have h1 := unlike_len t u
    have h2 := spots_len t
    have h3 := pow3 h8
    have h4 : (3 : Nat) ^ 8 = 6561 := by decide
    omega
  -- due
  refine ⟨_, rfl, _, rfl, (by show 0 ≤ sizeLine; decide), fun e he => ?_⟩
  have g0 := same_new he (.tup [])
  refine ⟨v, v', .ref e, t, u, [], rfl, dp_same g0 ht, dp_same g0 hu, .tup (SqT.of upd_same) .nil, by omega, by omega, by omega, by simp; omega, fun d H1 xs1 g1 hd hD1 hX1 => ?_⟩
  have em : (t.unlike u).map (([] : Spot) ++ ·) = t.unlike u := by simp
  rw [em] at hX1
  have g01 := g0.trans g1
  -- told
  refine ⟨v, v', turn, t, u, rfl, rfl, rfl, dp_same g01 ht, dp_same g01 hu, h8, h8', fun td H2 xs2 g2 htd hT2 hX2 => ?_⟩
  have g02 := g01.trans g2
  have hD2 := g2 _ _ hD1
  have slen : ∀ s ∈ t.unlike u, s.length ≤ 30000 := fun s hs => by have := unlike_sp_len hs; omega
  refine ⟨_, rfl, _, rfl, by decide, _, _, rfl, (sam_sps (SqL.of hT2) hX2 (SqL.of hD2) (sps_same g2 hX1) (by omega) slen).mono (by decide), fun H3 g3 => ⟨true, rfl, iteF ?_⟩⟩
  have g03 := g02.trans g3
  have hT3 := g3 _ _ hT2
  have hD3 := g3 _ _ hD2
  refine ⟨_, rfl, (by show 0 ≤ sizeLine; decide), fun z hz => ?_⟩
  have gz : Same H3 (upd H3 z (.lst [])) := same_new hz _
  refine ⟨.list _, .list [], .lst (SqL.of (gz _ _ hT3)) (sps_same (g3.trans gz) hX2), .lst (SqL.of upd_same) .nil, shaped_sps _, shaped_nil, ?_⟩
  refine ⟨_, rfl, _, rfl, t.data, u.data, dp_same (g03.trans gz) ht, dp_same (g03.trans gz) hu, shaped_tm (by omega), shaped_tm (by omega), rfl, _, rfl, ?_⟩
  rw [eqv_list_nil, eqv_tm]
  have eb : decide ((t.unlike u).map spD = []) = decide (t = u) := by
    by_cases h : t = u
    · rw [decide_eq_true h, decide_eq_true (sps_nil.mpr ((unlike_nil t u).mpr h))]
    · rw [decide_eq_false h, decide_eq_false (fun z => h ((unlike_nil t u).mp (sps_nil.mp z)))]
  rw [eb]
  refine niT rfl ?_
  -- told.append
  generalize hH4 : upd H3 z (.lst []) = H4 at gz ⊢
  have g04 := g03.trans gz
  have hT4 := gz _ _ hT3
  have hD4 := gz _ _ hD3
  have htdH : H td = none := g01.free htd
  have hdtd : d ≠ td := (ne_of_none hD1 htd)
  refine ⟨_, rfl, .inl ⟨rfl, _, SqL.of hT4⟩, td, xs2, _, rfl, rfl, hT4, line30' (by rw [sps_len hX2]; omega), ?_⟩
  have m45 : Mo td H4 (upd H4 td (.lst (xs2 ++ [.str "more"]))) := Mo.upd
  have g05 : Same H (upd H4 td (.lst (xs2 ++ [.str "more"]))) := same_own g04 htdH _
  have hD5 : (upd H4 td (.lst (xs2 ++ [.str "more"]))) d = some (.lst xs1) := m45 _ _ hdtd hD4
  have hX5 : SpsR K (upd H4 td (.lst (xs2 ++ [.str "more"]))) xs1 (t.unlike u) := sps_tk (m45.tk hT4) (sps_same (g2.trans (g3.trans gz)) hX1)
  generalize hH5 : upd H4 td (.lst (xs2 ++ [.str "more"])) = H5 at g05 hD5 hX5 ⊢
  have hx1l := sps_len hX5
  have hrl := rows_len t u
  -- rows
  refine ⟨_, rfl, d, rfl, ⟨_, SqL.of hD5⟩, fun R hR => lc_it (walk_list (xs := xs1)) (Lc R fun i acc H' => Same H5 H' ∧ RowsR K H' acc ((rowsOf t u).take i) (xs1.take i)) (lc_start ⟨same_new hR _, .nil⟩) (fun i H' _ p => ?_) (fun i x H6 H7 hi p y => ?_) (fun H' p => ?_)⟩
  · obtain ⟨acc, e, _, g, _⟩ := p
    exact SqL.of (g _ _ hD5)
  · obtain ⟨acc, e, hl', g, hA⟩ := p
    obtain ⟨rfl, hy⟩ := y
    obtain ⟨s, hs⟩ : ∃ s, (t.unlike u)[i]? = some s := ⟨_, List.getElem?_eq_getElem (by omega)⟩
    obtain ⟨dd, hd1, hd2⟩ := dpA_get hX5 hy
    rw [List.getElem?_map, hs] at hd1
    cases hd1
    obtain ⟨p, hp1, hp2⟩ := rows_at hs
    have hsp := unlike_sp_len (List.mem_of_getElem? hs)
    refine ⟨rfl, yT ⟨_, rfl, _, rfl, _, rfl, v', x, u, s, p, rfl, dp_same (g05.trans g) hu, dp_same g hd2, by omega, by omega, hp2, fun r H8 g8 hr8 => ⟨(by show 2 ≤ sizeLine; decide), fun tp htp => ?_⟩⟩⟩
    have g9 := g8.trans (same_new htp (.tup [x, r]))
    have e9 := g9 _ _ e
    refine lc_put e9 hl' (line30' (by omega)) ⟨same_own (g.trans g9) hR _, ?_⟩
    have tk : TK K _ (upd (upd H8 tp (.tup [x, r])) R (.lst (acc ++ [.ref tp]))) := (Mo.upd (b := R)).tk e9
    rw [List.take_succ, hp1, List.take_succ, hy]
    refine RowsR.tk ((hA.same g9).snoc ⟨tp, r, rfl, SqT.of upd_same, dp_same (g.trans g9) hd2, dp_same (same_new htp _) hr8⟩) tk
  · obtain ⟨acc, e, hl', g, hA⟩ := p
    rw [hx1l, ← hrl, List.take_length, hrl, ← hx1l, List.take_length] at hA
    have hRl := hA.len
    have g06 := g05.trans g
    have hRb : R ≠ b := new_ne (xs := []) (o := .tup []) (hB.same g05) hR
    -- given
    refine ⟨b, R, turn, n, acc, rfl, rfl, rfl, hB.same g06, e, by omega, by omega, fun gv H9 ys m9 hG hperm B9 => ?_⟩
    obtain ⟨rs', svs', hR', hp'⟩ := RowsR.perm hperm (hA.tk ((hB.same g06).tk m9))
    have fitR := rowsOf_fit t u
    have fit' := fitR.perm hp'.symm
    have hbd' : ∀ r ∈ rs', r.1.length ≤ 100 ∧ r.2.ht ≤ 10 := fun r hr' => rows_bd h8 h8' r (hp'.mem_iff.mp hr')
    have mo9 : Mo b H H9 := (Mo.of g06).trans m9
    have ht9 : TmR K H9 v t := tm_keep hB mo9 ht
    have hu9 : TmR K H9 v' u := tm_keep hB mo9 hu
    have hdb : d ≠ b := new_ne (xs := []) (o := .tup []) (hB.same g0) hd
    have hput : putAll t rs' = u := by rw [putAll_perm hp' fit'.ap, putAll_rowsOf]
    -- the second test
    refine ⟨v, gv, turn, t, ys, rs', svs', rfl, rfl, rfl, ht9, h8, hG, hR', by rw [hp'.length_eq]; omega, hbd', fit', fun r H10 g10 hr10 => ?_⟩
    rw [hput] at hr10
    refine ⟨_, rfl, by decide, r, v', rfl, sam_tm (by omega) hr10 (dp_same g10 hu9), fun H11 g11 => ⟨true, rfl, iteF ?_⟩⟩
    have g911 := g10.trans g11
    refine ⟨_, rfl, _, rfl, unl (dp_same g911 ht9) (dp_same g911 hu9) h8 h8' fun td2 H12 xs3 g12 htd2 hT12 hX12 => ?_⟩
    have g912 := g911.trans g12
    have hD9 : H9 d = some (.lst xs1) := m9 _ _ hdb (g _ _ hD5)
    have hX9 : SpsR K H9 xs1 (t.unlike u) := sps_tk ((hB.same g06).tk m9) (sps_same g hX5)
    refine ⟨_, rfl, by decide, _, _, rfl, (sam_sps (SqL.of hT12) hX12 (SqL.of (g912 _ _ hD9)) (sps_same g912 hX9) (by omega) slen).mono (by decide), fun H13 g13 => ⟨true, rfl, iteF ?_⟩⟩
    have g913 := g912.trans g13
    have hR9 : H9 R = some (.lst acc) := m9 _ _ hRb e
    have hA9 : RowsR K H9 acc (rowsOf t u) xs1 := hA.tk ((hB.same g06).tk m9)
    refine ⟨_, rfl, _, _, rfl, .inl ⟨_, SqL.of (g913 _ _ hR9), rfl⟩, (acc.length : Int), rfl, by omega, by omega, for_it (walk_range (lo := 0) (n := acc.length)) (fun i σ H' => ∃ x8 x9, σ = [some (.ref b), some v, some v', some (.int turn), some (.ref d), some (.ref td), some (.ref R), some (.ref gv), x8, x9] ∧ Same H9 H') ⟨_, _, rfl, g913⟩ (fun i σ H' _ p => trivial) (fun i x σ H14 H15 hi p y => ?_) (fun σ H' p => ?_)⟩
    · obtain ⟨x8, x9, rfl, g14⟩ := p
      obtain ⟨rfl, rfl⟩ := y
      have e0 : (0 : Int) + (i : Nat) = ((i : Nat) : Int) := by omega
      have e1 : (0 : Int) + (i : Nat) + 1 = ((i + 1 : Nat) : Int) := by omega
      refine ⟨_, rfl, _, rfl, _, rfl, _, rfl, R, acc, rfl, SqL.of (g14 _ _ hR9), fun p1 hp1 => ?_⟩
      have s1 := same_new hp1 (.lst (cutV acc none (some (0 + (i : Nat)))))
      refine ⟨_, rfl, _, rfl, _, _, rfl, rfl, _, rfl, R, acc, rfl, SqL.of (s1 _ _ (g14 _ _ hR9)), fun p2 hp2 => ?_⟩
      have s2 := s1.trans (same_new hp2 (.lst (cutV acc (some (0 + (i : Nat) + 1)) none)))
      refine ⟨p1, p2, _, _, rfl, rfl, same_new hp2 _ _ _ upd_same, upd_same, ?_, fun p3 hp3 => ?_⟩
      · have h1 := cutV_length acc none (some (0 + (i : Nat)))
        have h2 := cutV_length acc (some (0 + (i : Nat) + 1)) none
        exact line30 (by omega)
      have s3 := s2.trans (same_new hp3 (.lst (cutV acc none (some (0 + (i : Nat))) ++ cutV acc (some (0 + (i : Nat) + 1)) none)))
      have g15 := g14.trans s3
      have hl3 : (upd (upd (upd H15 p1 (.lst (cutV acc none (some (0 + (i : Nat)))))) p2 (.lst (cutV acc (some (0 + (i : Nat) + 1)) none))) p3 (.lst (cutV acc none (some (0 + (i : Nat))) ++ cutV acc (some (0 + (i : Nat) + 1)) none))) p3 = some (.lst (cutV acc none (some (0 + (i : Nat))) ++ cutV acc (some (0 + (i : Nat) + 1)) none)) := upd_same
      generalize (upd (upd (upd H15 p1 (.lst (cutV acc none (some (0 + (i : Nat)))))) p2 (.lst (cutV acc (some (0 + (i : Nat) + 1)) none))) p3 (.lst (cutV acc none (some (0 + (i : Nat))) ++ cutV acc (some (0 + (i : Nat) + 1)) none))) = G16 at g15 hl3 ⊢
      have hRR : RowsR K G16 (cutV acc none (some (0 + (i : Nat))) ++ cutV acc (some (0 + (i : Nat) + 1)) none) ((rowsOf t u).take i ++ (rowsOf t u).drop (i + 1)) (xs1.take i ++ xs1.drop (i + 1)) := by
        rw [e1, e0, cut_take, cut_drop]
        exact ((hA9.same g15).take i).app ((hA9.same g15).drop (i + 1))
      have sub := less_sub (rowsOf t u) i
      refine chg (dp_same g15 ht9) h8 (.inl (SqL.of hl3)) hRR (by have := sub.length_le; omega) (fun r hr' => rows_bd h8 h8' r (sub.subset hr')) (fit_sub fitR sub) fun r H16 g16 hr16 => ?_
      have hk : i < (rowsOf t u).length := by omega
      have hne := less_at hk
      have hth : (putAll t ((rowsOf t u).take i ++ (rowsOf t u).drop (i + 1))).ht ≤ 64 := Nat.le_trans (putAll_ht _ h8 fun r hr' => rows_sum h8' r (sub.subset hr')) (by decide)
      refine ⟨_, rfl, _, u.data, hr16, dp_same (g15.trans g16) hu9, shaped_tm hth, shaped_tm (by omega), _, rfl, ?_⟩
      rw [eqv_tm]
      exact iF hne ⟨_, _, rfl, g15.trans g16⟩
    · obtain ⟨x8, x9, rfl, g14⟩ := p
      exact q H' (mo9.trans (Mo.of g14)) ((B9.same g14).mono (by omega))
end
end K89
namespace K89
open PySem PySem.Spec PyProof.Rows L2
open C8 (Cal pe_c)
section
variable {P : Program} {w : World} {K : PySem.W.Frag} {mg : Str → Option Value} {base : Heap}
def spRefused (K : PySem.W.Frag) : Sp := fun vs H Q _ => ∃ (b : Addr) (v : V) (turn : Int) (n : Nat) (t : Tm), vs = [.ref b, v, .int turn] ∧ Bx H b n ∧ n + 1 ≤ 1000000 ∧ TmR K H v t ∧ t.ht ≤ 5 ∧ ∀ H', Mo b H H' → Bx H' b (n + 1) → Q (.bl true) H'
def spLaw (K : PySem.W.Frag) : Sp := fun vs H Q _ => ∃ (a : Addr) (ns : List Int), vs = [.ref a] ∧ SqL K H a (ns.map V.int) ∧ ns.length ≤ 63 ∧ ∀ H', Q (.bl true) H'
abbrev N_law : List Str := ["script", "k", "box", "turn", "lap", "some", "due", "one", "other", "spot", "part"]
abbrev P_law : List Str := ["script"]
theorem sc_law : FnScope N_law P_law (defScope s_law) := ⟨rfl, rfl, rfl, by decide +kernel, rfl, by decide +kernel, by decide +kernel⟩
/-- two lists of a word and data that are the same -/
theorem sam_told {H : Hp} {a b : Addr} {word : Str} {x y : V} {n : Nat} (h : H a = some (.lst [.str word, x])) (g : H b = some (.lst [.str word, y])) (hw : word.length ≤ 1000) (s : SamD K H n x y) : SamD K H (n + 1) (.ref a) (.ref b) := by
  refine .lst (SqL.of h) (SqL.of g) rfl (show 2 ≤ 30000 by decide) fun i p q hp hq => ?_
  match i, hp, hq with
  | 0, hp, hq => cases hp; cases hq; exact .str _ _ hw
  | 1, hp, hq => cases hp; cases hq; exact s
theorem fit_of {t : Tm} {rs : List Rw} {l : List Spot} (h : rs.map (·.1) = l) (hap : l.Pairwise Apart) (hs : ∀ s ∈ l, s ∈ t.spots) : Fit t rs := by
  refine ⟨?_, fun r hr => ?_⟩
  · rw [← h, List.pairwise_map] at hap
    exact hap
  · exact spots_get t r.1 (hs _ (by rw [← h]; exact List.mem_map_of_mem hr))
theorem same_of_mo {b : Addr} {H G H' : Hp} (g : Same H G) (n : H b = none) (m : Mo b G H') : Same H H' := fun a o e => m a o (ne_of_none e n) (g a o e)
theorem c_law (T : Tx w K mg) (c_law_refused : Cal P w K mg base 26 "_law_refused" (spRefused K) []) : ∃ fd, FnOk P w K mg base C8.CX0 27 (He.ga K "law") fd P_law (spLaw K) ∧ FunD K "law" "law" (defArgs s_law) (defBody s_law) (defScope s_law) [] [] (He.ga K "law") fd := by
  obtain ⟨fd, F⟩ := T.d_law
  refine ⟨fd, F.ok sc_law (fun vs H Q E h => ?_) (fun cdv A outer s H vs Q E hr h => ⟨_, PSs.nox (pss_cons (ps_for PassesOwn.never rfl (pi_range1 (by rfl) T.n_range (pa_cons (pe_callB (call_max2 rfl) rfl T.n_max b_max (pa_cons pe_int (pa_cons (pe_callB (call_min2 rfl) rfl T.n_min b_min (pa_cons pe_int (pa_cons (pe_callB call_len rfl T.n_len PySem.boot_len (pa_cons (pv 0) pa_nil)) pa_nil))) pa_nil))) pa_nil)) (pg_name (i := 1) sc_law.nd rfl (Or.inl rfl))
      (pss_cons (ps_set (i := 2) sc_law.nd rfl (Or.inr rfl) (pe_c (c_law_box T) hr (by decide) rfl (pa_cons (pe_c (c_law_cell T) hr (by decide) rfl (pa_cons (pv 0) (pa_cons (pv 1) pa_nil))) pa_nil)))
    (pss_cons (ps_set (i := 3) sc_law.nd rfl (Or.inl rfl) (pe_c (c_law_take T) hr (by decide) rfl (pa_cons (pv 2) (pa_cons pe_int pa_nil))))
    (pss_cons (ps_for PassesOwn.never rfl (pi_range1 (by rfl) T.n_range (pa_cons pe_int pa_nil)) (pg_name (i := 4) sc_law.nd rfl (Or.inl rfl))
      (pss_cons (ps_asg (pe_c (c_law_pair T) hr (by decide) rfl (pa_cons (pv 2) pa_nil)) (pg_lst (n := 2) (by rfl) (pgs_cons (pg_name (i := 7) sc_law.nd rfl (Or.inl rfl)) (pgs_cons (pg_name (i := 8) sc_law.nd rfl (Or.inl rfl)) pgs_nil))))
    (pss_cons (ps_if (PW.pt (pw_or (pt_not (pt_val (pe_c (c_law_pair_right T) hr (by decide) rfl (pa_cons (pv 2) (pa_cons (pv 7) (pa_cons (pv 8) (pa_cons (pv 3) pa_nil))))))) (pw_or1 (pt_not (pt_val (pe_c (c_law_pair_right T) hr (by decide) rfl (pa_cons (pv 2) (pa_cons (pv 8) (pa_cons (pv 7) (pa_cons (pe_op op_sub pe_int (pv 3)) pa_nil)))))))))) (pss_one (ps_ret pe_bl)) pss_nil)
    (pss_cons (ps_setLc (i := 5) (own := [("spot", 9)]) (g := (gName 9)) (tt := tYes) (by rfl) sc_law.nd rfl rfl (sw_true rfl rfl rfl (by decide +kernel)) (pi_list (pe_c (c_law_apart T) hr (by decide) rfl (pa_cons (pv 2) (pa_cons (pv 7) (pa_cons pe_int pa_nil))))) (blkOk_by (N := N_law) (sc := defScope s_law) (by decide +kernel)) (fun _ _ _ _ _ => (pg_name (i := 9) sc_law.nd rfl (Or.inl rfl))) (fun _ _ _ _ _ => pts_nil) (fun _ _ _ _ _ => (pe_tup (pa_cons (pv 9) (pa_cons (pe_c (c_law_drawn T 3) hr (by decide) rfl (pa_cons (pv 2) (pa_cons (pe_op op_add pe_int (pe_c (c_law_take T) hr (by decide) rfl (pa_cons (pv 2) (pa_cons pe_int pa_nil)))) (pa_cons pe_int (pa_cons pe_int pa_nil))))) pa_nil)))))
    (pss_cons (ps_set (i := 6) sc_law.nd rfl (Or.inl rfl) (pv 7))
    (pss_cons (ps_for PassesOwn.never rfl (pi_list (pv 5)) (pg_tup (n := 2) (by rfl) (pgs_cons (pg_name (i := 9) sc_law.nd rfl (Or.inl rfl)) (pgs_cons (pg_name (i := 10) sc_law.nd rfl (Or.inl rfl)) pgs_nil)))
      (pss_one (ps_set (i := 6) sc_law.nd rfl (Or.inl rfl) (pe_c (c_law_put T 12) hr (by decide) rfl (pa_cons (pv 6) (pa_cons (pv 9) (pa_cons (pv 10) pa_nil)))))))
    (pss_one (ps_if (pt_not (pt_val (pe_c (c_law_same T 12) hr (by decide) rfl (pa_cons (pe_c (c_law_asked T) hr (by decide) rfl (pa_cons (pv 7) (pa_cons (pv 5) (pa_cons (pv 3) pa_nil)))) (pa_cons (pe_lst (pa_cons pe_str (pa_cons (pv 6) pa_nil))) pa_nil))))) (pss_one (ps_ret pe_bl)) pss_nil))))))))
    (pss_one (ps_if (pt_not (pt_val (pe_c c_law_refused hr (by decide) rfl (pa_cons (pv 2) (pa_cons (pv 7) (pa_cons (pv 3) pa_nil)))))) (pss_one (ps_ret pe_bl)) pss_nil))))))
    (pss_one (ps_ret pe_bl))), ?_⟩), F⟩
  · obtain ⟨a, ns, rfl, _⟩ := h
    rfl
  obtain ⟨a, ns, rfl, hL, h63, q⟩ := h
  -- how many cells
  refine ⟨_, rfl, _, _, rfl, .inl ⟨_, hL, rfl⟩, _, _, rfl, _, _, rfl, ?_⟩
  rw [List.length_map]
  obtain ⟨m, hm⟩ : ∃ m : Nat, (if (if (ns.length : Int) < 4 then (ns.length : Int) else 4) > 2 then (if (ns.length : Int) < 4 then (ns.length : Int) else 4) else 2) = (m : Int) ∧ m ≤ 4 := by
    refine ⟨(if (if (ns.length : Int) < 4 then (ns.length : Int) else 4) > 2 then (if (ns.length : Int) < 4 then (ns.length : Int) else 4) else 2).toNat, ?_, ?_⟩
    · split <;> split <;> omega
    · split <;> split <;> omega
  rw [hm.1]
  have hm4 := hm.2
  refine ⟨(m : Int), rfl, by omega, by omega, for_it (walk_range (lo := 0) (n := m)) (fun i σ H' => ∃ x1 x2 x3 x4 x5 x6 x7 x8 x9 x10, σ = [some (.ref a), x1, x2, x3, x4, x5, x6, x7, x8, x9, x10] ∧ Same H H') ⟨_, _, _, _, _, _, _, _, _, _, rfl, Same.refl H⟩ (fun i σ H' _ p => trivial) (fun k x σ G0 G hk p y => ?_) (fun σ H' p => q H')⟩
  obtain ⟨x1, x2, x3, x4, x5, x6, x7, x8, x9, x10, rfl, g⟩ := p
  obtain ⟨rfl, rfl⟩ := y
  have e0 : (0 : Int) + (k : Nat) = ((k : Nat) : Int) := by omega
  refine ⟨_, rfl, _, rfl, a, ns, k, (by show [V.ref a, V.int ((0 : Int) + (k : Nat))] = _; rw [e0]), g.seq hL, by omega, fun cell H1 g1 => ?_⟩
  refine ⟨cell, rfl, fun b H2 g2 hb2 B2 => ?_⟩
  have hbG : G b = none := g1.free hb2
  have gB : Same G H2 := g1.trans g2
  refine ⟨_, rfl, b, 2, 0, rfl, B2, by decide, by decide, by decide, fun turn H3 m3 B3 t0 t1 => ?_⟩
  -- the laps
  refine ⟨4, rfl, by decide, by decide, for_it (walk_range (lo := 0) (n := 4)) (fun lap σ H' => ∃ x4 x5 x6 x7 x8 x9 x10, σ = [some (.ref a), some (.int ((0 : Int) + (k : Nat))), some (.ref b), some (.int turn), x4, x5, x6, x7, x8, x9, x10] ∧ Mo b H2 H' ∧ Bx H' b (1 + lap * 13000) ∧ (lap = 0 ∨ ∃ v t, x7 = some v ∧ TmR K H' v t ∧ t.ht ≤ 5)) ⟨_, _, _, _, _, _, _, rfl, m3, B3, .inl rfl⟩ (fun i σ H' _ p => trivial) (fun lap x σ H4 H5 hlap p y => ?_) (fun σ H' p => ?_)⟩
  · obtain ⟨x4, x5, x6, x7, x8, x9, x10, rfl, mo, B, _⟩ := p
    obtain ⟨rfl, rfl⟩ := y
    have hc0 : 1 + lap * 13000 ≤ 40000 := by omega
    -- the pair
    refine ⟨_, rfl, b, _, rfl, B, by omega, fun pr H6 v v' t u m6 hpr6 hP6 hv hu ht hu8 B6 => ?_⟩
    refine ⟨pr, _, rfl, SqL.of hP6, rfl, _, _, rfl, _, _, rfl, rfl, ?_⟩
    refine ⟨_, rfl, _, rfl, _, rfl, _, rfl, b, v, v', turn, _, t, u, rfl, B6, by omega, hv, hu, by omega, hu8, fun H7 m7 B7 => ⟨true, rfl, iteF ?_⟩⟩
    have hv7 := tm_keep B6 m7 hv
    have hu7 := tm_keep B6 m7 hu
    refine ⟨_, rfl, _, rfl, _, rfl, _, rfl, _, _, rfl, rfl, b, v', v, 1 - turn, _, u, t, rfl, B7, by omega, hu7, hv7, hu8, by omega, fun H8 m8 B8 => ⟨true, rfl, iteF ?_⟩⟩
    have hv8 := tm_keep B7 m8 hv7
    have mo8 : Mo b H2 H8 := mo.trans (m6.trans (m7.trans m8))
    -- some
    refine ⟨_, rfl, _, rfl, b, v, 3, _, t, rfl, B8, by omega, hv8, ht, fun r1 H9 ys l m9 hr1 hR1 hS hap hsub hlm B9 => ?_⟩
    have hr1b : r1 ≠ b := new_ne (xs := []) (o := .tup []) B8 hr1
    have hv9 := tm_keep B8 m9 hv8
    have hyl := sps_len hS
    have hl3 : l.length ≤ 3 := by omega
    have mo9 : Mo b H2 H9 := mo8.trans m9
    refine ⟨r1, rfl, ⟨_, SqL.of hR1⟩, fun D hD => lc_it (walk_list (xs := ys)) (Lc D fun i acc H' => Mo b H9 H' ∧ Bx H' b (1 + lap * 13000 + 12121 + i * 200) ∧ ∃ rs, RowsR K H' acc rs (ys.take i) ∧ rs.map (·.1) = l.take i ∧ ∀ r ∈ rs, r.2.ht ≤ 3) ?_ (fun i H' _ p => ?_) (fun i x H10 H11 hi p y => ?_) (fun H' p => ?_)⟩
    · have hDb : D ≠ b := new_ne (xs := []) (o := .tup []) B9 hD
      exact lc_start ⟨Mo.of (same_new hD _), (B9.upd hDb).mono (by omega), [], .nil, rfl, fun r hr' => by cases hr'⟩
    · obtain ⟨acc, e, _, m10, _⟩ := p
      exact SqL.of (m10 _ _ hr1b hR1)
    · have hDb : D ≠ b := new_ne (xs := []) (o := .tup []) B9 hD
      obtain ⟨acc, e, hl', m10, B10, rs, hRs, hrs, hht⟩ := p
      obtain ⟨rfl, hy⟩ := y
      obtain ⟨dd, hd1, hd2⟩ := dpA_get hS hy
      obtain ⟨s, hs⟩ : ∃ s, l[i]? = some s := ⟨_, List.getElem?_eq_getElem (by omega)⟩
      rw [List.getElem?_map, hs] at hd1
      cases hd1
      have hx11 := dp_tk (B9.tk m10) (flat_sp s) hd2
      refine ⟨rfl, yT ⟨_, rfl, _, rfl, _, rfl, b, 3, _, rfl, B10, by omega, by decide, by decide, fun s4 H12 m12 B12 d0 d1 => ⟨_, _, rfl, rfl, ?_⟩⟩⟩
      refine ⟨b, 1 + s4, 0, _, rfl, by decide, by omega, by omega, by decide, by decide, B12, by rw [cst3]; omega, fun dv H13 dt m13 B13 hdv hdt => ⟨(by show 2 ≤ sizeLine; decide), fun tp htp => ?_⟩⟩
      rw [cst3] at B13
      have g14 := same_new htp (.tup [x, dv])
      have m1 : Mo b H11 (upd H13 tp (.tup [x, dv])) := m12.trans (m13.trans (Mo.of g14))
      have e14 := m1 _ _ hDb e
      have hDH : H9 D = none := hD
      refine lc_put e14 hl' (line30' (by omega)) ⟨(m10.trans m1).own hDH _, ((B13.same g14).upd hDb).mono (by omega), rs ++ [(s, dt)], ?_, ?_, fun r hr' => ?_⟩
      · have tk : TK K _ (upd (upd H13 tp (.tup [x, dv])) D (.lst (acc ++ [.ref tp]))) := (Mo.upd (b := D)).tk e14
        rw [List.take_succ, hy]
        refine RowsR.tk ((hRs.tk (B10.tk m1)).snoc ⟨tp, dv, rfl, SqT.of upd_same, dp_tk (B10.tk m1) (flat_sp s) hx11, dp_same g14 hdv⟩) tk
      · rw [List.map_append, hrs, List.take_succ, hs]
        rfl
      · rcases List.mem_append.mp hr' with h | h
        · exact hht r h
        · cases List.mem_singleton.mp h
          exact hdt
    · have hDb : D ≠ b := new_ne (xs := []) (o := .tup []) B9 hD
      obtain ⟨acc, e, hl', m10, B10, rs, hRs, hrs, hht⟩ := p
      rw [hyl, List.take_length] at hrs
      rw [List.take_length] at hRs
      have hRl := hRs.len
      have hv10 := tm_keep B9 m10 hv9
      have fit := fit_of hrs hap hsub
      have hrl : rs.length = l.length := by rw [← hrs, List.length_map]
      have hbd : ∀ r ∈ rs, r.1.length + 1 ≤ 5 ∧ r.2.ht ≤ 3 := fun r hr' => by
        have h1 := spot_len (hsub r.1 (by rw [← hrs]; exact List.mem_map_of_mem hr'))
        have h2 := hht r hr'
        omega
      -- due
      refine ⟨_, rfl, ?_⟩
      refine ⟨_, rfl, D, rfl, ⟨_, SqL.of e⟩, for_it (walk_list (xs := acc)) (fun i σ G' => ∃ dv x9 x10, σ = [some (.ref a), some (.int ((0 : Int) + (k : Nat))), some (.ref b), some (.int turn), some (.int ((0 : Int) + (lap : Nat))), some (.ref D), some dv, some v, some v', x9, x10] ∧ Same H' G' ∧ TmR K G' dv (putAll t (rs.take i))) ⟨v, _, _, rfl, Same.refl _, hv10⟩ (fun i σ G' _ p => ?_) (fun i x σ G1 G2 hi p y => ?_) (fun σ G' p => ?_)⟩
      · obtain ⟨dv, x9, x10, _, g', _⟩ := p
        exact SqL.of (g' _ _ e)
      · obtain ⟨dv, x9, x10, rfl, g', hdv⟩ := p
        obtain ⟨rfl, hy⟩ := y
        obtain ⟨r, sv, hr1', hs1, b2, ov, rfl, hb2', hsp, hot⟩ := hRs.get hy
        obtain ⟨hb3, hb4⟩ := hbd r (List.mem_of_getElem? hr1')
        refine ⟨b2, _, rfl, same_tup g' hb2', rfl, _, _, rfl, _, _, rfl, rfl, ?_⟩
        have hth : (putAll t (rs.take i)).ht ≤ 20 := putAll_ht _ (by omega) fun r hr' => by
          have := hbd r (List.mem_of_mem_take hr')
          omega
        refine ⟨_, rfl, _, rfl, _, rfl, dv, sv, ov, putAll t (rs.take i), r.1, r.2, rfl, hdv, dp_same g' hsp, dp_same g' hot, fit_get fit hr1', by omega, hth, by omega, fun z G3 g3 hz => ?_⟩
        refine ⟨z, _, _, rfl, g'.trans g3, ?_⟩
        rw [List.take_succ, hr1', putAll_append]
        exact hz
      · obtain ⟨dv, x9, x10, rfl, g', hdv⟩ := p
        rw [hRl.1, List.take_length] at hdv
        have hpt : (putAll t rs).ht ≤ 8 := putAll_ht _ (by omega) fun r hr' => by
          have := hbd r hr'
          omega
        -- asked
        refine ⟨_, rfl, _, rfl, _, rfl, v, .ref D, turn, rfl, chg (dp_same g' hv10) (by omega) (.inl (SqL.of (g' _ _ e))) (hRs.same g') (by omega) (fun r hr' => by have := hbd r hr'; omega) fit fun r2 G2 g2 hr2 => fun r3 G3 g3 hr3 hR3 => ?_⟩
        refine ⟨_, rfl, (by show 2 ≤ sizeLine; decide), fun r4 hr4 => ?_⟩
        have g4 := same_new hr4 (.lst [.str "told", dv])
        have gA : Same G' (upd G3 r4 (.lst [.str "told", dv])) := g2.trans (g3.trans g4)
        refine ⟨by decide, _, _, rfl, sam_told (g4 _ _ hR3) upd_same (by decide +kernel) (sam_tm (n := 10) (by omega) (dp_same (g3.trans g4) hr2) (dp_same gA hdv)), fun G5 g5 => ⟨true, rfl, iteF ?_⟩⟩
        have gF : Same H' G5 := g'.trans (gA.trans g5)
        exact ⟨_, _, _, _, _, _, _, rfl, mo9.trans (m10.trans (Mo.of gF)), (B10.same gF).mono (by omega), .inr ⟨v, t, rfl, dp_same gF hv10, ht⟩⟩
  · obtain ⟨x4, x5, x6, x7, x8, x9, x10, rfl, mo, B, h⟩ := p
    rcases h with h | ⟨v, t, rfl, hv, ht⟩
    · exact absurd h (by decide)
    · refine ⟨_, rfl, _, rfl, _, rfl, b, v, turn, _, t, rfl, B, by omega, hv, ht, fun H6 m6 B6 => ⟨true, rfl, iteF ?_⟩⟩
      exact ⟨_, _, _, _, _, _, _, _, _, _, rfl, g.trans (same_of_mo gB hbG (mo.trans m6))⟩
end
end K89
/-! need_term and unlike_spots where the exception's context is kept (for except suites that call) -/
namespace K89
open PySem PySem.Spec PyProof.Rows L2
open C8 (Cal pe_c)
section
variable {X : Cx} {x : Str} {e : Expr} {es : List Expr} {ta : TA} {p pos : Pos}
theorem pmk_oexN {CX : CXT} {C fI : Addr} {k : Nat} {fd : FuncData} {ps : List Str} {sp : Sp} (T : OexC X.K C) (iC : PySem.W.findIn X.K (.ref C) "__init__" = some (some (.ref fI))) (tI : PySem.W.typeIn X.K (.ref fI) = some (.type "function"))
    (F1 : FnOk X.prog X.w X.K X.mg X.base CX k fI fd ps sp) (hr : Room (k + 1) X.A) (hb : Binds X.K fd ps []) (hx : Passes CX X (fun _ _ _ => False)) (hg : Gl X x) (hm : X.mg x = some (.ref C)) (ha : PA X (e :: es) ta)
    (hdb : (x == ("__debug__" : Str)) = false := by decide) (he : starEach (e :: es) X.env = (false, eval e X.env) :: starEach es X.env := by rfl) (hpl : (backTo pos (starEach es X.env)).any (·.1) = false := by rfl) :
    L2N.PMk X (.Call (.Name x p) (e :: es) [] pos) (tMkO C sp [] ta) := by
  intro pins s σ H Q I h
  obtain ⟨nm, q, N, bs, bm, sn, sub, ab, col, dd, k0, k1, k2, k3, k5, hC, hbm⟩ := T.cls
  refine wpAny_Call_Name_kw (ld_glob I hg hm ?_ hdb)
  refine PySem.W.callWith_K (h₀ := X.base) I.ok.mod.kin T.kC (thn (ha.run pos pins s σ H _ I h) fun us s1 ⟨vs, H1, I1, r1, hz, q1⟩ => ⟨I1.kIn, ?_⟩) he hpl
  show wpAny _ _ (call (.ref C) us) _ _ _
  obtain ⟨hp, g, dr, tk, os⟩ := s1
  have hsz : hp.objs.size ≤ hp.objs.size + 1 := Nat.le_succ _
  have hn : H1 (hp.objs.size + 1) = none := I1.hok.fresh hsz
  have hq := q1 (hp.objs.size + 1) hn
  rw [List.append_nil] at hq
  have kk : ∀ b o, hp.get? b = some o → ((hp.push (PySem.W.kdv_tup us)).push (PySem.HandSPX.excO C hp.objs.size)).get? b = some o := fun b o e => Heap.get?_push_of_some _ (Heap.get?_push_of_some _ e)
  have hget : ((hp.push (PySem.W.kdv_tup us)).push (PySem.HandSPX.excO C hp.objs.size)).get? (hp.objs.size + 1) = some (PySem.HandSPX.excO C hp.objs.size) := by heap_get
  have I2 : Inv X pins σ (upd H1 (hp.objs.size + 1) (exo (hp.objs.size + 1) C none)) ⟨(hp.push (PySem.W.kdv_tup us)).push (PySem.HandSPX.excO C hp.objs.size), g, dr, tk, os⟩ :=
    I1.laid (t' := tk) (a := hp.objs.size + 1) (o := exo (hp.objs.size + 1) C none) (h' := (hp.push (PySem.W.kdv_tup us)).push (PySem.HandSPX.excO C hp.objs.size)) kk hsz (exo_ok hget)
  have r2 : Vals (V.ref (hp.objs.size + 1) :: vs) (Value.ref (hp.objs.size + 1) :: us) := .cons rfl r1
  have hl : (Value.ref (hp.objs.size + 1) :: us ++ []).length = ps.length := by
    have e := r2.length
    rw [F1.len _ _ _ _ hq] at e
    rw [List.append_nil]
    exact e.symm
  have hus : us.length ≤ sizeLine := by
    rw [← Paired.length r1, sizeLine_eq]
    omega
  have b2 := hb _ (Value.ref (hp.objs.size + 1) :: us) I2.kIn hl
  rw [List.append_nil] at b2
  refine wpAny_call (PySem.HandSPX.call_own F.excBase_ValueError (fun Y => PySem.HandSPX.refsVE_contains Y bm hbm) (I1.kIn _ _ hC) (PySem.W.looks_findIn I1.kIn iC) (fun self => PySem.W.bind_fn I1.kIn self tI) hus
    (codeAny_mono (F1.run _ X.stack _ _ ⟨Value.ref (hp.objs.size + 1) :: us, []⟩ (Value.ref (hp.objs.size + 1) :: us) _ _ (fun _ _ _ => False) (hr.make C us []) (I2.env0.make C us []) b2 r2 hq) fun r s' hq' => ?_))
  cases r with
  | error er => exact hx pins σ _ _ er s' I2 hq'
  | ok fl =>
    cases fl with
    | ret u =>
      obtain ⟨v, H2, os2, bare2, un2, hok2, rv, ev, d, fs, ea, ed, hd1, q2⟩ := hq'
      subst ev
      obtain ⟨h2, g2, d2, t2, os'⟩ := s'
      obtain ⟨t0, G, J, kG, ge, hoe, na⟩ := mk_end0 (d2 := d2) (t2 := t2) I1 hsz kk un2 hok2 os2 bare2 ea ed hd1
      refine ⟨rv, ⟨hp.objs.size + 1, _, _, ⟨G, g2, d2, t2, os'⟩, _, .ref C, some d, rfl, J, kG, ge, hoe, ⟨rfl, rfl, fun vs hv => ?_⟩, rfl, rfl, na, rfl, bare2, raises_own T.exC T.tyC, q2⟩⟩
      cases hv
      rfl
    | next => exact False.elim hq'
    | brk => exact False.elim hq'
    | cont => exact False.elim hq'
theorem PMkN.mono {t t' : L2.St → Hp → XK → Prop} (h : L2N.PMk X e t) (m : ∀ σ H Q, t' σ H Q → t σ H Q) : L2N.PMk X e t' := fun pins s σ H Q I q => h pins s σ H Q I (m σ H Q q)
theorem ps_badN {te : TE} {W : WX} {pos2 : Pos} {j : Nat} (hc : X.calm = true) (tk : L2N.Takes X W) (ini : IniOk X.prog X.w X.K X.mg X.base x) (f : ExcF X.K x) (hr : Room j X.A) (hj : 2 ≤ j) (hg : Gl X x) (hm : X.mg x = some (.ref (He.ga X.K x))) (he : PE X e te)
    (hdb : (x == ("__debug__" : Str)) = false := by decide) (hs : starEach (e :: []) X.env = (false, eval e X.env) :: starEach [] X.env := by rfl) (hpl : (backTo pos (starEach [] X.env)).any (·.1) = false := by rfl) :
    PS X (.Raise (some (.Call (.Name x p) [e] [] pos)) none pos2) (tBad X.K x te W) := by
  obtain ⟨fd, F, b⟩ := ini
  refine PS.mono (L2N.ps_raise hc tk (pmk_oexN f.o f.i f.t F (hr.mono hj) b C8.pass0 hg hm (pa_cons (pe_up he) pa_nil hs) hdb hs hpl)) (fun D σ H h => ⟨_, h, fun v H1 q => ⟨Nat.succ_le_succ (Nat.zero_le 999), fun a ha => ⟨a, v, rfl, upd_same, f.o, f.no, fun dx hd hne => ⟨rfl, dx, [("found", v)], upd_same, ?_, ?_, ?_⟩⟩⟩⟩)
  · rw [upd_ne hne, upd_same]
  · rw [upd_ne hne] at hd
    exact hd
  · rw [upd_ne hne] at hd
    refine q dx _ (fun c o e => ?_) hd upd_same
    have n1 : c ≠ dx := ne_of_none e hd
    have n2 : c ≠ a := ne_of_none e ha
    rw [upd_ne n1, del_ne n2, upd_ne n2, upd_ne n1, upd_ne n2]
    exact e
end
structure CalN (P : Program) (w : World) (K : PySem.W.Frag) (mg : Str → Option Value) (base : Heap) (k : Nat) (x : Str) (sp : Sp) : Prop where
  ex : ∃ (f : Addr) (fd : FuncData) (ps : List Str), FnOk P w K mg base (L2N.CX P w) k f fd ps sp ∧ mg x = some (.ref f) ∧ PySem.W.keepIn K (.ref f) = true ∧ Binds K fd ps []
theorem pe_cn {X : Cx} {k j : Nat} {x : Str} {sp : Sp} {p pos : Pos} {e : Expr} {es : List Expr} {t : TA} {W : WX} (c : CalN X.prog X.w X.K X.mg X.base k x sp) (hr : Room j X.A) (hk : k ≤ j) (hg : Gl X x) (tk : L2N.Takes X W) (ha : PA X (e :: es) t)
    (hdb : (x == ("__debug__" : Str)) = false := by decide) (he : starEach (e :: es) X.env = (false, eval e X.env) :: starEach es X.env := by rfl) (hpl : (backTo pos (starEach es X.env)).any (·.1) = false := by rfl) :
    PE X (.Call (.Name x p) (e :: es) [] pos) (tCallS sp (WE W) t) := by
  obtain ⟨f, fd, ps, F, hm, kp, b⟩ := c.ex
  exact pe_callS F (hr.mono hk) hg hm kp b (fun σ => L2N.passAt tk σ) ha hdb he hpl
section
variable {P : Program} {w : World} {K : PySem.W.Frag} {mg : Str → Option Value} {base : Heap}
theorem c_need_termN (T : Tx w K mg) : CalN P w K mg base 22 "need_term" (spNeed K) := by
  obtain ⟨fd, F⟩ := T.d_need_term
  have X := fx_of T
  refine ⟨_, _, _, F.ok sc_need_term (fun vs H Q E h => ?_) (fun cdv A outer s H vs Q E hr h => ⟨_, (pss_one (ps_if (pt_not (pt_val (pe_c (c_is_term T 10) hr (by decide) rfl (pa_cons (pv 0) pa_nil)))) (pss_one (ps_badN rfl (L2N.takes_of rfl rfl rfl rfl) (ini_T T) X.eT hr (by decide) rfl T.g_NoTerm (pv 0))) pss_nil)), ?_⟩), T.g_need_term, F.kp,
    F.bindsN fun _ _ _ _ _ _ us hl => match us, hl with | [_], _ => rfl⟩
  · obtain ⟨v, b, rfl, _⟩ := h
    rfl
  obtain ⟨v, b, rfl, hq, q1, q2⟩ := h
  refine ⟨_, rfl, by decide, v, b, rfl, hq, fun H' g => ?_⟩
  cases b with
  | true => exact ⟨true, rfl, q1 rfl H' g⟩
  | false => exact ⟨false, rfl, iteT ⟨_, rfl, (q2 rfl).same g⟩⟩
theorem c_unlike_spotsN (T : Tx w K mg) : CalN P w K mg base 23 "unlike_spots" (spUnlike K) := by
  obtain ⟨fd, F⟩ := T.d_unlike_spots
  refine ⟨_, _, _, F.ok sc_unlike_spots (fun vs H Q E h => ?_) (fun cdv A outer s H vs Q E hr h => ⟨_, (pss_cons (ps_expr (pe_cn (c_need_termN T) hr (by decide) rfl (L2N.takes_of rfl rfl rfl rfl) (pa_cons (pv 0) pa_nil)))
    (pss_cons (ps_expr (pe_cn (c_need_termN T) hr (by decide) rfl (L2N.takes_of rfl rfl rfl rfl) (pa_cons (pv 1) pa_nil)))
    (pss_one (ps_ret (pe_c (c_unlike_in T 10) hr (by decide) rfl (pa_cons (pv 0) (pa_cons (pv 1) pa_nil))))))), ?_⟩), T.g_unlike_spots, F.kp, F.bindsN fun _ _ _ _ _ _ us hl => match us, hl with | [_, _], _ => rfl⟩
  · obtain ⟨v, v', rfl, _⟩ := h
    rfl
  obtain ⟨v, v', rfl, h⟩ := h
  rcases h with ⟨hv, hb⟩ | ⟨t, ht, h10, h⟩
  · exact ⟨_, rfl, v, false, rfl, hv, fun z => absurd z (by decide), fun _ => hb⟩
  · refine ⟨_, rfl, v, true, rfl, .inl ⟨t, ht, h10, rfl⟩, fun _ H1 g1 => ?_, fun z => absurd z (by decide)⟩
    rcases h with ⟨hv, hb⟩ | ⟨u, hu, h10', q⟩
    · exact ⟨_, rfl, v', false, rfl, termq_same g1 hv, fun z => absurd z (by decide), fun _ => hb.same g1⟩
    · refine ⟨_, rfl, v', true, rfl, .inl ⟨u, dp_same g1 hu, h10', rfl⟩, fun _ H2 g2 => ?_, fun z => absurd z (by decide)⟩
      exact ⟨_, rfl, _, rfl, v, v', t, u, rfl, dp_same (g1.trans g2) ht, dp_same (g1.trans g2) hu, h10, h10, by omega, q.same (g1.trans g2)⟩
end
end K89
/-! within an except suite: a dict's keys walked, list(dict), list comprehensions, defs called -/
namespace K89
open PySem PySem.Spec PyProof.Rows L2 HotX L2H
open C8 (Cal)
theorem key_end_hot {prog : Program} {w : World} {A : Around} {E : Value → Shared → Prop} {s : Shared} {it d x1 : Addr} {i n ep : Nat} {od : Obj} {es : Array DictEntry} {Q : Option Value → Shared → Prop} (hot : HotAt A x1 s.heap) (hne : x1 ≠ it) (hit : s.heap.IsKeyIter it d i n ep) (hod : s.heap.get? d = some od) (hdd : od.data = .dict es ep)
    (hsz : es.size = n) (hge : n ≤ i) (hQ : ∀ h', Heap.ExtBut it s.heap h' → Q none { s with heap := h' }) : wpAny (model prog w) A (pyNext (.ref it)) Q E s := by
  obtain ⟨o, ho, hc, hd⟩ := id hit
  unfold pyNext
  refine wpAny_bind (wpAny_attempt (wpAny_callSpecial?_slot (name := Str.ofString "__next__") hit.typeIs F.slot_dict_keyiterator_next
    (wpAny_call_entry F.slot_dict_keyiterator_next hit.typeIs F.entry_dict_keyiterator_next ?_ (F.args_dict_keyiterator_next_1 _))))
  refine wpAny_bind (wpAny_pure ?_)
  refine wpAny_bind ?_
  refine wpAny_bind ?_
  first | refine wpAny_bind (wpAny_typeNameOfWhole_keyiter hit.typeIs (wpAny_pure ?_)) | refine wpAny_bind (wpAny_typeNameOf_keyiter hit.typeIs (wpAny_pure ?_))
  refine wpAny_bind (wpAny_fieldsOf ho hd ?_)
  have hown : Builtin.Dict_items.ownsTuple "dict_keyiterator" = false := by decide
  simp only [hown, Bool.false_eq_true, if_false]
  show wpAny _ _ (if (Value.ref d == Value.none) = true then _ else _) _ _ s
  rw [if_neg (show ¬ ((Value.ref d == Value.none) = true) from Bool.false_ne_true)]
  refine wpAny_bind (wpAny_pure ?_)
  refine wpAny_bind (wpAny_dictEntries hod hdd ?_)
  rw [if_neg (by rw [hsz]; simp)]
  refine wpAny_bind (wpAny_pure ?_)
  refine wpAny_bind (wpAny_dictEpoch hod hdd ?_)
  rw [if_neg (by simp)]
  refine wpAny_pure ?_
  have hge' : es.size ≤ i := by rw [hsz]; exact hge
  simp only [show ¬ ((i : Int) < 0) from by omega, if_false, Int.toNat_natCast, Array.getElem?_eq_none hge']
  refine wpAny_bind ?_
  first | refine wpAny_bind (wpAny_typeNameOfWhole_keyiter hit.typeIs (wpAny_pure ?_)) | refine wpAny_bind (wpAny_typeNameOf_keyiter hit.typeIs (wpAny_pure ?_))
  show wpAny _ _ (setField (.ref it) 0 .none >>= _) _ _ s
  refine wpAny_bind (wpAny_setField ho hd (by simp) ?_)
  show wpAny _ _ (newExc (.type "StopIteration") [] >>= _) _ _ _
  refine wpAny_bind ?_
  simp only [newExc, newTuple]
  refine wpAny_bind (wpAny_newObj_type ?_ (by size_fits))
  refine wpAny_bind (m := firstArgMember _ _) (wpAny_of_eq (a := Value.none) (by first | rfl | (simp only [firstArgMember]; rfl)) ?_)
  refine wpAny_newObj_type ?_ (by size_fits)
  obtain ⟨hh, o1, vs1, h1, d1, c1⟩ := hot
  have h1' : (s.heap.update it (Obj.mapFields (·.setIfInBounds 0 Value.none))).get? x1 = some o1 := by rw [Heap.get?_update_other _ _ (Ne.symm hne)]; exact h1
  refine raiseNew_hot ⟨hh, o1, vs1, Heap.get?_push_of_some _ (Heap.get?_push_of_some _ h1'), d1, c1⟩ (Nat.ne_of_lt (Heap.lt_size (Heap.get?_push_of_some _ h1'))) (Heap.get?_push_size _ rfl) rfl (by first | (simp; done) | (simp; omega) | (simp only [Array.size_append]; simp; omega)) ?_
  refine wpAny_bind (wpAny_isInstance (T := "StopIteration") (b := true) ⟨_, Heap.get?_update_self _ (Heap.get?_push_size _ rfl) rfl, rfl⟩ isSubtype_stop ?_)
  refine wpAny_pure (hQ _ fun b o hb e => ?_)
  have eb : (s.heap.update it (Obj.mapFields (·.setIfInBounds 0 Value.none))).get? b = some o := by rw [Heap.get?_update_other _ _ (Ne.symm hb)]; exact e
  rw [Heap.get?_update_other _ _ (Nat.ne_of_gt (Heap.lt_size (Heap.get?_push_of_some _ eb)))]
  exact Heap.get?_push_of_some _ (Heap.get?_push_of_some _ eb)
theorem turn_keysH {P : Program} {w : World} {K : PySem.W.Frag} {tg : Expr} {d : Addr} {o : Obj} {es : Array DictEntry} {ep : Nat} {kvs : List (Key × V)} (it : Addr) (hod : o.data = .dict es ep) : TurnH P w K tg (Itk d o kvs) [it] it (fun i h => h.IsKeyIter it d i kvs.length ep) where
  mem := (turn_keys (P := P) (w := w) (K := K) (tg := tg) (d := d) (kvs := kvs) it hod).mem
  obj := (turn_keys (P := P) (w := w) (K := K) (tg := tg) (d := d) (kvs := kvs) it hod).obj
  keep := (turn_keys (P := P) (w := w) (K := K) (tg := tg) (d := d) (kvs := kvs) it hod).keep
  item := by
    intro X hP hw hK hc i pins s σ H E I hf st hg
    subst hP hw hK
    obtain ⟨hd, hi⟩ := hg
    obtain ⟨f0, f1, f2, f3, f4, f5⟩ := hf it (by simp)
    obtain ⟨hs, hgd, hx, es', ep', vs, hdt, hsz, kv, hm⟩ := I.frzK hd
    obtain ⟨rfl, rfl⟩ := dict_ep hod hdt
    obtain ⟨⟨k, v⟩, hkv⟩ : ∃ p, kvs[i]? = some p := ⟨kvs[i], List.getElem?_eq_getElem hi⟩
    obtain ⟨u, hu, ru⟩ := kv_get kv hkv
    have hl : kvs.length = vs.length := Paired.length kv
    rw [hl] at st
    refine wpAny_pyNext_dict_item st hm hu fun key h' hkey st' sb => ?_
    have I1 : Inv X pins σ H { s with heap := h' } := I.turned (t' := s.toks) (fun b ob hb e => (sb.2 b hb).trans e) f0 f1 f3 f4 f5
    obtain ⟨oi, e, c, dd⟩ := id st'
    refine ⟨key, rfl, go_of (s := { s with heap := h' }) e c dd (by decide) ⟨kV k, H, I1, relV_key (show keyIs k key = true from hkey), ⟨rfl, k, v, hkv, rfl⟩, ?_, fun b hb => (hf b hb).1⟩⟩
    show h'.IsKeyIter it d (i + 1) kvs.length _
    rw [hl]
    exact st'
  done := by
    intro X hP hw hK hc i pins s σ H E I hf st hg
    subst hP hw hK
    obtain ⟨hd, hi⟩ := hg
    obtain ⟨f0, f1, f2, f3, f4, f5⟩ := hf it (by simp)
    obtain ⟨hs, hgd, hx, es', ep', vs, hdt, hsz, kv, hm⟩ := I.frzK hd
    obtain ⟨rfl, rfl⟩ := dict_ep hod hdt
    obtain ⟨p, ⟨hh, v1, e1, c1⟩, hp⟩ := hc
    have hot : HotAt X.A p.1 s.heap := ⟨hh, p.2, v1, (I.pin p (List.mem_append_left _ hp)).1, e1, c1⟩
    exact key_end_hot hot (f5 p (List.mem_append_left _ hp)) st hgd hdt hsz hi fun h' eb => ⟨rfl, I.turned (t' := s.toks) (fun b ob hb e => eb b ob hb e) f0 f1 f3 f4 f5⟩
  self := fun A i s Q E st h => wpAny_pyIter_keyiter st h
/-- .. of keys that are words or numbers -/
def iKeysH (td : TE) : TI := fun σ H R => td σ H fun x H1 => ∃ d o, x = .ref d ∧ ((∃ kvs, H1 d = some (.frz o (.dK kvs)) ∧ R (Itk d o kvs) H1) ∨ False)
theorem pi_keysH {X : Cx} {tg e : Expr} {td : TE} (he : PE X e td) : PIH X tg e (iKeysH td) := by
  refine ⟨fun pins s σ H R I h => ?_⟩
  refine thn (he.run pins s σ H _ I h) fun u s1 ⟨x, H1, I1, rx, d, o, ex, q⟩ => ?_
  subst ex
  obtain rfl : u = Value.ref d := rx
  rcases q with ⟨kvs, hd, q⟩ | q
  · obtain ⟨hs, hgd, hx, es, ep, vs, hdt, hsz, kv, hm⟩ := I1.frzK hd
    refine iter_keys hs hgd hx hdt ?_
    have I2 : Inv X pins σ H1 { s1 with heap := s1.heap.push { cls := .type "dict_keyiterator", data := .fields #[.ref d, .int 0 0, .int es.size 0, .int ep 0] } } := I1.kept (t' := s1.toks) fun b ob e => Heap.get?_push_of_some _ e
    refine ⟨s1.heap.objs.size, [s1.heap.objs.size], _, _, H1, rfl, I2, turn_keysH (kvs := kvs) _ hdt, ⟨_, Heap.get?_push_size _ rfl, rfl, ?_⟩, fun b hb => ?_, q⟩
    · rw [hsz] <;> rfl
    · have e : b = s1.heap.objs.size := by simpa using hb
      subst e
      exact I1.fpOk (Nat.le_refl _) (I1.hok.fresh (Nat.le_refl _))
  · exact q.elim
/-- such a block's context keeps the handled exception -/
abbrev blkH (X : Cx) (s : Shared) (H : Hp) (scope : Scope) (cenv : Env) (fp : List Addr) : Cx := { X with s_0 := s, H_0 := H, env := cenv, outer := X.stack, ex := fp, fn := fun x => scope.names.lookup x == some .cell, xe := fun _ _ => False }
theorem hotC_blk {X : Cx} {s : Shared} {H : Hp} {scope : Scope} {cenv : Env} {fp : List Addr} (h : HotC X) : HotC (blkH X s H scope cenv fp) := h
theorem block_startH {X : Cx} {pins : List (Addr × Obj)} {σ : L2.St} {H : Hp} {s : Shared} {scope : Scope} {own : List (Str × Nat)} {fp : List Addr} (I : Inv X pins σ H s) (ok : BlkOk X.N X.env.scope scope own) (hN : X.N.Nodup) (hfp : ∀ b ∈ fp, FpOk X pins H b ∧ b < s.heap.objs.size) :
    Inv (blkH X s H scope (compEnvC scope (cellsFrom (s.heap.objs.size + 1) scope.names (cloFrom X.env.cells scope.names [])) s.heap.objs.size X.env) fp) [] (wipe σ (own.map (·.2))) H { s with heap := pushCells (s.heap.push { cls := .type "dict", data := .dict #[] }) scope.names } := by
  have J := block_start I ok hN hfp
  have k := J.ok
  refine ⟨⟨k.mod, k.kind, k.glob, k.blt, k.above, k.inj, k.has, k.cab, k.hd, k.frames, k.stk, k.exf, k.bs, k.bsz, k.noex, k.exfs, k.funs, k.frf⟩, J.os, J.bare, J.base, J.loc, J.cell, J.free, J.freeC, fun p hp => ?_, J.hok, J.len⟩
  have hp : p ∈ X.pn ++ [] := hp
  rw [List.append_nil] at hp
  obtain ⟨p1, p2, p3, p4, p5⟩ := I.pin p (List.mem_append_left _ hp)
  refine ⟨pushCells_keeps _ _ _ _ (Heap.get?_push_of_some _ p1), p2, ?_, ?_, p5⟩
  · show p.1 ≠ s.heap.objs.size
    exact Nat.ne_of_lt (Heap.lt_size p1)
  · show p.1 ∉ frs X.stack
    exact fun hm => (List.mem_cons.mp (I.stkSub p.1 hm)).elim p3 p4
theorem lc_coreH {X : Cx} {pins : List (Addr × Obj)} {s : Shared} {σ : L2.St} {H : Hp} {Q : VK} {elt tg iter : Expr} {ifs : List Expr} {scope : Scope} {own : List (Str × Nat)} {pos pos' : Pos} {wi : TI} {g : TG} {tt : TT} {te : TE} {use : Option (Value → Sem Unit)} {Qf : Value → Shared → Prop}
    (hc : HotC X) (hN : X.N.Nodup) (I : Inv X pins σ H s) (hi : PIH X tg iter wi) (ok : BlkOk X.N X.env.scope scope own)
    (hg : ∀ (s : Shared) (H : Hp) (C : Addr) (cl : List (Str × Addr)) (fp : List Addr), PG (blkH X s H scope (compEnvC scope cl C X.env) fp) tg g) (ht : ∀ (s : Shared) (H : Hp) (C : Addr) (cl : List (Str × Addr)) (fp : List Addr), PTs (blkH X s H scope (compEnvC scope cl C X.env) fp) ifs tt)
    (he : ∀ (s : Shared) (H : Hp) (C : Addr) (cl : List (Str × Addr)) (fp : List Addr), PE (blkH X s H scope (compEnvC scope cl C X.env) fp) elt te) (hs : ∀ x, foldedSetIterable iter X.env x = pure x)
    (h : tLc wi g tt te (own.map (·.2)) σ H Q)
    (hRR : ∀ D C s' m H', Inv X pins σ H' s' → Q (.ref D) H' → s'.heap.Ns C m → FpOk X pins H' C → compPost (model X.prog X.w) X.A X.xe use Qf (.ref D) C (.ok .next) s') :
    wpAny (model X.prog X.w) X.A (comprehension (.ListComp elt [⟨tg, iter, ifs, 0⟩] scope pos) scope X.env pos' (newList []) false (eval iter X.env) use) Qf X.xe s := by
  have hfree : ∀ y ∈ scope.names, y.2 = .free → ∃ c, X.env.cells.lookup y.1 = some c := fun y hy e => by
    rcases ok.free y hy e with k | k
    · exact I.ok.has _ (.inl k)
    · exact I.ok.has _ (.inr k)
  refine wpAny_comprehension_free (use := use) rfl hs (closure_ok hfree) ok.kind (fun y hy e => by rw [ok.uniq y hy, e])
    (thn (hi.run pins s σ H _ I h) fun xv s1 hx => thn hx fun itv s2 h2 => ?_)
  obtain ⟨it, fp, tn, J, H2, e, I2, T, st2, f2, q⟩ := h2
  subst e
  refine wpAny_newObj_type (newEnv_comp ?_) (by show 0 ≤ sizeLine; decide)
  generalize hD : s2.heap.objs.size = D
  have hDn : H2 D = none := I2.hok.fresh (Nat.le_of_eq hD)
  obtain ⟨W, ⟨m0, w0⟩, turn⟩ := q D hDn
  -- the new list
  generalize hs3 : ({ s2 with heap := s2.heap.push { cls := .type "list", data := .seq ([] : List Value).toArray } } : Shared) = s3
  have I3 : Inv X pins σ (upd H2 D (.lst [])) s3 := by
    rw [← hs3]
    refine I2.laid (t' := s2.toks) (fun b o e => Heap.get?_push_of_some _ e) (Nat.le_of_eq hD) ⟨Nat.zero_le _, [], 0, .nil, ?_⟩
    rw [← hD]
    exact Heap.get?_push_size _ rfl
  have h3 : s3.heap = s2.heap.push { cls := .type "list", data := .seq ([] : List Value).toArray } := by rw [← hs3]
  have sz : ∀ b ∈ fp, b < s2.heap.objs.size := fun b hb => by
    obtain ⟨o, e, _⟩ := T.obj _ _ st2 b hb
    exact Heap.lt_size e
  have f3 : ∀ b ∈ fp, FpOk X pins (upd H2 D (.lst [])) b ∧ b < s3.heap.objs.size := fun b hb => by
    have hlt := sz b hb
    refine ⟨⟨?_, (f2 b hb).2⟩, by rw [h3, Heap.size_push]; exact Nat.lt_succ_of_lt hlt⟩
    rw [upd_ne (by rw [← hD]; exact Nat.ne_of_lt hlt)]
    exact (f2 b hb).1
  have st3 : tn 0 s3.heap := T.keep _ _ _ st2 fun b _ o e => by rw [h3]; exact Heap.get?_push_of_some _ e
  have I4 := block_startH I3 ok hN f3
  have pg := hg s3 (upd H2 D (.lst [])) s3.heap.objs.size (cellsFrom (s3.heap.objs.size + 1) scope.names (cloFrom X.env.cells scope.names [])) fp
  have pt := ht s3 (upd H2 D (.lst [])) s3.heap.objs.size (cellsFrom (s3.heap.objs.size + 1) scope.names (cloFrom X.env.cells scope.names [])) fp
  have pe := he s3 (upd H2 D (.lst [])) s3.heap.objs.size (cellsFrom (s3.heap.objs.size + 1) scope.names (cloFrom X.env.cells scope.names [])) fp
  show codeAny _ _ (.compStart (.ListComp elt [⟨tg, iter, ifs, 0⟩] scope pos) 0 (.ref it) (.ref D) (compEnvC scope (cellsFrom (s3.heap.objs.size + 1) scope.names (cloFrom X.env.cells scope.names [])) s3.heap.objs.size X.env)) (compPost (model X.prog X.w) X.A X.xe use Qf (.ref D) s3.heap.objs.size) { s3 with heap := pushCells (s3.heap.push { cls := .type "dict", data := .dict #[] }) scope.names }
  have nfp : ∀ b ∈ fp, (upd H2 D (.lst [])) b = none := fun b hb => (f3 b hb).1.1
  generalize hce : compEnvC scope (cellsFrom (s3.heap.objs.size + 1) scope.names (cloFrom X.env.cells scope.names [])) s3.heap.objs.size X.env = ce at I4 pg pt pe ⊢
  have cL : ce.locals = s3.heap.objs.size := by subst hce; rfl
  generalize hH3 : upd H2 D (.lst []) = H3 at I3 I4 pg pt pe w0 nfp f3
  generalize hs4 : ({ s3 with heap := pushCells (s3.heap.push { cls := .type "dict", data := .dict #[] }) scope.names } : Shared) = s4 at I4 ⊢
  have st4 : tn 0 s4.heap := T.keep _ _ _ st3 fun b _ o e => by rw [← hs4]; exact pushCells_keeps _ _ _ _ (Heap.get?_push_of_some _ e)
  have stat : ∀ {σ' : L2.St} {H' : Hp} {s' : Shared}, Inv (blkH X s3 H3 scope ce fp) [] σ' H' s' → (∀ b ∈ fp, H' b = none) → ∀ b ∈ fp, FpOk (blkH X s3 H3 scope ce fp) [] H' b := fun {σ' H' s'} I' hn b hb =>
    ⟨hn b hb, (I'.ok.exf b hb).1, I'.ok.exfs b hb, .inl hb, fun x c e => (I'.ok.exf b hb).2 x c e, fun p hp => (f3 b hb).1.2.2.2.2.2 p (List.mem_append_left _ (by simpa using hp))⟩
  have loop : codeAny (model X.prog X.w) X.A (.compLoop (.ListComp elt [⟨tg, iter, ifs, 0⟩] scope pos) 0 (.ref it) (.ref D) ce) (compPost (model X.prog X.w) X.A X.xe use Qf (.ref D) s3.heap.objs.size) s4 := by
    refine compLoop_any (fun n s' => ∃ i H', Inv (blkH X s3 H3 scope ce fp) [] (wipe σ (own.map (·.2))) H' s' ∧ tn i s'.heap ∧ (∀ b ∈ fp, H' b = none) ∧ W i n H') ?_ m0 ⟨0, H3, I4, st4, nfp, w0⟩
    rintro n s5 ⟨i, H5, I5, st5, n5, w5⟩
    rcases turn i n H5 w5 with ⟨stop, qq⟩ | ⟨go, Nx, hNx, step⟩
    · have td := T.done (blkH X s3 H3 scope ce fp) rfl rfl rfl hc i [] s5 _ H5 (fun _ _ => False) I5 (stat I5 n5) st5 stop
      refine thnF td fun r s6 ⟨hr, I6⟩ => ?_
      subst hr
      -- back in the def's context
      have I7 : Inv X pins σ H5 s6 := I3.call' (ch := fp) I6.os I6.base I6.hok I6.bare fun b hb => ⟨(f3 b hb).1.2.2.2.1, (f3 b hb).1.2.1, (f3 b hb).1.2.2.2.2.1, (f3 b hb).1.2.2.2.2.2⟩
      have nC : H5 s3.heap.objs.size = none := by
        have z : H5 ce.locals = none := I6.free
        rw [cL] at z
        exact z
      obtain ⟨m, hn, _⟩ := I6.loc
      have hn : s6.heap.Ns ce.locals m := hn
      rw [cL] at hn
      exact hRR D s3.heap.objs.size s6 m H5 I7 qq hn (I3.fpOk (Nat.le_refl _) nC)
    · have ti := T.item (blkH X s3 H3 scope ce fp) rfl rfl rfl hc i [] s5 _ H5 (fun _ _ => False) I5 (stat I5 n5) st5 go
      refine thnF ti fun r s6 ⟨u, hr, h6⟩ => ?_
      subst hr
      refine thnF h6 fun _ s7 ⟨x, H7, I7, r7, y7, st7, n7⟩ => ?_
      have I7' := I7.pinned (stat I7 n7) (T.obj _ _ st7)
      refine thnF (pg.run _ s7 _ H7 x u _ I7' r7 (step x H7 y7)) fun _ s8 ⟨σ8, H8, I8, hw8, q8⟩ => ?_
      refine thnF (pt.run _ s8 σ8 H8 _ I8 q8) fun b s9 ⟨H9, I9, q9⟩ => ?_
      -- the turn's end
      have fin : ∀ {s' : Shared} {H' : Hp}, Inv (blkH X s3 H3 scope ce fp) ([] ++ pinsAt fp s7.heap) σ8 H' s' → Nx H' → ∃ m, m < n ∧ ∃ i H', Inv (blkH X s3 H3 scope ce fp) [] (wipe σ (own.map (·.2))) H' s' ∧ tn i s'.heap ∧ (∀ b ∈ fp, H' b = none) ∧ W i m H' := fun {s' H'} I' nx => by
        obtain ⟨m', hm, w'⟩ := hNx H' nx
        have pin' : ∀ b ∈ fp, ∀ o, s7.heap.get? b = some o → s'.heap.get? b = some o ∧ H' b = none := fun b hb o e =>
          let z := I'.pin (b, o) (List.mem_append_right _ (List.mem_append_right _ (mem_pinsAt hb e)))
          ⟨z.1, z.2.1⟩
        have hl : (wipe σ (own.map (·.2))).length = σ8.length := by rw [← hw8, wipe_length]
        refine ⟨m', hm, i + 1, H', (I'.unpinned (pins := [])).weak hl (fun j v e => ?_), T.keep _ _ _ st7 fun b hb o e => (pin' b hb o e).1, fun b hb => ?_, w'⟩
        · rw [← hw8] at e
          exact (wipe_some e).1
        · obtain ⟨o, e, _⟩ := T.obj _ _ st7 b hb
          exact (pin' b hb o e).2
      cases b with
      | false =>
        simp only [Bool.false_eq_true, if_false] at q9 ⊢
        exact fin I9 q9
      | true =>
        simp only [if_true] at q9 ⊢
        refine thnF (pe.run _ s9 σ8 H9 _ I9 q9) fun z s10 ⟨yv, H10, I10, r10, acc, hD10, hz10, nx⟩ => ?_
        exact app_ok (X := blkH X s3 H3 scope ce fp) I10 hD10 hz10 r10 fun s11 I11 => fin I11 nx
  exact codeAny_compStart_list loop (T.self X.A 0 _ _ _ st4 loop)
theorem pe_lcH {X : Cx} {elt tg iter : Expr} {ifs : List Expr} {scope : Scope} {own : List (Str × Nat)} {pos : Pos} {wi : TI} {g : TG} {tt : TT} {te : TE} (hc : HotC X) (hN : X.N.Nodup) (hi : PIH X tg iter wi) (ok : BlkOk X.N X.env.scope scope own)
    (hg : ∀ (s : Shared) (H : Hp) (C : Addr) (cl : List (Str × Addr)) (fp : List Addr), PG (blkH X s H scope (compEnvC scope cl C X.env) fp) tg g) (ht : ∀ (s : Shared) (H : Hp) (C : Addr) (cl : List (Str × Addr)) (fp : List Addr), PTs (blkH X s H scope (compEnvC scope cl C X.env) fp) ifs tt)
    (he : ∀ (s : Shared) (H : Hp) (C : Addr) (cl : List (Str × Addr)) (fp : List Addr), PE (blkH X s H scope (compEnvC scope cl C X.env) fp) elt te) (hs : ∀ x, foldedSetIterable iter X.env x = pure x := by intro _; rfl) :
    PE X (.ListComp elt [⟨tg, iter, ifs, 0⟩] scope pos) (tLc wi g tt te (own.map (·.2))) := by
  refine ⟨fun pins s σ H Q I h => ?_⟩
  rw [eval_ListComp]
  refine lc_coreH hc hN I hi ok hg ht he hs h fun D C s' m H' I' q hn f => ⟨m, hn, fun h'' sb => ?_⟩
  obtain ⟨f0, f1, f2, f3, f4, f5⟩ := f
  exact ⟨.ref D, H', I'.turned (t' := s'.toks) (fun b o hb e => (sb.2 b hb).trans e) f0 f1 f3 f4 f5, rfl, q⟩
end K89
/-! within an except suite: list(dict), defs by their bodies -/
namespace K89
open PySem PySem.Spec PyProof.Rows HotX
section
variable {prog : Program} {w : World}
/-- what list() collects there -/
structure SrcH (prog : Program) (w : World) (A0 : Around) (T : String) (r d x1 : Addr) (n : Nat) (P : Nat → Value → Prop) (OK : Heap → Prop) : Prop where
  type : ∀ s : Shared, OK s.heap → s.TypeIs (.ref r) T
  there : ∀ h : Heap, OK h → r < h.objs.size ∧ d < h.objs.size ∧ x1 < h.objs.size
  keep : ∀ h h' : Heap, OK h → (∀ b, b = r ∨ b = d ∨ b = x1 → ∀ o, h.get? b = some o → h'.get? b = some o) → OK h'
  notList : (Value.type T == Value.type "list") = false
  notTuple : (Value.type T == Value.type "tuple") = false
  hint : ∀ (A : Around) (E : Value → Shared → Prop) (s : Shared) (Q : Bool → Shared → Prop), OK s.heap → Q false s → wpAny (model prog w) A (Builtin.List.listLengthHint (.ref r)) Q E s
  iter : ∀ (B : Around) (s : Shared), B.handled = A0.handled → OK s.heap → ∃ (oI : Obj) (St : Nat → Heap → Prop),
    (∀ (E : Value → Shared → Prop) (Q : Value → Shared → Prop), Q (.ref s.heap.objs.size) { s with heap := s.heap.push oI } → wpAny (model prog w) B (pyIter (.ref r)) Q E s) ∧
    Walks prog w B s.heap.objs.size [s.heap.objs.size, d, x1] [s.heap.objs.size] n P St ∧ St 0 (s.heap.push oI)
end
section
variable {prog : Program} {w : World} {A A0 : Around} {E : Value → Shared → Prop} {s : Shared} {T : String} {r d x1 : Addr} {n : Nat} {P : Nat → Value → Prop} {OK : Heap → Prop}
theorem kdlH_extend {R : Result → Shared → Prop} (K : SrcH prog w A0 T r d x1 n P OK) (hh : A.handled = A0.handled) (hok : OK s.heap) (S : Addr) (hSr : S ≠ r) (hSd : S ≠ d) (hSx : S ≠ x1) (res : Value) (c₀ : Nat) (hS : s.heap.get? S = some { cls := .type "list", data := .seq #[] c₀ })
    (hR : ∀ h' tk acc' c', (∀ b o, b ≠ S → s.heap.get? b = some o → h'.get? b = some o) → h'.get? S = some { cls := .type "list", dict := none, data := .seq acc' c', slots := #[] } → ItemsOf P acc' n → R (.ok (.ret res)) { s with heap := h', toks := tk }) (hn : n ≤ sizeLine) :
    wpAny (model prog w) A.in1 (Builtin.List.listExtendWith (.ref S) (.ref r) res)
      (fun fin s' => match fin with | .done f => R (.ok f) s' | .again c' => c'.quiet = true ∧ codeAny (model prog w) A c' R s') (fun e s' => R (.error e) s') s := by
  have hSI : S ≠ s.heap.objs.size := Nat.ne_of_lt (Heap.lt_size hS)
  have hSf : S ∉ [s.heap.objs.size, d, x1] := by simp only [List.mem_cons, List.not_mem_nil, or_false, not_or]; exact ⟨hSI, hSd, hSx⟩
  obtain ⟨oI, St, hit, W, st⟩ := K.iter A.in1 s hh hok
  have key : ∀ (h : Heap) (c₁ tk : Nat), St 0 h → (∀ b o, b ≠ S → s.heap.get? b = some o → h.get? b = some o) →
      h.get? S = some { cls := .type "list", data := .seq #[] c₁ } → codeAny (model prog w) A (.builtin "list.extend.loop" ⟨[.ref S, .ref s.heap.objs.size, res], []⟩) R { s with heap := h, toks := tk } := by
    intro h c₁ tk hst hk hS₁
    refine codeAny_extend_loopS W.toS hn S hSf res n 0 _ #[] c₁ rfl (Nat.zero_le _) hst hS₁ (ItemsOf.nil _) fun s' acc' c' hm hS' hacc => ?_
    rw [Moved.eq_with hm]
    refine hR s'.heap s'.toks acc' c' (fun b o hb e => hm.heap b o (fun hmem => ?_) (hk b o hb e)) hS' hacc
    rcases List.mem_cons.mp hmem with e' | hmem
    · exact hb e'
    · exact absurd (Heap.lt_size e) (by rw [List.mem_singleton.mp hmem]; exact Nat.lt_irrefl _)
  unfold Builtin.List.listExtendWith
  refine wpAny_bind (wpAny_typeOf (T := T) (K.type s hok) ?_)
  have h1 : Builtin.List.listSameRef (.ref S) (.ref r) = false := by simp [Builtin.List.listSameRef, hSr]
  simp only [h1, K.notList, K.notTuple, Bool.or_false, Bool.false_eq_true, if_false]
  refine wpAny_bind (hit _ _ ?_)
  have hS₁ := Heap.get?_push_of_some oI hS
  refine wpAny_bind (wpAny_holding (K.hint _ _ _ _ (K.keep _ _ hok fun b _ o e => Heap.get?_push_of_some _ e) ?_))
  refine wpAny_ite_split (fun _ => ?_) (fun _ => wpAny_pure ⟨plainId_quiet PySem.F.plain_extend_loop _, key _ c₀ _ st (fun b o _ e => Heap.get?_push_of_some _ e) hS₁⟩)
  refine wpAny_bind (wpAny_rule ?_)
  refine wpAny_bind ?_
  show wpAny _ _ (updateSeq S (·.push .none) >>= fun _ => updateSeq S (·.pop)) _ _ _
  refine wpAny_bind (wpAny_updateSeq hS₁ rfl ?_)
  have hS₂ := Heap.get?_update_self (Obj.mapSeq (·.push Value.none)) hS₁ rfl
  refine wpAny_updateSeq (hz := by seq_fits) hS₂ rfl ?_
  have hS₃ := Heap.get?_update_self (Obj.mapSeq (·.pop)) hS₂ rfl
  refine wpAny_pure ⟨plainId_quiet PySem.F.plain_extend_loop _, key _ _ _ ?_ (fun b o hb e => ?_) hS₃⟩
  · refine W.frame 0 _ _ st fun b hb o e => ?_
    have hbS : b ≠ S := fun h => hSf (h ▸ hb)
    exact (Heap.get?_update_other _ _ (Ne.symm hbS)).trans ((Heap.get?_update_other _ _ (Ne.symm hbS)).trans e)
  · exact (Heap.get?_update_other _ _ (Ne.symm hb)).trans ((Heap.get?_update_other _ _ (Ne.symm hb)).trans (Heap.get?_push_of_some _ e))
theorem kdlH_init {R : Result → Shared → Prop} (K : SrcH prog w A0 T r d x1 n P OK) (hh : A.handled = A0.handled) (hok : OK s.heap) (S : Addr) (hSr : S ≠ r) (hSd : S ≠ d) (hSx : S ≠ x1) (hS : s.heap.get? S = some { cls := .type "list", data := .seq #[] })
    (hR : ∀ h' tk acc' c', (∀ b o, b ≠ S → s.heap.get? b = some o → h'.get? b = some o) → h'.get? S = some { cls := .type "list", dict := none, data := .seq acc' c', slots := #[] } → ItemsOf P acc' n → R (.ok (.ret .none)) { s with heap := h', toks := tk }) (hn : n ≤ sizeLine) :
    wpAny (model prog w) A.in1 (Builtin.«list.__init__» ⟨[.ref S, .ref r], []⟩)
      (fun fin s' => match fin with | .done f => R (.ok f) s' | .again c' => c'.quiet = true ∧ codeAny (model prog w) A c' R s') (fun e s' => R (.error e) s') s := by
  show wpAny _ _ (do let old ← Builtin.List.listItems (.ref S); Builtin.List.listUpdate (.ref S) (fun _ => #[]); letGo old.toList.reverse; Builtin.List.listExtendWith (.ref S) (.ref r) .none) _ _ s
  refine wpAny_bind ?_
  unfold Builtin.List.listItems
  refine wpAny_bind (wpAny_seqItems hS rfl (wpAny_pure ?_))
  show wpAny _ _ (updateSeq S (fun _ => #[]) >>= fun _ => letGo (#[] : Array Value).toList.reverse >>= fun _ => Builtin.List.listExtendWith (.ref S) (.ref r) .none) _ _ s
  refine wpAny_bind (wpAny_updateSeq hS rfl ?_)
  have hS₂ := Heap.get?_update_self (Obj.mapSeq (fun _ => (#[] : Array Value))) hS rfl
  have oth : ∀ b o, b ≠ S → s.heap.get? b = some o → (s.heap.update S (Obj.mapSeq (fun _ => (#[] : Array Value)))).get? b = some o :=
    fun b o hb e => (Heap.get?_update_other _ _ (Ne.symm hb)).trans e
  refine wpAny_bind (wpAny_letGo ?_)
  refine kdlH_extend K hh (K.keep _ _ hok fun b hb o e => oth b o (by rcases hb with rfl | rfl | rfl; exact hSr.symm; exact hSd.symm; exact hSx.symm) e) S hSr hSd hSx .none _ hS₂ (fun h' tk acc' c' hk hS' hacc => ?_) hn
  exact hR h' tk acc' c' (fun b o hb e => hk b o hb (oth b o hb e)) hS' hacc
theorem kdlH_call {Q : Value → Shared → Prop} (K : SrcH prog w A0 T r d x1 n P OK) (hh : A.handled = A0.handled) (hok : OK s.heap) (hn : n ≤ sizeLine)
    (hQ : ∀ h' tk acc' c', (∀ b o, s.heap.get? b = some o → h'.get? b = some o) → h'.get? s.heap.objs.size = some { cls := .type "list", dict := none, data := .seq acc' c', slots := #[] } → ItemsOf P acc' n → Q (.ref s.heap.objs.size) { s with heap := h', toks := tk }) :
    wpAny (model prog w) A (call (.type "list") [.ref r]) Q E s := by
  refine callType_codes (Q₁ := fun obj s₁ => obj = .ref s.heap.objs.size ∧ s₁ = { s with heap := s.heap.push { cls := .type "list", data := .seq #[] } }) PySem.F.called_list (PySem.F.typeCall_list_1 _) PySem.F.entry_list_init
    (code_list_new _ ⟨rfl, rfl⟩) fun obj s₁ h₁ => ?_
  obtain ⟨rfl, rfl⟩ := h₁
  have hS : (s.heap.push { cls := .type "list", data := .seq #[] }).get? s.heap.objs.size = some { cls := .type "list", data := .seq #[] } := Heap.get?_push_size _ rfl
  have hlt := K.there _ hok
  refine ⟨⟨_, hS, rfl⟩, PySem.F.args_list_init_2 _ _, kdlH_init (A := A.in1) K hh (K.keep _ _ hok fun b _ o e => Heap.get?_push_of_some _ e) _ (Nat.ne_of_gt hlt.1) (Nat.ne_of_gt hlt.2.1) (Nat.ne_of_gt hlt.2.2) hS (fun h' tk acc' c' hk hS' hacc => ?_) hn⟩
  exact ⟨rfl, hQ h' tk acc' c' (fun b o e => hk b o (Nat.ne_of_lt (Heap.lt_size e)) (Heap.get?_push_of_some _ e)) hS' hacc⟩

end
theorem HotAt.to {A B : Around} {x1 : Addr} {h h' : Heap} (hot : HotAt A x1 h) (e : B.handled = A.handled) (k : ∀ o, h.get? x1 = some o → h'.get? x1 = some o) : HotAt B x1 h' := by
  obtain ⟨hh, o, vs, h1, d1, c1⟩ := hot
  exact ⟨e.trans hh, o, vs, k _ h1, d1, c1⟩
theorem HotAt.lt {A : Around} {x1 : Addr} {h : Heap} (hot : HotAt A x1 h) : x1 < h.objs.size := by
  obtain ⟨hh, o, vs, h1, _⟩ := hot
  exact Heap.lt_size h1
section
variable {prog : Program} {w : World} {K : Type} [DecidableEq K] {knd : KeyKind prog w K} {d : Addr} {kvs : List (K × Value)} {ep : Nat} {A B : Around} {x1 : Addr}
theorem walks_dictH (hB : B.handled = A.handled) (I d x1 : Addr) (hne : d ≠ I) (hnx : x1 ≠ I) (kvs : List (K × Value)) (ep : Nat) :
    Walks prog w B I [I, d, x1] [I] kvs.length (fun i v => ∃ k x, kvs[i]? = some (k, x) ∧ knd.is k v = true) (fun i h => (h.IsKeyIter I d i kvs.length ep ∧ h.DictAt knd d kvs ep) ∧ HotAt A x1 h) where
  sub := fun b hb => by simp at hb; simp [hb]
  frame := fun _ _ _ st hk => ⟨⟨st.1.1.at fun o e => hk I (by simp) o e, st.1.2.at' fun o e => hk d (by simp) o e⟩, HotAt.to st.2 rfl fun o e => hk x1 (by simp) o e⟩
  item := fun i s Q E hi st hQ => by
    obtain ⟨⟨k, x⟩, hx⟩ : ∃ p, kvs[i]? = some p := ⟨kvs[i], by simp [hi]⟩
    refine wpAny_pyNext_dict_item st.1.1 st.1.2 hx fun key h' hkey hit' hs' => ?_
    exact hQ key h' s.toks ⟨k, x, hx, hkey⟩ ⟨⟨hit', st.1.2.extBut hs'.extBut hne⟩, HotAt.to st.2 rfl fun o e => hs'.extBut x1 o hnx e⟩ fun b o hb e => hs'.extBut b o (fun h => hb (by simp [h])) e
  done := fun s Q E st hQ => by
    obtain ⟨⟨hit, hm⟩, hot⟩ := st
    obtain ⟨o, es, ho, hc, hdat, hk, hp, hn⟩ := id hm
    have hsz : es.size = kvs.length := by rw [← hp.length]; simp
    exact key_end_hot (HotAt.to hot hB fun _ e => e) hnx hit ho hdat hsz (Nat.le_refl _) fun h' he' => hQ h' s.toks fun b o hb e => he' b o (fun h => hb (by simp [h])) e
  self := fun _ _ _ _ st hQ => wpAny_pyIter_keyiter st.1.1 hQ
theorem src_dictH (lo : (d == sysModules) = false) : SrcH prog w A "dict" d d x1 kvs.length (fun i v => ∃ k x, kvs[i]? = some (k, x) ∧ knd.is k v = true) (fun h => h.DictAt knd d kvs ep ∧ HotAt A x1 h) where
  type := fun _ hm => hm.1.dictOf.typeIs
  there := fun _ hm => ⟨hm.1.lt_size, hm.1.lt_size, HotAt.lt hm.2⟩
  keep := fun _ _ hm hk => ⟨hm.1.at' fun o e => hk d (.inl rfl) o e, HotAt.to hm.2 rfl fun o e => hk x1 (.inr (.inr rfl)) o e⟩
  notList := by decide
  notTuple := by decide
  hint := fun _ _ _ _ hm hq => PySem.W.kdl_hint_dict hm.1.dictOf.typeIs hq
  iter := fun B s hB hm => ⟨_, _, (fun _ _ hq => wpAny_pyIter_dict lo hm.1 hq), walks_dictH hB _ d x1 (Nat.ne_of_lt hm.1.lt_size) (Nat.ne_of_lt (HotAt.lt hm.2)) kvs ep, ⟨⟨⟨_, Heap.get?_push_size _ rfl, rfl, rfl⟩, hm.1.push _⟩, HotAt.to hm.2 rfl fun o e => Heap.get?_push_of_some _ e⟩⟩
end
end K89
namespace K89
open PySem PySem.Spec PyProof.Rows L2 HotX L2H
section
variable {X : Cx}
theorem call_list_dictH (hc : HotC X) : CallR X (.type "list") rListD := by
  intro pins s σ H xs us Q I r h
  obtain ⟨a, kvs, rfl, ha, q⟩ := h
  obtain ⟨u, rfl, rx⟩ := vals1 r
  cases rx
  obtain ⟨o, ep, vs, hs, ho, hz, kv, hm⟩ := dict_at I ha
  have hkl : kvs.length = vs.length := Paired.length kv
  obtain ⟨x1, hot⟩ := hc.at I
  refine kdlH_call (src_dictH (A := X.A) (x1 := x1) (kvs := vs) (ep := ep) hs) rfl ⟨hm, hot⟩ (by omega) fun h' tk acc' c' hk hS hacc => ?_
  obtain ⟨hl, hi⟩ := hacc
  have rv : Vals (kvs.map fun p => kV p.1) acc'.toList := keys_vals kv (by simpa using hl) fun j u hu => hi j u (by simpa using hu)
  refine ⟨.ref s.heap.objs.size, _, I.laid (t' := tk) hk (Nat.le_refl _) (show ObjOk X.prog X.w _ h' _ (.lst (kvs.map fun p => kV p.1)) from ⟨by rw [List.length_map]; exact hz, acc'.toList, c', rv, by simpa using hS⟩), rfl, q _ (I.hok.fresh (Nat.le_refl _))⟩
end
theorem rh_units {k : Nat} {A : Around} (r : RoomH k A) : A.units + 64 < cLine := by have := r.un; omega
theorem rh_one {k : Nat} {A : Around} (r : RoomH k A) : A.units + 1 < cLine := by have := r.un; omega
section
variable {P : Program} {w : World} {K : PySem.W.Frag} {mg : Str → Option Value} {base : Heap}
/-- the promise of a def there, by its body -/
theorem okH {x qual : Str} {params : Arguments} {body : List Stmt} {scope : Scope} {dvs : List V} {kws : List (Str × V)} {f : Addr} {fd : FuncData} {CX : CXT} {N ps : List Str} {k : Nat} {sp : Sp} (F : FunD K x qual params body scope dvs kws f fd) (S : FnScope N ps scope) (len : ∀ vs H Q E, sp vs H Q E → vs.length = ps.length)
    (hbody : ∀ (cdv : Value) (A : Around) (outer : List Env) (s : Shared) (H : Hp) (vs : List V) (Q : VK) (E : XK) (p : Addr × Obj), Hot1 A p → RoomH k (A.deeper (envOfC qual scope s.heap.objs.size f cdv)) → sp vs H Q E →
      ∃ t, PSs (cxH CX P w K mg base N qual scope f cdv A outer s H E p) body t ∧ t { nx := fun _ H' => Q .non H', rt := Q } (L2.start N vs) H) : FnH P w K mg base CX (k + 1) f fd ps sp := by
  obtain ⟨oc, od, dV, kV, doc, pm, an, cdv, ct, osl, rfl, lk, hcd, _, _⟩ := F.ex
  exact fn_ofH lk hcd S len fun A outer s H vs Q E p hot hr hsp => hbody cdv A outer s H vs Q E p hot hr hsp
theorem hotC_nox {CX : CXT} {N : List Str} {qual : Str} {scope : Scope} {f : Addr} {cd : Value} {A : Around} {outer : List Env} {s : Shared} {H : Hp} {E : XK} {p : Addr × Obj} (hot : Hot1 A p) : HotC (cxH CX P w K mg base N qual scope f cd A outer s H E p).nox := ⟨p, hot, List.mem_singleton_self p⟩
structure CalH (P : Program) (w : World) (K : PySem.W.Frag) (mg : Str → Option Value) (base : Heap) (k : Nat) (x : Str) (sp : Sp) : Prop where
  ex : ∃ (f : Addr) (fd : FuncData) (ps : List Str), FnH P w K mg base C8.CX0 k f fd ps sp ∧ mg x = some (.ref f) ∧ PySem.W.keepIn K (.ref f) = true ∧ Binds K fd ps []
end
theorem pe_ch {X : Cx} {k j : Nat} {x : Str} {sp : Sp} {p pos : Pos} {e : Expr} {es : List Expr} {t : TA} (c : CalH X.prog X.w X.K X.mg X.base k x sp) (hr : RoomH j X.A) (hk : k ≤ j) (hc : HotC X) (hg : Gl X x) (ha : PA X (e :: es) t)
    (hdb : (x == ("__debug__" : Str)) = false := by decide) (he : starEach (e :: es) X.env = (false, eval e X.env) :: starEach es X.env := by rfl) (hpl : (backTo pos (starEach es X.env)).any (·.1) = false := by rfl) :
    PE X (.Call (.Name x p) (e :: es) [] pos) (tCallS sp (fun _ => C8.E0) t) := by
  obtain ⟨f, fd, ps, F, hm, kp, b⟩ := c.ex
  exact pe_callH F (hr.mono hk) hc hg hm kp b (fun σ _ _ _ _ _ _ h => h.elim) ha hdb he hpl
end K89
namespace K89
open PySem PySem.Spec PyProof.Rows L2
open C8 (Cal pe_c)
open HotX L2H
section
variable {P : Program} {w : World} {K : PySem.W.Frag} {mg : Str → Option Value} {base : Heap}
theorem c_law_same_stepH (T : Tx w K mg) {n k : Nat} (c_law_same : CalH P w K mg base k "_law_same" (spSame K n)) : CalH P w K mg base (k + 1) "_law_same" (spSame K (n + 1)) := by
  obtain ⟨fd, F⟩ := T.d_law_same
  refine ⟨_, fd, P_law_same, okH F sc_law_same (fun vs H Q E h => ?_) (fun cdv A outer s H vs Q E p hot hr h => ⟨_, PSs.nox (pss_cons (ps_if (PW.pt (pw_or (pt_cmpR op_isN (pv 1) pe_non (nomark _)) (pw_or1 (pt_val (xIs T.n_isinstance T.n_bool b_bool (pv 1)))))) (pss_one (ps_ret (pe_ifExp (pt_cmpR op_isN (pv 1) pe_non (nomark _)) (pe_cmpR op_isN (pv 0) pe_non (nomark _)) (pe_and (xIs T.n_isinstance T.n_bool b_bool (pv 0)) (pe_one (pe_cmpR op_eq (pe_cmpR op_isBl (pv 0) pe_bl (nomark _)) (pe_cmpR op_isBl (pv 1) pe_bl (nomark _)) (nomark _))))))) pss_nil)
    (pss_cons (ps_if (pt_val (xIs T.n_isinstance T.n_int b_int (pv 1))) (pss_one (ps_ret (pe_and (xIs T.n_isinstance T.n_int b_int (pv 0)) (pe_and (pe_not (xIs T.n_isinstance T.n_bool b_bool (pv 0))) (pe_one (pe_cmpR op_eq (pe_op op_sub (pe_callTy call_int1 rfl T.n_int b_int (pa_cons (pv 0) pa_nil)) (pv 1)) pe_int (nomark _))))))) pss_nil)
    (pss_cons (ps_if (pt_val (xIs T.n_isinstance T.n_str b_str (pv 1))) (pss_one (ps_ret (pe_and (xIs T.n_isinstance T.n_str b_str (pv 0)) (pe_and (pe_cmpR op_eq (pe_callB call_len rfl T.n_len PySem.boot_len (pa_cons (pv 0) pa_nil)) (pe_callB call_len rfl T.n_len PySem.boot_len (pa_cons (pv 1) pa_nil)) (nomark _)) (pe_one (pe_cmpR (op_eqD (rh_units hr)) (pe_lcH (own := [("k", 2)]) (g := gName 2) (tt := tTest (tOp rNe (tSl rSlS (tVar 0) (tPart (tVar 2)) (tPart (tOp (rI0 fun i j => .int (i + j)) (tVar 2) (tC (.int 1))))) (tOp rIxS (tVar 1) (tVar 2)))) (hotC_nox hot) sc_law_same.nd (pi_range1H (by rfl) T.n_range (pa_cons (pe_callB call_len rfl T.n_len PySem.boot_len (pa_cons (pv 1) pa_nil)) pa_nil)) (blkOk_by (N := N_law_same) (sc := defScope s_law_same) (by decide +kernel)) (fun _ _ _ _ _ => (pg_name (i := 2) sc_law_same.nd rfl (Or.inl rfl))) (fun _ _ _ _ _ => (pts_one (pt_cmpR op_ne (pe_slice sl_str (pv 0) (po_some (pv 2)) (po_some (pe_op op_add (pv 2) pe_int))) (pe_ix ix_str (pv 1) (pv 2) (fun _ _ => rfl)) (nomark _)))) (fun _ _ _ _ _ => (pv 2))) (pe_lst pa_nil) (nomark _))))))) pss_nil)
    (pss_cons (ps_if (pt_val (xIs T.n_isinstance T.n_dict b_dict (pv 1))) (pss_one (ps_ret (pe_and (xIs T.n_isinstance T.n_dict b_dict (pv 0)) (pe_and (pe_cmpR (op_eqD (rh_units hr)) (pe_callTy (call_list_dictH (hotC_nox hot)) rfl T.n_list b_list (pa_cons (pv 0) pa_nil)) (pe_callTy (call_list_dictH (hotC_nox hot)) rfl T.n_list b_list (pa_cons (pv 1) pa_nil)) (nomark _)) (pe_one (pe_cmpR (op_eqD (rh_units hr)) (pe_lock (pe_lcH (own := [("k", 2)]) (g := gName 2) (tt := tNot (tB (tCallS (spSame K n) (fun _ => C8.E0) (tCons (tDGet (tVar 0) (tVar 2)) (tCons (tDGet (tVar 1) (tVar 2)) tNil))))) (hotC_nox hot) sc_law_same.nd (pi_keysH (pv 1)) (blkOk_by (N := N_law_same) (sc := defScope s_law_same) (by decide +kernel)) (fun _ _ _ _ _ => (pg_name (i := 2) sc_law_same.nd rfl (Or.inl rfl))) (fun _ _ _ _ _ => (pts_one (pt_not (pt_val (pe_ch c_law_same hr (Nat.le_refl _) (hotC_blk (hotC_nox hot)) rfl (pa_cons (pe_dget (rh_one hr) (pv 0) (pv 2) (fun _ _ => rfl)) (pa_cons (pe_dget (rh_one hr) (pv 1) (pv 2) (fun _ _ => rfl)) pa_nil))))))) (fun _ _ _ _ _ => (pv 2)))) (pe_lst pa_nil) (nomark _))))))) pss_nil)
    (pss_cons (ps_if (PW.pt (pw_or (pt_cmpR op_ne (xIs T.n_isinstance T.n_list b_list (pv 0)) (xIs T.n_isinstance T.n_list b_list (pv 1)) (nomark _)) (pw_or1 (pt_cmpR op_ne (xIs T.n_isinstance T.n_tuple b_tuple (pv 0)) (xIs T.n_isinstance T.n_tuple b_tuple (pv 1)) (nomark _))))) (pss_one (ps_ret pe_bl)) pss_nil)
    (pss_cons (ps_if (pt_not (pt_val (pe_callB call_is2 rfl T.n_isinstance b_isinstance (pa_cons (pv 1) (pa_cons (pe_tup (pa_cons (pe_bltn rfl T.n_list b_list (v := .ty "list") rfl) (pa_cons (pe_bltn rfl T.n_tuple b_tuple (v := .ty "tuple") rfl) pa_nil))) pa_nil))))) pss_never pss_nil)
    (pss_one (ps_ret (pe_and (pe_cmpR op_eq (pe_callB call_len rfl T.n_len PySem.boot_len (pa_cons (pv 0) pa_nil)) (pe_callB call_len rfl T.n_len PySem.boot_len (pa_cons (pv 1) pa_nil)) (nomark _)) (pe_one (pe_cmpR (op_eqD (rh_units hr)) (pe_lcH (own := [("k", 2)]) (g := gName 2) (tt := tNot (tB (tCallS (spSame K n) (fun _ => C8.E0) (tCons (tOp (rIx K) (tVar 0) (tVar 2)) (tCons (tOp (rIx K) (tVar 1) (tVar 2)) tNil))))) (hotC_nox hot) sc_law_same.nd (pi_range1H (by rfl) T.n_range (pa_cons (pe_callB call_len rfl T.n_len PySem.boot_len (pa_cons (pv 1) pa_nil)) pa_nil)) (blkOk_by (N := N_law_same) (sc := defScope s_law_same) (by decide +kernel)) (fun _ _ _ _ _ => (pg_name (i := 2) sc_law_same.nd rfl (Or.inl rfl))) (fun _ _ _ _ _ => (pts_one (pt_not (pt_val (pe_ch c_law_same hr (Nat.le_refl _) (hotC_blk (hotC_nox hot)) rfl (pa_cons (pe_ix (ix_seqK (K := K)) (pv 0) (pv 2) (fun _ _ => rfl)) (pa_cons (pe_ix (ix_seqK (K := K)) (pv 1) (pv 2) (fun _ _ => rfl)) pa_nil))))))) (fun _ _ _ _ _ => (pv 2))) (pe_lst pa_nil) (nomark _)))))))))))), ?_⟩), T.g_law_same, F.kp, F.bindsN fun _ _ _ _ _ _ us hl => match us, hl with | [_, _], _ => rfl⟩
  · obtain ⟨_, v, w', rfl, _⟩ := h
    rfl
  obtain ⟨_, v, w', rfl, hS, q⟩ := h
  have hS : SamD K H n v w' := hS
  cases hS with
  | non m =>
    exact ⟨_, rfl, rfl, _, rfl, iT rfl (iteT ⟨_, rfl, rfl, _, rfl, iT rfl ⟨_, rfl, rfl, qT rfl (q H (Same.refl H))⟩⟩)⟩
  | bl m b =>
    refine ⟨_, rfl, rfl, _, rfl, iF nofun ⟨_, rfl, _, "bool", "bool", rfl, by decide, ty_bl K H b, true, rfl, iteT ?_⟩⟩
    refine ⟨_, rfl, rfl, _, rfl, iF nofun ⟨_, rfl, _, "bool", "bool", rfl, by decide, ty_bl K H b, true, rfl, iteT ?_⟩⟩
    exact ⟨_, rfl, _, _, rfl, rfl, _, rfl, _, _, rfl, rfl, rfl, qT rfl (q H (Same.refl H))⟩
  | int m i =>
    refine ⟨_, rfl, rfl, _, rfl, iF nofun ?_⟩
    refine ⟨_, rfl, _, "bool", "int", rfl, by decide, ty_int K H i, false, rfl, ?_⟩
    refine iteF ?_
    refine ⟨_, rfl, _, "int", "int", rfl, by decide, ty_int K H i, true, rfl, iteT ?_⟩
    refine ⟨_, rfl, _, "int", "int", rfl, by decide, ty_int K H i, true, rfl, iteT ?_⟩
    refine ⟨_, rfl, _, "bool", "int", rfl, by decide, ty_int K H i, false, rfl, true, rfl, iteT ?_⟩
    exact ⟨_, rfl, .inl ⟨_, rfl, _, rfl, _, _, rfl, rfl, rfl, qT (int_eq (by omega)) (q H (Same.refl H))⟩⟩
  | str m x hx =>
    refine ⟨_, rfl, rfl, _, rfl, iF nofun ?_⟩
    refine ⟨_, rfl, _, "bool", "str", rfl, by decide, ty_str K H x, false, rfl, ?_⟩
    refine iteF ?_
    refine ⟨_, rfl, _, "int", "str", rfl, by decide, ty_str K H x, false, rfl, ?_⟩
    refine iteF ?_
    refine ⟨_, rfl, _, "str", "str", rfl, by decide, ty_str K H x, true, rfl, iteT ?_⟩
    refine ⟨_, rfl, _, "str", "str", rfl, by decide, ty_str K H x, true, rfl, iteT ?_⟩
    refine ⟨_, rfl, _, _, rfl, ⟨len_small hx, rfl⟩, _, rfl, _, _, rfl, ⟨len_small hx, rfl⟩, rfl, _, rfl, iT rfl ?_⟩
    refine ⟨_, rfl, _, _, rfl, ⟨len_small hx, rfl⟩, (x.length : Int), rfl, by omega, by omega, fun D hD => lc_it (walk_range (lo := 0) (n := x.length)) (Lc D fun i acc H' => Same H H' ∧ acc = []) (lc_start ⟨same_new hD _, rfl⟩) (fun i H' _ p => trivial) (fun i y H1 H2 hi p y2 => ?_) (fun H' p => ?_)⟩
    · obtain ⟨acc, e, hl', g, rfl⟩ := p
      obtain ⟨rfl, rfl⟩ := y2
      obtain ⟨c, h1, h2⟩ := cut_one hi
      have e0 : (0 : Int) + (i : Nat) = ((i : Nat) : Int) := by omega
      refine ⟨rfl, _, rfl, _, rfl, _, rfl, _, rfl, _, _, rfl, rfl, _, rfl, x, rfl, len_small hx, _, rfl, _, rfl, x, _, c, rfl, rfl, len_small hx, by rw [e0]; exact h1, rfl, _, rfl, ?_⟩
      refine niT ?_ ⟨[], e, Nat.zero_le _, g, rfl⟩
      have e1 : (0 : Int) + (i : Nat) + 1 = (((i + 1 : Nat)) : Int) := by omega
      rw [e1, e0, h2]
    · obtain ⟨acc, e, hl', g, rfl⟩ := p
      refine ⟨(by show 0 ≤ sizeLine; decide), fun z hz => ?_⟩
      have gz : Same H' (upd H' z (.lst [])) := same_new hz _
      refine ⟨.list [], .list [], .lst (SqL.of (gz _ _ e)) .nil, .lst (SqL.of upd_same) .nil, shaped_nil, shaped_nil, ?_⟩
      exact q _ (g.trans gz)
  | @dct m a kvs h hz f =>
    have ty : Ty K H (.ref a) "dict" := ty_dK (.inl h)
    refine ⟨_, rfl, rfl, _, rfl, iF nofun ?_⟩
    refine ⟨_, rfl, _, "bool", "dict", rfl, by decide, ty, false, rfl, ?_⟩
    refine iteF ?_
    refine ⟨_, rfl, _, "int", "dict", rfl, by decide, ty, false, rfl, ?_⟩
    refine iteF ?_
    refine ⟨_, rfl, _, "str", "dict", rfl, by decide, ty, false, rfl, ?_⟩
    refine iteF ?_
    refine ⟨_, rfl, _, "dict", "dict", rfl, by decide, ty, true, rfl, iteT ?_⟩
    refine ⟨_, rfl, _, "dict", "dict", rfl, by decide, ty, true, rfl, iteT ?_⟩
    refine ⟨_, rfl, a, kvs, rfl, h, fun l hl => ?_⟩
    have g1 := same_new hl (.lst (kvs.map fun p => kV p.1))
    refine ⟨_, rfl, a, kvs, rfl, g1 _ _ h, fun l2 hl2 => ?_⟩
    have g2 := g1.trans (same_new hl2 (.lst (kvs.map fun p => kV p.1)))
    refine ⟨.list (kvs.map keyD), .list (kvs.map keyD), .lst (SqL.of ((same_new hl2 _) _ _ upd_same)) (keyD_all _ kvs), .lst (SqL.of upd_same) (keyD_all _ kvs), keyD_shaped f, keyD_shaped f, _, rfl, ?_⟩
    rw [keyD_eqv f]
    refine iteT ⟨a, _, g2 _ _ h, trivial, fun od => ?_⟩
    have h2 := g2 _ _ h
    generalize hG : (upd (upd H l (HO.lst (kvs.map fun p => kV p.1))) l2 (HO.lst (kvs.map fun p => kV p.1))) = G at h2 g2 ⊢
    refine ⟨_, rfl, a, od, rfl, .inl ⟨kvs, upd_same, fun D hD => lc_it (walk_keys (d := a) (o := od) (kvs := kvs)) (Lc D fun i acc H' => Same (upd G a (.frz od (.dK kvs))) H' ∧ acc = []) (lc_start ⟨same_new hD _, rfl⟩) (fun i H' _ p => ?_) (fun i y H3 H4 hi p y2 => ?_) (fun H' p => ?_)⟩⟩
    · obtain ⟨acc, e, hl', g, rfl⟩ := p
      exact g _ _ upd_same
    · obtain ⟨acc, e, hl', g, rfl⟩ := p
      obtain ⟨rfl, k, v, hk, rfl⟩ := y2
      obtain ⟨x, i2, hp, _, hv⟩ := f (k, v) (List.mem_of_getElem? hk)
      cases hp
      have hd : DGet H4 a (kV (Sum.inr x)) (some (.int i2)) := .inl ⟨kvs, Sum.inr x, .inr ⟨od, g _ _ upd_same⟩, rfl, hv.symm⟩
      refine ⟨rfl, _, rfl, _, rfl, a, _, rfl, hd, _, rfl, _, rfl, a, _, rfl, hd, by omega, .int i2, .int i2, rfl, .int _ i2, fun H5 g5 => ⟨true, rfl, ?_⟩⟩
      exact iteF ⟨[], g5 _ _ e, Nat.zero_le _, g.trans g5, rfl⟩
    · obtain ⟨acc, e, hl', g, rfl⟩ := p
      refine ⟨g _ _ upd_same, ?_⟩
      have ha : a ≠ D := ne_of_none upd_same hD
      have gF : Same G (upd H' a (.dK kvs)) := fun c o hc => by
        by_cases hca : c = a
        · subst hca
          rw [h2] at hc
          cases hc
          exact upd_same
        · rw [upd_ne hca]
          exact g _ _ (by rw [upd_ne hca]; exact hc)
      have e' : (upd H' a (.dK kvs)) D = some (.lst []) := by rw [upd_ne ha.symm]; exact e
      refine ⟨(by show 0 ≤ sizeLine; decide), fun z hz => ?_⟩
      have gz : Same (upd H' a (.dK kvs)) (upd (upd H' a (.dK kvs)) z (.lst [])) := same_new hz _
      refine ⟨.list [], .list [], .lst (SqL.of (gz _ _ e')) .nil, .lst (SqL.of upd_same) .nil, shaped_nil, shaped_nil, ?_⟩
      exact q _ (g2.trans (gF.trans gz))
  | @lst m a b xs ys h h' hl hz f =>
    have ty : Ty K H (.ref a) "list" := ty_lst h
    have ty' : Ty K H (.ref b) "list" := ty_lst h'
    refine ⟨_, rfl, rfl, _, rfl, iF nofun ?_⟩
    refine ⟨_, rfl, _, "bool", "list", rfl, by decide, ty', false, rfl, ?_⟩
    refine iteF ?_
    refine ⟨_, rfl, _, "int", "list", rfl, by decide, ty', false, rfl, ?_⟩
    refine iteF ?_
    refine ⟨_, rfl, _, "str", "list", rfl, by decide, ty', false, rfl, ?_⟩
    refine iteF ?_
    refine ⟨_, rfl, _, "dict", "list", rfl, by decide, ty', false, rfl, ?_⟩
    refine iteF ?_
    refine ⟨_, rfl, _, "list", "list", rfl, by decide, ty, _, rfl, _, "list", "list", rfl, by decide, ty', rfl, _, rfl, niT rfl ?_⟩
    refine ⟨_, rfl, _, "tuple", "list", rfl, by decide, ty, _, rfl, _, "tuple", "list", rfl, by decide, ty', rfl, _, rfl, niT rfl ?_⟩
    refine ⟨_, rfl, (by show 2 ≤ sizeLine; decide), fun p hp => ?_⟩
    have g := same_new hp (.tup [.ty "list", .ty "tuple"])
    refine ⟨_, p, "list", "tuple", "list", rfl, upd_same, by decide, by decide, ty_same g ty', true, rfl, iteF ?_⟩
    refine ⟨_, rfl, _, _, rfl, .inl ⟨_, (g.seq h), rfl⟩, _, rfl, _, _, rfl, .inl ⟨_, (g.seq h'), rfl⟩, rfl, _, rfl, iT (int_eq (by rw [hl])) ?_⟩
    refine ⟨_, rfl, _, _, rfl, .inl ⟨_, (g.seq h'), rfl⟩, (ys.length : Int), rfl, by omega, by omega, fun D hD => lc_it (walk_range (lo := 0) (n := ys.length)) (Lc D fun i acc H' => Same (upd H p (.tup [.ty "list", .ty "tuple"])) H' ∧ acc = []) (lc_start ⟨same_new hD _, rfl⟩) (fun i H' _ p => trivial) (fun i y H1 H2 hi p y2 => ?_) (fun H' p => ?_)⟩
    · obtain ⟨acc, e, hl', g2, rfl⟩ := p
      obtain ⟨rfl, rfl⟩ := y2
      have e0 : (0 : Int) + (i : Nat) = ((i : Nat) : Int) := by omega
      have hx : xs[i]? = some (xs[i]'(by omega)) := List.getElem?_eq_getElem (by omega)
      have hy : ys[i]? = some ys[i] := List.getElem?_eq_getElem hi
      have g3 := g.trans g2
      refine ⟨rfl, _, rfl, _, rfl, .inl ⟨a, xs, _, _, rfl, rfl, (g3.seq h), by rw [e0]; exact atI_nat hx, _, rfl, _, rfl, .inl ⟨b, ys, _, _, rfl, rfl, (g3.seq h'), by rw [e0]; exact atI_nat hy, by omega, _, _, rfl, (f i _ _ hx hy).same g3, fun H5 g5 => ⟨true, rfl, ?_⟩⟩⟩⟩
      exact iteF ⟨[], g5 _ _ e, Nat.zero_le _, g2.trans g5, rfl⟩
    · obtain ⟨acc, e, hl', g2, rfl⟩ := p
      refine ⟨(by show 0 ≤ sizeLine; decide), fun z hz => ?_⟩
      have gz : Same H' (upd H' z (.lst [])) := same_new hz _
      refine ⟨.list [], .list [], .lst (SqL.of (gz _ _ e)) .nil, .lst (SqL.of upd_same) .nil, shaped_nil, shaped_nil, ?_⟩
      exact q _ (g.trans (g2.trans gz))
  | @tup m a b xs ys h h' hl hz f =>
    have ty : Ty K H (.ref a) "tuple" := ty_tup h
    have ty' : Ty K H (.ref b) "tuple" := ty_tup h'
    refine ⟨_, rfl, rfl, _, rfl, iF nofun ?_⟩
    refine ⟨_, rfl, _, "bool", "tuple", rfl, by decide, ty', false, rfl, ?_⟩
    refine iteF ?_
    refine ⟨_, rfl, _, "int", "tuple", rfl, by decide, ty', false, rfl, ?_⟩
    refine iteF ?_
    refine ⟨_, rfl, _, "str", "tuple", rfl, by decide, ty', false, rfl, ?_⟩
    refine iteF ?_
    refine ⟨_, rfl, _, "dict", "tuple", rfl, by decide, ty', false, rfl, ?_⟩
    refine iteF ?_
    refine ⟨_, rfl, _, "list", "tuple", rfl, by decide, ty, _, rfl, _, "list", "tuple", rfl, by decide, ty', rfl, _, rfl, niT rfl ?_⟩
    refine ⟨_, rfl, _, "tuple", "tuple", rfl, by decide, ty, _, rfl, _, "tuple", "tuple", rfl, by decide, ty', rfl, _, rfl, niT rfl ?_⟩
    refine ⟨_, rfl, (by show 2 ≤ sizeLine; decide), fun p hp => ?_⟩
    have g := same_new hp (.tup [.ty "list", .ty "tuple"])
    refine ⟨_, p, "list", "tuple", "tuple", rfl, upd_same, by decide, by decide, ty_same g ty', true, rfl, iteF ?_⟩
    refine ⟨_, rfl, _, _, rfl, .inr ⟨_, (same_tup g h), rfl⟩, _, rfl, _, _, rfl, .inr ⟨_, (same_tup g h'), rfl⟩, rfl, _, rfl, iT (int_eq (by rw [hl])) ?_⟩
    refine ⟨_, rfl, _, _, rfl, .inr ⟨_, (same_tup g h'), rfl⟩, (ys.length : Int), rfl, by omega, by omega, fun D hD => lc_it (walk_range (lo := 0) (n := ys.length)) (Lc D fun i acc H' => Same (upd H p (.tup [.ty "list", .ty "tuple"])) H' ∧ acc = []) (lc_start ⟨same_new hD _, rfl⟩) (fun i H' _ p => trivial) (fun i y H1 H2 hi p y2 => ?_) (fun H' p => ?_)⟩
    · obtain ⟨acc, e, hl', g2, rfl⟩ := p
      obtain ⟨rfl, rfl⟩ := y2
      have e0 : (0 : Int) + (i : Nat) = ((i : Nat) : Int) := by omega
      have hx : xs[i]? = some (xs[i]'(by omega)) := List.getElem?_eq_getElem (by omega)
      have hy : ys[i]? = some ys[i] := List.getElem?_eq_getElem hi
      have g3 := g.trans g2
      refine ⟨rfl, _, rfl, _, rfl, .inr (.inl ⟨a, xs, _, _, rfl, rfl, (same_tup g3 h), by rw [e0]; exact atI_nat hx, _, rfl, _, rfl, .inr (.inl ⟨b, ys, _, _, rfl, rfl, (same_tup g3 h'), by rw [e0]; exact atI_nat hy, by omega, _, _, rfl, (f i _ _ hx hy).same g3, fun H5 g5 => ⟨true, rfl, ?_⟩⟩)⟩)⟩
      exact iteF ⟨[], g5 _ _ e, Nat.zero_le _, g2.trans g5, rfl⟩
    · obtain ⟨acc, e, hl', g2, rfl⟩ := p
      refine ⟨(by show 0 ≤ sizeLine; decide), fun z hz => ?_⟩
      have gz : Same H' (upd H' z (.lst [])) := same_new hz _
      refine ⟨.list [], .list [], .lst (SqL.of (gz _ _ e)) .nil, .lst (SqL.of upd_same) .nil, shaped_nil, shaped_nil, ?_⟩
      exact q _ (g.trans (g2.trans gz))

theorem c_law_sameH (T : Tx w K mg) : ∀ n : Nat, CalH P w K mg base (n + 1) "_law_same" (spSame K n)
  | 0 => by
    obtain ⟨fd, F⟩ := T.d_law_same
    have no : ∀ vs H Q E, ¬ spSame K 0 vs H Q E := fun vs H Q E h => by
      obtain ⟨hn, _⟩ := h
      omega
    exact ⟨_, fd, P_law_same, ⟨fun vs H Q E h => absurd h (no vs H Q E), fun A outer s H args us vs Q E p _ _ _ _ _ _ h => absurd h (no vs H Q E)⟩, T.g_law_same, F.kp, F.bindsN fun _ _ _ _ _ _ us hl => match us, hl with | [_, _], _ => rfl⟩
  | n + 1 => c_law_same_stepH T (c_law_sameH T n)
end
end K89
/-! the bad lists of _law_refused -/
namespace K89
open PySem PySem.Spec PyProof.Rows L2
open C8 (Cal pe_c)
def kind0 : Tm := .lf (.kind 0)
section
variable {K : PySem.W.Frag}
def RowsBad (K : PySem.W.Frag) (H : Hp) (xs : List V) : Prop :=
  (∃ bs : List Bool, bs.length = xs.length ∧ (∀ (i : Nat) (y : V) (b : Bool), xs[i]? = some y → bs[i]? = some b → RowQ K H y b) ∧ bs.all id = false) ∨
  ∃ rows svs, RowsR K H xs rows svs ∧ rows.length ≤ 30000 ∧ (∀ r ∈ rows, r.1.length ≤ 100 ∧ r.2.ht ≤ 10) ∧ ¬ ApL (rows.map (·.1))
/-- what the loop asks of an item as it meets it -/
def ItL (K : PySem.W.Frag) (H : Hp) (x : V) : Prop :=
  (∃ c, Ty K H x c ∧ c ≠ "list" ∧ c ≠ "dict" ∧ c ≠ "tuple" ∧ ∀ H', SamD K H' 0 x x) ∨ (∃ a, x = .ref a ∧ H a = some (.dK [(Sum.inr "a", .int 1)])) ∨
  (∃ a xs, x = .ref a ∧ H a = some (.lst xs) ∧ xs.length ≤ 2 ∧ (∀ H', Mo a H H' → ∀ y ∈ xs, SamD K H' 3 y y) ∧ RowsBad K H xs)
def New (G G' H : Hp) : Prop := ∀ a o, G a = none → G' a = some o → H a = some o
/-- an item built from G to G' -/
def Itm (K : PySem.W.Frag) (G G' : Hp) (x : V) : Prop := (∀ a, x = .ref a → G a = none ∧ G' a ≠ none) ∧ ∀ H, New G G' H → TK K G' H → ItL K H x
inductive Chain (K : PySem.W.Frag) : Hp → List V → Hp → Prop where
  | nil {G G' : Hp} (e : Same G G') : Chain K G [] G'
  | cons {G G1 G' : Hp} {x : V} {xs : List V} (i : Itm K G G1 x) (e : Same G G1) (r : Chain K G1 xs G') : Chain K G (x :: xs) G'
theorem Itm.right {G G1 G2 : Hp} {x : V} (h : Itm K G G1 x) (e : Same G1 G2) : Itm K G G2 x := by
  refine ⟨fun a ha => ?_, fun H n t => h.2 H (fun a o h1 h2 => n a o h1 (e a o h2)) ((TK.of e).trans t)⟩
  obtain ⟨h1, h2⟩ := h.1 a ha
  refine ⟨h1, fun z => h2 ?_⟩
  cases q : G1 a with
  | none => rfl
  | some o => rw [e a o q] at z; cases z
theorem Itm.left {G0 G G1 : Hp} {x : V} (h : Itm K G G1 x) (e : Same G0 G) : Itm K G0 G1 x :=
  ⟨fun a ha => ⟨e.free (h.1 a ha).1, (h.1 a ha).2⟩, fun H n t => h.2 H (fun a o h1 h2 => n a o (e.free h1) h2) t⟩
theorem Chain.same {G G' : Hp} {xs : List V} (h : Chain K G xs G') : Same G G' := by
  induction h with
  | nil e => exact e
  | cons i e r ih => exact e.trans ih
theorem Chain.left {G0 G G' : Hp} {xs : List V} (h : Chain K G xs G') (e : Same G0 G) : Chain K G0 xs G' := by
  cases h with
  | nil e2 => exact .nil (e.trans e2)
  | cons i e2 r => exact .cons (i.left e) (e.trans e2) r
theorem Chain.app {G G1 G' : Hp} {xs ys : List V} (h : Chain K G xs G1) (g : Chain K G1 ys G') : Chain K G (xs ++ ys) G' := by
  induction h with
  | nil e => exact g.left e
  | cons i e r ih => exact .cons i e (ih g)
theorem Chain.right {G G1 G' : Hp} {xs : List V} (h : Chain K G xs G1) (e : Same G1 G') : Chain K G xs G' := by
  have := h.app (Chain.nil e)
  rwa [List.append_nil] at this
/-! ### one item -/
theorem itm_lst {G0 G : Hp} {a : Addr} {xs : List V} (g : Same G0 G) (ha : G a = none) (hl : xs.length ≤ 2)
    (hs : ∀ H, TK K G H → (∀ c o, G0 c = none → c ≠ a → G c = some o → H c = some o) → (∀ y ∈ xs, SamD K H 3 y y) ∧ RowsBad K H xs) : Itm K G0 (upd G a (.lst xs)) (.ref a) := by
  refine ⟨fun c hc => ?_, fun H n t => .inr (.inr ⟨a, xs, rfl, n a _ (g.free ha) upd_same, hl, fun H' m y hy => ?_, ?_⟩)⟩
  · cases hc
    exact ⟨g.free ha, by rw [upd_same]; exact nofun⟩
  · have hHa := n a _ (g.free ha) upd_same
    refine (hs H' ((TK.of (same_new ha _)).trans (t.trans (m.tk hHa))) fun c o h1 h2 h3 => m c o h2 (n c o h1 (by rw [upd_ne h2]; exact h3))).1 y hy
  · exact (hs H ((TK.of (same_new ha _)).trans t) fun c o h1 h2 h3 => n c o h1 (by rw [upd_ne h2]; exact h3)).2
theorem row_one {H : Hp} {y : V} (h : RowQ K H y false) : RowsBad K H [y] := by
  refine .inl ⟨[false], rfl, fun i z b hz hb => ?_, rfl⟩
  match i, hz, hb with
  | 0, hz, hb => cases hz; cases hb; exact h
theorem itm_tup {G0 G : Hp} {p L : Addr} {cs : List V} (g : Same G0 G) (hp : G p = none) (hL : (upd G p (.tup cs)) L = none) (hc : cs.length ≤ 3)
    (hs : ∀ H, TK K G H → (∀ c o, G0 c = none → c ≠ L → G c = some o → H c = some o) → (∀ y ∈ cs, SamD K H 2 y y) ∧ (SqT K H p cs → RowQ K H (.ref p) false)) : Itm K G0 (upd (upd G p (.tup cs)) L (.lst [.ref p])) (.ref L) := by
  refine itm_lst (g.trans (same_new hp _)) hL (by first | decide | (simp; done)) fun H t n => ?_
  have hS : SqT K H p cs := t _ _ (SqT.of upd_same)
  obtain ⟨h1, h2⟩ := hs H ((TK.of (same_new hp _)).trans t) fun c o e1 e2 e3 => n c o e1 e2 (same_new hp _ c o e3)
  refine ⟨fun y hy => ?_, row_one (h2 hS)⟩
  cases List.mem_singleton.mp hy
  exact .tup hS hS rfl (by omega) fun i x z hx hz => by
    rw [hx] at hz
    cases hz
    exact h1 x (List.mem_of_getElem? hx)
theorem same_upd2 {G : Hp} {p L : Addr} {o o' : HO} (hp : G p = none) (hL : (upd G p o) L = none) : Same G (upd (upd G p o) L o') := (same_new hp _).trans (same_new hL _)
/-! ### the items, as they are written -/
def ICtx (K : PySem.W.Frag) (σ : L2.St) (H : Hp) (s : Spot) : Prop := ∃ sv kv, σ[4]? = some (some sv) ∧ σ[7]? = some (some kv) ∧ SpR K H sv s ∧ TmR K H kv kind0 ∧ s.length ≤ 50
theorem ICtx.same {σ : L2.St} {H H' : Hp} {s : Spot} (h : ICtx K σ H s) (e : Same H H') : ICtx K σ H' s := by
  obtain ⟨sv, kv, h1, h2, h3, h4, h5⟩ := h
  exact ⟨sv, kv, h1, h2, dp_same e h3, dp_same e h4, h5⟩
def tItm (K : PySem.W.Frag) (s : Spot) : TE := fun σ H Q => ICtx K σ H s ∧ ∀ x H', Itm K H H' x → Same H H' → Q x H'
def tItms (K : PySem.W.Frag) (s : Spot) (n : Nat) : TA := fun σ H Q => ICtx K σ H s ∧ ∀ xs H', xs.length = n → Chain K H xs H' → Q xs H'
theorem PA.mono {X : Cx} {es : List Expr} {t t' : TA} (h : PA X es t) (m : ∀ σ H Q, t' σ H Q → t σ H Q) : PA X es t' := ⟨fun pos pins s σ H Q I q => h.run pos pins s σ H Q I (m σ H Q q)⟩
section
variable {X : Cx} {e : Expr} {es : List Expr} {s : Spot} {n : Nat}
theorem pi_nil0 : PA X [] (tItms K s 0) := PA.mono pa_nil fun σ H Q h => h.2 [] H rfl (.nil (Same.refl H))
theorem pi_cons0 (he : PE X e (tItm K s)) (hr : PA X es (tItms K s n)) (hs : starEach (e :: es) X.env = (false, eval e X.env) :: starEach es X.env := by rfl) : PA X (e :: es) (tItms K s (n + 1)) :=
  PA.mono (pa_cons he hr hs) fun σ H Q h => ⟨h.1, fun x H1 i g => ⟨h.1.same g, fun xs H2 hl c => h.2 (x :: xs) H2 (congrArg Nat.succ hl) (.cons i g c)⟩⟩
end
theorem itm_val {H : Hp} {x : V} {c : String} (h : ∀ H, Ty K H x c) (h1 : c ≠ "list") (h2 : c ≠ "dict") (h3 : c ≠ "tuple") (hs : ∀ H', SamD K H' 0 x x) (hr : ∀ a, x ≠ .ref a) : Itm K H H x :=
  ⟨fun a ha => absurd ha (hr a), fun H' _ _ => .inl ⟨c, h H', h1, h2, h3, hs⟩⟩
theorem i_non {σ : L2.St} {H : Hp} {Q : VK} {s : Spot} (h : tItm K s σ H Q) : Q .non H := h.2 _ H (itm_val (fun H => ty_dp .non) (by first | decide | (simp; done)) (by first | decide | (simp; done)) (by first | decide | (simp; done)) (fun H' => .non 0) nofun) (Same.refl H)
theorem i_int {σ : L2.St} {H : Hp} {Q : VK} {s : Spot} {i : Int} (h : tItm K s σ H Q) : Q (.int i) H := h.2 _ H (itm_val (fun H => ty_int K H i) (by first | decide | (simp; done)) (by first | decide | (simp; done)) (by first | decide | (simp; done)) (fun H' => .int 0 i) nofun) (Same.refl H)
theorem i_str {σ : L2.St} {H : Hp} {Q : VK} {s : Spot} {z : Str} (hz : z.length ≤ 1000) (h : tItm K s σ H Q) : Q (.str z) H := h.2 _ H (itm_val (fun H => ty_str K H z) (by first | decide | (simp; done)) (by first | decide | (simp; done)) (by first | decide | (simp; done)) (fun H' => .str 0 z hz) nofun) (Same.refl H)
theorem kind_flat : flatT kind0.data = true := flat_tm kind0
theorem sam_kind {H : Hp} {kv : V} (h : TmR K H kv kind0) : SamD K H 2 kv kv := (sam_tm (n := 1) (by first | decide | (simp; done)) h h).mono (by first | decide | (simp; done))
theorem sam_spot {H : Hp} {sv : V} {s : Spot} (hs : s.length ≤ 50) (h : SpR K H sv s) : SamD K H 2 sv sv := (sam_sp (by omega) h h).mono (by first | decide | (simp; done))
theorem len3 {n : Nat} (h : n ≤ 3) : n ≤ sizeLine := Nat.le_trans h (by first | decide | (simp; done))
theorem ints_get {s : Spot} {i : Nat} {y : V} (h : (s.map fun n : Nat => V.int (n : Int))[i]? = some y) : ∃ k : Nat, y = .int (k : Int) := by
  rw [List.getElem?_map] at h
  cases e : s[i]? with
  | none => rw [e] at h; cases h
  | some k => rw [e] at h; cases h; exact ⟨k, rfl⟩
/-- [spot] -/
theorem i_4 {σ : L2.St} {H : Hp} {Q : VK} {s : Spot} (h : tItm K s σ H Q) : tLst (tCons (tVar 4) tNil) σ H Q := by
  obtain ⟨⟨sv, kv, h4, h7, hs, hk, hl⟩, q⟩ := h
  refine ⟨sv, h4, len3 (by first | decide | (simp; done)), fun L hL => q _ _ (itm_lst (Same.refl H) hL (by first | decide | (simp; done)) fun G t n => ⟨fun y hy => ?_, row_one ?_⟩) (same_new hL _)⟩
  · cases List.mem_singleton.mp hy
    exact (sam_spot hl (dp_tk t (flat_sp s) hs)).mono (by first | decide | (simp; done))
  · obtain ⟨a, rfl, hS⟩ := sp_tup (dp_tk t (flat_sp s) hs)
    by_cases h2 : (s.map fun n : Nat => V.int (n : Int)).length = 2
    · obtain ⟨x, y, e⟩ : ∃ x y, (s.map fun n : Nat => V.int (n : Int)) = [x, y] := by
        match (s.map fun n : Nat => V.int (n : Int)), h2 with
        | [x, y], _ => exact ⟨x, y, rfl⟩
      obtain ⟨k, hk⟩ := ints_get (s := s) (i := 0) (y := x) (by rw [e]; rfl)
      rw [e] at hS
      subst hk
      exact .inr (.inr (.inr (.inl ⟨a, _, y, rfl, hS, .inr ⟨"int", ty_int K G _, by decide, rfl⟩, rfl⟩)))
    · exact .inr (.inr (.inl ⟨a, _, rfl, hS, h2, rfl⟩))
/-- [(spot,)] -/
theorem i_5 {σ : L2.St} {H : Hp} {Q : VK} {s : Spot} (h : tItm K s σ H Q) : tLst (tCons (tTup (tCons (tVar 4) tNil)) tNil) σ H Q := by
  obtain ⟨⟨sv, kv, h4, h7, hs, hk, hl⟩, q⟩ := h
  refine ⟨sv, h4, len3 (by first | decide | (simp; done)), fun p hp => ⟨len3 (by first | decide | (simp; done)), fun L hL => q _ _ (itm_tup (Same.refl H) hp hL (by first | decide | (simp; done)) fun G t n => ⟨fun y hy => ?_, fun hS => .inr (.inr (.inl ⟨p, _, rfl, hS, (by first | decide | (simp; done)), rfl⟩))⟩) (same_upd2 hp hL)⟩⟩
  cases List.mem_singleton.mp hy
  exact sam_spot hl (dp_tk t (flat_sp s) hs)
/-- [(spot, kind, 1)] -/
theorem i_6 {σ : L2.St} {H : Hp} {Q : VK} {s : Spot} (h : tItm K s σ H Q) : tLst (tCons (tTup (tCons (tVar 4) (tCons (tVar 7) (tCons (tC (.int 1)) tNil)))) tNil) σ H Q := by
  obtain ⟨⟨sv, kv, h4, h7, hs, hk, hl⟩, q⟩ := h
  refine ⟨sv, h4, kv, h7, len3 (by first | decide | (simp; done)), fun p hp => ⟨len3 (by first | decide | (simp; done)), fun L hL => q _ _ (itm_tup (Same.refl H) hp hL (by first | decide | (simp; done)) fun G t n => ⟨fun y hy => ?_, fun hS => .inr (.inr (.inl ⟨p, _, rfl, hS, (by first | decide | (simp; done)), rfl⟩))⟩) (same_upd2 hp hL)⟩⟩
  simp only [List.mem_cons, List.not_mem_nil, or_false] at hy
  rcases hy with rfl | rfl | rfl
  · exact sam_spot hl (dp_tk t (flat_sp s) hs)
  · exact sam_kind (dp_tk t kind_flat hk)
  · exact .int 2 1
/-- [[spot, kind]] -/
theorem i_7 {σ : L2.St} {H : Hp} {Q : VK} {s : Spot} (h : tItm K s σ H Q) : tLst (tCons (tLst (tCons (tVar 4) (tCons (tVar 7) tNil))) tNil) σ H Q := by
  obtain ⟨⟨sv, kv, h4, h7, hs, hk, hl⟩, q⟩ := h
  refine ⟨sv, h4, kv, h7, len3 (by first | decide | (simp; done)), fun p hp => ⟨len3 (by first | decide | (simp; done)), fun L hL => q _ _ (itm_lst (same_new hp _) hL (by first | decide | (simp; done)) fun G t n => ?_) (same_upd2 hp hL)⟩⟩
  have pL : p ≠ L := ne_of_none upd_same hL
  have hG := n p _ hp pL upd_same
  have t0 : TK K H G := (TK.of (same_new hp _)).trans t
  refine ⟨fun y hy => ?_, row_one (.inr (.inl ⟨"list", ty_lst (SqL.of hG), by decide, rfl⟩))⟩
  cases List.mem_singleton.mp hy
  refine .lst (SqL.of hG) (SqL.of hG) rfl (show 2 ≤ 30000 by decide) fun i x z hx hz => ?_
  match i, hx, hz with
  | 0, hx, hz => cases hx; cases hz; exact sam_spot hl (dp_tk t0 (flat_sp s) hs)
  | 1, hx, hz => cases hx; cases hz; exact sam_kind (dp_tk t0 kind_flat hk)
/-- [(list(spot), kind)] -/
theorem i_8 {σ : L2.St} {H : Hp} {Q : VK} {s : Spot} (h : tItm K s σ H Q) :
    tLst (tCons (tTup (tCons (fun σ H Q => tCons (tVar 4) tNil σ H fun xs H => (fun xs H Q => ∃ p ys, xs = [.ref p] ∧ (SqL K H p ys ∨ SqT K H p ys) ∧ ∀ l, H l = none → Q (.ref l) (upd H l (.lst ys))) xs H Q) (tCons (tVar 7) tNil))) tNil) σ H Q := by
  obtain ⟨⟨sv, kv, h4, h7, hs, hk, hl⟩, q⟩ := h
  obtain ⟨a, rfl, hS⟩ := sp_tup hs
  refine ⟨_, h4, a, _, rfl, .inr hS, fun l hl0 => ⟨kv, h7, len3 (by first | decide | (simp; done)), fun p hp => ⟨len3 (by first | decide | (simp; done)), fun L hL => q _ _ (itm_tup (same_new hl0 _) hp hL (by first | decide | (simp; done)) fun G t n => ?_) ((same_new hl0 _).trans (same_upd2 hp hL))⟩⟩⟩
  have lL : l ≠ L := ne_of_none (same_new hp _ _ _ upd_same) hL
  have hG := n l _ hl0 lL upd_same
  have t0 : TK K H G := (TK.of (same_new hl0 _)).trans t
  refine ⟨fun y hy => ?_, fun hSp => .inr (.inr (.inr (.inl ⟨p, _, kv, rfl, hSp, .inr ⟨"list", ty_lst (SqL.of hG), by decide, rfl⟩, rfl⟩)))⟩
  simp only [List.mem_cons, List.not_mem_nil, or_false] at hy
  rcases hy with rfl | rfl
  · refine .lst (SqL.of hG) (SqL.of hG) rfl (by rw [List.length_map]; omega) fun i x z hx hz => ?_
    obtain ⟨k, rfl⟩ := ints_get hx
    rw [hx] at hz
    cases hz
    exact .int _ _
  · exact sam_kind (dp_tk t0 kind_flat hk)
/-- [(spot, None)] -/
theorem i_9 {σ : L2.St} {H : Hp} {Q : VK} {s : Spot} (h : tItm K s σ H Q) : tLst (tCons (tTup (tCons (tVar 4) (tCons (tC .non) tNil))) tNil) σ H Q := by
  obtain ⟨⟨sv, kv, h4, h7, hs, hk, hl⟩, q⟩ := h
  refine ⟨sv, h4, len3 (by first | decide | (simp; done)), fun p hp => ⟨len3 (by first | decide | (simp; done)), fun L hL => q _ _ (itm_tup (Same.refl H) hp hL (by first | decide | (simp; done)) fun G t n => ⟨fun y hy => ?_, fun hS => .inr (.inr (.inr (.inr ⟨p, sv, .non, rfl, hS, spotq_of (dp_tk t (flat_sp s) hs) (by omega), .inr (.inl ⟨"NoneType", ty_dp .non, by decide, rfl⟩), rfl⟩)))⟩) (same_upd2 hp hL)⟩⟩
  simp only [List.mem_cons, List.not_mem_nil, or_false] at hy
  rcases hy with rfl | rfl
  · exact sam_spot hl (dp_tk t (flat_sp s) hs)
  · exact .non 2
/-- [(spot, ('hole', 1))] -/
theorem i_10 {σ : L2.St} {H : Hp} {Q : VK} {s : Spot} (h : tItm K s σ H Q) : tLst (tCons (tTup (tCons (tVar 4) (tCons (tTup (tCons (tC (.str "hole")) (tCons (tC (.int 1)) tNil))) tNil))) tNil) σ H Q := by
  obtain ⟨⟨sv, kv, h4, h7, hs, hk, hl⟩, q⟩ := h
  refine ⟨sv, h4, len3 (by first | decide | (simp; done)), fun a ha => ⟨len3 (by first | decide | (simp; done)), fun p hp => ⟨len3 (by first | decide | (simp; done)), fun L hL => q _ _ (itm_tup (same_new ha _) hp hL (by first | decide | (simp; done)) fun G t n => ?_) ((same_new ha _).trans (same_upd2 hp hL))⟩⟩⟩
  have hA : SqT K G a [.str "hole", .int 1] := t _ _ (SqT.of upd_same)
  have t0 : TK K H G := (TK.of (same_new ha _)).trans t
  refine ⟨fun y hy => ?_, fun hS => .inr (.inr (.inr (.inr ⟨p, sv, _, rfl, hS, spotq_of (dp_tk t0 (flat_sp s) hs) (by omega), .inr (.inr (.inl ⟨a, 1, rfl, hA, rfl⟩)), rfl⟩)))⟩
  simp only [List.mem_cons, List.not_mem_nil, or_false] at hy
  rcases hy with rfl | rfl
  · exact sam_spot hl (dp_tk t0 (flat_sp s) hs)
  · refine .tup hA hA rfl (show 2 ≤ 30000 by decide) fun i x z hx hz => ?_
    match i, hx, hz with
    | 0, hx, hz => cases hx; cases hz; exact .str _ _ (by decide +kernel)
    | 1, hx, hz => cases hx; cases hz; exact .int _ _
/-- {'a': 1} -/
theorem i_11 {σ : L2.St} {H : Hp} {Q : VK} {s : Spot} (h : tItm K s σ H Q) : tDisp [(tC (.str "a"), tC (.int 1))] σ H Q := by
  obtain ⟨_, q⟩ := h
  refine fun p hp => ⟨upd_same, [(Sum.inr "a", .int 1)], rfl, by decide, ?_⟩
  have e : upd (upd H p (.dK [])) p (.dK (mergeK [] [(Sum.inr "a", .int 1)])) = upd H p (.dK [(Sum.inr "a", .int 1)]) := by
    funext c
    by_cases hc : c = p
    · subst hc
      rw [upd_same, upd_same]
      rfl
    · rw [upd_ne hc, upd_ne hc, upd_ne hc]
  rw [e]
  refine q _ _ ⟨fun c hc => ?_, fun G n t => .inr (.inl ⟨p, rfl, n p _ hp upd_same⟩)⟩ (same_new hp _)
  cases hc
  exact ⟨hp, by rw [upd_same]; exact nofun⟩
/-- spot + (9,) -/
def Sp9 (K : PySem.W.Frag) (H : Hp) (s : Spot) (Q : VK) : Prop := ∀ z H', Same H H' → SpR K H' z (s ++ [9]) → Q z H'
theorem sp9 {σ : L2.St} {H : Hp} {Q : VK} {s : Spot} {sv : V} (h4 : σ[4]? = some (some sv)) (hs : SpR K H sv s) (hl : s.length ≤ 50) (q : Sp9 K H s Q) : tOp (rCatA K) (tVar 4) (tTup (tCons (tC (.int 9)) tNil)) σ H Q := by
  obtain ⟨a, rfl, hS⟩ := sp_tup hs
  refine ⟨_, h4, len3 (by first | decide | (simp; done)), fun b hb => ⟨a, b, _, _, rfl, rfl, same_tup (same_new hb _) hS, SqT.of upd_same, ?_, fun e => ?_, (fun _ e => nomatch e), fun _ _ p hp => ?_⟩⟩
  · rw [List.length_map]
    exact Nat.le_trans (show s.length + 1 ≤ 51 by omega) (by first | decide | (simp; done))
  · rw [List.map_eq_nil_iff] at e
    subst e
    exact q _ _ (same_new hb _) (sp_of (SqT.of upd_same))
  · refine q _ _ ((same_new hb _).trans (same_new hp _)) (sp_of ?_)
    rw [List.map_append]
    exact SqT.of upd_same
theorem rowR_of {H : Hp} {p : Addr} {sv kv : V} {s : Spot} (h : SqT K H p [sv, kv]) (hs : SpR K H sv s) (hk : TmR K H kv kind0) : RowR K H (.ref p) (s, kind0) sv := ⟨p, kv, rfl, h, hs, hk⟩
theorem sam_row {H : Hp} {p : Addr} {sv kv : V} {s : Spot} (hl : s.length ≤ 60) (h : SqT K H p [sv, kv]) (hs : SpR K H sv s) (hk : TmR K H kv kind0) : SamD K H 3 (.ref p) (.ref p) := by
  refine .tup h h rfl (show 2 ≤ 30000 by decide) fun i x z hx hz => ?_
  match i, hx, hz with
  | 0, hx, hz => cases hx; cases hz; exact (sam_sp (by omega) hs hs).mono (by first | decide | (simp; done))
  | 1, hx, hz => cases hx; cases hz; exact sam_kind hk
theorem rows2 {H : Hp} {p p' : Addr} {sv sv' kv : V} {s s' : Spot} (hl : s.length ≤ 60) (hl' : s'.length ≤ 60) (h : SqT K H p [sv, kv]) (h' : SqT K H p' [sv', kv]) (hs : SpR K H sv s) (hs' : SpR K H sv' s') (hk : TmR K H kv kind0) (pre : s' <+: s) : RowsBad K H [.ref p, .ref p'] := by
  refine .inr ⟨[(s, kind0), (s', kind0)], [sv, sv'], .cons (rowR_of h hs hk) (.cons (rowR_of h' hs' hk) .nil), (show 2 ≤ 30000 by decide), fun r hr => ?_, fun ap => ap 1 0 s' s rfl rfl (by first | decide | (simp; done)) pre⟩
  simp only [List.mem_cons, List.not_mem_nil, or_false] at hr
  rcases hr with rfl | rfl
  · exact ⟨by show s.length ≤ 100; omega, show kind0.ht ≤ 10 by decide⟩
  · exact ⟨by show s'.length ≤ 100; omega, show kind0.ht ≤ 10 by decide⟩
/-- [(spot, kind), (spot, kind)] -/
theorem i_12 {σ : L2.St} {H : Hp} {Q : VK} {s : Spot} (h : tItm K s σ H Q) : tLst (tCons (tTup (tCons (tVar 4) (tCons (tVar 7) tNil))) (tCons (tTup (tCons (tVar 4) (tCons (tVar 7) tNil))) tNil)) σ H Q := by
  obtain ⟨⟨sv, kv, h4, h7, hs, hk, hl⟩, q⟩ := h
  refine ⟨sv, h4, kv, h7, len3 (by first | decide | (simp; done)), fun p hp => ⟨sv, h4, kv, h7, len3 (by first | decide | (simp; done)), fun p' hp' => ⟨len3 (by first | decide | (simp; done)), fun L hL => q _ _ (itm_lst (same_upd2 hp hp') hL (by first | decide | (simp; done)) fun G t n => ?_) ((same_upd2 hp hp').trans (same_new hL _))⟩⟩⟩
  have t0 : TK K H G := (TK.of (same_upd2 hp hp')).trans t
  have g1 : SqT K G p [sv, kv] := t _ _ (SqT.of (same_new hp' _ _ _ upd_same))
  have g2 : SqT K G p' [sv, kv] := t _ _ (SqT.of upd_same)
  have hs' := dp_tk t0 (flat_sp s) hs
  have hk' := dp_tk t0 kind_flat hk
  refine ⟨fun y hy => ?_, rows2 (by omega) (by omega) g1 g2 hs' hs' hk' (List.prefix_refl _)⟩
  simp only [List.mem_cons, List.not_mem_nil, or_false] at hy
  rcases hy with rfl | rfl
  · exact sam_row (by omega) g1 hs' hk'
  · exact sam_row (by omega) g2 hs' hk'
/-- [(spot + (9,), kind), (spot, kind)] -/
theorem i_13 {σ : L2.St} {H : Hp} {Q : VK} {s : Spot} (h : tItm K s σ H Q) : tLst (tCons (tTup (tCons (tOp (rCatA K) (tVar 4) (tTup (tCons (tC (.int 9)) tNil))) (tCons (tVar 7) tNil))) (tCons (tTup (tCons (tVar 4) (tCons (tVar 7) tNil))) tNil)) σ H Q := by
  obtain ⟨⟨sv, kv, h4, h7, hs, hk, hl⟩, q⟩ := h
  refine sp9 h4 hs hl fun z H1 g1 hz => ⟨kv, h7, len3 (by first | decide | (simp; done)), fun p hp => ⟨sv, h4, kv, h7, len3 (by first | decide | (simp; done)), fun p' hp' => ⟨len3 (by first | decide | (simp; done)), fun L hL => q _ _ (itm_lst (g1.trans (same_upd2 hp hp')) hL (by first | decide | (simp; done)) fun G t n => ?_) (g1.trans ((same_upd2 hp hp').trans (same_new hL _)))⟩⟩⟩
  have t1 : TK K H1 G := (TK.of (same_upd2 hp hp')).trans t
  have t0 : TK K H G := (TK.of g1).trans t1
  have q1 : SqT K G p [z, kv] := t _ _ (SqT.of (same_new hp' _ _ _ upd_same))
  have q2 : SqT K G p' [sv, kv] := t _ _ (SqT.of upd_same)
  have hz' := dp_tk t1 (flat_sp _) hz
  have hs' := dp_tk t0 (flat_sp s) hs
  have hk' := dp_tk t0 kind_flat hk
  have l9 : (s ++ [9]).length ≤ 60 := by rw [List.length_append]; show s.length + 1 ≤ 60; omega
  refine ⟨fun y hy => ?_, rows2 l9 (by omega) q1 q2 hz' hs' hk' (List.prefix_append s [9])⟩
  simp only [List.mem_cons, List.not_mem_nil, or_false] at hy
  rcases hy with rfl | rfl
  · exact sam_row l9 q1 hz' hk'
  · exact sam_row (by omega) q2 hs' hk'
/-- [((x,), kind)], x no number -/
theorem i_one {H H1 : Hp} {Q : VK} {kv x : V} (g : Same H H1) (hk : TmR K H kv kind0) (hx : ∀ H, NumQ K H x (fun i => decide (0 ≤ i)) false) (hsx : ∀ H, SamD K H 1 x x) (q : ∀ x H', Itm K H H' x → Same H H' → Q x H') {m p L : Addr} (hm : H m = none) (hp : (upd H m (.tup [x])) p = none) (hL : (upd (upd H m (.tup [x])) p (.tup [.ref m, kv])) L = none) :
    Q (.ref L) (upd (upd (upd H m (.tup [x])) p (.tup [.ref m, kv])) L (.lst [.ref p])) := by
  refine q _ _ (itm_tup (same_new hm _) hp hL (by first | decide | (simp; done)) fun G t n => ?_) ((same_new hm _).trans (same_upd2 hp hL))
  have hM : SqT K G m [x] := t _ _ (SqT.of upd_same)
  have t0 : TK K H G := (TK.of (same_new hm _)).trans t
  refine ⟨fun y hy => ?_, fun hS => .inr (.inr (.inr (.inl ⟨p, _, kv, rfl, hS, .inl ⟨m, [x], [false], rfl, hM, (by first | decide | (simp; done)), rfl, fun i y b hy hb => ?_, rfl⟩, rfl⟩)))⟩
  · simp only [List.mem_cons, List.not_mem_nil, or_false] at hy
    rcases hy with rfl | rfl
    · refine .tup hM hM rfl (show 1 ≤ 30000 by decide) fun i x z hx hz => ?_
      match i, hx, hz with
      | 0, hx, hz => cases hx; cases hz; exact hsx G
    · exact sam_kind (dp_tk t0 kind_flat hk)
  · match i, hy, hb with
    | 0, hy, hb => cases hy; cases hb; exact hx G
theorem i_14 {σ : L2.St} {H : Hp} {Q : VK} {s : Spot} (h : tItm K s σ H Q) : tLst (tCons (tTup (tCons (tTup (tCons (tUn (rU fun i => .int (-i)) (tC (.int 1))) tNil)) (tCons (tVar 7) tNil))) tNil) σ H Q := by
  obtain ⟨⟨sv, kv, h4, h7, hs, hk, hl⟩, q⟩ := h
  exact ⟨1, rfl, len3 (by first | decide | (simp; done)), fun m hm => ⟨kv, h7, len3 (by first | decide | (simp; done)), fun p hp => ⟨len3 (by first | decide | (simp; done)), fun L hL => i_one (Same.refl H) hk (fun H => .inl ⟨_, rfl, by decide⟩) (fun H => .int _ _) q hm hp hL⟩⟩⟩
theorem i_15 {σ : L2.St} {H : Hp} {Q : VK} {s : Spot} (h : tItm K s σ H Q) : tLst (tCons (tTup (tCons (tTup (tCons (tC (.bl true)) tNil)) (tCons (tVar 7) tNil))) tNil) σ H Q := by
  obtain ⟨⟨sv, kv, h4, h7, hs, hk, hl⟩, q⟩ := h
  exact ⟨len3 (by first | decide | (simp; done)), fun m hm => ⟨kv, h7, len3 (by first | decide | (simp; done)), fun p hp => ⟨len3 (by first | decide | (simp; done)), fun L hL => i_one (Same.refl H) hk (fun H => .inr ⟨"bool", ty_bl K H true, by decide, rfl⟩) (fun H => .bl _ _) q hm hp hL⟩⟩⟩
theorem i_16 {σ : L2.St} {H : Hp} {Q : VK} {s : Spot} (h : tItm K s σ H Q) : tLst (tCons (tTup (tCons (tTup (tCons (tC (.str "0")) tNil)) (tCons (tVar 7) tNil))) tNil) σ H Q := by
  obtain ⟨⟨sv, kv, h4, h7, hs, hk, hl⟩, q⟩ := h
  exact ⟨len3 (by first | decide | (simp; done)), fun m hm => ⟨kv, h7, len3 (by first | decide | (simp; done)), fun p hp => ⟨len3 (by first | decide | (simp; done)), fun L hL => i_one (Same.refl H) hk (fun H => .inr ⟨"str", ty_str K H "0", by decide, rfl⟩) (fun H => .str _ _ (by decide +kernel)) q hm hp hL⟩⟩⟩
end
end K89
/-! what _law_refused asks of its bad values -/
namespace K89
open PySem PySem.Spec PyProof.Rows L2 HotX L2H
open C8 (Cal pe_c)
section
variable {K : PySem.W.Frag}
theorem Mo.tkd {b : Addr} {H H' : Hp} {kvs : List (Key × V)} (e : Mo b H H') (h : H b = some (.dK kvs)) : TK K H H' := fun a xs q => by
  rcases q with (q | ⟨o, q⟩) | q
  · exact .inl (.inl (e _ _ (ne_of q h (by intro z; cases z)) q))
  · exact .inl (.inr ⟨o, e _ _ (ne_of q h (by intro z; cases z)) q⟩)
  · exact .inr q
/-! ### the values that are no terms -/
def BadV (K : PySem.W.Frag) (H : Hp) (x : V) : Prop := TermQ K H x 10 false ∧ SamD K H 3 x x
theorem BadV.same {H H' : Hp} {x : V} (h : BadV K H x) (e : Same H H') : BadV K H' x := ⟨termq_same e h.1, h.2.same e⟩
theorem disp_eq {H : Hp} {p : Addr} : upd (upd H p (.dK [])) p (.dK (mergeK [] [(Sum.inr "a", V.int 1)])) = upd H p (.dK [(Sum.inr "a", .int 1)]) := by
  funext c
  by_cases hc : c = p
  · subst hc
    rw [upd_same, upd_same]
    rfl
  · rw [upd_ne hc, upd_ne hc, upd_ne hc]
theorem sam_two {H : Hp} {a : Addr} {z : Str} {i : Int} (hz : z.length ≤ 1000) (h : SqT K H a [.str z, .int i]) : SamD K H 3 (.ref a) (.ref a) := by
  refine .tup h h rfl (show 2 ≤ 30000 by decide) fun j x y hx hy => ?_
  match j, hx, hy with
  | 0, hx, hy => cases hx; cases hy; exact .str _ _ hz
  | 1, hx, hy => cases hx; cases hy; exact .int _ _
theorem sam_twoL {H : Hp} {a : Addr} {z : Str} {i : Int} (hz : z.length ≤ 1000) (h : SqL K H a [.str z, .int i]) : SamD K H 3 (.ref a) (.ref a) := by
  refine .lst h h rfl (show 2 ≤ 30000 by decide) fun j x y hx hy => ?_
  match j, hx, hy with
  | 0, hx, hy => cases hx; cases hy; exact .str _ _ hz
  | 1, hx, hy => cases hx; cases hy; exact .int _ _
theorem sam_dct {H : Hp} {a : Addr} (n : Nat) (h : H a = some (.dK [(Sum.inr "a", .int 1)])) : SamD K H (n + 1) (.ref a) (.ref a) := by
  refine .dct h (by decide) fun p hp => ?_
  cases List.mem_singleton.mp hp
  exact ⟨"a", 1, rfl, by decide +kernel, by decide +kernel⟩
theorem sam_dct2 {H : Hp} {a : Addr} (n : Nat) (h : H a = some (.dK (putK [(Sum.inr "a", .int 1)] (Sum.inr "more") (.int 1)))) : SamD K H (n + 1) (.ref a) (.ref a) := by
  have e : putK ([(Sum.inr "a", V.int 1)] : List (Key × V)) (Sum.inr "more") (.int 1) = [((Sum.inr "a" : Key), V.int 1), (Sum.inr "more", .int 1)] := by first | rfl | decide +kernel
  rw [e] at h
  refine .dct h (show 2 ≤ 100 by decide) fun p hp => ?_
  simp only [List.mem_cons, List.not_mem_nil, or_false] at hp
  rcases hp with rfl | rfl
  · exact ⟨"a", 1, rfl, by decide +kernel, by decide +kernel⟩
  · exact ⟨"more", 1, rfl, by decide +kernel, by decide +kernel⟩
def tBads (K : PySem.W.Frag) : TA := fun σ H Q => ∀ xs H', xs.length = 6 → Same H H' → (∀ x ∈ xs, BadV K H' x) → Q xs H'
theorem bads {σ : L2.St} {H : Hp} {Q : List V → Hp → Prop} (h : tBads K σ H Q) : tCons (tC .non) (tCons (tC (.int 7)) (tCons (tTup (tCons (tC (.str "at")) (tCons (tUn (rU fun i => .int (-i)) (tC (.int 1))) tNil))) (tCons (tLst (tCons (tC (.str "at")) (tCons (tC (.int 0)) tNil))) (tCons (tTup (tCons (tC (.str "hole")) (tCons (tC (.int 0)) tNil))) (tCons (tDisp [(tC (.str "a"), tC (.int 1))]) tNil))))) σ H Q := by
  refine ⟨1, rfl, len3 (by decide), fun p1 h1 => ⟨len3 (by decide), fun p2 h2 => ⟨len3 (by decide), fun p3 h3 p4 h4 => ⟨upd_same, [(Sum.inr "a", .int 1)], rfl, by decide, ?_⟩⟩⟩⟩
  rw [disp_eq]
  have s4 := same_new h4 (.dK [(Sum.inr "a", .int 1)])
  have s3 := (same_new h3 (.tup [.str "hole", .int 0])).trans s4
  have s2 := (same_new h2 (.lst [.str "at", .int 0])).trans s3
  refine h _ _ rfl ((same_new h1 _).trans s2) fun x hx => ?_
  have e1 := same_tup (K := K) s2 (SqT.of upd_same)
  have e2 := s3 _ _ upd_same
  have e3 := same_tup (K := K) s4 (SqT.of upd_same)
  simp only [List.mem_cons, List.not_mem_nil, or_false] at hx
  rcases hx with rfl | rfl | rfl | rfl | rfl | rfl
  · exact ⟨.inr (.inl ⟨"NoneType", ty_dp .non, by decide, rfl⟩), .non 3⟩
  · exact ⟨.inr (.inl ⟨"int", ty_int K _ 7, by decide, rfl⟩), .int 3 7⟩
  · exact ⟨.inr (.inr (.inr ⟨p1, rfl, e1, rfl⟩)), sam_two (by decide +kernel) e1⟩
  · exact ⟨.inr (.inl ⟨"list", ty_lst (SqL.of e2), by decide, rfl⟩), sam_twoL (by decide +kernel) (SqL.of e2)⟩
  · exact ⟨.inr (.inr (.inl ⟨p3, 0, rfl, e3, rfl⟩)), sam_two (by decide +kernel) e3⟩
  · exact ⟨.inr (.inl ⟨"dict", ty_dK (.inl upd_same), by decide, rfl⟩), sam_dct 2 upd_same⟩
/-! ### the lists -/
theorem itl_asked {H : Hp} {Q : VK} {E : XK} {v x : V} {t : Tm} {k : Int} (h : ItL K H x) (hv : TmR K H v t) (ht : t.ht ≤ 10) (q : Told H "list" x Q) : spAsked K [v, x, .int k] H Q E := by
  refine ⟨v, x, k, rfl, v, x, rfl, .inr ⟨t, hv, ht, ?_⟩⟩
  have bad : Bad K H "NoList" x fun cls dd H1 => ∃ d x, dd = some d ∧ H1 d = some (.xd [("found", x)]) ∧ ((cls = .ref (He.ga K "NoTerm") ∧ Told H1 "term" x Q) ∨ (cls = .ref (He.ga K "NoList") ∧ Told H1 "list" x Q) ∨ (cls = .ref (He.ga K "NoSpot") ∧ Told H1 "spot" x Q)) :=
    fun d H1 g hd e => ⟨d, x, rfl, e, .inr (.inl ⟨rfl, q.same g⟩)⟩
  rcases h with ⟨c, ty, h1, h2, h3, _⟩ | ⟨a, rfl, hD⟩ | ⟨a, xs, rfl, hL, hl, _, hb⟩
  · exact .inl ⟨c, ty, h1, h3, bad⟩
  · exact .inl ⟨"dict", ty_dK (.inl hD), by decide, by decide, bad⟩
  · rcases hb with ⟨bs, b1, b2, b3⟩ | ⟨rows, svs, r1, r2, r3, r4⟩
    · exact .inr (.inl ⟨a, xs, bs, rfl, .inl (SqL.of hL), by omega, b1, b2, b3, bad⟩)
    · exact .inr (.inr ⟨a, xs, rows, svs, rfl, .inl (SqL.of hL), r1, r2, r3, .inl ⟨r4, bad⟩⟩)
theorem ItL.same {H H' : Hp} {x : V} (h : ItL K H x) (e : Same H H') : ItL K H' x := by
  rcases h with ⟨c, ty, h⟩ | ⟨a, rfl, hD⟩ | ⟨a, xs, rfl, hL, hl, hs, hb⟩
  · exact .inl ⟨c, ty_same e ty, h⟩
  · exact .inr (.inl ⟨a, rfl, e _ _ hD⟩)
  · refine .inr (.inr ⟨a, xs, rfl, e _ _ hL, hl, fun H2 m => hs H2 fun c o n q => m c o n (e c o q), ?_⟩)
    rcases hb with ⟨bs, b1, b2, b3⟩ | ⟨rows, svs, r1, r2, r3, r4⟩
    · exact .inl ⟨bs, b1, fun i y b hy hb => rowq_same e (b2 i y b hy hb), b3⟩
    · exact .inr ⟨rows, svs, r1.same e, r2, r3, r4⟩
/-- everything but x's own object stands -/
def OffX (x : V) (H H' : Hp) : Prop := ∀ c o, (∀ a, x = .ref a → c ≠ a) → H c = some o → H' c = some o
theorem itl_grow {H : Hp} {Q : VK} {E : XK} {x : V} (h : ItL K H x) (q : ∀ H', OffX x H H' → TK K H H' → SamD K H' 4 x x → Q .non H') : spGrow K [x] H Q E := by
  refine ⟨x, rfl, ?_⟩
  rcases h with ⟨c, ty, h1, h2, h3, hs⟩ | ⟨a, rfl, hD⟩ | ⟨a, xs, rfl, hL, hl, hs, hb⟩
  · exact .inr (.inr ⟨c, ty, h1, h2, h3, q H (fun _ _ _ e => e) (TK.of (Same.refl H)) ((hs H).mono (by decide))⟩)
  · exact .inr (.inl ⟨a, _, rfl, hD, by decide, q _ (fun c o n e => by rw [upd_ne (n a rfl)]; exact e) (Mo.tkd Mo.upd hD) (sam_dct2 3 upd_same)⟩)
  · refine .inl ⟨a, xs, rfl, hL, by omega, q _ (fun c o n e => by rw [upd_ne (n a rfl)]; exact e) (Mo.tk Mo.upd hL) ?_⟩
    refine .lst (SqL.of upd_same) (SqL.of upd_same) rfl (by rw [List.length_append]; show xs.length + 1 ≤ 30000; omega) fun i y z hy hz => ?_
    rw [hy] at hz
    cases hz
    rcases List.mem_append.mp (List.mem_of_getElem? hy) with m | m
    · exact hs _ Mo.upd y m
    · cases List.mem_singleton.mp m
      exact .str _ _ (by decide +kernel)
theorem Chain.step {G H7 H' : Hp} {x : V} {xs : List V} (c : Chain K G (x :: xs) H7) (n : New G H7 H') (t : TK K H7 H') :
    ∃ G1, Same G G1 ∧ Chain K G1 xs H7 ∧ ItL K H' x ∧ (∀ a, x = .ref a → G a = none ∧ H7 a ≠ none ∧ H' a ≠ none) ∧ ∀ H'', OffX x H' H'' → New G1 H7 H'' := by
  cases c with
  | @cons _ G1 _ _ _ i e r =>
    have s := r.same
    have up : ∀ a, G1 a ≠ none → ∃ o, G1 a = some o ∧ H7 a = some o := fun a ha => by
      cases q : G1 a with
      | none => exact absurd q ha
      | some o => exact ⟨o, rfl, s a o q⟩
    refine ⟨G1, e, r, i.2 H' (fun a o h1 h2 => n a o h1 (s a o h2)) ((TK.of s).trans t), fun a ha => ?_, fun H'' off a o h1 h2 => off a o (fun a' ha' z => (i.1 a' ha').2 (by rw [← z]; exact h1)) (n a o (e.free h1) h2)⟩
    obtain ⟨h1, h2⟩ := i.1 a ha
    obtain ⟨o, o1, o2⟩ := up a h2
    exact ⟨h1, by rw [o2]; exact nofun, by rw [n a o h1 o2]; exact nofun⟩
/-! ### rules -/
theorem takes_noneN {X : Cx} : L2N.Takes X (fun _ _ _ _ => False) := fun _ _ ⟨_, _, _, _, _, _, _, _, _, _, _, _, _, _, _, _, w⟩ => w.elim
theorem hotC_suite {X : Cx} {a : Addr} {oe : Obj} {pn : List (Addr × Obj)} {cls : Value} {d : Option Addr} (hz : L2N.Zn cls d oe) (hf : ∃ vs, oe.data = .fields vs) : HotC (X.suite a ((a, oe) :: pn)) := by
  obtain ⟨vs, e⟩ := hf
  exact ⟨(a, oe), ⟨rfl, vs, e, hz.2.2 vs e⟩, List.mem_cons_self⟩
end
end K89
namespace K89
open PySem PySem.Spec PyProof.Rows L2 HotX L2H
open C8 (Cal pe_c)
section
variable {P : Program} {w : World} {K : PySem.W.Frag} {mg : Str → Option Value} {base : Heap}
abbrev N_law_refused : List Str := ["box", "term", "turn", "bad", "spot", "lists", "spots", "kind", "args", "told", "e"]
abbrev P_law_refused : List Str := ["box", "term", "turn"]
theorem sc_law_refused : FnScope N_law_refused P_law_refused (defScope s_law_refused) := ⟨rfl, rfl, rfl, by decide +kernel, rfl, by decide +kernel, by decide +kernel⟩
theorem rh_mark {k : Nat} {A : Around} (r : Room k A) (h : Option Value) : RoomH k (A.mark h) := ⟨r.dp, r.un⟩
theorem ix_tupK {X : Cx} {K : PySem.W.Frag} (hK : X.K = K := by rfl) : IxR X (rIxT K) := by
  subst hK
  exact ix_tup
def tTryN (K : PySem.W.Frag) (c : Value) (i : Nat) (ts : Addr → Value → Option Addr → TS) (Wout : WX) (tb : WX → TS) : TS := fun D σ H => tb (wAs K c i ts Wout D) D σ H
theorem ps_try_asN {X : Cx} {x n : Str} {c : Value} {i : Nat} {body suite : List Stmt} {b₀ : Stmt} {np pos pos' : Pos} {tb : WX → TS} {ts : Addr → Value → Option Addr → TS} {Wout : WX} (hs : X.stack = X.env :: X.outer) (hf : X.env.frame = some X.env.locals) (hN : X.N.Nodup) (hi : X.N[i]? = some n) (hln : X.env.kindOf n = some .local) (hc : Names X x c) (tk : L2N.Takes X Wout)
    (hb : ∀ (W : WX) (pn : List (Addr × Obj)) (xe : Value → Shared → Prop), L2N.Takes (X.tr pn xe) W → PassesOwn (model X.prog X.w) X.A X.env xe → PSs (X.tr pn xe) body (tb W))
    (hsu : ∀ (a : Addr) (oe : Obj) (cls : Value) (d : Option Addr) (pn : List (Addr × Obj)), L2N.Zn cls d oe → (∃ vs, oe.data = .fields vs) → PSs (X.suite a ((a, oe) :: pn)) (b₀ :: suite) (ts a cls d)) :
    PS X (.Try body [.ExceptHandler (some (.Name x np)) (some n) (b₀ :: suite) pos'] [] [] pos) (tTryN X.K c i ts Wout tb) := L2N.ps_try_as hs hf hN hi hln hc tk hb hsu
def tAny (K : PySem.W.Frag) : TE := fun σ H Q => ∃ s, tItm K s σ H Q
def tAnys (K : PySem.W.Frag) (n : Nat) : TA := fun σ H Q => ∃ s, tItms K s n σ H Q
section
variable {X : Cx} {e : Expr} {es : List Expr} {n : Nat}
theorem it0 {te : TE} (h : PE X e te) (m : ∀ σ H Q s, tItm K s σ H Q → te σ H Q) : PE X e (tAny K) := PE.mono h fun σ H Q ⟨s, z⟩ => m σ H Q s z
theorem any_nil : PA X [] (tAnys K 0) := PA.mono pa_nil fun σ H Q ⟨s, h⟩ => h.2 [] H rfl (.nil (Same.refl H))
theorem any_cons (he : PE X e (tAny K)) (hr : PA X es (tAnys K n)) (hs : starEach (e :: es) X.env = (false, eval e X.env) :: starEach es X.env := by rfl) : PA X (e :: es) (tAnys K (n + 1)) :=
  PA.mono (pa_cons he hr hs) fun σ H Q ⟨s, h⟩ => ⟨s, h.1, fun x H1 i g => ⟨s, h.1.same g, fun xs H2 hl c => h.2 (x :: xs) H2 (congrArg Nat.succ hl) (.cons i g c)⟩⟩
end
theorem get_nine {t u : Tm} {s : Spot} (h : t.get s = some u) : t.get (s ++ [9]) = none := by
  rw [get_app, h]
  show u.get [9] = none
  rw [get_one]
  exact List.getElem?_eq_none (Nat.le_trans (kids_le u) (by decide))
theorem c_law_refused (T : Tx w K mg) : Cal P w K mg base 26 "_law_refused" (spRefused K) [] := by
  obtain ⟨fd, F⟩ := T.d_law_refused
  have X := fx_of T
  refine cal_of F (F.ok sc_law_refused (fun vs H Q E h => ?_) (fun cdv A outer s H vs Q E hr h => ?_)) T.g_law_refused
    fun _ _ _ _ _ _ us hl => match us, hl with | [_, _, _], _ => rfl
  · obtain ⟨b, v, turn, n, t, rfl, _⟩ := h
    rfl
  obtain ⟨b, v, turn, n, t, rfl, B, hn, hv, ht, q⟩ := h
  -- the spot that will be drawn is known only later
  refine ⟨_, PSs.nox (pss_cons (ps_par (i := 6) (j := 7) (by rfl) sc_law_refused.nd rfl rfl (by decide) rfl rfl (pa_cons (pe_c (c_law_spots T 10) hr (by decide) rfl (pa_cons (pv 1) (pa_cons (pe_tup pa_nil) pa_nil))) (pa_cons (pe_tup (pa_cons pe_str (pa_cons pe_int pa_nil))) pa_nil)) (by rfl))
    (pss_cons (ps_for PassesOwn.never rfl (pi_list (pe_lst (PA.mono (t' := tBads K) (pa_cons pe_non (pa_cons pe_int (pa_cons (pe_tup (pa_cons pe_str (pa_cons (pe_un un_neg pe_int) pa_nil))) (pa_cons (pe_lst (pa_cons pe_str (pa_cons pe_int pa_nil))) (pa_cons (pe_tup (pa_cons pe_str (pa_cons pe_int pa_nil))) (pa_cons (pe_disp (pps_cons pe_str pe_int pps_nil) rfl rfl (by simp) (by decide)) pa_nil)))))) (fun _ _ _ h => bads h)))) (pg_name (i := 3) sc_law_refused.nd rfl (Or.inl rfl))
      (pss_cons (ps_if (pt_not (pt_val (pe_c (c_law_same T 5) hr (by decide) rfl (pa_cons (pe_c (c_law_asked T) hr (by decide) rfl (pa_cons (pv 3) (pa_cons pe_non (pa_cons (pv 2) pa_nil)))) (pa_cons (pe_lst (pa_cons pe_str (pa_cons (pv 3) pa_nil))) pa_nil))))) (pss_one (ps_ret pe_bl)) pss_nil)
    (pss_one (ps_for PassesOwn.never rfl (pi_list (pe_lst (pa_cons (pe_tup (pa_cons (pv 3) (pa_cons pe_non pa_nil))) (pa_cons (pe_tup (pa_cons (pv 1) (pa_cons (pv 3) pa_nil))) pa_nil)))) (pg_name (i := 8) sc_law_refused.nd rfl (Or.inl rfl))
      (pss_one (ps_try_asN (i := 10) rfl rfl sc_law_refused.nd rfl rfl ⟨rfl, rfl, .inl T.g_NoTerm⟩ takes_noneN
        (fun W pn xe tk _ => pss_cons (ps_expr (pe_cn (c_unlike_spotsN T) hr (by decide) rfl tk (pa_cons (pe_ix (ix_tupK (K := K)) (pv 8) pe_int (fun _ _ => rfl)) (pa_cons (pe_ix (ix_tupK (K := K)) (pv 8) pe_int (fun _ _ => rfl)) pa_nil)))) (pss_one (ps_ret pe_bl)))
        (fun a oe cls d pn hz hf => pss_one (ps_if (pt_not (pt_val (pe_ch (c_law_sameH T 5) (rh_mark hr _) (by decide) (hotC_suite hz hf) rfl (pa_cons (pe_xf X.eT.f X.eT.no hz.zc hf (pv 10)) (pa_cons (pv 3) pa_nil))))) (pss_one (ps_ret pe_bl)) pss_nil))))))))
    (pss_cons (ps_set (i := 4) sc_law_refused.nd rfl (Or.inl rfl) (pe_ix ix_list (pv 6) (pe_c (c_law_take T) hr (by decide) rfl (pa_cons (pv 0) (pa_cons (pe_callB call_len rfl T.n_len PySem.boot_len (pa_cons (pv 6) pa_nil)) pa_nil))) (fun _ _ => rfl)))
    (pss_cons (ps_set (i := 5) sc_law_refused.nd rfl (Or.inl rfl) (pe_lst (any_cons (it0 pe_non (fun _ _ _ _ h => i_non h)) (any_cons (it0 pe_int (fun _ _ _ _ h => i_int h)) (any_cons (it0 pe_str (fun _ _ _ _ h => i_str (by decide +kernel) h)) (any_cons (it0 (pe_lst (pa_cons (pv 4) pa_nil)) (fun _ _ _ _ h => i_4 h)) (any_cons (it0 (pe_lst (pa_cons (pe_tup (pa_cons (pv 4) pa_nil)) pa_nil)) (fun _ _ _ _ h => i_5 h)) (any_cons (it0 (pe_lst (pa_cons (pe_tup (pa_cons (pv 4) (pa_cons (pv 7) (pa_cons pe_int pa_nil)))) pa_nil)) (fun _ _ _ _ h => i_6 h)) (any_cons (it0 (pe_lst (pa_cons (pe_lst (pa_cons (pv 4) (pa_cons (pv 7) pa_nil))) pa_nil)) (fun _ _ _ _ h => i_7 h)) (any_cons (it0 (pe_lst (pa_cons (pe_tup (pa_cons (pe_callTy call_list_of rfl T.n_list b_list (pa_cons (pv 4) pa_nil)) (pa_cons (pv 7) pa_nil))) pa_nil)) (fun _ _ _ _ h => i_8 h)) (any_cons (it0 (pe_lst (pa_cons (pe_tup (pa_cons (pv 4) (pa_cons pe_non pa_nil))) pa_nil)) (fun _ _ _ _ h => i_9 h)) (any_cons (it0 (pe_lst (pa_cons (pe_tup (pa_cons (pv 4) (pa_cons (pe_tup (pa_cons pe_str (pa_cons pe_int pa_nil))) pa_nil))) pa_nil)) (fun _ _ _ _ h => i_10 h)) (any_cons (it0 (pe_disp (pps_cons pe_str pe_int pps_nil) rfl rfl (by simp) (by decide)) (fun _ _ _ _ h => i_11 h)) any_nil)))))))))))))
    (pss_cons (ps_set (i := 5) sc_law_refused.nd rfl (Or.inl rfl) (pe_op op_cat (pv 5) (pe_lst (any_cons (it0 (pe_lst (pa_cons (pe_tup (pa_cons (pv 4) (pa_cons (pv 7) pa_nil))) (pa_cons (pe_tup (pa_cons (pv 4) (pa_cons (pv 7) pa_nil))) pa_nil))) (fun _ _ _ _ h => i_12 h)) (any_cons (it0 (pe_lst (pa_cons (pe_tup (pa_cons (pe_op (op_catK (K := K)) (pv 4) (pe_tup (pa_cons pe_int pa_nil))) (pa_cons (pv 7) pa_nil))) (pa_cons (pe_tup (pa_cons (pv 4) (pa_cons (pv 7) pa_nil))) pa_nil))) (fun _ _ _ _ h => i_13 h)) (any_cons (it0 (pe_lst (pa_cons (pe_tup (pa_cons (pe_tup (pa_cons (pe_un un_neg pe_int) pa_nil)) (pa_cons (pv 7) pa_nil))) pa_nil)) (fun _ _ _ _ h => i_14 h)) (any_cons (it0 (pe_lst (pa_cons (pe_tup (pa_cons (pe_tup (pa_cons pe_bl pa_nil)) (pa_cons (pv 7) pa_nil))) pa_nil)) (fun _ _ _ _ h => i_15 h)) (any_cons (it0 (pe_lst (pa_cons (pe_tup (pa_cons (pe_tup (pa_cons pe_str pa_nil)) (pa_cons (pv 7) pa_nil))) pa_nil)) (fun _ _ _ _ h => i_16 h)) any_nil))))))))
    (pss_cons (ps_for PassesOwn.never rfl (pi_list (pv 5)) (pg_name (i := 3) sc_law_refused.nd rfl (Or.inl rfl))
      (pss_cons (ps_set (i := 9) sc_law_refused.nd rfl (Or.inl rfl) (pe_c (c_law_asked T) hr (by decide) rfl (pa_cons (pv 1) (pa_cons (pv 3) (pa_cons (pe_op op_sub pe_int (pv 2)) pa_nil)))))
    (pss_cons (ps_expr (pe_c (c_law_grow T) hr (by decide) rfl (pa_cons (pv 3) pa_nil)))
    (pss_one (ps_if (PW.pt (pw_or (pt_cmpR op_ne (pe_ix ix_list (pv 9) pe_int (fun _ _ => rfl)) pe_str (nomark _)) (pw_or1 (pt_not (pt_val (pe_c (c_law_same T 5) hr (by decide) rfl (pa_cons (pe_ix ix_list (pv 9) pe_int (fun _ _ => rfl)) (pa_cons (pv 3) pa_nil)))))))) (pss_one (ps_ret pe_bl)) pss_nil)))))
    (pss_one (ps_ret (pe_c (c_law_same T 5) hr (by decide) rfl (pa_cons (pe_c (c_law_asked T) hr (by decide) rfl (pa_cons (pv 1) (pa_cons (pe_lst (pa_cons (pe_tup (pa_cons (pe_op (op_catK (K := K)) (pv 4) (pe_tup (pa_cons pe_int pa_nil))) (pa_cons (pv 7) pa_nil))) pa_nil)) (pa_cons (pv 2) pa_nil)))) (pa_cons (pe_lst (pa_cons pe_str (pa_cons (pe_op (op_catK (K := K)) (pv 4) (pe_tup (pa_cons pe_int pa_nil))) pa_nil))) pa_nil))))))))))), ?_⟩
  -- the spots
  refine ⟨_, rfl, len3 (by first | decide | (simp; done)), fun p0 hp0 => ⟨v, .ref p0, t, [], rfl, dp_same (same_new hp0 _) hv, sp_of (SqT.of upd_same), by omega, by omega, by show 0 + t.ht ≤ 100; omega, fun r1 H1 xs g1 hr1 hR1 hS1 => ?_⟩⟩
  refine ⟨len3 (by first | decide | (simp; done)), fun pk hpk => ⟨_, _, rfl, ?_⟩⟩
  have g2 := same_new hpk (.tup [.str "kind", .int 0])
  have gA : Same H (upd H1 pk (.tup [.str "kind", .int 0])) := (same_new hp0 _).trans (g1.trans g2)
  have hk2 : TmR K (upd H1 pk (.tup [.str "kind", .int 0])) (.ref pk) kind0 := tm_of (t := kind0) (ps := [.int 0]) (SqT.of upd_same) (.cons (.int 0) .nil)
  have hR2 := g2 _ _ hR1
  have hS2 := dps_same g2 hS1
  generalize upd H1 pk (.tup [.str "kind", .int 0]) = H2 at g2 gA hk2 hR2 hS2 ⊢
  have hid : (fun x : Spot => [] ++ x) = id := rfl
  rw [hid, List.map_id] at hS2
  -- no terms
  refine fun bs H3 hb6 g3 hbad => ⟨by rw [hb6]; decide, fun L hL => ⟨L, rfl, ⟨_, SqL.of upd_same⟩, for_it (walk_list (xs := bs)) (fun i σ H' => ∃ x3 x4 x5 x8 x9 x10, σ = [some (.ref b), some v, some (.int turn), x3, x4, x5, some (.ref r1), some (.ref pk), x8, x9, x10] ∧ Same (upd H3 L (.lst bs)) H') ⟨_, _, _, _, _, _, rfl, Same.refl _⟩ (fun i σ H' _ p => ?_) (fun i x σ G0 G hi p y => ?_) (fun σ H' p => ?_)⟩⟩
  · obtain ⟨x3, x4, x5, x8, x9, x10, _, g⟩ := p
    exact SqL.of (g _ _ upd_same)
  · obtain ⟨x3, x4, x5, x8, x9, x10, rfl, g⟩ := p
    obtain ⟨rfl, hy⟩ := y
    have gL : Same H3 G := (same_new hL _).trans g
    have bad : BadV K G x := (hbad x (List.mem_of_getElem? hy)).same gL
    have hvG : TmR K G v t := dp_same (gA.trans (g3.trans gL)) hv
    refine ⟨_, rfl, _, rfl, x, .non, turn, rfl, x, .non, rfl, .inl ⟨bad.1, fun d H4 g4 hd e4 => ⟨d, x, rfl, e4, .inl ⟨rfl, fun r3 H5 g5 hr3 hR3 => ?_⟩⟩⟩⟩
    refine ⟨_, rfl, len3 (by first | decide | (simp; done)), fun r4 hr4 => ?_⟩
    have g6 := same_new hr4 (.lst [.str "term", x])
    have gB : Same G (upd H5 r4 (.lst [.str "term", x])) := g4.trans (g5.trans g6)
    refine ⟨by decide, _, _, rfl, sam_told (g6 _ _ hR3) upd_same (by decide +kernel) (bad.2.same gB), fun H6 g7 => ⟨true, rfl, iteF ?_⟩⟩
    have gC := gB.trans g7
    -- the two calls
    refine ⟨_, rfl, len3 (by first | decide | (simp; done)), fun q1 hq1 => ⟨_, rfl, _, rfl, len3 (by first | decide | (simp; done)), fun q2 hq2 => ⟨len3 (by first | decide | (simp; done)), fun Lb hLb => ?_⟩⟩⟩
    have e1 : Same H6 (upd H6 q1 (.tup [x, .non])) := same_new hq1 _
    have e2 := same_new hq2 (.tup [v, x])
    have e3 := same_new hLb (.lst [.ref q1, .ref q2])
    refine ⟨Lb, rfl, ⟨_, SqL.of upd_same⟩, ?_⟩
    refine for_it (walk_list (xs := [.ref q1, .ref q2])) (fun j σ H' => ∃ x4 x5 x8 x9 x10, σ = [some (.ref b), some v, some (.int turn), some x, x4, x5, some (.ref r1), some (.ref pk), x8, x9, x10] ∧ Same (upd (upd (upd H6 q1 (.tup [x, .non])) q2 (.tup [v, x])) Lb (.lst [.ref q1, .ref q2])) H') ⟨_, _, _, _, _, rfl, Same.refl _⟩ (fun j σ H' _ p => ?_) (fun j y σ F0 F hj p yy => ?_) (fun σ H' p => ?_)
    · obtain ⟨x4, x5, x8, x9, x10, _, g⟩ := p
      exact SqL.of (g _ _ upd_same)
    · obtain ⟨x4, x5, x8, x9, x10, rfl, gF⟩ := p
      obtain ⟨rfl, hyj⟩ := yy
      have gD : Same G F := gC.trans (e1.trans (e2.trans (e3.trans gF)))
      have badF : BadV K F x := bad.same gD
      obtain ⟨qa, ya, za, rfl, hq, hcase⟩ : ∃ qa ya za, y = .ref qa ∧ SqT K F qa [ya, za] ∧ ((ya = x) ∨ (ya = v ∧ za = x)) := by
        match j, hyj with
        | 0, hyj => cases hyj; exact ⟨q1, _, _, rfl, SqT.of (gF _ _ (e3 _ _ (e2 _ _ upd_same))), .inl rfl⟩
        | 1, hyj => cases hyj; exact ⟨q2, _, _, rfl, SqT.of (gF _ _ (e3 _ _ upd_same)), .inr ⟨rfl, rfl⟩⟩
      refine ⟨_, rfl, qa, _, _, _, rfl, rfl, hq, atI0, _, rfl, qa, _, _, _, rfl, rfl, hq, atI_nat (j := 1) rfl, ?_⟩
      have after : ∀ {Q : VK} {W : XK}, Bad K F "NoTerm" x W → spUnlike K [ya, za] F Q W := fun hW => by
        rcases hcase with rfl | ⟨rfl, rfl⟩
        · exact ⟨_, _, rfl, .inl ⟨badF.1, hW⟩⟩
        · exact ⟨_, _, rfl, .inr ⟨t, dp_same gD hvG, by omega, .inl ⟨badF.1, hW⟩⟩⟩
      refine after fun d F1 gF1 hd e5 => ⟨true, exm_of' X.tt, fun _ a ha => ?_, fun z => nomatch z⟩
      refine ⟨_, rfl, rfl, rfl, d, _, x, rfl, e5, rfl, _, rfl, by decide, _, _, rfl, (badF.same gF1).2.mono (by decide), fun F2 gF2 => ⟨true, rfl, iteF ?_⟩⟩
      exact ⟨_, _, _, _, _, rfl, gF.trans (gF1.trans gF2)⟩
    · obtain ⟨x4, x5, x8, x9, x10, rfl, gF⟩ := p
      exact ⟨_, _, _, _, _, _, rfl, g.trans (gC.trans (e1.trans (e2.trans (e3.trans gF))))⟩
  obtain ⟨x3, x4, x5, x8, x9, x10, rfl, g⟩ := p
  have gL : Same H2 H' := g3.trans ((same_new hL _).trans g)
  have hxl : xs.length = t.spots.length := sps_len hS2
  have hsp : 2 * t.spots.length + 1 ≤ 3 ^ t.ht := spots_len t
  have h3 : 3 ^ t.ht ≤ 3 ^ 5 := Nat.pow_le_pow_right (by decide) ht
  have hpos : 0 < t.spots.length := by
    cases t with
    | lf l => simp [Tm.spots]
    | n2 w x y => simp [Tm.spots]
    | n3 w x y z => simp [Tm.spots]
  have h243 : (3 : Nat) ^ 5 = 243 := by decide
  -- the spot
  refine ⟨_, rfl, _, rfl, _, rfl, _, _, rfl, .inl ⟨_, SqL.of (gL _ _ hR2), rfl⟩, b, (xs.length : Int), n, rfl, (B.same gA).same gL, by omega, by omega, by omega, fun i H5 m5 B5 i0 i1 => ?_⟩
  have hr1b : r1 ≠ b := fun z => by
    subst z
    obtain ⟨_, _, _, _, e, _⟩ := (B.same (same_new hp0 (.tup []))).same (Same.refl _)
    rw [hr1] at e
    cases e
  obtain ⟨k, rfl⟩ := Int.eq_ofNat_of_zero_le i0
  have hk : k < xs.length := by omega
  have hR5 := m5 _ _ hr1b (gL _ _ hR2)
  refine ⟨r1, xs, _, xs[k], rfl, rfl, SqL.of hR5, atI_nat (List.getElem?_eq_getElem hk), ?_⟩
  obtain ⟨dd, hd1, hd2⟩ := dpA_get (dps_same gL hS2) (List.getElem?_eq_getElem hk)
  obtain ⟨s, hs⟩ : ∃ s, t.spots[k]? = some s := ⟨_, List.getElem?_eq_getElem (by omega)⟩
  rw [List.getElem?_map, hs] at hd1
  cases hd1
  have hmem := List.mem_of_getElem? hs
  have hsl := spot_len hmem
  have tk5 : TK K H' H5 := ((B.same gA).same gL).tk m5
  have hs5 : SpR K H5 xs[k] s := dp_tk tk5 (flat_sp s) hd2
  have hk5 : TmR K H5 (.ref pk) kind0 := dp_tk tk5 kind_flat (dp_same gL hk2)
  have hv5 : TmR K H5 v t := dp_tk tk5 (flat_tm t) (dp_same (gA.trans gL) hv)
  generalize hsv : xs[k] = sv at hs5 ⊢
  -- the lists
  refine ⟨s, ⟨sv, .ref pk, rfl, rfl, hs5, hk5, by omega⟩, fun ys H6 hy6 c6 => ⟨by rw [hy6]; decide, fun L1 hL1 => ?_⟩⟩
  have f6 : Same H5 (upd H6 L1 (.lst ys)) := c6.same.trans (same_new hL1 _)
  refine ⟨_, rfl, s, ⟨sv, .ref pk, rfl, rfl, dp_same f6 hs5, dp_same f6 hk5, by omega⟩, fun zs H7 hz7 c7 => ⟨by rw [hz7]; decide, fun Lb hLb => ⟨L1, Lb, ys, zs, rfl, rfl, (same_new hLb _) _ _ (c7.same _ _ upd_same), upd_same, by rw [hy6, hz7]; decide, fun L3 hL3 => ?_⟩⟩⟩
  have c : Chain K H5 (ys ++ zs) H7 := c6.app (c7.left (same_new hL1 _))
  have gE : Same H7 (upd (upd H7 Lb (.lst zs)) L3 (.lst (ys ++ zs))) := (same_new hLb _).trans (same_new hL3 _)
  have h73 : H7 L3 = none := (same_new hLb (.lst zs)).free hL3
  refine ⟨_, rfl, L3, rfl, ⟨_, SqL.of upd_same⟩, for_it (walk_list (xs := ys ++ zs)) (fun i σ H' => ∃ G x3 x8 x9 x10, σ = [some (.ref b), some v, some (.int turn), x3, some sv, some (.ref L3), some (.ref r1), some (.ref pk), x8, x9, x10] ∧ Chain K G ((ys ++ zs).drop i) H7 ∧ Same H5 G ∧ New G H7 H' ∧ TK K H7 H' ∧ Same H5 H' ∧ H' L3 = some (.lst (ys ++ zs)))
    ⟨H5, _, _, _, _, rfl, c, Same.refl _, fun a o _ h => gE a o h, TK.of gE, c.same.trans gE, upd_same⟩ (fun i σ H' _ p => ?_) (fun i x σ F0 F hi p yy => ?_) (fun σ F p => ?_)⟩
  · obtain ⟨G, x3, x8, x9, x10, _, _, _, _, _, _, h3⟩ := p
    exact SqL.of h3
  · obtain ⟨G, x3, x8, x9, x10, rfl, cG, sG, nG, tG, s5, hL⟩ := p
    obtain ⟨rfl, hy⟩ := yy
    have ed : (ys ++ zs).drop i = x :: (ys ++ zs).drop (i + 1) := by
      obtain ⟨hi, e⟩ := List.getElem?_eq_some_iff.mp hy
      rw [List.drop_eq_getElem_cons hi, e]
    rw [ed] at cG
    obtain ⟨G1, e1, r, it, hx, nx⟩ := cG.step nG tG
    refine ⟨_, rfl, _, rfl, _, rfl, _, _, rfl, rfl, itl_asked (E := C8.E0) it (dp_same s5 hv5) (by omega) fun r3 F1 f1 hr3 hR3 => ?_⟩
    refine ⟨_, rfl, ?_⟩
    dsimp only [tNil]
    show spGrow K [x] F1 _ C8.E0
    refine itl_grow (E := C8.E0) (it.same f1) fun F2 off tk sam => ?_
    have hr3F : F2 r3 = some (.lst [.str "list", x]) := off _ _ (fun a ha z => (hx a ha).2.2 (by rw [← z]; exact hr3)) hR3
    refine ⟨_, rfl, r3, _, _, _, rfl, rfl, SqL.of hr3F, atI0, rfl, _, rfl, niT rfl ?_⟩
    refine ⟨_, rfl, r3, _, _, _, rfl, rfl, SqL.of hr3F, atI_nat (j := 1) rfl, _, rfl, by decide, _, _, rfl, sam, fun F3 f3 => ⟨true, rfl, iteF ?_⟩⟩
    have off' : OffX x F F3 := fun c o hc e => f3 c o (off c o hc (f1 c o e))
    refine ⟨G1, _, _, _, _, rfl, r, sG.trans e1, nx F3 off', tG.trans ((TK.of f1).trans (tk.trans (TK.of f3))), fun c o e => off' c o (fun a ha z => ?_) (s5 c o e), off' _ _ (fun a ha z => (hx a ha).2.1 (by rw [← z]; exact h73)) hL⟩
    have := sG.free (hx a ha).1
    rw [← z, e] at this
    cases this
  · obtain ⟨G, x3, x8, x9, x10, rfl, _, _, _, _, s5, _⟩ := p
    have hsF := dp_same s5 hs5
    obtain ⟨u, hu⟩ := Option.isSome_iff_exists.mp (spots_get t s hmem)
    have l9 : (s ++ [9]).length ≤ 60 := by rw [List.length_append]; show s.length + 1 ≤ 60; omega
    refine ⟨_, rfl, sp9 rfl hsF (by omega) fun z F1 f1 hz => ⟨_, rfl, len3 (by first | decide | (simp; done)), fun p hp => ⟨len3 (by first | decide | (simp; done)), fun Lr hLr => ⟨_, rfl, ?_⟩⟩⟩⟩
    have f2 : Same F1 (upd (upd F1 p (.tup [z, .ref pk])) Lr (.lst [.ref p])) := same_upd2 hp hLr
    have f12 := f1.trans f2
    have hrow : RowR K (upd (upd F1 p (.tup [z, .ref pk])) Lr (.lst [.ref p])) (.ref p) (s ++ [9], kind0) z := rowR_of (SqT.of (same_new hLr _ _ _ upd_same)) (dp_same f2 hz) (dp_same (s5.trans f12) hk5)
    refine ⟨v, .ref Lr, turn, rfl, v, .ref Lr, rfl, .inr ⟨t, dp_same (s5.trans f12) hv5, by omega, .inr (.inr ⟨Lr, [.ref p], [(s ++ [9], kind0)], [z], rfl, .inl (SqL.of upd_same), .cons hrow .nil, (show 1 ≤ 30000 by decide), fun r hr => ?_, .inr (.inr ⟨s ++ [9], kind0, z, rfl, rfl, get_nine hu, fun d F4 f4 hd e4 => ⟨d, z, rfl, e4, .inr (.inr ⟨rfl, fun r3 F5 f5 hr3 hR3 => ?_⟩)⟩⟩)⟩)⟩⟩
    · cases List.mem_singleton.mp hr
      exact ⟨by show (s ++ [9]).length ≤ 100; omega, show kind0.ht ≤ 10 by decide⟩
    have f15 : Same F F5 := f12.trans (f4.trans f5)
    refine sp9 rfl (dp_same f15 hsF) (by omega) fun z' F6 f6 hz' => ⟨len3 (by first | decide | (simp; done)), fun r4 hr4 => ?_⟩
    have f7 := same_new hr4 (.lst [.str "spot", z'])
    have f17 : Same F5 (upd F6 r4 (.lst [.str "spot", z'])) := f6.trans f7
    refine ⟨by decide, _, _, rfl, sam_told (n := 3) (f17 _ _ hR3) upd_same (by decide +kernel) ((sam_sp (by omega) (dp_same (f2.trans (f4.trans (f5.trans f17))) hz) (dp_same f7 hz')).mono (by decide)), fun F7 f8 => ?_⟩
    have fin : Same H5 F7 := s5.trans (f15.trans (f17.trans f8))
    exact q F7 ((Mo.of (gA.trans gL)).trans (m5.trans (Mo.of fin))) (B5.same fin)
end
end K89
namespace K89
open PySem PySem.Spec PyProof.Rows L2
theorem facts {P : Program} {w : World} {K : PySem.W.Frag} {h h2 : Heap} {mg : Str → Option Value} {f : Addr} (X : K.In h) (G : h.Ns mainGlobals mg) (hfa : mg ("law" : Str) = some (.ref f)) (c : He.SaysX fa fn ts [] ex w h2 K) :
    ∃ fd : FuncData, (∀ (s : Shared) (v : Value), BindsTo s fd ⟨[v], []⟩ [("script", v)]) ∧ ∀ base : Heap, K.In base → base.Ns mainGlobals mg → FnOk P w K mg base C8.CX0 27 f fd ["script"] (spLaw K) := by
  have T := tx_of X G c
  have e := hfa.symm.trans T.g_law
  cases e
  obtain ⟨fd0, F0⟩ := T.d_law
  have b := FunD.bindsA (ps := ["script"]) F0 fun _ _ _ _ _ _ us hl => match us, hl with | [_], _ => rfl
  refine ⟨fd0, fun s v => b s [v] rfl, fun base _ _ => ?_⟩
  obtain ⟨fd, ok, F⟩ := c_law (P := P) (base := base) T (c_law_refused T)
  obtain rfl : fd = fd0 := by
    obtain ⟨_, _, _, _, _, _, _, _, _, _, _, l1, _⟩ := F.ex
    obtain ⟨_, _, _, _, _, _, _, _, _, _, _, l2, _⟩ := F0.ex
    rw [l1] at l2
    cases l2
    rfl
  exact ok
end K89
open PySem PySem.W PySem.Calls PyProof.Rows
theorem PySem.Challenge.cw_paperwide_k89_whole_unlike_parts_holds : PySem.Challenge.rw_paperwide_k89_whole_unlike_parts.Holds := by
  w_on; o_law
  refine HandSHeadRun.head_any (r := OpenLaw.row PySem.Challenge.rw_paperwide_k89_whole_unlike_parts) (q := view (OpenLaw.row PySem.Challenge.rw_paperwide_k89_whole_unlike_parts).prog [K89.lawAt]) (H := K89.hk) (ob := K89.ob) (M := 6000) (loose := K89.loose) (d := HandSHeadRun.topDef (OpenLaw.row PySem.Challenge.rw_paperwide_k89_whole_unlike_parts).prog K89.lawAt) (kwd := []) K89.ob_eq
    (by kernel_rfl) (fun s => by kernel_rfl) K89.run (by kernel_rfl) (by kernel_rfl) (by kernel_rfl) (by rfl) (by first | assumption | decide +kernel) (by decide +kernel) ⟨rfl, rfl, rfl, rfl, rfl, by decide +kernel⟩ ?hw ?hc
  case hw => w_witness2
  case hc =>
    refine L2.walk_ofE (l := PySem.Challenge.rw_paperwide_k89_whole_unlike_parts) (n := 63) (k := 27) (x := "script") (CX := C8.CX0) rfl (by decide) (by kernel_rfl) ⟨rfl, by decide, by decide⟩ ?F (fun _ _ _ _ z => z)
    intro w mg fa h Y G hmg0
    obtain ⟨K, KX, c⟩ := Y
    have hmg : mg ("law" : PySem.Str) = some (.ref fa) := by
      have e : (HandSHeadRun.topDef (OpenLaw.row PySem.Challenge.rw_paperwide_k89_whole_unlike_parts).prog K89.lawAt).name = ("law" : PySem.Str) := by kernel_rfl
      rw [← e]
      exact hmg0
    obtain ⟨fd, hb, hF⟩ := K89.facts (P := (PySem.Challenge.rw_paperwide_k89_whole_unlike_parts).prog) (w := w) KX G hmg c
    exact ⟨K, fd, K89.spLaw K, KX, hb, fun H a ns hl _ hS => ⟨a, ns, rfl, hS, hl, fun _ => rfl⟩, hF⟩
