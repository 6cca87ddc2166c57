import PyProof.Rows.All
import Wide.All
import OpenK.AllK
import Wide.FinOn
import HandS.ForMost
import HandS.Walk
import KE.GoesNew
import HandS.Deep
import HandS.More
import PySem.Challenge.RW_calmword_k30_whole_there_and_back
import HandS.Codes
import HandS.TupSets
import PyProof.ListStr
import HandS.IsInst
set_option Elab.async false
set_option linter.all false
set_option maxRecDepth 100000
section
/-! K30A: plain Lean. Rows, their trees, the tidied rows of a tree. -/
namespace K30

inductive Op | or | and | seq
  deriving DecidableEq
inductive Row | nothing | blank | letter (c : Nat) | not (i : Nat) | bin (o : Op) (i j : Nat)
  deriving DecidableEq
inductive T | nothing | blank | letter (c : Nat) | not (t : T) | bin (o : Op) (a b : T)
  deriving DecidableEq

namespace Row
def parts : Row → List Nat
  | .not i => [i]
  | .bin _ i j => [i, j]
  | _ => []
end Row

def T.size : T → Nat
  | .not t => t.size + 1
  | .bin _ a b => a.size + b.size + 1
  | _ => 1

/-- the tree of a row by the trees of the rows ahead -/
def treeR (ts : List T) : Row → T
  | .nothing => .nothing
  | .blank => .blank
  | .letter c => .letter c
  | .not i => .not (ts.getD i .nothing)
  | .bin o i j => .bin o (ts.getD i .nothing) (ts.getD j .nothing)

def treesFrom : List T → List Row → List T
  | ts, [] => ts
  | ts, r :: rs => treesFrom (ts ++ [treeR ts r]) rs
def trees (rs : List Row) : List T := treesFrom [] rs
def tree (rs : List Row) (i : Nat) : T := (trees rs).getD i .nothing

def WF (rs : List Row) : Prop := ∀ (i : Nat) (r : Row), rs[i]? = some r → ∀ p ∈ r.parts, p < i

theorem treesFrom_append : ∀ (xs ys : List Row) (ts : List T), treesFrom ts (xs ++ ys) = treesFrom (treesFrom ts xs) ys
  | [], _, _ => rfl
  | x :: xs, ys, ts => treesFrom_append xs ys (ts ++ [treeR ts x])
theorem treesFrom_length : ∀ (xs : List Row) (ts : List T), (treesFrom ts xs).length = ts.length + xs.length
  | [], ts => by simp [treesFrom]
  | x :: xs, ts => by
    rw [treesFrom, treesFrom_length xs]
    simp
    omega
theorem trees_length (xs : List Row) : (trees xs).length = xs.length := by
  unfold trees
  rw [treesFrom_length]
  simp
theorem trees_snoc (xs : List Row) (r : Row) : trees (xs ++ [r]) = trees xs ++ [treeR (trees xs) r] := by
  unfold trees
  rw [treesFrom_append]
  rfl
theorem treesFrom_get : ∀ (xs : List Row) (ts : List T) (i : Nat), i < ts.length → (treesFrom ts xs)[i]? = ts[i]?
  | [], _, _, _ => rfl
  | x :: xs, ts, i, h => by
    rw [treesFrom, treesFrom_get xs _ i (by simp; omega), List.getElem?_append_left h]
theorem tree_app {xs ys : List Row} {i : Nat} (h : i < xs.length) : tree (xs ++ ys) i = tree xs i := by
  unfold tree trees
  rw [treesFrom_append, List.getD_eq_getElem?_getD, List.getD_eq_getElem?_getD, treesFrom_get]
  rw [treesFrom_length]
  simpa using h
theorem tree_last (xs : List Row) (r : Row) : tree (xs ++ [r]) xs.length = treeR (trees xs) r := by
  unfold tree
  rw [trees_snoc, List.getD_eq_getElem?_getD, List.getElem?_append_right (by rw [trees_length] <;> exact Nat.le_refl _), trees_length]
  simp
/-- the tree of a row by the trees of its parts -/
def treeAt (rs : List Row) : Row → T
  | .nothing => .nothing
  | .blank => .blank
  | .letter c => .letter c
  | .not i => .not (tree rs i)
  | .bin o i j => .bin o (tree rs i) (tree rs j)
theorem treeR_eq (xs : List Row) (r : Row) : treeR (trees xs) r = treeAt xs r := by
  cases r <;> rfl
theorem treeAt_app {xs ys : List Row} {r : Row} (h : ∀ p ∈ r.parts, p < xs.length) : treeAt (xs ++ ys) r = treeAt xs r := by
  cases r with
  | not i =>
    show T.not _ = T.not _
    rw [tree_app (h i (by simp [Row.parts]))]
  | bin o i j =>
    show T.bin o _ _ = T.bin o _ _
    rw [tree_app (h i (by simp [Row.parts])), tree_app (h j (by simp [Row.parts]))]
  | _ => rfl
theorem WF.left {xs ys : List Row} (h : WF (xs ++ ys)) : WF xs := fun i r e p hp => by
  have hi : i < xs.length := (List.getElem?_eq_some_iff.mp e).1
  exact h i r (by rw [List.getElem?_append_left hi]; exact e) p hp
theorem WF.snoc {xs : List Row} {r : Row} (h : WF xs) (hr : ∀ p ∈ r.parts, p < xs.length) : WF (xs ++ [r]) := fun i q e p hp => by
  by_cases hi : i < xs.length
  · rw [List.getElem?_append_left hi] at e
    exact h i q e p hp
  · have hl := (List.getElem?_eq_some_iff.mp e).1
    have hi2 : i = xs.length := by
      simp at hl
      omega
    subst hi2
    rw [List.getElem?_append_right (Nat.le_refl _)] at e
    simp at e
    subst e
    exact hr p hp
theorem split_at {α : Type} {xs : List α} {i : Nat} {r : α} (e : xs[i]? = some r) : xs = xs.take i ++ r :: xs.drop (i + 1) ∧ (xs.take i).length = i := by
  obtain ⟨hi, e⟩ := List.getElem?_eq_some_iff.mp e
  constructor
  · rw [← e, List.getElem_cons_drop, List.take_append_drop]
  · rw [List.length_take]
    omega
/-- THE EQUATION of trees -/
theorem tree_eq {rs : List Row} (h : WF rs) {i : Nat} {r : Row} (e : rs[i]? = some r) : tree rs i = treeAt rs r := by
  obtain ⟨e1, e2⟩ := split_at e
  have hp := h i r e
  generalize rs.take i = xs at e1 e2
  generalize rs.drop (i + 1) = ys at e1
  subst e2
  have e3 : rs = (xs ++ [r]) ++ ys := by rw [e1]; simp
  rw [e3, tree_app (by simp), tree_last, treeR_eq, List.append_assoc, treeAt_app hp]

/-! ### interned rows -/
def intern (r : Row) (L : List Row) : List Row × Nat := if r ∈ L then (L, L.idxOf r) else (L ++ [r], L.length)
def lay : T → List Row → List Row × Nat
  | .nothing, L => intern .nothing L
  | .blank, L => intern .blank L
  | .letter c, L => intern (.letter c) L
  | .not a, L => intern (.not (lay a L).2) (lay a L).1
  | .bin o a b, L => intern (.bin o (lay a L).2 (lay b (lay a L).1).2) (lay b (lay a L).1).1
def canon (t : T) : List Row := (lay t []).1

/-- rows that could not be fewer -/
structure G (L : List Row) : Prop where
  wf : WF L
  nd : L.Nodup
theorem G.nil : G [] := ⟨fun i r e => by simp at e, List.nodup_nil⟩
theorem nodup_snoc {α : Type} {l : List α} {a : α} (h : l.Nodup) (ha : a ∉ l) : (l ++ [a]).Nodup := by
  rw [List.nodup_append]
  refine ⟨h, by simp, fun x hx y hy => ?_⟩
  have : y = a := by simpa using hy
  subst this
  intro e
  subst e
  exact ha hx
theorem idx_get {α : Type} [DecidableEq α] : ∀ {l : List α} {a : α}, a ∈ l → l[l.idxOf a]? = some a
  | x :: xs, a, h => by
    by_cases e : x = a
    · subst e
      simp
    · have h' : a ∈ xs := by
        rcases List.mem_cons.mp h with q | q
        · exact absurd q.symm e
        · exact q
      rw [List.idxOf_cons, show (x == a) = false from by simp [e]]
      simpa using idx_get h'
theorem idx_lt {α : Type} [DecidableEq α] {l : List α} {a : α} (h : a ∈ l) : l.idxOf a < l.length :=
  (List.getElem?_eq_some_iff.mp (idx_get h)).1

/-- what interning and laying give -/
structure Laid (t : T) (L L' : List Row) (i : Nat) : Prop where
  g : G L'
  pre : ∃ more, L' = L ++ more
  lt : i < L'.length
  tr : tree L' i = t
theorem Laid.trees {t : T} {L L' : List Row} {i : Nat} (h : Laid t L L' i) {j : Nat} (hj : j < L.length) : tree L' j = tree L j := by
  obtain ⟨more, e⟩ := h.pre
  rw [e, tree_app hj]
theorem Laid.le {t : T} {L L' : List Row} {i : Nat} (h : Laid t L L' i) : L.length ≤ L'.length := by
  obtain ⟨more, e⟩ := h.pre
  rw [e]
  simp

theorem intern_laid {L : List Row} {r : Row} (g : G L) (hp : ∀ p ∈ r.parts, p < L.length) : Laid (treeAt L r) L (intern r L).1 (intern r L).2 := by
  unfold intern
  split
  · rename_i h
    exact ⟨g, ⟨[], by simp⟩, idx_lt h, tree_eq g.wf (idx_get h)⟩
  · rename_i h
    refine ⟨⟨g.wf.snoc hp, nodup_snoc g.nd h⟩, ⟨[r], rfl⟩, by simp, ?_⟩
    show tree (L ++ [r]) L.length = _
    rw [tree_last, treeR_eq]
theorem Laid.next {t u : T} {L M N : List Row} {i j : Nat} (h1 : Laid t L M i) (h2 : Laid u M N j) : Laid u L N j :=
  ⟨h2.g, by
    obtain ⟨a, ea⟩ := h1.pre
    obtain ⟨b, eb⟩ := h2.pre
    exact ⟨a ++ b, by rw [eb, ea, List.append_assoc]⟩, h2.lt, h2.tr⟩

theorem lay_laid : ∀ (t : T) {L : List Row}, G L → Laid t L (lay t L).1 (lay t L).2
  | .nothing, L, g => intern_laid (r := .nothing) g (by simp [Row.parts])
  | .blank, L, g => intern_laid (r := .blank) g (by simp [Row.parts])
  | .letter c, L, g => intern_laid (r := .letter c) g (by simp [Row.parts])
  | .not a, L, g => by
    have h := lay_laid a g
    have q := intern_laid (r := .not (lay a L).2) h.g (by simpa [Row.parts] using h.lt)
    have e : treeAt (lay a L).1 (.not (lay a L).2) = .not a := by
      show T.not _ = _
      rw [h.tr]
    rw [e] at q
    exact h.next q
  | .bin o a b, L, g => by
    have h := lay_laid a g
    have k := lay_laid b h.g
    have hl := k.le
    have q := intern_laid (r := .bin o (lay a L).2 (lay b (lay a L).1).2) k.g (by
      intro p hp
      have : p = (lay a L).2 ∨ p = (lay b (lay a L).1).2 := by simpa [Row.parts] using hp
      rcases this with e | e
      · rw [e]
        exact Nat.lt_of_lt_of_le h.lt hl
      · rw [e]
        exact k.lt)
    have e : treeAt (lay b (lay a L).1).1 (.bin o (lay a L).2 (lay b (lay a L).1).2) = .bin o a b := by
      show T.bin o _ _ = _
      rw [k.tr, k.trees h.lt, h.tr]
    rw [e] at q
    exact (h.next k).next q

/-- rows of good rows are told apart by their trees -/
theorem G.inj {L : List Row} (g : G L) : ∀ (i j : Nat), i < L.length → j < L.length → tree L i = tree L j → i = j := by
  intro i
  induction i using Nat.strongRecOn with
  | ind i ih =>
    intro j hi hj e
    have ei : L[i]? = some L[i] := by simp [hi]
    have ej : L[j]? = some L[j] := by simp [hj]
    have q : treeAt L L[i] = treeAt L L[j] := by rw [← tree_eq g.wf ei, ← tree_eq g.wf ej, e]
    have pi := g.wf i _ ei
    have pj := g.wf j _ ej
    have rr : L[i] = L[j] := by
      generalize L[i] = r at q pi
      generalize L[j] = r' at q pj
      cases r with
      | nothing => cases r' <;> first | rfl | (simp [treeAt] at q)
      | blank => cases r' <;> first | rfl | (simp [treeAt] at q)
      | letter c =>
        cases r' with
        | letter d =>
          simp [treeAt] at q
          rw [q]
        | _ => simp [treeAt] at q
      | not p =>
        cases r' with
        | not p' =>
          simp only [treeAt, T.not.injEq] at q
          have h1 : p < i := pi p (by simp [Row.parts])
          have h2 : p' < j := pj p' (by simp [Row.parts])
          rw [ih p h1 p' (by omega) (by omega) q]
        | _ => simp [treeAt] at q
      | bin o p s =>
        cases r' with
        | bin o' p' s' =>
          simp only [treeAt, T.bin.injEq] at q
          obtain ⟨q0, q1, q2⟩ := q
          have h1 : p < i := pi p (by simp [Row.parts])
          have h2 : p' < j := pj p' (by simp [Row.parts])
          have h3 : s < i := pi s (by simp [Row.parts])
          have h4 : s' < j := pj s' (by simp [Row.parts])
          rw [q0, ih p h1 p' (by omega) (by omega) q1, ih s h3 s' (by omega) (by omega) q2]
        | _ => simp [treeAt] at q
    exact (List.getElem_inj g.nd).mp rr

theorem intern_have {L : List Row} (g : G L) {i : Nat} {r : Row} (e : L[i]? = some r) : intern r L = (L, i) := by
  have hm : r ∈ L := List.mem_of_getElem? e
  unfold intern
  rw [if_pos hm]
  have e2 := idx_get hm
  obtain ⟨h1, q1⟩ := List.getElem?_eq_some_iff.mp e
  obtain ⟨h2, q2⟩ := List.getElem?_eq_some_iff.mp e2
  rw [(List.getElem_inj g.nd).mp (q2.trans q1.symm)]
/-- what is there is found -/
theorem lay_have {L : List Row} (g : G L) : ∀ (t : T) {i : Nat}, i < L.length → tree L i = t → lay t L = (L, i) := by
  intro t
  induction t with
  | nothing =>
    intro i hi e
    have ei : L[i]? = some L[i] := by simp [hi]
    rw [tree_eq g.wf ei] at e
    generalize L[i] = r at ei e
    cases r <;> simp [treeAt] at e
    exact intern_have g ei
  | blank =>
    intro i hi e
    have ei : L[i]? = some L[i] := by simp [hi]
    rw [tree_eq g.wf ei] at e
    generalize L[i] = r at ei e
    cases r <;> simp [treeAt] at e
    exact intern_have g ei
  | letter c =>
    intro i hi e
    have ei : L[i]? = some L[i] := by simp [hi]
    rw [tree_eq g.wf ei] at e
    generalize L[i] = r at ei e
    cases r <;> simp [treeAt] at e
    subst e
    exact intern_have g ei
  | not a ih =>
    intro i hi e
    have ei : L[i]? = some L[i] := by simp [hi]
    rw [tree_eq g.wf ei] at e
    have hp := g.wf i _ ei
    generalize L[i] = r at ei e hp
    cases r with
    | not p =>
      simp only [treeAt, T.not.injEq] at e
      have h1 : p < i := hp p (by simp [Row.parts])
      show intern (.not (lay a L).2) (lay a L).1 = _
      rw [ih (show p < L.length by omega) e]
      exact intern_have g ei
    | _ => simp [treeAt] at e
  | bin o a b iha ihb =>
    intro i hi e
    have ei : L[i]? = some L[i] := by simp [hi]
    rw [tree_eq g.wf ei] at e
    have hp := g.wf i _ ei
    generalize L[i] = r at ei e hp
    cases r with
    | bin o' p s =>
      simp only [treeAt, T.bin.injEq] at e
      obtain ⟨e0, e1, e2⟩ := e
      subst e0
      have h1 : p < i := hp p (by simp [Row.parts])
      have h2 : s < i := hp s (by simp [Row.parts])
      show intern (.bin o' (lay a L).2 (lay b (lay a L).1).2) (lay b (lay a L).1).1 = _
      rw [iha (show p < L.length by omega) e1]
      show intern (.bin o' p (lay b L).2) (lay b L).1 = _
      rw [ihb (show s < L.length by omega) e2]
      exact intern_have g ei
    | _ => simp [treeAt] at e

/-- sizes stay small -/
theorem intern_size {L : List Row} {r : Row} {k : Nat} (g : G L) (hp : ∀ p ∈ r.parts, p < L.length) (hL : ∀ i, i < L.length → (tree L i).size ≤ k) (hr : (treeAt L r).size ≤ k) :
    ∀ i, i < (intern r L).1.length → (tree (intern r L).1 i).size ≤ k := by
  unfold intern
  split
  · exact hL
  · intro i hi
    show (tree (L ++ [r]) i).size ≤ k
    have hi' : i < (L ++ [r]).length := hi
    by_cases h : i < L.length
    · rw [tree_app h]
      exact hL i h
    · have e : i = L.length := by
        simp at hi'
        omega
      subst e
      rw [tree_last, treeR_eq]
      exact hr
theorem lay_size : ∀ (t : T) {L : List Row} {k : Nat}, G L → (∀ i, i < L.length → (tree L i).size ≤ k) → t.size ≤ k → ∀ i, i < (lay t L).1.length → (tree (lay t L).1 i).size ≤ k
  | .nothing, L, k, g, hL, ht => intern_size (r := .nothing) g (by simp [Row.parts]) hL ht
  | .blank, L, k, g, hL, ht => intern_size (r := .blank) g (by simp [Row.parts]) hL ht
  | .letter c, L, k, g, hL, ht => intern_size (r := .letter c) g (by simp [Row.parts]) hL ht
  | .not a, L, k, g, hL, ht => by
    have h := lay_laid a g
    have ha : a.size ≤ k := by
      simp only [T.size] at ht
      omega
    have q := lay_size a g hL ha
    refine intern_size (r := .not (lay a L).2) h.g (by simpa [Row.parts] using h.lt) q ?_
    show (T.not _).size ≤ k
    rw [h.tr]
    exact ht
  | .bin o a b, L, k, g, hL, ht => by
    have h := lay_laid a g
    have hh := lay_laid b h.g
    have hl := hh.le
    have ha : a.size ≤ k := by
      simp only [T.size] at ht
      omega
    have hb : b.size ≤ k := by
      simp only [T.size] at ht
      omega
    have q := lay_size b h.g (lay_size a g hL ha) hb
    refine intern_size (r := .bin o (lay a L).2 (lay b (lay a L).1).2) hh.g (fun p hp => ?_) q ?_
    · have : p = (lay a L).2 ∨ p = (lay b (lay a L).1).2 := by simpa [Row.parts] using hp
      rcases this with e | e
      · rw [e]
        exact Nat.lt_of_lt_of_le h.lt hl
      · rw [e]
        exact hh.lt
    · show (T.bin o _ _).size ≤ k
      rw [hh.tr, hh.trees h.lt, h.tr]
      exact ht
theorem intern_new {L : List Row} {r : Row} (h : r ∉ L) : (intern r L).1.length = (intern r L).2 + 1 := by
  unfold intern
  rw [if_neg h]
  simp
theorem not_in_of_size {L : List Row} {r : Row} {k : Nat} (g : G L) (hL : ∀ i, i < L.length → (tree L i).size ≤ k) (hr : k < (treeAt L r).size) : r ∉ L := fun hm => by
  have h1 := hL _ (idx_lt hm)
  rw [tree_eq g.wf (idx_get hm)] at h1
  omega
/-- the root is laid last -/
theorem canon_last (t : T) : (canon t).length = (lay t []).2 + 1 := by
  have none : ∀ k i, i < ([] : List Row).length → (tree [] i).size ≤ k := fun k i h => by simp at h
  cases t with
  | nothing => exact intern_new (by simp)
  | blank => exact intern_new (by simp)
  | letter c => exact intern_new (by simp)
  | not a =>
    have h := lay_laid a G.nil
    refine intern_new (not_in_of_size (k := a.size) h.g (lay_size a G.nil (none _) (Nat.le_refl _)) ?_)
    show _ < (T.not _).size
    rw [h.tr]
    exact Nat.lt_succ_self _
  | bin o a b =>
    have h := lay_laid a G.nil
    have hh := lay_laid b h.g
    refine intern_new (not_in_of_size (k := a.size + b.size) hh.g (lay_size b h.g (lay_size a G.nil (none _) (Nat.le_add_right _ _)) (Nat.le_add_left _ _)) ?_)
    show _ < (T.bin o _ _).size
    rw [hh.tr, hh.trees h.lt, h.tr]
    exact Nat.lt_succ_self _
def root (rs : List Row) : T := tree rs (rs.length - 1)
theorem canon_good (t : T) : G (canon t) := (lay_laid t G.nil).g
theorem canon_pos (t : T) : 0 < (canon t).length := by
  rw [canon_last]
  exact Nat.succ_pos _
theorem canon_root (t : T) : root (canon t) = t := by
  unfold root
  have h := (lay_laid t G.nil).tr
  rw [canon_last]
  exact h
theorem canon_inj {t u : T} (h : canon t = canon u) : t = u := by
  rw [← canon_root t, h, canon_root]

/-! ### a sweep that skips what is laid -/
theorem lay_mono {t : T} {L : List Row} (g : G L) {i : Nat} (hi : i < L.length) (e : tree L i = t) (u : T) : lay t (lay u L).1 = ((lay u L).1, i) := by
  have h := lay_laid u g
  exact lay_have h.g t (Nat.lt_of_lt_of_le hi h.le) (by rw [h.trees hi]; exact e)
theorem lay_twice {t : T} {L : List Row} (g : G L) : lay t (lay t L).1 = lay t L :=
  lay_have (lay_laid t g).g t (lay_laid t g).lt (lay_laid t g).tr
end K30
end
section
/-! K30B: plain Lean. Trees written as signs, signs read to trees; brackets counted. -/
namespace K30

def ob : Op → Nat
  | .or => 0
  | .and => 1
  | .seq => 2
theorem ob_le (o : Op) : ob o ≤ 2 := by cases o <;> decide
def bd : T → Nat
  | .bin o _ _ => ob o
  | .not _ => 3
  | _ => 4
def par (b : Bool) (s : List Nat) : List Nat := if b then 40 :: (s ++ [41]) else s
def mk : Op → List Nat
  | .or => [124]
  | .and => [38]
  | .seq => []
def sho : T → List Nat
  | .nothing => [48]
  | .blank => [46]
  | .letter c => [c]
  | .not a => 45 :: par (decide (bd a < 3)) (sho a)
  | .bin o a b => par (decide (bd a < ob o)) (sho a) ++ mk o ++ par (decide (bd b < ob o + 1)) (sho b)
def shoAt (l : Nat) (t : T) : List Nat := par (decide (bd t < l)) (sho t)

/-! ### the reader's stacks, the top first -/
inductive W | not | bin (o : Op) | br
  deriving DecidableEq
def settle (k : Nat) : List T → List W → List T × List W
  | rd, [] => (rd, [])
  | rd, .br :: ws => (rd, .br :: ws)
  | [], .not :: ws => ([], .not :: ws)
  | x :: rd, .not :: ws => if k ≤ 3 then settle k (.not x :: rd) ws else (x :: rd, .not :: ws)
  | y :: x :: rd, .bin o :: ws => if k ≤ ob o then settle k (.bin o x y :: rd) ws else (y :: x :: rd, .bin o :: ws)
  | [], .bin o :: ws => ([], .bin o :: ws)
  | [y], .bin o :: ws => ([y], .bin o :: ws)
abbrev Stk := List T × List W
def leafOf (c : Nat) : T := if c = 48 then .nothing else if c = 46 then .blank else .letter c
def isLet (c : Nat) : Bool := decide (97 ≤ c) && decide (c ≤ 122)
def isBeg (c : Nat) : Bool := isLet c || (decide (c = 46) || (decide (c = 48) || (decide (c = 45) || decide (c = 40))))
def begin1 (c : Nat) (S : Stk) : Bool × Stk :=
  if c = 45 then (true, S.1, .not :: S.2) else if c = 40 then (true, S.1, .br :: S.2) else (false, settle 3 (leafOf c :: S.1) S.2)
def opOf (c : Nat) : Op := if c = 38 then .and else .or
def goOn (c : Nat) (S : Stk) : Bool × Stk :=
  if c = 124 ∨ c = 38 then (true, (settle (ob (opOf c)) S.1 S.2).1, .bin (opOf c) :: (settle (ob (opOf c)) S.1 S.2).2)
  else if c = 41 then (false, settle 3 (settle 0 S.1 S.2).1 (settle 0 S.1 S.2).2.tail)
  else begin1 c ((settle 2 S.1 S.2).1, .bin .seq :: (settle 2 S.1 S.2).2)
def step (Z : Bool × Stk) (c : Nat) : Bool × Stk := if Z.1 then begin1 c Z.2 else goOn c Z.2
def run (s : List Nat) (Z : Bool × Stk) : Bool × Stk := s.foldl step Z
def Z0 : Bool × Stk := (true, [], [])
def readT (s : List Nat) : T := (settle 0 (run s Z0).2.1 (run s Z0).2.2).1.headD .nothing

/-! ### which signs may come -/
def okS (Z : Bool × Nat) (c : Nat) : Bool := isBeg c || (!Z.1 && (decide (c = 124) || (decide (c = 38) || (decide (c = 41) && decide (0 < Z.2)))))
def nextDue (due : Bool) (c : Nat) : Bool := decide (c = 45) || (decide (c = 40) || (!due && (decide (c = 124) || decide (c = 38))))
def nextD (d c : Nat) : Nat := if c = 40 then d + 1 else if c = 41 then d - 1 else d
def astep (Z : Option (Bool × Nat)) (c : Nat) : Option (Bool × Nat) := match Z with
  | some z => if okS z c then some (nextDue z.1 c, nextD z.2 c) else none
  | none => none
def arun (s : List Nat) (Z : Option (Bool × Nat)) : Option (Bool × Nat) := s.foldl astep Z
def Acc (s : List Nat) : Prop := arun s (some (true, 0)) = some (false, 0)

theorem arun_none : ∀ s : List Nat, arun s none = none
  | [] => rfl
  | _ :: s => arun_none s
theorem arun_append (u v : List Nat) (Z : Option (Bool × Nat)) : arun (u ++ v) Z = arun v (arun u Z) := List.foldl_append ..
theorem run_append (u v : List Nat) (Z : Bool × Stk) : run (u ++ v) Z = run v (run u Z) := List.foldl_append ..
theorem run_cons (c : Nat) (v : List Nat) (Z : Bool × Stk) : run (c :: v) Z = run v (step Z c) := rfl
theorem arun_cons (c : Nat) (v : List Nat) (Z : Option (Bool × Nat)) : arun (c :: v) Z = arun v (astep Z c) := rfl

/-! ### settling -/
theorem settle_settle {j k : Nat} (h : j ≤ k) : ∀ (ws : List W) (rd : List T), settle j (settle k rd ws).1 (settle k rd ws).2 = settle j rd ws
  | [], rd => by cases rd <;> rfl
  | .br :: ws, rd => by cases rd <;> rfl
  | .not :: ws, [] => rfl
  | .not :: ws, x :: rd => by
    show settle j (if k ≤ 3 then settle k (.not x :: rd) ws else (x :: rd, .not :: ws)).1 (if k ≤ 3 then settle k (.not x :: rd) ws else (x :: rd, .not :: ws)).2 = _
    split
    · rw [settle_settle h ws]
      show _ = if j ≤ 3 then _ else _
      rw [if_pos (by omega)]
    · rfl
  | .bin o :: ws, [] => rfl
  | .bin o :: ws, [y] => rfl
  | .bin o :: ws, y :: x :: rd => by
    show settle j (if k ≤ ob o then settle k (.bin o x y :: rd) ws else (y :: x :: rd, .bin o :: ws)).1 (if k ≤ ob o then settle k (.bin o x y :: rd) ws else (y :: x :: rd, .bin o :: ws)).2 = _
    split
    · rw [settle_settle h ws]
      show _ = if j ≤ ob o then _ else _
      rw [if_pos (by omega)]
    · rfl
/-- an operand of level l may come -/
def Top (l : Nat) : List W → Prop
  | .bin o :: _ => ob o < l
  | .not :: _ => 3 ≤ l
  | _ => True
theorem Top.mono {l m : Nat} (h : l ≤ m) : ∀ {ws : List W}, Top l ws → Top m ws
  | [], _ => trivial
  | .br :: _, _ => trivial
  | .bin o :: _, t => Nat.lt_of_lt_of_le t h
  | .not :: _, t => Nat.le_trans t h
theorem settle_top {k : Nat} (hk : k ≤ 2) : ∀ {ws : List W} (rd : List T), Top k ws → settle k rd ws = (rd, ws)
  | [], rd, _ => by cases rd <;> rfl
  | .br :: _, rd, _ => by cases rd <;> rfl
  | .not :: _, _, t => absurd (show 3 ≤ k from t) (by omega)
  | .bin o :: ws, [], _ => rfl
  | .bin o :: ws, [y], _ => rfl
  | .bin o :: ws, y :: x :: rd, t => if_neg (by
    have q : ob o < k := t
    omega)

/-! ### what is written is read -/
def LetT : T → Prop
  | .letter c => isLet c = true
  | .not a => LetT a
  | .bin _ a b => LetT a ∧ LetT b
  | _ => True
theorem let_ne {c : Nat} (h : isLet c = true) : c ≠ 45 ∧ c ≠ 40 ∧ c ≠ 124 ∧ c ≠ 38 ∧ c ≠ 41 ∧ c ≠ 48 ∧ c ≠ 46 := by
  unfold isLet at h
  simp only [Bool.and_eq_true, decide_eq_true_eq] at h
  omega
theorem leaf_let {c : Nat} (h : isLet c = true) : leafOf c = .letter c := by
  obtain ⟨_, _, _, _, _, h1, h2⟩ := let_ne h
  unfold leafOf
  rw [if_neg h1, if_neg h2]
/-- each text written begins with a sign that begins a part -/
theorem sho_head : ∀ (t : T), LetT t → ∃ c s, sho t = c :: s ∧ isBeg c = true
  | .nothing, _ => ⟨48, [], rfl, by decide⟩
  | .blank, _ => ⟨46, [], rfl, by decide⟩
  | .letter c, h => ⟨c, [], rfl, by
    have q : isLet c = true := h
    unfold isBeg
    rw [q]
    rfl⟩
  | .not a, _ => ⟨45, _, rfl, by decide⟩
  | .bin o a b, h => by
    obtain ⟨c, s, e, hc⟩ := sho_head a h.1
    show ∃ c' s', par (decide (bd a < ob o)) (sho a) ++ mk o ++ par (decide (bd b < ob o + 1)) (sho b) = c' :: s' ∧ _
    unfold par
    split
    · exact ⟨40, _, rfl, by decide⟩
    · rw [e]
      exact ⟨c, _, rfl, hc⟩
theorem shoAt_head (l : Nat) (t : T) (h : LetT t) : ∃ c s, shoAt l t = c :: s ∧ isBeg c = true := by
  obtain ⟨c, s, e, hc⟩ := sho_head t h
  unfold shoAt par
  split
  · exact ⟨40, _, rfl, by decide⟩
  · exact ⟨c, s, e, hc⟩
theorem beg_ne {c : Nat} (h : isBeg c = true) : c ≠ 124 ∧ c ≠ 38 ∧ c ≠ 41 := by
  unfold isBeg isLet at h
  simp only [Bool.or_eq_true, Bool.and_eq_true, decide_eq_true_eq] at h
  omega
/-- read t's text at level l -/
def Reads (l : Nat) (t : T) (s : List Nat) : Prop := ∀ (rd : List T) (ws : List W), Top l ws → ∃ S : Stk, run s (true, rd, ws) = (false, S) ∧ ∀ b, b ≤ l → settle b S.1 S.2 = settle b (t :: rd) ws

theorem begin_leaf {c : Nat} (h1 : c ≠ 45) (h2 : c ≠ 40) (rd : List T) (ws : List W) : run [c] (true, rd, ws) = (false, settle 3 (leafOf c :: rd) ws) := by
  show begin1 c (rd, ws) = _
  unfold begin1
  rw [if_neg h1, if_neg h2]
theorem reads_leaf {c l : Nat} (h1 : c ≠ 45) (h2 : c ≠ 40) (hl : l ≤ 3) : Reads l (leafOf c) [c] := fun rd ws _ =>
  ⟨_, begin_leaf h1 h2 rd ws, fun b hb => settle_settle (by omega) ws _⟩
theorem reads_bracket {t : T} {s : List Nat} (h : Reads 0 t s) {l : Nat} (hl : l ≤ 3) : Reads l t (40 :: (s ++ [41])) := fun rd ws _ => by
  obtain ⟨S, e, q⟩ := h rd (.br :: ws) trivial
  have q0 := q 0 (Nat.le_refl _)
  have e1 : settle 0 S.1 S.2 = (t :: rd, .br :: ws) := q0
  refine ⟨settle 3 (t :: rd) ws, ?_, fun b hb => settle_settle (by omega) ws _⟩
  rw [run_cons]
  have e2 : step (true, rd, ws) 40 = (true, rd, .br :: ws) := rfl
  rw [e2, run_append, e]
  show goOn 41 S = _
  unfold goOn
  rw [if_neg (by decide), if_pos rfl, e1]
  rfl
theorem reads_at {t : T} (h : ∀ l, l ≤ 3 → l ≤ bd t → Reads l t (sho t)) {l : Nat} (hl : l ≤ 3) : Reads l t (shoAt l t) := by
  unfold shoAt par
  by_cases c : bd t < l
  · rw [decide_eq_true c]
    exact reads_bracket (h 0 (by omega) (by omega)) hl
  · rw [decide_eq_false c]
    exact h l hl (by omega)
theorem run_seq {c : Nat} (h : isBeg c = true) (s : List Nat) (S : Stk) : run (c :: s) (false, S) = run (c :: s) (true, (settle 2 S.1 S.2).1, .bin .seq :: (settle 2 S.1 S.2).2) := by
  obtain ⟨h1, h2, h3⟩ := beg_ne h
  rw [run_cons, run_cons]
  have e : step (false, S) c = step (true, (settle 2 S.1 S.2).1, .bin .seq :: (settle 2 S.1 S.2).2) c := by
    show goOn c S = begin1 c ((settle 2 S.1 S.2).1, .bin .seq :: (settle 2 S.1 S.2).2)
    unfold goOn
    rw [if_neg (by omega), if_neg h3]
  rw [e]
theorem reads : ∀ (t : T), LetT t → ∀ l, l ≤ 3 → l ≤ bd t → Reads l t (sho t)
  | .nothing, _, l, hl, _ => reads_leaf (c := 48) (by decide) (by decide) hl
  | .blank, _, l, hl, _ => reads_leaf (c := 46) (by decide) (by decide) hl
  | .letter c, h, l, hl, _ => by
    obtain ⟨h1, h2, _⟩ := let_ne h
    have q := reads_leaf (c := c) h1 h2 hl
    rw [leaf_let h] at q
    exact q
  | .not a, h, l, hl, _ => fun rd ws _ => by
    have ih := reads_at (reads a h) (l := 3) (Nat.le_refl _)
    obtain ⟨S, e, q⟩ := ih rd (.not :: ws) (Nat.le_refl 3)
    refine ⟨S, ?_, fun b hb => ?_⟩
    · show run (45 :: shoAt 3 a) (true, rd, ws) = _
      rw [run_cons]
      exact e
    · rw [q b (by omega)]
      show (if b ≤ 3 then settle b (.not a :: rd) ws else _) = _
      rw [if_pos (by omega)]
  | .bin o a b, h, l, hl, hb => fun rd ws ht => by
    have ho := ob_le o
    have hb : l ≤ ob o := hb
    obtain ⟨SA, eA, qA⟩ := reads_at (reads a h.1) (l := ob o) (by omega) rd ws (ht.mono hb)
    have qA1 := qA (ob o) (Nat.le_refl _)
    rw [settle_top ho (a :: rd) (ht.mono hb)] at qA1
    obtain ⟨SB, eB, qB⟩ := reads_at (reads b h.2) (l := ob o + 1) (by omega) (a :: rd) (.bin o :: ws) (Nat.lt_succ_self _)
    refine ⟨SB, ?_, fun b' hb' => ?_⟩
    · show run (shoAt (ob o) a ++ mk o ++ shoAt (ob o + 1) b) (true, rd, ws) = _
      rw [List.append_assoc, run_append, eA]
      cases o with
      | seq =>
        obtain ⟨c, s, es, hc⟩ := shoAt_head (ob .seq + 1) b h.2
        show run (shoAt (ob .seq + 1) b) (false, SA) = _
        rw [es] at eB ⊢
        have qA2 : settle 2 SA.1 SA.2 = (a :: rd, ws) := qA1
        rw [run_seq hc, qA2]
        exact eB
      | or =>
        show run (124 :: shoAt (ob .or + 1) b) (false, SA) = _
        rw [run_cons]
        have e : step (false, SA) 124 = (true, a :: rd, .bin .or :: ws) := by
          show goOn 124 SA = _
          unfold goOn
          rw [if_pos (.inl rfl)]
          have e2 : settle (ob (opOf 124)) SA.1 SA.2 = (a :: rd, ws) := qA1
          rw [e2]
          rfl
        rw [e]
        exact eB
      | and =>
        show run (38 :: shoAt (ob .and + 1) b) (false, SA) = _
        rw [run_cons]
        have e : step (false, SA) 38 = (true, a :: rd, .bin .and :: ws) := by
          show goOn 38 SA = _
          unfold goOn
          rw [if_pos (.inr rfl)]
          have e2 : settle (ob (opOf 38)) SA.1 SA.2 = (a :: rd, ws) := qA1
          rw [e2]
          rfl
        rw [e]
        exact eB
    · rw [qB b' (by omega)]
      show (if b' ≤ ob o then settle b' (.bin o a b :: rd) ws else _) = _
      rw [if_pos (by omega)]
theorem read_show {t : T} (h : LetT t) : readT (sho t) = t := by
  obtain ⟨S, e, q⟩ := reads t h 0 (Nat.zero_le _) (Nat.zero_le _) [] [] trivial
  have q0 := q 0 (Nat.le_refl _)
  unfold readT Z0
  rw [e, q0]
  rfl

/-! ### what is written is let by -/
theorem arun_leaf {c : Nat} (hb : isBeg c = true) (h1 : c ≠ 45) (h2 : c ≠ 40) (d : Nat) : arun [c] (some (true, d)) = some (false, d) := by
  obtain ⟨_, _, h3⟩ := beg_ne hb
  show (if okS (true, d) c = true then some (nextDue true c, nextD d c) else none) = _
  unfold okS nextDue nextD
  rw [hb]
  simp [h1, h2, h3]
theorem arun_par {s : List Nat} (h : ∀ d, arun s (some (true, d)) = some (false, d)) (b : Bool) (d : Nat) : arun (par b s) (some (true, d)) = some (false, d) := by
  unfold par
  split
  · rw [arun_cons]
    have e : astep (some (true, d)) 40 = some (true, d + 1) := rfl
    rw [e, arun_append, h]
    rfl
  · exact h d
theorem arun_seq {c : Nat} (h : isBeg c = true) (s : List Nat) (d : Nat) : arun (c :: s) (some (false, d)) = arun (c :: s) (some (true, d)) := by
  obtain ⟨h1, h2, h3⟩ := beg_ne h
  rw [arun_cons, arun_cons]
  have e : astep (some (false, d)) c = astep (some (true, d)) c := by
    show (if okS (false, d) c = true then some (nextDue false c, nextD d c) else none) = (if okS (true, d) c = true then some (nextDue true c, nextD d c) else none)
    unfold okS nextDue
    rw [h]
    simp [h1, h2]
  rw [e]
theorem arun_sho : ∀ (t : T), LetT t → ∀ d, arun (sho t) (some (true, d)) = some (false, d)
  | .nothing, _, d => rfl
  | .blank, _, d => rfl
  | .letter c, h, d => by
    obtain ⟨h1, h2, _⟩ := let_ne h
    have q : isLet c = true := h
    exact arun_leaf (by unfold isBeg; rw [q]; rfl) h1 h2 d
  | .not a, h, d => by
    show arun (45 :: par _ (sho a)) _ = _
    rw [arun_cons]
    exact arun_par (arun_sho a h) _ d
  | .bin o a b, h, d => by
    show arun (par _ (sho a) ++ mk o ++ par _ (sho b)) _ = _
    rw [List.append_assoc, arun_append, arun_par (arun_sho a h.1), arun_append]
    cases o with
    | seq =>
      show arun (par _ (sho b)) (some (false, d)) = _
      obtain ⟨c, s, es, hc⟩ := shoAt_head (ob .seq + 1) b h.2
      have q := arun_par (arun_sho b h.2) (decide (bd b < ob .seq + 1)) d
      unfold shoAt at es
      rw [es] at q ⊢
      rw [arun_seq hc]
      exact q
    | or => exact arun_par (arun_sho b h.2) _ d
    | and => exact arun_par (arun_sho b h.2) _ d
theorem acc_sho {t : T} (h : LetT t) : Acc (sho t) := arun_sho t h 0

/-! ### brackets counted -/
def opens (s : List Nat) : Nat := s.count 40
def cnt (t : T) : Nat := opens (sho t)
def cntAt (l : Nat) (t : T) : Nat := cnt t + (if bd t < l then 1 else 0)
theorem opens_par (b : Bool) (s : List Nat) : opens (par b s) = opens s + (if b = true then 1 else 0) := by
  unfold par opens
  split <;> simp
theorem opens_at (l : Nat) (t : T) : opens (shoAt l t) = cntAt l t := by
  unfold shoAt cntAt
  rw [opens_par]
  simp [cnt]
theorem cnt_not (a : T) : cnt (.not a) = cntAt 3 a := by
  rw [← opens_at]
  show List.count 40 (45 :: shoAt 3 a) = List.count 40 (shoAt 3 a)
  simp
theorem cnt_bin (o : Op) (a b : T) : cnt (.bin o a b) = cntAt (ob o) a + cntAt (ob o + 1) b := by
  rw [← opens_at, ← opens_at]
  show List.count 40 (shoAt (ob o) a ++ mk o ++ shoAt (ob o + 1) b) = _
  rw [List.count_append, List.count_append]
  have e : List.count 40 (mk o) = 0 := by cases o <;> rfl
  rw [e]
  rfl
theorem cntAt_mono {l m : Nat} (h : l ≤ m) (t : T) : cntAt l t ≤ cntAt m t := by
  unfold cntAt
  split <;> split <;> omega
theorem cntAt_own {l : Nat} {t : T} (h : l ≤ bd t) : cntAt l t = cnt t := by
  unfold cntAt
  rw [if_neg (by omega)]
  rfl
theorem cntAt_le (l : Nat) (t : T) : cntAt l t ≤ cnt t + 1 := by
  unfold cntAt
  split <;> omega

/-- the signs that wait, the parts that are ready below an operand of level l to come; m brackets are due to them -/
inductive Pil : Nat → List W → List T → Nat → Prop
  | nil : Pil 0 [] [] 0
  | br {l ws rd m} : Pil l ws rd m → Pil 0 (.br :: ws) rd (m + 1)
  | not {l ws rd m} : Pil l ws rd m → Pil 3 (.not :: ws) rd m
  | bin {l ws rd m o x} : Pil l ws rd m → l ≤ ob o → Pil (ob o + 1) (.bin o :: ws) (x :: rd) (m + cntAt (ob o) x)
theorem Pil.le {l m : Nat} {ws : List W} {rd : List T} (h : Pil l ws rd m) : l ≤ 3 := by
  cases h with
  | nil => exact Nat.zero_le _
  | br _ => exact Nat.zero_le _
  | not _ => exact Nat.le_refl _
  | bin h hl =>
    rename_i o x
    have := ob_le o
    omega
def brs (ws : List W) : Nat := ws.count .br
/-- behind an operand x of level L -/
structure Nd (L : Nat) (ws : List W) (rd : List T) (n d : Nat) : Prop where
  ex : ∃ x r l m, rd = x :: r ∧ Pil l ws r m ∧ l ≤ L ∧ m + cntAt L x ≤ n
  br : brs ws = d
theorem brs_not (ws : List W) : brs (.not :: ws) = brs ws := by simp [brs]
theorem brs_bin (o : Op) (ws : List W) : brs (.bin o :: ws) = brs ws := by simp [brs]
theorem brs_br (ws : List W) : brs (.br :: ws) = brs ws + 1 := by simp [brs]
theorem settle_nd {k n d : Nat} : ∀ (ws : List W) {L : Nat} {rd : List T}, k ≤ L → L ≤ 3 → Nd L ws rd n d → Nd k (settle k rd ws).2 (settle k rd ws).1 n d
  | [], L, rd, hk, _, h => by
    obtain ⟨⟨x, r, l, m, e, p, hl, hm⟩, hb⟩ := h
    subst e
    have e2 : settle k (x :: r) [] = (x :: r, []) := rfl
    rw [e2]
    cases p
    exact ⟨⟨x, [], 0, 0, rfl, .nil, Nat.zero_le _, Nat.le_trans (Nat.add_le_add_left (cntAt_mono hk x) _) hm⟩, hb⟩
  | .br :: ws, L, rd, hk, _, h => by
    obtain ⟨⟨x, r, l, m, e, p, hl, hm⟩, hb⟩ := h
    subst e
    have e2 : settle k (x :: r) (.br :: ws) = (x :: r, .br :: ws) := rfl
    rw [e2]
    cases p with
    | br q => exact ⟨⟨x, r, 0, _, rfl, .br q, Nat.zero_le _, Nat.le_trans (Nat.add_le_add_left (cntAt_mono hk x) _) hm⟩, hb⟩
  | .not :: ws, L, rd, hk, h3, h => by
    obtain ⟨⟨x, r, l, m, e, p, hl, hm⟩, hb⟩ := h
    subst e
    cases p with
    | not q =>
      have hL : L = 3 := by omega
      subst hL
      have e2 : settle k (x :: r) (.not :: ws) = settle k (.not x :: r) ws := if_pos hk
      rw [e2]
      refine settle_nd ws (L := 3) hk (Nat.le_refl _) ⟨⟨.not x, r, _, m, rfl, q, q.le, ?_⟩, by rw [brs_not] at hb; exact hb⟩
      rw [cntAt_own (Nat.le_refl 3), cnt_not]
      exact hm
  | .bin o :: ws, L, rd, hk, h3, h => by
    obtain ⟨⟨y, r, l, m, e, p, hl, hm⟩, hb⟩ := h
    subst e
    cases p with
    | bin q hq =>
      rename_i l' rd' m' x
      by_cases c : k ≤ ob o
      · have e2 : settle k (y :: x :: rd') (.bin o :: ws) = settle k (.bin o x y :: rd') ws := if_pos c
        rw [e2]
        refine settle_nd ws (L := ob o) c (by have := ob_le o; omega) ⟨⟨.bin o x y, rd', l', m', rfl, q, hq, ?_⟩, by rw [brs_bin] at hb; exact hb⟩
        rw [cntAt_own (show ob o ≤ bd (.bin o x y) from Nat.le_refl _), cnt_bin]
        have := cntAt_mono hl y
        omega
      · have e2 : settle k (y :: x :: rd') (.bin o :: ws) = (y :: x :: rd', .bin o :: ws) := if_neg c
        rw [e2]
        exact ⟨⟨y, _, _, _, rfl, .bin q hq, by omega, Nat.le_trans (Nat.add_le_add_left (cntAt_mono hk y) _) hm⟩, hb⟩
/-- settled at 0: a bracket or nothing waits -/
theorem settle_zero {n d : Nat} : ∀ (ws : List W) {L : Nat} {rd : List T}, L ≤ 3 → Nd L ws rd n d → (settle 0 rd ws).2 = [] ∨ ∃ r, (settle 0 rd ws).2 = .br :: r
  | [], L, rd, _, h => by
    obtain ⟨⟨x, r, l, m, e, p, hl, hm⟩, hb⟩ := h
    subst e
    exact .inl rfl
  | .br :: ws, L, rd, _, h => by
    obtain ⟨⟨x, r, l, m, e, p, hl, hm⟩, hb⟩ := h
    subst e
    exact .inr ⟨ws, rfl⟩
  | .not :: ws, L, rd, h3, h => by
    obtain ⟨⟨x, r, l, m, e, p, hl, hm⟩, hb⟩ := h
    subst e
    cases p with
    | not q =>
      have e2 : settle 0 (x :: r) (.not :: ws) = settle 0 (.not x :: r) ws := if_pos (Nat.zero_le _)
      rw [e2]
      refine settle_zero (n := m + cntAt 3 (.not x)) (d := brs ws) ws (L := 3) (Nat.le_refl _) ⟨⟨.not x, r, _, m, rfl, q, q.le, Nat.le_refl _⟩, rfl⟩
  | .bin o :: ws, L, rd, h3, h => by
    obtain ⟨⟨y, r, l, m, e, p, hl, hm⟩, hb⟩ := h
    subst e
    cases p with
    | bin q hq =>
      rename_i l' rd' m' x
      have e2 : settle 0 (y :: x :: rd') (.bin o :: ws) = settle 0 (.bin o x y :: rd') ws := if_pos (Nat.zero_le _)
      rw [e2]
      refine settle_zero (n := m' + cntAt (ob o) (.bin o x y)) (d := brs ws) ws (L := ob o) (by have := ob_le o; omega) ⟨⟨.bin o x y, rd', l', m', rfl, q, hq, Nat.le_refl _⟩, rfl⟩

/-- the reader's state, n brackets begun, d open -/
structure Rd (due : Bool) (ws : List W) (rd : List T) (n d : Nat) : Prop where
  yes : due = true → (∃ l m, Pil l ws rd m ∧ m ≤ n) ∧ brs ws = d
  no : due = false → Nd 3 ws rd n d
theorem Rd.mk1 {ws : List W} {rd : List T} {l m n d : Nat} (p : Pil l ws rd m) (h : m ≤ n) (b : brs ws = d) : Rd true ws rd n d :=
  ⟨fun _ => ⟨⟨l, m, p, h⟩, b⟩, fun e => nomatch e⟩
theorem Rd.mk0 {ws : List W} {rd : List T} {n d : Nat} (p : Nd 3 ws rd n d) : Rd false ws rd n d := ⟨fun e => (nomatch e), fun _ => p⟩
theorem cnt_leaf (c : Nat) (h : c ≠ 40) : cntAt 3 (leafOf c) = 0 := by
  unfold leafOf
  split
  · rfl
  · split
    · rfl
    · show opens [c] + _ = 0
      simp [opens, h, bd]
theorem begin_rd {c n d l m : Nat} {ws : List W} {rd : List T} (p : Pil l ws rd m) (hm : m ≤ n) (b : brs ws = d) (h41 : c ≠ 41) :
    Rd (begin1 c (rd, ws)).1 (begin1 c (rd, ws)).2.2 (begin1 c (rd, ws)).2.1 (n + if c = 40 then 1 else 0) (nextD d c) := by
  unfold begin1 nextD
  by_cases h1 : c = 45
  · subst h1
    exact Rd.mk1 (.not p) hm ((brs_not ws).trans b)
  · rw [if_neg h1]
    by_cases h2 : c = 40
    · subst h2
      exact Rd.mk1 (.br p) (Nat.succ_le_succ hm) ((brs_br ws).trans (congrArg (· + 1) b))
    · rw [if_neg h2, if_neg h2, if_neg h2, if_neg h41]
      refine Rd.mk0 (settle_nd ws (Nat.le_refl 3) (Nat.le_refl 3) ⟨⟨leafOf c, rd, l, m, rfl, p, p.le, ?_⟩, b⟩)
      rw [cnt_leaf c h2]
      exact hm
theorem step_rd {c n d : Nat} {due : Bool} {ws : List W} {rd : List T} (h : Rd due ws rd n d) (ok : okS (due, d) c = true) :
    Rd (step (due, rd, ws) c).1 (step (due, rd, ws) c).2.2 (step (due, rd, ws) c).2.1 (n + if c = 40 then 1 else 0) (nextD d c) ∧ (step (due, rd, ws) c).1 = nextDue due c := by
  have nb : ∀ (due : Bool) (S : Stk), c ≠ 124 → c ≠ 38 → (begin1 c S).1 = nextDue due c := fun due S q1 q2 => by
    unfold begin1 nextDue
    by_cases h1 : c = 45
    · subst h1
      rfl
    · by_cases h2 : c = 40
      · subst h2
        rfl
      · simp [h1, h2, q1, q2]
  cases due with
  | true =>
    obtain ⟨⟨l, m, p, hm⟩, b⟩ := h.yes rfl
    have hb : isBeg c = true := by
      unfold okS at ok
      simpa using ok
    obtain ⟨h1, h2, h3⟩ := beg_ne hb
    exact ⟨begin_rd p hm b h3, nb true _ h1 h2⟩
  | false =>
    have q := h.no rfl
    show Rd (goOn c (rd, ws)).1 (goOn c (rd, ws)).2.2 (goOn c (rd, ws)).2.1 _ _ ∧ (goOn c (rd, ws)).1 = nextDue false c
    unfold goOn
    by_cases h1 : c = 124 ∨ c = 38
    · rw [if_pos h1]
      have ho := ob_le (opOf c)
      obtain ⟨⟨x, r, l, m, e, p, hl, hm⟩, b⟩ := settle_nd (k := ob (opOf c)) ws (L := 3) (by omega) (Nat.le_refl _) q
      have n40 : c ≠ 40 := by omega
      have n41 : c ≠ 41 := by omega
      refine ⟨?_, ?_⟩
      · show Rd true (.bin (opOf c) :: (settle (ob (opOf c)) rd ws).2) (settle (ob (opOf c)) rd ws).1 _ _
        rw [e, if_neg n40]
        refine Rd.mk1 (.bin p hl) hm ?_
        rw [brs_bin, b]
        unfold nextD
        rw [if_neg n40, if_neg n41]
      · unfold nextDue
        rcases h1 with z | z <;> subst z <;> rfl
    · rw [if_neg h1]
      by_cases h2 : c = 41
      · subst h2
        rw [if_pos rfl, if_neg (by decide)]
        have hd : 0 < d := by
          unfold okS at ok
          simpa [isBeg, isLet] using ok
        have nd := settle_nd (k := 0) ws (L := 3) (Nat.zero_le _) (Nat.le_refl _) q
        have z := settle_zero ws (Nat.le_refl 3) q
        obtain ⟨⟨x, r, l, m, e, p, hl, hm⟩, b⟩ := nd
        rcases z with z | ⟨ws', z⟩
        · rw [z] at b
          have : d = 0 := b.symm
          omega
        · rw [z] at b p
          show Rd false (settle 3 (settle 0 rd ws).1 (settle 0 rd ws).2.tail).2 (settle 3 (settle 0 rd ws).1 (settle 0 rd ws).2.tail).1 _ _ ∧ _
          rw [z, e]
          cases p with
          | br p' =>
            rename_i l' m'
            refine ⟨Rd.mk0 (settle_nd ws' (Nat.le_refl 3) (Nat.le_refl 3) ⟨⟨x, r, l', m', rfl, p', p'.le, ?_⟩, ?_⟩), rfl⟩
            · have q1 := cntAt_le 3 x
              have q2 : cntAt 0 x = cnt x := cntAt_own (Nat.zero_le _)
              omega
            · rw [brs_br] at b
              show brs ws' = d - 1
              omega
      · rw [if_neg h2]
        obtain ⟨⟨x, r, l, m, e, p, hl, hm⟩, b⟩ := settle_nd (k := 2) ws (L := 3) (by omega) (Nat.le_refl _) q
        rw [e]
        have n1 : c ≠ 124 := fun z => h1 (.inl z)
        have n2 : c ≠ 38 := fun z => h1 (.inr z)
        exact ⟨begin_rd (.bin (o := .seq) p hl) hm (by rw [brs_bin]; exact b) h2, nb false _ n1 n2⟩
theorem run_rd : ∀ (s : List Nat) {due : Bool} {ws : List W} {rd : List T} {n d : Nat} {due' : Bool} {d' : Nat}, Rd due ws rd n d → arun s (some (due, d)) = some (due', d') →
    (run s (due, rd, ws)).1 = due' ∧ Rd due' (run s (due, rd, ws)).2.2 (run s (due, rd, ws)).2.1 (n + opens s) d'
  | [], due, ws, rd, n, d, due', d', h, e => by
    have e1 : (due, d) = (due', d') := Option.some.inj e
    obtain ⟨e2, e3⟩ := Prod.mk.inj e1
    subst e2 e3
    exact ⟨rfl, h⟩
  | c :: s, due, ws, rd, n, d, due', d', h, e => by
    rw [arun_cons] at e
    have e1 : astep (some (due, d)) c = if okS (due, d) c = true then some (nextDue due c, nextD d c) else none := rfl
    rw [e1] at e
    by_cases ok : okS (due, d) c = true
    · rw [if_pos ok] at e
      obtain ⟨q, qd⟩ := step_rd h ok
      rw [qd] at q
      rw [run_cons]
      have es : step (due, rd, ws) c = (nextDue due c, (step (due, rd, ws) c).2.1, (step (due, rd, ws) c).2.2) := by rw [← qd]
      rw [es]
      have z := run_rd s q e
      have en : n + opens (c :: s) = (n + if c = 40 then 1 else 0) + opens s := by
        unfold opens
        rw [List.count_cons]
        by_cases c40 : c = 40
        · subst c40
          simp
          omega
        · simp [c40]
      rw [en]
      exact z
    · rw [if_neg ok, arun_none] at e
      cases e
theorem rd_start : Rd true [] [] 0 0 := Rd.mk1 .nil (Nat.le_refl _) rfl
/-- THE COUNT: what is read has no more brackets, written -/
theorem read_count {s : List Nat} (h : Acc s) : settle 0 (run s Z0).2.1 (run s Z0).2.2 = ([readT s], []) ∧ cnt (readT s) ≤ opens s := by
  obtain ⟨h1, h2⟩ := run_rd s rd_start h
  have q := h2.no rfl
  have nd := settle_nd (k := 0) (run s Z0).2.2 (L := 3) (Nat.zero_le _) (Nat.le_refl _) q
  have z := settle_zero (run s Z0).2.2 (Nat.le_refl 3) q
  obtain ⟨⟨x, r, l, m, e, p, hl, hm⟩, b⟩ := nd
  rcases z with z | ⟨ws', z⟩
  · rw [z] at p
    cases p
    have er : readT s = x := by
      show (settle 0 (run s (true, [], [])).2.1 (run s (true, [], [])).2.2).1.headD .nothing = x
      have e' : (settle 0 (run s (true, [], [])).2.1 (run s (true, [], [])).2.2).1 = [x] := e
      rw [e']
      rfl
    rw [er]
    refine ⟨Prod.ext e z, ?_⟩
    have q2 : cntAt 0 x = cnt x := cntAt_own (Nat.zero_le _)
    omega
  · rw [z, brs_br] at b
    omega

/-! ### a pair of brackets taken out -/
def close : Nat → List Nat → Option (List Nat × List Nat)
  | _, [] => none
  | k, c :: s => if nextD k c = 0 then some ([], s) else (close (nextD k c) s).map fun q => (c :: q.1, q.2)
theorem close_ok : ∀ (s : List Nat) (k : Nat) (due : Bool) (d : Nat), 1 ≤ k → arun s (some (due, d + k)) = some (false, 0) →
    ∃ v w, close k s = some (v, w) ∧ s = v ++ 41 :: w ∧ (∀ e, arun v (some (due, e + (k - 1))) = some (false, e)) ∧ arun w (some (false, d)) = some (false, 0)
  | [], k, due, d, hk, e => by
    have e1 : (due, d + k) = (false, 0) := Option.some.inj e
    have := (Prod.mk.inj e1).2
    omega
  | c :: s, k, due, d, hk, e => by
    rw [arun_cons] at e
    have e1 : astep (some (due, d + k)) c = if okS (due, d + k) c = true then some (nextDue due c, nextD (d + k) c) else none := rfl
    rw [e1] at e
    by_cases ok : okS (due, d + k) c = true
    · rw [if_pos ok] at e
      by_cases z : nextD k c = 0
      · have hc : c = 41 ∧ k = 1 := by
          unfold nextD at z
          split at z
          · omega
          · split at z
            · exact ⟨by assumption, by omega⟩
            · omega
        obtain ⟨hc, hk1⟩ := hc
        subst hc hk1
        have hdue : due = false := by
          unfold okS at ok
          cases due with
          | true => simp [isBeg, isLet] at ok
          | false => rfl
        subst hdue
        refine ⟨[], s, if_pos rfl, rfl, fun e => rfl, e⟩
      · have hn : nextD (d + k) c = d + nextD k c := by
          unfold nextD
          split
          · omega
          · split <;> omega
        rw [hn] at e
        obtain ⟨v, w, q1, q2, q3, q4⟩ := close_ok s (nextD k c) (nextDue due c) d (by omega) e
        refine ⟨c :: v, w, ?_, by rw [q2]; rfl, fun e => ?_, q4⟩
        · show (if nextD k c = 0 then _ else _) = _
          rw [if_neg z, q1]
          rfl
        · rw [arun_cons]
          have ok2 : okS (due, e + (k - 1)) c = true := by
            unfold okS at ok ⊢
            by_cases c41 : c = 41
            · subst c41
              have k2 : 2 ≤ k := by
                unfold nextD at z
                simp at z
                omega
              cases due with
              | true => simp [isBeg, isLet] at ok
              | false =>
                simp
                right
                omega
            · simp [c41] at ok ⊢
              exact ok
          have e2 : astep (some (due, e + (k - 1))) c = some (nextDue due c, nextD (e + (k - 1)) c) := if_pos ok2
          rw [e2]
          have e3 : nextD (e + (k - 1)) c = e + (nextD k c - 1) := by
            unfold nextD at z ⊢
            split
            · omega
            · split
              · rename_i q q'
                rw [if_neg q, if_pos q'] at z
                omega
              · omega
          rw [e3]
          exact q3 e
    · rw [if_neg ok, arun_none] at e
      cases e
theorem acc_depth : ∀ (s : List Nat) {due : Bool} {d : Nat} {due' : Bool} {d' : Nat}, arun s (some (due, d)) = some (due', d') → d + s.count 40 = d' + s.count 41
  | [], due, d, due', d', e => by
    have e1 : (due, d) = (due', d') := Option.some.inj e
    have := (Prod.mk.inj e1).2
    simp
    exact this
  | c :: s, due, d, due', d', e => by
    rw [arun_cons] at e
    have e1 : astep (some (due, d)) c = if okS (due, d) c = true then some (nextDue due c, nextD d c) else none := rfl
    rw [e1] at e
    by_cases ok : okS (due, d) c = true
    · rw [if_pos ok] at e
      have ih := acc_depth s e
      rw [List.count_cons, List.count_cons]
      by_cases h1 : c = 40
      · subst h1
        simp [nextD] at ih ⊢
        omega
      · by_cases h2 : c = 41
        · subst h2
          have hd : 0 < d := by
            unfold okS at ok
            simp [isBeg, isLet] at ok
            exact ok.2
          simp [nextD] at ih ⊢
          omega
        · have en : nextD d c = d := by
            unfold nextD
            rw [if_neg h1, if_neg h2]
          rw [en] at ih
          simp [h1, h2]
          exact ih
    · rw [if_neg ok, arun_none] at e
      cases e
/-- as many begin as end -/
theorem acc_count {s : List Nat} (h : Acc s) : s.count 40 = s.count 41 := by
  have := acc_depth s h
  omega
/-- a pair taken out of a text that is let by: the rest is let by, it has one bracket less -/
theorem without {u r : List Nat} (h : Acc (u ++ 40 :: r)) : ∃ v w, close 1 r = some (v, w) ∧ r = v ++ 41 :: w ∧ Acc (u ++ (v ++ w)) ∧ opens (u ++ (v ++ w)) + 1 = opens (u ++ 40 :: r) := by
  unfold Acc at h
  rw [arun_append] at h
  cases e : arun u (some (true, 0)) with
  | none =>
    rw [e, arun_none] at h
    cases h
  | some z =>
    obtain ⟨due, d⟩ := z
    rw [e, arun_cons] at h
    have e1 : astep (some (due, d)) 40 = some (true, d + 1) := by
      cases due <;> rfl
    rw [e1] at h
    obtain ⟨v, w, q1, q2, q3, q4⟩ := close_ok r 1 true d (Nat.le_refl _) h
    refine ⟨v, w, q1, q2, ?_, ?_⟩
    · unfold Acc
      rw [arun_append, e, arun_append]
      have q := q3 d
      have q' : arun v (some (true, d)) = some (false, d) := q
      have qd : arun v (some (due, d)) = some (false, d) := by
        cases due with
        | true => exact q'
        | false =>
          cases v with
          | nil => exact absurd q' (by simp [arun])
          | cons c v =>
            have hb : isBeg c = true := by
              rw [arun_cons] at q'
              have e2 : astep (some (true, d)) c = if okS (true, d) c = true then some (nextDue true c, nextD d c) else none := rfl
              rw [e2] at q'
              by_cases ok : okS (true, d) c = true
              · unfold okS at ok
                simpa using ok
              · rw [if_neg ok, arun_none] at q'
                cases q'
            rw [arun_seq hb]
            exact q'
      rw [qd]
      exact q4
    · unfold opens
      rw [q2]
      simp [List.count_append]
      omega
/-- so it is read to another tree -/
theorem without_other {t : T} {u r : List Nat} (hl : LetT t) (e : sho t = u ++ 40 :: r) : ∃ v w, close 1 r = some (v, w) ∧ r = v ++ 41 :: w ∧ Acc (u ++ (v ++ w)) ∧ readT (u ++ (v ++ w)) ≠ t := by
  have ha := acc_sho hl
  rw [e] at ha
  obtain ⟨v, w, q1, q2, q3, q4⟩ := without ha
  refine ⟨v, w, q1, q2, q3, fun z => ?_⟩
  have c := (read_count q3).2
  rw [z] at c
  unfold cnt at c
  rw [e] at c
  omega
end K30
end
section
/-! K30C: plain Lean. The first rows of a kind; the sweep by a pile that lays the rows needed. -/
namespace K30

def mapR (f : Nat → Nat) : Row → Row
  | .not i => .not (f i)
  | .bin o i j => .bin o (f i) (f j)
  | r => r
theorem parts_mapR (f : Nat → Nat) (r : Row) : (mapR f r).parts = r.parts.map f := by cases r <;> rfl
theorem treeAt_mapR {L M : List Row} {f : Nat → Nat} {r : Row} (h : ∀ p ∈ r.parts, tree L (f p) = tree M p) : treeAt L (mapR f r) = treeAt M r := by
  cases r with
  | not i =>
    show T.not _ = T.not _
    rw [h i (by simp [Row.parts])]
  | bin o i j =>
    show T.bin o _ _ = T.bin o _ _
    rw [h i (by simp [Row.parts]), h j (by simp [Row.parts])]
  | _ => rfl
theorem mapR_congr {f g : Nat → Nat} {r : Row} (h : ∀ p ∈ r.parts, f p = g p) : mapR f r = mapR g r := by
  cases r with
  | not i =>
    show Row.not _ = Row.not _
    rw [h i (by simp [Row.parts])]
  | bin o i j =>
    show Row.bin o _ _ = Row.bin o _ _
    rw [h i (by simp [Row.parts]), h j (by simp [Row.parts])]
  | _ => rfl

/-! ### ones -/
def look : List (Row × Nat) → Row → Option Nat
  | [], _ => none
  | (q, a) :: r, k => if q = k then some a else look r k
theorem look_some : ∀ {K : List (Row × Nat)} {k : Row} {a : Nat}, look K k = some a → (k, a) ∈ K
  | (q, b) :: r, k, a, h => by
    unfold look at h
    split at h
    · rename_i e
      cases h
      subst e
      exact List.mem_cons_self
    · exact List.mem_cons_of_mem _ (look_some h)
theorem look_none : ∀ {K : List (Row × Nat)} {k : Row} {a : Nat}, look K k = none → (k, a) ∉ K
  | [], _, _, _ => by simp
  | (q, b) :: r, k, a, h => by
    unfold look at h
    split at h
    · cases h
    · rename_i e
      intro hm
      rcases List.mem_cons.mp hm with z | z
      · cases z
        exact e rfl
      · exact look_none h z
def keyR (O : List Nat) (r : Row) : Row := mapR (fun p => O.getD p 0) r
def onesStep (Z : List (Row × Nat) × List Nat) (r : Row) : List (Row × Nat) × List Nat := match look Z.1 (keyR Z.2 r) with
  | some a => (Z.1, Z.2 ++ [a])
  | none => (Z.1 ++ [(keyR Z.2 r, Z.2.length)], Z.2 ++ [Z.2.length])
def onesAll (rs : List Row) : List (Row × Nat) × List Nat := rs.foldl onesStep ([], [])
def onesOf (rs : List Row) : List Nat := (onesAll rs).2
def one (rs : List Row) (i : Nat) : Nat := (onesOf rs).getD i 0
theorem onesAll_snoc (rs : List Row) (r : Row) : onesAll (rs ++ [r]) = onesStep (onesAll rs) r := by
  unfold onesAll
  rw [List.foldl_append]
  rfl

structure Ones (rs : List Row) (K : List (Row × Nat)) (O : List Nat) : Prop where
  len : O.length = rs.length
  le : ∀ i, i < rs.length → O.getD i 0 ≤ i
  idem : ∀ i, i < rs.length → O.getD (O.getD i 0) 0 = O.getD i 0
  tr : ∀ i, i < rs.length → tree rs (O.getD i 0) = tree rs i
  same : ∀ i j, i < rs.length → j < rs.length → tree rs i = tree rs j → O.getD i 0 = O.getD j 0
  have_ : ∀ k a, (k, a) ∈ K → a < rs.length ∧ O.getD a 0 = a ∧ ∃ r, rs[a]? = some r ∧ k = keyR O r
  all : ∀ a r, rs[a]? = some r → O.getD a 0 = a → (keyR O r, a) ∈ K
theorem getD_app {l m : List Nat} {i : Nat} (h : i < l.length) : (l ++ m).getD i 0 = l.getD i 0 := by
  rw [List.getD_eq_getElem?_getD, List.getD_eq_getElem?_getD, List.getElem?_append_left h]
theorem getD_new {l : List Nat} {a : Nat} : (l ++ [a]).getD l.length 0 = a := by
  rw [List.getD_eq_getElem?_getD]
  simp
theorem keyR_app {O : List Nat} {m : List Nat} {r : Row} (h : ∀ p ∈ r.parts, p < O.length) : keyR (O ++ m) r = keyR O r :=
  mapR_congr fun p hp => getD_app (h p hp)
theorem trees_keys {rs : List Row} {O : List Nat} {r r' : Row} (same : ∀ i j, i < rs.length → j < rs.length → tree rs i = tree rs j → O.getD i 0 = O.getD j 0)
    (h1 : ∀ p ∈ r.parts, p < rs.length) (h2 : ∀ p ∈ r'.parts, p < rs.length) (e : treeAt rs r = treeAt rs r') : keyR O r = keyR O r' := by
  cases r with
  | not p =>
    cases r' with
    | not p' =>
      simp only [treeAt, T.not.injEq] at e
      show Row.not (O.getD p 0) = Row.not (O.getD p' 0)
      rw [same p p' (h1 p (by simp [Row.parts])) (h2 p' (by simp [Row.parts])) e]
    | _ => simp [treeAt] at e
  | bin o p s =>
    cases r' with
    | bin o' p' s' =>
      simp only [treeAt, T.bin.injEq] at e
      obtain ⟨e0, e1, e2⟩ := e
      show Row.bin o (O.getD p 0) (O.getD s 0) = Row.bin o' (O.getD p' 0) (O.getD s' 0)
      rw [e0, same p p' (h1 p (by simp [Row.parts])) (h2 p' (by simp [Row.parts])) e1, same s s' (h1 s (by simp [Row.parts])) (h2 s' (by simp [Row.parts])) e2]
    | _ => simp [treeAt] at e
  | nothing => cases r' <;> first | rfl | (simp [treeAt] at e)
  | blank => cases r' <;> first | rfl | (simp [treeAt] at e)
  | letter c =>
    cases r' with
    | letter d =>
      simp [treeAt] at e
      rw [e]
    | _ => simp [treeAt] at e
theorem ones_step {rs : List Row} {r : Row} {K : List (Row × Nat)} {O : List Nat} (wf : WF (rs ++ [r])) (h : Ones rs K O) : Ones (rs ++ [r]) (onesStep (K, O) r).1 (onesStep (K, O) r).2 := by
  have wf0 := wf.left
  have hp : ∀ p ∈ r.parts, p < rs.length := wf rs.length r (by simp)
  have hpO : ∀ p ∈ r.parts, p < O.length := fun p q => by rw [h.len]; exact hp p q
  have tO : ∀ (i : Nat), i < rs.length → tree (rs ++ [r]) i = tree rs i := fun i hi => tree_app hi
  have tN : tree (rs ++ [r]) rs.length = treeAt rs r := by rw [tree_last, treeR_eq]
  have kt : ∀ (q : Row), (∀ p ∈ q.parts, p < rs.length) → treeAt rs (keyR O q) = treeAt rs q := fun q hq => treeAt_mapR fun p hp => h.tr p (hq p hp)
  have old : ∀ (a : Nat) (q : Row), rs[a]? = some q → ∀ p ∈ q.parts, p < rs.length := fun a q e p hp => by
    have h1 := wf0 a q e p hp
    have h2 := (List.getElem?_eq_some_iff.mp e).1
    omega
  have oldO : ∀ (a : Nat) (q : Row), rs[a]? = some q → ∀ p ∈ q.parts, p < O.length := fun a q e p hp => by rw [h.len]; exact old a q e p hp
  have split : ∀ i, i < (rs ++ [r]).length → i < rs.length ∨ i = rs.length := fun i hi => by
    simp at hi
    omega
  have leO : ∀ i, i < rs.length → O.getD i 0 < O.length := fun i hi => by
    have := h.le i hi
    rw [h.len]
    omega
  have lenS : ∀ a, (O ++ [a]).length = (rs ++ [r]).length := fun a => by simp [h.len]
  have gN : ∀ a, (O ++ [a]).getD rs.length 0 = a := fun a => by rw [← h.len]; exact getD_new
  have gO : ∀ a i, i < rs.length → (O ++ [a]).getD i 0 = O.getD i 0 := fun a i hi => getD_app (by rw [h.len]; exact hi)
  have gOO : ∀ a i, i < rs.length → (O ++ [a]).getD (O.getD i 0) 0 = O.getD (O.getD i 0) 0 := fun a i hi => getD_app (leO i hi)
  unfold onesStep
  cases e : look K (keyR O r) with
  | some a =>
    obtain ⟨ha, can, q, eq, ek⟩ := h.have_ _ _ (look_some e)
    have tq : tree rs a = treeAt rs r := by
      rw [tree_eq wf0 eq, ← kt q (old a q eq), ← ek, kt r hp]
    show Ones (rs ++ [r]) K (O ++ [a])
    refine ⟨lenS a, fun i hi => ?_, fun i hi => ?_, fun i hi => ?_, fun i j hi hj ht => ?_, fun k b hb => ?_, fun b q' hq' hb => ?_⟩
    · rcases split i hi with z | z
      · rw [gO a i z]
        exact h.le i z
      · subst z
        rw [gN]
        omega
    · rcases split i hi with z | z
      · rw [gO a i z, gOO a i z]
        exact h.idem i z
      · subst z
        rw [gN, gO a a ha]
        exact can
    · rcases split i hi with z | z
      · have := h.le i z
        rw [gO a i z, tO _ (by omega), tO i z]
        exact h.tr i z
      · subst z
        rw [gN, tO a ha, tN, tq]
    · rcases split i hi with z | z <;> rcases split j hj with y | y
      · rw [gO a i z, gO a j y]
        rw [tO i z, tO j y] at ht
        exact h.same i j z y ht
      · subst y
        rw [gO a i z, gN]
        rw [tO i z, tN, ← tq] at ht
        rw [h.same i a z ha ht, can]
      · subst z
        rw [gO a j y, gN]
        rw [tO j y, tN, ← tq] at ht
        rw [← h.same a j ha y ht, can]
      · rw [z, y]
    · obtain ⟨h1, h1c, q', h2, h3⟩ := h.have_ k b hb
      exact ⟨by simp; omega, by rw [gO a b h1]; exact h1c, q', by rw [List.getElem?_append_left h1]; exact h2, by rw [keyR_app (oldO b q' h2)]; exact h3⟩
    · have hbl := (List.getElem?_eq_some_iff.mp hq').1
      rcases split b hbl with z | z
      · rw [List.getElem?_append_left z] at hq'
        rw [gO a b z] at hb
        rw [keyR_app (oldO b q' hq')]
        exact h.all b q' hq' hb
      · subst z
        rw [gN] at hb
        omega
  | none =>
    -- no row ahead has r's tree
    have new : ∀ j, j < rs.length → tree rs j ≠ treeAt rs r := fun j hj ht => by
      have hj2 := h.le j hj
      have ha : O.getD j 0 < rs.length := by omega
      have eq : rs[O.getD j 0]? = some rs[O.getD j 0] := by simp [ha]
      have hm := h.all _ _ eq (h.idem j hj)
      have ek : keyR O rs[O.getD j 0] = keyR O r := trees_keys h.same (old _ _ eq) hp (by rw [← tree_eq wf0 eq, h.tr j hj, ht])
      rw [ek] at hm
      exact look_none e hm
    show Ones (rs ++ [r]) (K ++ [(keyR O r, O.length)]) (O ++ [O.length])
    rw [h.len]
    refine ⟨by rw [← h.len]; exact lenS _, fun i hi => ?_, fun i hi => ?_, fun i hi => ?_, fun i j hi hj ht => ?_, fun k b hb => ?_, fun b q' hq' hb => ?_⟩
    · rcases split i hi with z | z
      · rw [gO _ i z]
        exact h.le i z
      · subst z
        rw [gN]
        exact Nat.le_refl _
    · rcases split i hi with z | z
      · rw [gO _ i z, gOO _ i z]
        exact h.idem i z
      · subst z
        rw [gN, gN]
    · rcases split i hi with z | z
      · have := h.le i z
        rw [gO _ i z, tO _ (by omega), tO i z]
        exact h.tr i z
      · subst z
        rw [gN]
    · rcases split i hi with z | z <;> rcases split j hj with y | y
      · rw [gO _ i z, gO _ j y]
        rw [tO i z, tO j y] at ht
        exact h.same i j z y ht
      · subst y
        rw [tO i z, tN] at ht
        exact absurd ht (new i z)
      · subst z
        rw [tO j y, tN] at ht
        exact absurd ht.symm (new j y)
      · rw [z, y]
    · rcases List.mem_append.mp hb with z | z
      · obtain ⟨h1, h1c, q', h2, h3⟩ := h.have_ k b z
        exact ⟨by simp; omega, by rw [gO _ b h1]; exact h1c, q', by rw [List.getElem?_append_left h1]; exact h2, by rw [keyR_app (oldO b q' h2)]; exact h3⟩
      · have z' := List.mem_singleton.mp z
        cases z'
        exact ⟨by simp, gN _, r, by simp, (keyR_app hpO).symm⟩
    · have hbl := (List.getElem?_eq_some_iff.mp hq').1
      rcases split b hbl with z | z
      · rw [List.getElem?_append_left z] at hq'
        rw [gO _ b z] at hb
        rw [keyR_app (oldO b q' hq')]
        exact List.mem_append_left _ (h.all b q' hq' hb)
      · subst z
        rw [List.getElem?_append_right (Nat.le_refl _)] at hq'
        simp at hq'
        subst hq'
        rw [keyR_app hpO]
        exact List.mem_append_right _ (List.mem_singleton.mpr rfl)
theorem ones_all : ∀ (rs : List Row), WF rs → Ones rs (onesAll rs).1 (onesAll rs).2 := fun rs wf => by
  -- by the length, from the end
  have key : ∀ (n : Nat) (rs : List Row), rs.length = n → WF rs → Ones rs (onesAll rs).1 (onesAll rs).2 := by
    intro n
    induction n with
    | zero =>
      intro rs hn _
      have : rs = [] := List.length_eq_zero_iff.mp hn
      subst this
      exact ⟨rfl, fun i h => absurd h (Nat.not_lt_zero _), fun i h => absurd h (Nat.not_lt_zero _), fun i h => absurd h (Nat.not_lt_zero _), fun i j h => absurd h (Nat.not_lt_zero _), fun k a h => by simp [onesAll] at h, fun a r h => by simp at h⟩
    | succ n ih =>
      intro rs hn wf
      have hne : rs ≠ [] := fun z => by
        subst z
        simp at hn
      have e := List.dropLast_concat_getLast hne
      generalize rs.dropLast = xs at e
      generalize rs.getLast hne = r at e
      subst e
      rw [onesAll_snoc]
      exact ones_step wf (ih xs (by simpa using hn) wf.left)
  exact key _ rs rfl wf

/-! ### the sweep -/
theorem nodup_bound : ∀ (n : Nat) (l : List Nat), l.Nodup → (∀ x ∈ l, x < n) → l.length ≤ n
  | 0, l, _, h => by
    cases l with
    | nil => exact Nat.le_refl _
    | cons a l => exact absurd (h a List.mem_cons_self) (Nat.not_lt_zero _)
  | n + 1, l, nd, h => by
    have ih := nodup_bound n (l.erase n) (nd.erase n) fun x hx => by
      have h1 := (List.Nodup.mem_erase_iff nd).mp hx
      have h2 := h x h1.2
      have h3 := h1.1
      omega
    have h4 : l.length - 1 ≤ (l.erase n).length := by
      rw [List.length_erase]
      split <;> omega
    omega
section
variable (ex : List Row) (o : Nat → Nat)
def left (ids : List Nat) (q : Nat) : List Nat := (((ex.getD q .nothing).parts).map o).filter fun p => !decide (p ∈ ids)
def Chain (ids : List Nat) : List Nat → Prop
  | p :: q :: r => (left ex o ids q).head? = some p ∧ p < q ∧ Chain ids (q :: r)
  | _ => True
def newRow (ids : List Nat) (q : Nat) : Row := mapR (fun p => ids.idxOf (o p)) (ex.getD q .nothing)
structure Sw (pile ids : List Nat) (rows : List Row) (root : Nat) : Prop where
  len : ids.length = rows.length
  g : G rows
  tr : ∀ (k id : Nat), ids[k]? = some id → tree rows k = tree ex id
  can : ∀ id ∈ ids, id < ex.length ∧ o id = id
  fin : canon (tree ex root) = (lay (tree ex root) rows).1
  pcan : ∀ q ∈ pile, q < ex.length ∧ o q = q ∧ q ∉ ids
  chain : Chain ex o ids pile
  nil : pile = [] → root ∈ ids
  last : ∀ h : pile ≠ [], pile.getLast h = root
/-- what o tells of ex -/
structure Ok : Prop where
  wf : WF ex
  le : ∀ i, i < ex.length → o i ≤ i
  idem : ∀ i, i < ex.length → o (o i) = o i
  tr : ∀ i, i < ex.length → tree ex (o i) = tree ex i
  same : ∀ i j, i < ex.length → j < ex.length → tree ex i = tree ex j → o i = o j
end
section
variable {ex : List Row} {o : Nat → Nat} {pile ids : List Nat} {rows : List Row} {root : Nat}
def mu (ex : List Row) (pile ids : List Nat) : Nat := 2 * (ex.length - ids.length) - pile.length
theorem getD_row {q : Nat} (h : q < ex.length) : ex[q]? = some (ex.getD q .nothing) := by
  rw [List.getD_eq_getElem?_getD]
  simp [h]
theorem mem_left {p q : Nat} (h : p ∈ left ex o ids q) : ∃ a ∈ (ex.getD q .nothing).parts, o a = p ∧ p ∉ ids := by
  unfold left at h
  obtain ⟨h1, h2⟩ := List.mem_filter.mp h
  obtain ⟨a, ha, e⟩ := List.mem_map.mp h1
  exact ⟨a, ha, e, by simpa using h2⟩
theorem chain_sorted : ∀ {pile : List Nat} {p : Nat}, Chain ex o ids (p :: pile) → ∀ q ∈ pile, p < q
  | q :: r, p, h, x, hx => by
    obtain ⟨_, h2, h3⟩ := h
    rcases List.mem_cons.mp hx with e | e
    · rw [e]
      exact h2
    · exact Nat.lt_trans h2 (chain_sorted h3 x e)
theorem chain_nodup : ∀ {pile : List Nat}, Chain ex o ids pile → pile.Nodup
  | [], _ => List.nodup_nil
  | [p], _ => by simp
  | p :: q :: r, h => by
    refine List.nodup_cons.mpr ⟨fun hm => ?_, chain_nodup h.2.2⟩
    exact absurd (chain_sorted h p hm) (Nat.lt_irrefl _)
theorem Sw.ids_nodup (s : Sw ex o pile ids rows root) : ids.Nodup := by
  refine List.pairwise_iff_getElem.mpr fun i j hi hj hij e => ?_
  have t1 := s.tr i _ (List.getElem?_eq_getElem hi)
  have t2 := s.tr j _ (List.getElem?_eq_getElem hj)
  rw [← e] at t2
  have := s.g.inj i j (by rw [← s.len]; exact hi) (by rw [← s.len]; exact hj) (t1.trans t2.symm)
  omega
theorem Sw.room (s : Sw ex o pile ids rows root) : pile.length + ids.length ≤ ex.length := by
  have nd : (pile ++ ids).Nodup := by
    rw [List.nodup_append]
    refine ⟨chain_nodup s.chain, s.ids_nodup, fun a ha b hb e => ?_⟩
    subst e
    exact (s.pcan a ha).2.2 hb
  have := nodup_bound ex.length _ nd fun x hx => by
    rcases List.mem_append.mp hx with h | h
    · exact (s.pcan x h).1
    · exact (s.can x h).1
  rw [List.length_append] at this
  exact this
/-- a part goes on the pile -/
theorem Sw.push (k : Ok ex o) {q p : Nat} {l r : List Nat} (s : Sw ex o (q :: r) ids rows root) (h : left ex o ids q = p :: l) : Sw ex o (p :: q :: r) ids rows root ∧ mu ex (p :: q :: r) ids < mu ex (q :: r) ids := by
  obtain ⟨a, ha, e, hn⟩ := mem_left (ex := ex) (o := o) (ids := ids) (q := q) (p := p) (by rw [h]; exact List.mem_cons_self)
  obtain ⟨hq, hq2, hq3⟩ := s.pcan q List.mem_cons_self
  have h1 := k.wf q _ (getD_row hq) a ha
  have h2 := k.le a (by omega)
  have h3 := k.idem a (by omega)
  have sw : Sw ex o (p :: q :: r) ids rows root := by
    refine ⟨s.len, s.g, s.tr, s.can, s.fin, fun x hx => ?_, ⟨by rw [h]; rfl, by omega, s.chain⟩, fun z => (nomatch z), fun z => ?_⟩
    · rcases List.mem_cons.mp hx with z | z
      · rw [z]
        exact ⟨by omega, by rw [← e]; exact h3, hn⟩
      · exact s.pcan x z
    · rw [List.getLast_cons (by simp)]
      exact s.last (by simp)
  refine ⟨sw, ?_⟩
  have := sw.room
  unfold mu
  simp only [List.length_cons] at this ⊢
  omega
/-- laying the top first changes nothing for those below -/
theorem path (k : Ok ex o) (s : Sw ex o pile ids rows root) {t : T} : ∀ (pile' : List Nat) (p : Nat), Chain ex o ids (p :: pile') → (∀ q ∈ p :: pile', q < ex.length) → lay (tree ex p) (lay t rows).1 = lay (tree ex p) rows →
    ∀ q ∈ p :: pile', lay (tree ex q) (lay t rows).1 = lay (tree ex q) rows
  | [], p, _, _, hp, q, hq => by
    have : q = p := by simpa using hq
    rw [this]
    exact hp
  | q :: r, p, hc, hl, hp, x, hx => by
    obtain ⟨h1, h2, h3⟩ := hc
    rcases List.mem_cons.mp hx with e | hx
    · rw [e]
      exact hp
    · have hq := hl q (by simp)
      have hm : p ∈ left ex o ids q := List.mem_of_mem_head? (by rw [h1]; rfl)
      have hw := k.wf q _ (getD_row hq)
      have te := tree_eq k.wf (getD_row hq)
      -- what came is found alike in both
      have came : ∀ a, a < ex.length → o a ∈ ids → ∃ i, lay (tree ex a) rows = (rows, i) ∧ lay (tree ex a) (lay t rows).1 = ((lay t rows).1, i) := fun a ha hi => by
        have e1 := idx_get hi
        have hlt := idx_lt hi
        have e2 := s.tr _ _ e1
        rw [k.tr a ha] at e2
        exact ⟨_, lay_have s.g _ (by rw [← s.len]; exact hlt) e2, lay_mono s.g (by rw [← s.len]; exact hlt) e2 t⟩
      have part : ∀ a, a < ex.length → o a = p → lay (tree ex a) (lay t rows).1 = lay (tree ex a) rows := fun a ha e => by
        rw [← k.tr a ha, e]
        exact hp
      refine path k s r q h3 (fun y hy => hl y (List.mem_cons_of_mem _ hy)) ?_ x hx
      rw [te]
      unfold left at h1
      generalize ex.getD q .nothing = row at h1 hw
      cases row with
      | nothing => simp [Row.parts] at h1
      | blank => simp [Row.parts] at h1
      | letter c => simp [Row.parts] at h1
      | not a =>
        have ha := hw a (by simp [Row.parts])
        have e : o a = p := by
          by_cases hi : o a ∈ ids
          · simp [Row.parts, hi] at h1
          · simp [Row.parts, hi] at h1
            exact h1
        show intern (.not (lay (tree ex a) (lay t rows).1).2) (lay (tree ex a) (lay t rows).1).1 = intern (.not (lay (tree ex a) rows).2) (lay (tree ex a) rows).1
        rw [part a (by omega) e]
      | bin oo a b =>
        have ha := hw a (by simp [Row.parts])
        have hb := hw b (by simp [Row.parts])
        show intern (.bin oo (lay (tree ex a) (lay t rows).1).2 (lay (tree ex b) (lay (tree ex a) (lay t rows).1).1).2) (lay (tree ex b) (lay (tree ex a) (lay t rows).1).1).1 =
          intern (.bin oo (lay (tree ex a) rows).2 (lay (tree ex b) (lay (tree ex a) rows).1).2) (lay (tree ex b) (lay (tree ex a) rows).1).1
        by_cases hi : o a ∈ ids
        · obtain ⟨i, c1, c2⟩ := came a (by omega) hi
          rw [c1, c2]
          show intern (.bin oo i (lay (tree ex b) (lay t rows).1).2) (lay (tree ex b) (lay t rows).1).1 = intern (.bin oo i (lay (tree ex b) rows).2) (lay (tree ex b) rows).1
          have e : o b = p := by
            by_cases hj : o b ∈ ids
            · simp [Row.parts, hi, hj] at h1
            · simp [Row.parts, hi, hj] at h1
              exact h1
          rw [part b (by omega) e]
        · have e : o a = p := by
            simp [Row.parts, hi] at h1
            exact h1
          rw [part a (by omega) e]
/-- the top's parts have all come: its row is laid -/
theorem Sw.pop (k : Ok ex o) {q : Nat} {r : List Nat} (s : Sw ex o (q :: r) ids rows root) (h : left ex o ids q = []) : Sw ex o r (ids ++ [q]) (rows ++ [newRow ex o ids q]) root ∧ mu ex r (ids ++ [q]) < mu ex (q :: r) ids ∧ (∀ p ∈ (ex.getD q .nothing).parts, o p ∈ ids) := by
  obtain ⟨hq, hq2, hq3⟩ := s.pcan q List.mem_cons_self
  have hw := k.wf q _ (getD_row hq)
  have te := tree_eq k.wf (getD_row hq)
  have came : ∀ p ∈ (ex.getD q .nothing).parts, o p ∈ ids := fun p hp => by
    by_cases hi : o p ∈ ids
    · exact hi
    · have : o p ∈ left ex o ids q := List.mem_filter.mpr ⟨List.mem_map.mpr ⟨p, hp, rfl⟩, by simp [hi]⟩
      rw [h] at this
      simp at this
  have tp : ∀ p ∈ (ex.getD q .nothing).parts, ids.idxOf (o p) < rows.length ∧ tree rows (ids.idxOf (o p)) = tree ex p := fun p hp => by
    have h1 := came p hp
    have h2 := hw p hp
    refine ⟨by rw [← s.len]; exact idx_lt h1, ?_⟩
    rw [s.tr _ _ (idx_get h1), k.tr p (by omega)]
  have tn : treeAt rows (newRow ex o ids q) = tree ex q := by
    rw [te]
    exact treeAt_mapR fun p hp => (tp p hp).2
  have nw : newRow ex o ids q ∉ rows := fun hm => by
    have e1 := idx_get hm
    have hlt := idx_lt hm
    have t1 := tree_eq s.g.wf e1
    have hlt' : rows.idxOf (newRow ex o ids q) < ids.length := by rw [s.len]; exact hlt
    have e2 : ids[rows.idxOf (newRow ex o ids q)]? = some ids[rows.idxOf (newRow ex o ids q)] := by simp [hlt']
    have t2 := s.tr _ _ e2
    have hm2 : ids[rows.idxOf (newRow ex o ids q)] ∈ ids := List.getElem_mem _
    have c := s.can _ hm2
    have := k.same _ _ c.1 hq (by rw [← t2, t1, tn])
    rw [c.2, hq2] at this
    rw [this] at hm2
    exact hq3 hm2
  have hparts : ∀ p ∈ (newRow ex o ids q).parts, p < rows.length := fun p hp => by
    unfold newRow at hp
    rw [parts_mapR] at hp
    obtain ⟨a, ha, e⟩ := List.mem_map.mp hp
    rw [← e]
    exact (tp a ha).1
  -- laying q's tree lays just this row
  have hl : lay (tree ex q) rows = (rows ++ [newRow ex o ids q], rows.length) := by
    have hin : intern (newRow ex o ids q) rows = (rows ++ [newRow ex o ids q], rows.length) := if_neg nw
    rw [← hin, te]
    unfold newRow
    generalize ex.getD q .nothing = row at tp
    cases row with
    | nothing => rfl
    | blank => rfl
    | letter c => rfl
    | not a =>
      obtain ⟨h1, h2⟩ := tp a (by simp [Row.parts])
      show intern (.not (lay (tree ex a) rows).2) (lay (tree ex a) rows).1 = _
      rw [lay_have s.g _ h1 h2]
      rfl
    | bin oo a b =>
      obtain ⟨h1, h2⟩ := tp a (by simp [Row.parts])
      obtain ⟨h3, h4⟩ := tp b (by simp [Row.parts])
      show intern (.bin oo (lay (tree ex a) rows).2 (lay (tree ex b) (lay (tree ex a) rows).1).2) (lay (tree ex b) (lay (tree ex a) rows).1).1 = _
      rw [lay_have s.g _ h1 h2]
      show intern (.bin oo (ids.idxOf (o a)) (lay (tree ex b) rows).2) (lay (tree ex b) rows).1 = _
      rw [lay_have s.g _ h3 h4]
      rfl
  have hl1 : (lay (tree ex q) rows).1 = rows ++ [newRow ex o ids q] := by rw [hl]
  have roots : root ∈ q :: r := by
    have := s.last (by simp)
    rw [← this]
    exact List.getLast_mem _
  have pth := path (t := tree ex q) k s r q s.chain (fun x hx => (s.pcan x hx).1) (lay_twice s.g)
  rw [hl1] at pth
  refine ⟨⟨by simp [s.len], ⟨s.g.wf.snoc hparts, nodup_snoc s.g.nd nw⟩, fun i id hi => ?_, fun id hid => ?_, ?_, fun x hx => ?_, ?_, fun z => ?_, fun z => ?_⟩, ?_, came⟩
  · by_cases hk : i < ids.length
    · rw [List.getElem?_append_left hk] at hi
      rw [tree_app (by rw [← s.len]; exact hk)]
      exact s.tr i id hi
    · have hk2 : i = ids.length := by
        have := (List.getElem?_eq_some_iff.mp hi).1
        simp at this
        omega
      subst hk2
      rw [List.getElem?_append_right (Nat.le_refl _)] at hi
      simp at hi
      subst hi
      rw [s.len, tree_last, treeR_eq, tn]
  · rcases List.mem_append.mp hid with z | z
    · exact s.can id z
    · rw [List.mem_singleton.mp z]
      exact ⟨hq, hq2⟩
  · rw [s.fin, pth root roots]
  · obtain ⟨h1, h2, h3⟩ := s.pcan x (List.mem_cons_of_mem _ hx)
    refine ⟨h1, h2, fun z => ?_⟩
    rcases List.mem_append.mp z with y | y
    · exact h3 y
    · have e := List.mem_singleton.mp y
      have := chain_sorted s.chain x hx
      omega
  · -- the rest of the pile
    have go : ∀ (l : List Nat) (p : Nat), Chain ex o ids (p :: l) → q < p → Chain ex o (ids ++ [q]) (p :: l) := by
      intro l
      induction l with
      | nil => intro p _ _; trivial
      | cons y l ih =>
        intro p hc hp
        obtain ⟨c1, c2, c3⟩ := hc
        refine ⟨?_, c2, ih y c3 (by omega)⟩
        have e : left ex o (ids ++ [q]) y = (left ex o ids y).filter fun p => !decide (p = q) := by
          unfold left
          rw [List.filter_filter]
          refine List.filter_congr fun x _ => ?_
          by_cases a1 : x ∈ ids <;> by_cases a2 : x = q <;> simp [a1, a2]
        rw [e]
        cases hll : left ex o ids y with
        | nil =>
          rw [hll] at c1
          cases c1
        | cons a l' =>
          rw [hll] at c1
          have : a = p := by simpa using c1
          subst this
          have na : a ≠ q := by omega
          simp [na]
    cases r with
    | nil => trivial
    | cons y l => exact go l y s.chain.2.2 s.chain.2.1
  · subst z
    have : root = q := by simpa using roots
    rw [this]
    simp
  · have := s.last (by simp)
    rw [List.getLast_cons z] at this
    exact this
  · have := s.room
    unfold mu
    simp only [List.length_cons, List.length_append, List.length_nil] at this ⊢
    omega
/-- the sweep is through -/
theorem Sw.done (s : Sw ex o [] ids rows root) : rows = canon (tree ex root) := by
  have h := s.nil rfl
  have e := idx_get h
  have hl : lay (tree ex root) rows = (rows, ids.idxOf root) := lay_have s.g _ (by rw [← s.len]; exact idx_lt h) (s.tr _ _ e)
  rw [s.fin, hl]
theorem Sw.start (hr : root < ex.length) (hc : o root = root) : Sw ex o [root] [] [] root :=
  ⟨rfl, G.nil, fun k id h => by simp at h, fun id h => by simp at h, rfl, fun q hq => by
    have : q = root := by simpa using hq
    rw [this]
    exact ⟨hr, hc, by simp⟩, trivial, fun z => (nomatch z), fun _ => rfl⟩
end
theorem ok_ones {rs : List Row} (wf : WF rs) : Ok rs (one rs) := by
  have h := ones_all rs wf
  exact ⟨wf, h.le, h.idem, h.tr, h.same⟩
end K30
end
section
/-! K30D: plain Lean. Drawn expressions stay short. -/
namespace K30

def isLeaf : Row → Bool
  | .not _ => false
  | .bin _ _ _ => false
  | _ => true
/-- a link: a leaf, a not of the row ahead, the row two ahead with the leaf ahead -/
def Link (rs : List Row) (i : Nat) (r : Row) : Prop :=
  isLeaf r = true ∨ (1 ≤ i ∧ r = .not (i - 1)) ∨ (2 ≤ i ∧ (∃ l, rs[i - 1]? = some l ∧ isLeaf l = true) ∧ ∃ o, r = .bin o (i - 2) (i - 1) ∨ r = .bin o (i - 1) (i - 2))
def Lin (rs : List Row) (x : Nat) : Prop := ∀ (i : Nat) (r : Row), rs[i]? = some r → i ≠ x → Link rs i r
def Lets (rs : List Row) : Prop := ∀ c, Row.letter c ∈ rs → isLet c = true
def len (t : T) : Nat := (sho t).length
def MOST : Nat := 100000
/-- what an expression that is drawn keeps -/
structure Fine (rs : List Row) : Prop where
  wf : WF rs
  pos : 0 < rs.length
  few : rs.length ≤ 47
  lets : Lets rs
  short : len (root rs) ≤ MOST
structure Drawn (rs : List Row) : Prop where
  wf : WF rs
  pos : 0 < rs.length
  few : rs.length ≤ 47
  lets : Lets rs
  how : rs.length ≤ 8 ∨ Lin rs rs.length

theorem len_par (b : Bool) (s : List Nat) : (par b s).length ≤ s.length + 2 := by
  unfold par
  split <;> simp
theorem len_not (a : T) : len (.not a) ≤ len a + 3 := by
  have := len_par (decide (bd a < 3)) (sho a)
  show (45 :: par _ (sho a)).length ≤ (sho a).length + 3
  rw [List.length_cons]
  omega
theorem len_bin (o : Op) (a b : T) : len (.bin o a b) ≤ len a + len b + 5 := by
  have h1 := len_par (decide (bd a < ob o)) (sho a)
  have h2 := len_par (decide (bd b < ob o + 1)) (sho b)
  have h3 : (mk o).length ≤ 1 := by cases o <;> decide
  show (par _ (sho a) ++ mk o ++ par _ (sho b)).length ≤ (sho a).length + (sho b).length + 5
  rw [List.length_append, List.length_append]
  omega
theorem len_leaf {rs : List Row} {r : Row} (h : isLeaf r = true) : len (treeAt rs r) = 1 := by
  cases r <;> first | rfl | cases h
theorem few_short {rs : List Row} (wf : WF rs) : ∀ i, i < rs.length → len (tree rs i) + 5 ≤ 6 * 2 ^ i := by
  intro i
  induction i using Nat.strongRecOn with
  | ind i ih =>
    intro hi
    have e : rs[i]? = some rs[i] := List.getElem?_eq_getElem hi
    rw [tree_eq wf e]
    have hp := wf i _ e
    have up : ∀ p, p < i → len (tree rs p) + 5 ≤ 3 * 2 ^ i := fun p h => by
      have h1 := ih p h (by omega)
      have h2 : 2 ^ (p + 1) ≤ 2 ^ i := Nat.pow_le_pow_right (by omega) h
      rw [Nat.pow_succ] at h2
      omega
    have one : 1 ≤ 2 ^ i := Nat.one_le_two_pow
    generalize rs[i] = r at hp
    cases r with
    | not p =>
      have h1 := up p (hp p (by simp [Row.parts]))
      have h2 := len_not (tree rs p)
      show len (.not (tree rs p)) + 5 ≤ _
      omega
    | bin o p q =>
      have h1 := up p (hp p (by simp [Row.parts]))
      have h2 := up q (hp q (by simp [Row.parts]))
      have h3 := len_bin o (tree rs p) (tree rs q)
      show len (.bin o (tree rs p) (tree rs q)) + 5 ≤ _
      omega
    | _ =>
      show 1 + 5 ≤ 6 * 2 ^ i
      omega
theorem lin_short {rs : List Row} {x : Nat} (wf : WF rs) (h : Lin rs x) : ∀ i, i < rs.length → len (tree rs i) ≤ if i < x then 4 * i + 1 else 8 * i + 8 := by
  intro i
  induction i using Nat.strongRecOn with
  | ind i ih =>
    intro hi
    have e : rs[i]? = some rs[i] := List.getElem?_eq_getElem hi
    rw [tree_eq wf e]
    have hp := wf i _ e
    have hk := h i _ e
    generalize rs[i] = r at hp hk
    by_cases c : i = x
    · subst c
      rw [if_neg (by omega)]
      have up : ∀ p, p < i → len (tree rs p) ≤ 4 * (i - 1) + 1 := fun p hpi => by
        have := ih p hpi (by omega)
        rw [if_pos hpi] at this
        omega
      cases r with
      | not p =>
        have hpi := hp p (by simp [Row.parts])
        have h1 := up p hpi
        have h2 := len_not (tree rs p)
        show len (.not (tree rs p)) ≤ _
        omega
      | bin o p q =>
        have hpi := hp p (by simp [Row.parts])
        have h1 := up p hpi
        have h2 := up q (hp q (by simp [Row.parts]))
        have h3 := len_bin o (tree rs p) (tree rs q)
        show len (.bin o (tree rs p) (tree rs q)) ≤ _
        omega
      | _ =>
        show 1 ≤ _
        omega
    · have leafLen : ∀ j l, rs[j]? = some l → isLeaf l = true → len (tree rs j) = 1 := fun j l hj hl => by
        rw [tree_eq wf hj]
        exact len_leaf hl
      rcases hk c with q | ⟨h1, q⟩ | ⟨h1, ⟨l, hl, hl2⟩, o, q⟩
      · rw [len_leaf q]
        split <;> omega
      · subst q
        have h2 := ih (i - 1) (by omega) (by omega)
        have h3 := len_not (tree rs (i - 1))
        show len (.not (tree rs (i - 1))) ≤ _
        split at h2 <;> split <;> omega
      · have h2 := ih (i - 2) (by omega) (by omega)
        have h3 := leafLen _ l hl hl2
        have z : len (treeAt rs r) ≤ len (tree rs (i - 2)) + len (tree rs (i - 1)) + 5 := by
          rcases q with q | q <;> subst q
          · exact len_bin o _ _
          · have := len_bin o (tree rs (i - 1)) (tree rs (i - 2))
            show len (.bin o (tree rs (i - 1)) (tree rs (i - 2))) ≤ _
            omega
        split at h2 <;> split <;> omega
theorem short_of {rs : List Row} (wf : WF rs) (pos : 0 < rs.length) (few : rs.length ≤ 47) (h : rs.length ≤ 8 ∨ ∃ x, Lin rs x) : len (root rs) ≤ MOST := by
  unfold root MOST
  rcases h with h | ⟨x, h⟩
  · have q := few_short wf (rs.length - 1) (by omega)
    have q2 : 2 ^ (rs.length - 1) ≤ 2 ^ 7 := Nat.pow_le_pow_right (by omega) (by omega)
    have q3 : 2 ^ 7 = 128 := by decide
    omega
  · have q := lin_short wf h (rs.length - 1) (by omega)
    split at q <;> omega
theorem Drawn.fine {rs : List Row} (d : Drawn rs) : Fine rs :=
  ⟨d.wf, d.pos, d.few, d.lets, short_of d.wf d.pos d.few (d.how.imp id fun h => ⟨_, h⟩)⟩
/-- one row changed -/
theorem Drawn.changed {rs : List Row} (d : Drawn rs) {x : Nat} {r r' : Row} (e : rs[x]? = some r) (hp : ∀ p ∈ r'.parts, p < x) (hl : ∀ c, r' = .letter c → isLet c = true) (hf : isLeaf r = true → isLeaf r' = true) : Fine (rs.set x r') := by
  have hx := (List.getElem?_eq_some_iff.mp e).1
  have at_ : ∀ i, (rs.set x r')[i]? = if i = x then some r' else rs[i]? := fun i => by
    rw [List.getElem?_set]
    by_cases c : x = i
    · subst c
      simp [hx]
    · rw [if_neg c, if_neg (Ne.symm c)]
  have wf : WF (rs.set x r') := fun i q hq => by
    rw [at_] at hq
    by_cases c : i = x
    · rw [if_pos c] at hq
      cases hq
      rw [c]
      exact hp
    · rw [if_neg c] at hq
      exact d.wf i q hq
  have lets : Lets (rs.set x r') := fun c hc => by
    rcases List.mem_or_eq_of_mem_set hc with z | z
    · exact d.lets c z
    · exact hl c z.symm
  have ln : (rs.set x r').length = rs.length := List.length_set
  refine ⟨wf, by rw [ln]; exact d.pos, by rw [ln]; exact d.few, lets, short_of wf (by rw [ln]; exact d.pos) (by rw [ln]; exact d.few) ?_⟩
  rw [ln]
  refine d.how.imp id fun h => ⟨x, fun i q hq hi => ?_⟩
  rw [at_, if_neg hi] at hq
  have hlt := (List.getElem?_eq_some_iff.mp hq).1
  rcases h i q hq (by omega) with z | z | ⟨h1, ⟨l, hl1, hl2⟩, z⟩
  · exact .inl z
  · exact .inr (.inl z)
  · refine .inr (.inr ⟨h1, ?_, z⟩)
    by_cases c : i - 1 = x
    · rw [c, e] at hl1
      cases hl1
      exact ⟨r', by rw [at_, if_pos c], hf hl2⟩
    · exact ⟨l, by rw [at_, if_neg c]; exact hl1, hl2⟩

/-! ### how drawn ones grow -/
theorem Lets.snoc {rs : List Row} {r : Row} (h : Lets rs) (hr : ∀ c, r = .letter c → isLet c = true) : Lets (rs ++ [r]) := fun c hc => by
  rcases List.mem_append.mp hc with z | z
  · exact h c z
  · exact hr c (List.mem_singleton.mp z).symm
/-- all rows are links -/
def Links (rs : List Row) : Prop := ∀ (i : Nat) (r : Row), rs[i]? = some r → Link rs i r
theorem Link.app {rs ys : List Row} {i : Nat} {r : Row} (h : Link rs i r) : Link (rs ++ ys) i r := by
  rcases h with z | z | ⟨h1, ⟨l, hl1, hl2⟩, z⟩
  · exact .inl z
  · exact .inr (.inl z)
  · have := (List.getElem?_eq_some_iff.mp hl1).1
    exact .inr (.inr ⟨h1, ⟨l, by rw [List.getElem?_append_left this]; exact hl1, hl2⟩, z⟩)
theorem Links.snoc {rs : List Row} {r : Row} (h : Links rs) (hr : Link rs rs.length r) : Links (rs ++ [r]) := fun i q hq => by
  by_cases hi : i < rs.length
  · rw [List.getElem?_append_left hi] at hq
    exact (h i q hq).app
  · have hl := (List.getElem?_eq_some_iff.mp hq).1
    have hi2 : i = rs.length := by
      simp at hl
      omega
    subst hi2
    rw [List.getElem?_append_right (Nat.le_refl _)] at hq
    simp at hq
    subst hq
    exact hr.app
theorem Links.lin {rs : List Row} (h : Links rs) : Lin rs rs.length := fun i r e _ => h i r e
/-- letters of trees -/
theorem lets_tree {rs : List Row} (wf : WF rs) (h : Lets rs) : ∀ i, LetT (tree rs i) := by
  intro i
  induction i using Nat.strongRecOn with
  | ind i ih =>
    by_cases hi : i < rs.length
    · have e : rs[i]? = some rs[i] := List.getElem?_eq_getElem hi
      rw [tree_eq wf e]
      have hp := wf i _ e
      have hm : rs[i] ∈ rs := List.getElem_mem _
      generalize rs[i] = r at hp hm
      cases r with
      | not p => exact ih p (hp p (by simp [Row.parts]))
      | bin o p q => exact ⟨ih p (hp p (by simp [Row.parts])), ih q (hp q (by simp [Row.parts]))⟩
      | letter c => exact h c hm
      | _ => trivial
    · have e : tree rs i = .nothing := by
        unfold tree
        rw [List.getD_eq_getElem?_getD, List.getElem?_eq_none (by rw [trees_length]; omega)]
        rfl
      rw [e]
      trivial
theorem Fine.let_ {rs : List Row} (f : Fine rs) : LetT (root rs) := lets_tree f.wf f.lets _

/-! ### sizes of the rows of one tree, cut at the most -/
def mkRow : Row → Nat
  | .bin .seq _ _ => 0
  | _ => 1
def sizeCut (n : Nat) : Nat := min n (MOST + 1)
end K30
end
section
set_option maxHeartbeats 1000000
/-! K30X: loops over enumerate of a tuple or a text, over zip of a tuple and a list: what the hand layer lacks, out of Goes. -/
namespace K30X
open PySem PySem.Spec PyProof.Rows L2

/-- n turns while ok stands; turn i yields a new tuple of one of vals i -/
def ItG (n : Nat) (ok : Hp → Prop) (vals : Nat → List V → Prop) : It :=
  ⟨fun i H => i < n ∧ ok H, fun i H v H' => ∃ T xs, v = .ref T ∧ H T = none ∧ H' = upd H T (.tup xs) ∧ vals i xs, fun i H => i = n ∧ ok H⟩
theorem walk_g {n : Nat} {ok : Hp → Prop} {vals : Nat → List V → Prop} : Walk (ItG n ok vals) n ok (fun i H v H' => ∃ T xs, v = .ref T ∧ H T = none ∧ H' = upd H T (.tup xs) ∧ vals i xs) :=
  ⟨fun _ _ hi q => ⟨hi, q⟩, fun _ q => ⟨rfl, q⟩, fun _ _ _ _ _ _ y => y⟩

theorem turn_g {P : Program} {w : World} {K : PySem.W.Frag} {elts : List Expr} {kk : Nat} {tpos : Pos} {I : Addr} {cells wr : List Addr} {n : Nat} {ok : Hp → Prop} {vals : Nat → List V → Prop} {tn : Nat → Heap → Prop}
    (mem : I ∈ cells) (wrs : ∀ b ∈ wr, b ∈ cells) (short : ∀ i xs, vals i xs → xs.length ≤ sizeLine)
    (obj : ∀ i h, tn i h → ∀ b ∈ cells, ∃ o, h.get? b = some o ∧ ∀ v, o.data ≠ .cell v)
    (keep : ∀ i h h', tn i h → (∀ b ∈ cells, ∀ o, h.get? b = some o → h'.get? b = some o) → tn i h')
    (self : ∀ (A : Around) (i : Nat) (s : Shared) (Q : Value → Shared → Prop) (E : Value → Shared → Prop), tn i s.heap → Q (.ref I) s → wpAny (model P w) A (pyIter (.ref I)) Q E s)
    (W : ∀ (X : Cx), X.prog = P → X.w = w → X.K = K → X.calm = true → ∀ (i : Nat) (pins : List (Addr × Obj)) (s : Shared) (σ : L2.St) (H : Hp), Inv X pins σ H s → ok H → (∀ b ∈ cells, FpOk X pins H b) → tn i s.heap →
      ∃ fp Y St, GoesN P w X.A (.Tuple elts kk tpos) I fp wr n Y St ∧ St i s.heap ∧ (∀ j h, St j h → tn j h) ∧
        ∀ j h0 v h', Y j h0 v h' → ∃ T us xs, v = Value.ref T ∧ h0.objs.size ≤ T ∧ h'.IsTuple T us ∧ Vals xs us.toList ∧ vals j xs) :
    Turn P w K (.Tuple elts kk tpos) (ItG n ok vals) cells I tn where
  mem := mem
  obj := obj
  keep := keep
  item := by
    intro X hP hw hK hc i pins s σ H E I0 hf st hg
    obtain ⟨fp, Y, St, G, st0, back, ys⟩ := W X hP hw hK hc i pins s σ H I0 hg.2 hf st
    subst hP hw hK
    refine wpAny_mono (G.goes i s (fun v s2 => ∃ x H', Inv X pins σ H' s2 ∧ RelV x v ∧ (ItG n ok vals).yld i H x H' ∧ tn (i + 1) s2.heap ∧ ∀ b ∈ cells, H' b = none) E hg.1 st0 fun v h' tk hY st' hk htk => ?_) (fun r s1 hr => ?_) fun _ _ e => e
    · obtain ⟨T, us, xs, rfl, hT, ht, rv, hv⟩ := ys i s.heap v h' hY
      have new : ObjOk X.prog X.w (upd H T (.tup xs)) h' T (.tup xs) := ⟨short i xs hv, us.toList, rv, by
        obtain ⟨o, h1, h2, k, h3⟩ := ht
        exact ⟨o, h1, h2, k, h3⟩⟩
      have I1 : Inv X pins σ (upd H T (.tup xs)) { s with heap := h', toks := tk } :=
        I0.turnedNew (ch := wr) (fun b o hb e => hk b o hb e) (fun b hb => hf b (wrs b hb)) hT new
      refine ⟨.ref T, _, I1, rfl, ⟨T, xs, rfl, I0.hok.fresh hT, rfl, hv⟩, back _ _ st', fun b hb => ?_⟩
      obtain ⟨o, ho, _⟩ := obj i s.heap st b hb
      rw [upd_ne (Nat.ne_of_lt (Nat.lt_of_lt_of_le (Heap.lt_size ho) hT))]
      exact (hf b hb).1
    · exact hr
  done := by
    intro X hP hw hK hc i pins s σ H E I0 hf st hg
    obtain ⟨fp, Y, St, G, st0, back, ys⟩ := W X hP hw hK hc i pins s σ H I0 hg.2 hf st
    subst hP hw hK
    have hi : i = n := hg.1
    subst hi
    exact G.stops s (fun s1 => Inv X pins σ H s1) E st0 fun h' tk hk htk => I0.turnedL (ch := wr) (fun b o hb e => hk b o hb e) fun b hb => hf b (wrs b hb)
  self := self

/-! ### one thing that is drawn -/
structure Src (P : Program) (w : World) (K : PySem.W.Frag) (it : Addr) (n : Nat) (Y : Nat → V → Prop) (ok : Hp → Prop) (tn : Nat → Heap → Prop) : Prop where
  obj : ∀ i h, tn i h → ∃ o, h.get? it = some o ∧ ∀ v, o.data ≠ .cell v
  keep : ∀ i h h', tn i h → (∀ o, h.get? it = some o → h'.get? it = some o) → tn i h'
  draws : ∀ (X : Cx), X.prog = P → X.w = w → X.K = K → X.calm = true → ∀ (i : Nat) (pins : List (Addr × Obj)) (s : Shared) (σ : L2.St) (H : Hp), Inv X pins σ H s → ok H → H it = none → tn i s.heap →
    ∃ fp PV St, Draws P w X.A.in1 it fp n PV St ∧ it ∈ fp ∧ St i s.heap ∧ (∀ j h, St j h → tn j h) ∧ (∀ b ∈ fp, b = it ∨ ∃ o, H b = some o) ∧ ∀ j u, PV j u → ∃ x, RelV x u ∧ Y j x
section
variable {P : Program} {w : World} {K : PySem.W.Frag} {it : Addr}
theorem src_tup (a : Addr) (xs : List V) : Src P w K it xs.length (fun i x => xs[i]? = some x) (fun H => H a = some (.tup xs)) (fun i h => h.IsTupleIter it a i) where
  obj := fun i h ⟨o, e, _, d⟩ => ⟨o, e, fun v q => by rw [d] at q; cases q⟩
  keep := fun i h h' st k => st.at fun o q => k o q
  draws := by
    intro X hP hw hK hc i pins s σ H I ok hn st
    subst hP hw hK
    obtain ⟨its, rv, p, _⟩ := I.tuple (SqT.of ok)
    have hh : X.A.in1.handled = none := by simp [I.ok.hd hc]
    have hne : a ≠ it := ne_of_none ok hn
    have hl : xs.length = its.toArray.size := by rw [List.size_toArray]; exact rv.length
    refine ⟨[it, a], fun i v => its.toArray[i]? = some v, fun i h => h.IsTupleIter it a i ∧ h.IsTuple a its.toArray, by rw [hl]; exact Draws.tuple hh it a hne its.toArray, by simp, ⟨st, p⟩, fun j h q => q.1, fun b hb => ?_, fun j u hu => ?_⟩
    · have e : b = it ∨ b = a := by simpa using hb
      rcases e with e | e
      · exact .inl e
      · exact .inr ⟨_, by rw [e]; exact ok⟩
    · have hu : its[j]? = some u := by simpa using hu
      cases e : xs[j]? with
      | none =>
        rw [rv.none_of e] at hu
        cases hu
      | some x =>
        obtain ⟨u', h1, r⟩ := rv.get e
        rw [h1] at hu
        cases hu
        exact ⟨x, r, rfl⟩
theorem src_lst (a : Addr) (xs : List V) : Src P w K it xs.length (fun i x => xs[i]? = some x) (fun H => H a = some (.lst xs)) (fun i h => h.IsListIter it a i) where
  obj := fun i h ⟨o, e, _, d⟩ => ⟨o, e, fun v q => by rw [d] at q; cases q⟩
  keep := fun i h h' st k => st.at fun o q => k o q
  draws := by
    intro X hP hw hK hc i pins s σ H I ok hn st
    subst hP hw hK
    obtain ⟨its, rv, p, _⟩ := I.list (SqL.of ok)
    have hh : X.A.in1.handled = none := by simp [I.ok.hd hc]
    have hne : a ≠ it := ne_of_none ok hn
    have hl : xs.length = its.toArray.size := by rw [List.size_toArray]; exact rv.length
    refine ⟨[it, a], fun i v => its.toArray[i]? = some v, fun i h => h.IsListIter it a i ∧ h.IsList a its.toArray, by rw [hl]; exact Draws.list hh it a hne its.toArray, by simp, ⟨st, p.isList⟩, fun j h q => q.1, fun b hb => ?_, fun j u hu => ?_⟩
    · have e : b = it ∨ b = a := by simpa using hb
      rcases e with e | e
      · exact .inl e
      · exact .inr ⟨_, by rw [e]; exact ok⟩
    · have hu : its[j]? = some u := by simpa using hu
      cases e : xs[j]? with
      | none =>
        rw [rv.none_of e] at hu
        cases hu
      | some x =>
        obtain ⟨u', h1, r⟩ := rv.get e
        rw [h1] at hu
        cases hu
        exact ⟨x, r, rfl⟩
theorem src_str (z : Str) (t : Tok) : Src P w K it z.cps.size (fun i x => ∃ c, z.cps[i]? = some c ∧ x = .str ⟨#[c]⟩) (fun _ => True) (fun i h => h.IsStrIter it (strIterType z) z t i) where
  obj := fun i h ⟨o, e, _, d⟩ => ⟨o, e, fun v q => by rw [d] at q; cases q⟩
  keep := fun i h h' st k => let ⟨o, ho, r⟩ := st; ⟨o, k o ho, r⟩
  draws := by
    intro X hP hw hK hc i pins s σ H I ok hn st
    subst hP hw hK
    have hh : X.A.in1.handled = none := by simp [I.ok.hd hc]
    refine ⟨[it], _, _, Draws.text hh it z t, by simp, st, fun j h q => q, fun b hb => .inl (by simpa using hb), fun j u hu => ?_⟩
    obtain ⟨c, v, e, rfl⟩ := hu
    exact ⟨.str ⟨#[c]⟩, ⟨v, rfl⟩, c, e, rfl⟩

/-! ### enumerate -/
theorem turn_enumG {elts : List Expr} {kk : Nat} {tpos : Pos} {e : Addr} {n : Nat} {Y : Nat → V → Prop} {ok : Hp → Prop} {tn : Nat → Heap → Prop} (S : Src P w K it n Y ok tn) (hei : e ≠ it) :
    Turn P w K (.Tuple elts kk tpos) (ItG n ok fun i xs => ∃ x, Y i x ∧ xs = [.int (i : Nat), x]) [e, it] e (fun i h => (∃ old, IsEnum h e it ((0 : Int) + (i : Nat)) old) ∧ tn i h) := by
  refine turn_g (wr := [e, it]) (by simp) (fun b hb => hb) (fun i xs ⟨x, _, q⟩ => ?_) (fun i h st b hb => ?_) (fun i h h' st k => ?_) (fun A i s Q E st h => ?_) fun X hP hw hK hc i pins s σ H I hok hf st => ?_
  · rw [q]
    show 2 ≤ sizeLine
    decide
  · obtain ⟨⟨old, he⟩, q⟩ := st
    have e' : b = e ∨ b = it := by simpa using hb
    rcases e' with z | z
    · rw [z]; exact ⟨_, he, fun v q => nomatch q⟩
    · rw [z]; exact S.obj i h q
  · obtain ⟨⟨old, he⟩, q⟩ := st
    exact ⟨⟨old, k e (by simp) _ he⟩, S.keep i h h' q fun o x => k it (by simp) o x⟩
  · obtain ⟨⟨old, he⟩, _⟩ := st
    exact wpAny_pyIter_enum he h
  · obtain ⟨he, q⟩ := st
    obtain ⟨fp, PV, St, D, hm, st0, back, apart, rel⟩ := S.draws X hP hw hK hc i pins s σ H I hok (hf it (by simp)).1 q
    have hef : e ∉ fp := fun hm' => by
      rcases apart e hm' with z | ⟨o, z⟩
      · exact hei z
      · rw [(hf e (by simp)).1] at z
        cases z
    refine ⟨_, _, _, GoesN.enumFrom 0 D e hei hef hm, ⟨he, st0⟩, fun j h q => ⟨q.1, back j h q.2⟩, fun j h0 v h' hy => ?_⟩
    obtain ⟨T, t, x, ev, hn, hx, ht⟩ := hy
    obtain ⟨y, ry, hy⟩ := rel j x hx
    exact ⟨T, _, [.int (j : Nat), y], ev, hn, ht, .cons ⟨t, by simp⟩ (.cons ry .nil), y, hy, rfl⟩
set_option maxHeartbeats 4000000 in
theorem meets_enum1 {v : Value} {o : Obj} {Hh : Heap → Prop} (B : Begins v o Hh) :
    Meets (Builtin.«enumerate.__new__» ⟨[.type "enumerate", v], []⟩) (fun _ R s => Hh s.heap ∧
      R (.ok (.ret (.ref (s.heap.push o).objs.size))) { s with heap := (s.heap.push o).push { cls := .type "enumerate", data := .fields #[.none, .bool false, .ref s.heap.objs.size, rawInt 0, .none, .none] } }) :=
  .of_wp fun prog w A R s h => by
    obtain ⟨hp, g, d, tk, os⟩ := s
    obtain ⟨h1, h⟩ := h
    have hsub := sub_enumerate
    have q1 : ∀ {A' : Around} {E : Value → Shared → Prop} {Q : Value → Shared → Prop}, Q (.ref hp.objs.size) ⟨hp.push o, g, d, tk, os⟩ → wpAny (model prog w) A' (pyIter v) Q E ⟨hp, g, d, tk, os⟩ :=
      fun q => B.iter prog w _ _ ⟨hp, g, d, tk, os⟩ _ h1 q
    wp_walk using q1
    refine wpAny_stack_any fun st => wpAny_pure ?_
    split
    · rename_i c _ _ _ _ _
      cases (c == Value.type "enumerate") <;>
        (wp_walk using q1
         exact ⟨_, rfl, h⟩)
    · wp_walk using q1
      exact ⟨_, rfl, h⟩
theorem enum_one {A : Around} {E : Value → Shared → Prop} {s : Shared} {v : Value} {o : Obj} {Hh : Heap → Prop} {Q : Value → Shared → Prop} (B : Begins v o Hh) (h1 : Hh s.heap)
    (h : ∀ h', IsEnum h' (s.heap.objs.size + 1) s.heap.objs.size 0 .none → h'.get? s.heap.objs.size = some o → (∀ b u, s.heap.get? b = some u → h'.get? b = some u) → Q (.ref (s.heap.objs.size + 1)) { s with heap := h' }) :
    wpAny (model P w) A (call (.type "enumerate") [v]) Q E s := by
  refine callType_new F.called_enumerate (by decide) (F.typeCall_enumerate_1 _) (F.newCall_enumerate_1 _) (fun obj => F.args_object_init_2 obj _) F.entry_enumerate_new (meets_enum1 B) ⟨h1, ?_⟩
  have hz : (s.heap.push o).objs.size = s.heap.objs.size + 1 := Heap.size_push ..
  show _ ∧ _
  rw [hz]
  have he := Heap.get?_push_size (s.heap.push o) (o := { cls := .type "enumerate", data := .fields #[.none, .bool false, .ref s.heap.objs.size, rawInt 0, .none, .none] }) rfl
  rw [hz] at he
  exact ⟨⟨_, he, rfl⟩, h _ he (Heap.get?_push_of_some _ (Heap.get?_push_size _ B.free)) fun b u x => Heap.get?_push_of_some _ (Heap.get?_push_of_some _ x)⟩
end
/-- enumerate(t), t a tuple; enumerate(x), x a text -/
def iEnumT (ta : TA) : TI := fun σ H R => ta σ H fun vs H1 => ∃ a xs, vs = [.ref a] ∧ H1 a = some (.tup xs) ∧ R (ItG xs.length (fun H => H a = some (.tup xs)) fun i l => ∃ x, xs[i]? = some x ∧ l = [.int (i : Nat), x]) H1
def iEnumS (ta : TA) : TI := fun σ H R => ta σ H fun vs H1 => ∃ z, vs = [.str z] ∧ R (ItG z.cps.size (fun _ => True) fun i l => ∃ x, (∃ c, z.cps[i]? = some c ∧ x = .str ⟨#[c]⟩) ∧ l = [.int (i : Nat), x]) H1
section
variable {X : Cx} {e : Expr} {ta : TA} {p pos tpos : Pos} {elts : List Expr} {kk : Nat}
theorem two_fresh {pins : List (Addr × Obj)} {σ : L2.St} {H : Hp} {s : Shared} (I : Inv X pins σ H s) : ∀ b ∈ [s.heap.objs.size + 1, s.heap.objs.size], FpOk X pins H b := fun b hb => by
  have e' : b = s.heap.objs.size + 1 ∨ b = s.heap.objs.size := by simpa using hb
  have hle : s.heap.objs.size ≤ b := by
    rcases e' with z | z <;> rw [z]
    · exact Nat.le_succ _
    · exact Nat.le_refl _
  exact I.fpOk hle (I.hok.fresh hle)
theorem pi_enumT (hg : Gl X "enumerate") (hm : X.mg "enumerate" = none) (ha : PA X [e] ta) (hs : starEach [e] X.env = [(false, eval e X.env)] := by rfl) :
    PI X (.Tuple elts kk tpos) (.Call (.Name "enumerate" p) [e] [] pos) (iEnumT ta) := by
  refine ⟨fun pins s σ H R I h => ?_⟩
  refine Call_ (ld_blt I hg hm boot_enumerate (PyProof.Rows.callWith_type1 (thn (ha.run pos pins s σ H _ I h) fun us s1 ⟨vs, H1, I1, r1, q1⟩ => ?_) hs rfl))
  obtain ⟨a, xs, ex, hq, q⟩ := q1
  subst ex
  cases r1 with
  | cons r rr =>
    cases rr
    cases r
    obtain ⟨its, rv, pt, _⟩ := I1.tuple (SqT.of hq)
    refine enum_one (begins_tuple a its.toArray) pt fun h' he hit hk => wpAny_pyIter_enum he ?_
    exact ⟨s1.heap.objs.size + 1, [s1.heap.objs.size + 1, s1.heap.objs.size], _, _, H1, rfl, I1.kept (t' := s1.toks) hk, turn_enumG (src_tup a xs) (Nat.succ_ne_self _), ⟨⟨.none, by simpa using he⟩, ⟨_, hit, rfl, rfl⟩⟩, two_fresh I1, q⟩
theorem pi_enumS (hg : Gl X "enumerate") (hm : X.mg "enumerate" = none) (ha : PA X [e] ta) (hs : starEach [e] X.env = [(false, eval e X.env)] := by rfl) :
    PI X (.Tuple elts kk tpos) (.Call (.Name "enumerate" p) [e] [] pos) (iEnumS ta) := by
  refine ⟨fun pins s σ H R I h => ?_⟩
  refine Call_ (ld_blt I hg hm boot_enumerate (PyProof.Rows.callWith_type1 (thn (ha.run pos pins s σ H _ I h) fun us s1 ⟨vs, H1, I1, r1, q1⟩ => ?_) hs rfl))
  obtain ⟨z, ex, q⟩ := q1
  subst ex
  cases r1 with
  | cons r rr =>
    cases rr
    obtain ⟨t, rfl⟩ := r
    refine enum_one (begins_text z t) trivial fun h' he hit hk => wpAny_pyIter_enum he ?_
    exact ⟨s1.heap.objs.size + 1, [s1.heap.objs.size + 1, s1.heap.objs.size], _, _, H1, rfl, I1.kept (t' := s1.toks) hk, turn_enumG (src_str z t) (Nat.succ_ne_self _), ⟨⟨.none, by simpa using he⟩, ⟨_, hit, rfl, rfl⟩⟩, two_fresh I1, q⟩
end

/-! ### zip of a tuple and a list -/
section
variable {P : Program} {w : World} {K : PySem.W.Frag}
theorem turn_zipG {elts : List Expr} {kk : Nat} {tpos : Pos} {z TI TO i1 i2 : Addr} {n1 n2 : Nat} {Y1 Y2 : Nat → V → Prop} {ok1 ok2 : Hp → Prop} {tn1 tn2 : Nat → Heap → Prop} (S1 : Src P w K i1 n1 Y1 ok1 tn1) (S2 : Src P w K i2 n2 Y2 ok2 tn2)
    (d1 : TI ≠ z) (d2 : TO ≠ z) (d3 : TI ≠ TO) (d4 : TI ≠ i1) (d5 : z ≠ i1) (d6 : TO ≠ i1) (d7 : TI ≠ i2) (d8 : z ≠ i2) (d9 : TO ≠ i2) (d10 : i1 ≠ i2) :
    Turn P w K (.Tuple elts kk tpos) (ItG (min n1 n2) (fun H => ok1 H ∧ ok2 H) fun i xs => ∃ x y, Y1 i x ∧ Y2 i y ∧ xs = [x, y]) [z, TI, TO, i1, i2] z
      (fun i h => IsZip h z TI TO .none ∧ IsTupOf2 h TI (.ref i1) (.ref i2) ∧ (∃ a1 a2, IsTupOf2 h TO a1 a2) ∧ tn1 i h ∧ tn2 i h) := by
  refine turn_g (wr := [z, TO, i1, i2]) (by simp) (fun b hb => by
    have : b = z ∨ b = TO ∨ b = i1 ∨ b = i2 := by simpa using hb
    rcases this with q | q | q | q <;> simp [q]) (fun i xs ⟨x, y, _, _, q⟩ => ?_) (fun i h st b hb => ?_) (fun i h h' st k => ?_) (fun A i s Q E st h => ?_) fun X hP hw hK hc i pins s σ H I hok hf st => ?_
  · rw [q]
    show 2 ≤ sizeLine
    decide
  · obtain ⟨hz, hTI, ⟨a1, a2, hTO⟩, q1, q2⟩ := st
    have e' : b = z ∨ b = TI ∨ b = TO ∨ b = i1 ∨ b = i2 := by simpa using hb
    rcases e' with q | q | q | q | q
    · rw [q]; exact ⟨_, hz, fun v q => nomatch q⟩
    · rw [q]; exact ⟨_, hTI, fun v q => nomatch q⟩
    · rw [q]; exact ⟨_, hTO, fun v q => nomatch q⟩
    · rw [q]; exact S1.obj i h q1
    · rw [q]; exact S2.obj i h q2
  · obtain ⟨hz, hTI, ⟨a1, a2, hTO⟩, q1, q2⟩ := st
    exact ⟨k z (by simp) _ hz, k TI (by simp) _ hTI, ⟨a1, a2, k TO (by simp) _ hTO⟩, S1.keep i h h' q1 fun o x => k i1 (by simp) o x, S2.keep i h h' q2 fun o x => k i2 (by simp) o x⟩
  · exact wpAny_pyIter_zip st.1 h
  · obtain ⟨hz, hTI, hTO, q1, q2⟩ := st
    have cell : ∀ b ∈ [z, TI, TO, i1, i2], H b = none := fun b hb => (hf b hb).1
    obtain ⟨fp1, PV1, St1, D1, hm1, st1, back1, apart1, rel1⟩ := S1.draws X hP hw hK hc i pins s σ H I hok.1 (cell i1 (by simp)) q1
    obtain ⟨fp2, PV2, St2, D2, hm2, st2, back2, apart2, rel2⟩ := S2.draws X hP hw hK hc i pins s σ H I hok.2 (cell i2 (by simp)) q2
    have out1 : ∀ b ∈ [z, TI, TO, i1, i2], b ≠ i1 → b ∉ fp1 := fun b hb hne hm' => by
      rcases apart1 b hm' with q | ⟨o, q⟩
      · exact hne q
      · rw [cell b hb] at q
        cases q
    have out2 : ∀ b ∈ [z, TI, TO, i1, i2], b ≠ i2 → b ∉ fp2 := fun b hb hne hm' => by
      rcases apart2 b hm' with q | ⟨o, q⟩
      · exact hne q
      · rw [cell b hb] at q
        cases q
    have S : ZipSep2 z TI TO i1 i2 fp1 fp2 :=
      { TIz := d1, TOz := d2, TITO := d3, TIi1 := d4, mem1 := hm1, zf1 := out1 z (by simp) d5, Tf1 := out1 TO (by simp) d6, TIi2 := d7, mem2 := hm2, zf2 := out2 z (by simp) d8, Tf2 := out2 TO (by simp) d9,
        sep1_2 := out2 i1 (by simp) d10, sep2_1 := out1 i2 (by simp) d10.symm }
    refine ⟨_, _, _, GoesN.zip2 S D1 D2, ⟨hz, hTI, hTO, st1, st2⟩, fun j h q => ⟨q.1, q.2.1, q.2.2.1, back1 j h q.2.2.2.1, back2 j h q.2.2.2.2⟩, fun j h0 v h' hy => ?_⟩
    obtain ⟨T, x, y, ev, hn, hx, hy, ht⟩ := hy
    obtain ⟨x', rx, hx'⟩ := rel1 j x hx
    obtain ⟨y', ry, hy'⟩ := rel2 j y hy
    exact ⟨T, _, [x', y'], ev, hn, ht, .cons rx (.cons ry .nil), x', y', hx', hy', rfl⟩
end
/-- zip(t, l), t a tuple, l a list -/
def iZipTL (ta : TA) : TI := fun σ H R => ta σ H fun vs H1 => ∃ a b xs ys, vs = [.ref a, .ref b] ∧ H1 a = some (.tup xs) ∧ H1 b = some (.lst ys) ∧
  R (ItG (min xs.length ys.length) (fun H => H a = some (.tup xs) ∧ H b = some (.lst ys)) fun i l => ∃ x y, xs[i]? = some x ∧ ys[i]? = some y ∧ l = [x, y]) H1
theorem pi_zipTL {X : Cx} {e e2 : Expr} {ta : TA} {p pos tpos : Pos} {elts : List Expr} {kk : Nat} (hg : Gl X "zip") (hm : X.mg "zip" = none) (ha : PA X [e, e2] ta)
    (hs : starEach [e, e2] X.env = (false, eval e X.env) :: starEach [e2] X.env := by rfl) (hpl : (backTo pos (starEach [e2] X.env)).any (·.1) = false := by rfl) :
    PI X (.Tuple elts kk tpos) (.Call (.Name "zip" p) [e, e2] [] pos) (iZipTL ta) := by
  refine ⟨fun pins s σ H R I h => ?_⟩
  refine Call_ (ld_blt I hg hm PyProof.Rows.boot_zip (PyProof.Rows.callWith_type1 (thn (ha.run pos pins s σ H _ I h) fun us s1 ⟨vs, H1, I1, r1, q1⟩ => ?_) hs hpl))
  obtain ⟨a, b, xs, ys, ex, hqx, hqy, q⟩ := q1
  subst ex
  cases r1 with
  | cons r rr =>
    cases rr with
    | cons r' rr =>
      cases rr
      cases r
      cases r'
      obtain ⟨its, rv, p1, _⟩ := I1.tuple (SqT.of hqx)
      obtain ⟨its2, rv2, p2, _⟩ := I1.list (SqL.of hqy)
      refine zip_begins2 (begins_tuple a its.toArray) (begins_list b its2.toArray) p1 p2.isList fun h' hz hTI hTO h1 h2 hsz hk => wpAny_pyIter_zip hz ?_
      have I2 : Inv X pins σ H1 { s1 with heap := h' } := I1.kept (t' := s1.toks) hk
      have ne : ∀ i j : Nat, i ≠ j → (s1.heap.objs.size + i : Nat) ≠ s1.heap.objs.size + j := fun i j hij e => hij (by omega)
      refine ⟨s1.heap.objs.size + 4, [s1.heap.objs.size + 4, s1.heap.objs.size + 2, s1.heap.objs.size + 3, s1.heap.objs.size, s1.heap.objs.size + 1], _, _, H1, rfl, I2,
        turn_zipG (src_tup a xs) (src_lst b ys) (ne 2 4 (by decide)) (ne 3 4 (by decide)) (ne 2 3 (by decide)) (ne 2 0 (by decide)) (ne 4 0 (by decide)) (ne 3 0 (by decide)) (ne 2 1 (by decide)) (ne 4 1 (by decide)) (ne 3 1 (by decide)) (ne 0 1 (by decide)),
        ⟨hz, hTI, ⟨_, _, hTO⟩, ⟨_, h1, rfl, rfl⟩, ⟨_, h2, rfl, rfl⟩⟩, fun c hcm => ?_, q⟩
      have e' : c = s1.heap.objs.size + 4 ∨ c = s1.heap.objs.size + 2 ∨ c = s1.heap.objs.size + 3 ∨ c = s1.heap.objs.size ∨ c = s1.heap.objs.size + 1 := by simpa using hcm
      have hle : s1.heap.objs.size ≤ c := by
        rcases e' with z | z | z | z | z <;> rw [z] <;> first | exact Nat.le_refl _ | exact Nat.le_add_right _ _
      exact I1.fpOk hle (I1.hok.fresh hle)
end K30X
end
section
/-! K30E: plain Lean. Letters of what is read, of tidied rows. -/
namespace K30

def AllLet (rd : List T) : Prop := ∀ x ∈ rd, LetT x
theorem AllLet.cons {x : T} {rd : List T} (hx : LetT x) (h : AllLet rd) : AllLet (x :: rd) := fun y hy => by
  rcases List.mem_cons.mp hy with e | e
  · rw [e]
    exact hx
  · exact h y e
theorem AllLet.head {x : T} {rd : List T} (h : AllLet (x :: rd)) : LetT x := h x List.mem_cons_self
theorem AllLet.tail {x : T} {rd : List T} (h : AllLet (x :: rd)) : AllLet rd := fun y hy => h y (List.mem_cons_of_mem _ hy)
theorem settle_let (k : Nat) : ∀ (ws : List W) (rd : List T), AllLet rd → AllLet (settle k rd ws).1
  | [], rd, h => by cases rd <;> exact h
  | .br :: ws, rd, h => by cases rd <;> exact h
  | .not :: ws, [], h => h
  | .not :: ws, x :: rd, h => by
    show AllLet (if k ≤ 3 then settle k (.not x :: rd) ws else (x :: rd, .not :: ws)).1
    split
    · exact settle_let k ws _ (h.tail.cons h.head)
    · exact h
  | .bin o :: ws, [], h => h
  | .bin o :: ws, [y], h => h
  | .bin o :: ws, y :: x :: rd, h => by
    show AllLet (if k ≤ ob o then settle k (.bin o x y :: rd) ws else (y :: x :: rd, .bin o :: ws)).1
    split
    · exact settle_let k ws _ (h.tail.tail.cons ⟨h.tail.head, h.head⟩)
    · exact h
theorem leaf_ok {c : Nat} (hb : isBeg c = true) (h1 : c ≠ 45) (h2 : c ≠ 40) : LetT (leafOf c) := by
  unfold leafOf
  split
  · trivial
  · split
    · trivial
    · rename_i h3 h4
      show isLet c = true
      unfold isBeg at hb
      simpa [h1, h2, h3, h4] using hb
theorem begin_let {c : Nat} {S : Stk} (hb : isBeg c = true) (h : AllLet S.1) : AllLet (begin1 c S).2.1 := by
  unfold begin1
  split
  · exact h
  · split
    · exact h
    · exact settle_let 3 _ _ (h.cons (leaf_ok hb (by assumption) (by assumption)))
theorem step_let {c d : Nat} {Z : Bool × Stk} (ok : okS (Z.1, d) c = true) (h : AllLet Z.2.1) : AllLet (step Z c).2.1 := by
  obtain ⟨due, S⟩ := Z
  cases due with
  | true =>
    have hb : isBeg c = true := by
      unfold okS at ok
      simpa using ok
    exact begin_let hb h
  | false =>
    show AllLet (goOn c S).2.1
    unfold goOn
    split
    · exact settle_let _ _ _ h
    · rename_i h1
      split
      · exact settle_let 3 _ _ (settle_let 0 _ _ h)
      · rename_i h2
        have hb : isBeg c = true := by
          unfold okS at ok
          simp only [Bool.not_false, Bool.true_and, Bool.or_eq_true, Bool.and_eq_true, decide_eq_true_eq] at ok
          rcases ok with q | q | q | q
          · exact q
          · exact absurd (.inl q) h1
          · exact absurd (.inr q) h1
          · exact absurd q.1 h2
        exact begin_let (S := ((settle 2 S.1 S.2).1, .bin .seq :: (settle 2 S.1 S.2).2)) hb (settle_let 2 _ _ h)
theorem run_let : ∀ (s : List Nat) {Z : Bool × Stk} {d : Nat} {z : Bool × Nat}, (∃ ws rd n, Z.2 = (rd, ws) ∧ Rd Z.1 ws rd n d) → AllLet Z.2.1 → arun s (some (Z.1, d)) = some z → AllLet (run s Z).2.1
  | [], Z, d, z, _, h, _ => h
  | c :: s, Z, d, z, ⟨ws, rd, n, e0, r⟩, h, e => by
    rw [arun_cons] at e
    have e1 : astep (some (Z.1, d)) c = if okS (Z.1, d) c = true then some (nextDue Z.1 c, nextD d c) else none := rfl
    rw [e1] at e
    by_cases ok : okS (Z.1, d) c = true
    · rw [if_pos ok] at e
      obtain ⟨due, S⟩ := Z
      have e0 : S = (rd, ws) := e0
      subst e0
      obtain ⟨q, qd⟩ := step_rd r ok
      rw [run_cons]
      rw [← qd] at e
      exact run_let s ⟨_, _, _, rfl, q⟩ (step_let ok h) e
    · rw [if_neg ok, arun_none] at e
      cases e
theorem acc_let {s : List Nat} (h : Acc s) : LetT (readT s) := by
  have q := run_let s (Z := Z0) (d := 0) ⟨[], [], 0, rfl, rd_start⟩ (fun x hx => nomatch hx) h
  have q2 := settle_let 0 (run s Z0).2.2 _ q
  rw [(read_count h).1] at q2
  exact q2.head

theorem intern_lets {L : List Row} {r : Row} (h : Lets L) (hr : ∀ c, r = .letter c → isLet c = true) : Lets (intern r L).1 := by
  unfold intern
  split
  · exact h
  · exact h.snoc hr
theorem lay_lets : ∀ (t : T) {L : List Row}, LetT t → Lets L → Lets (lay t L).1
  | .nothing, L, _, h => intern_lets h fun c e => nomatch e
  | .blank, L, _, h => intern_lets h fun c e => nomatch e
  | .letter c, L, ht, h => intern_lets h fun d e => by
    cases e
    exact ht
  | .not a, L, ht, h => intern_lets (lay_lets a ht h) fun c e => nomatch e
  | .bin o a b, L, ht, h => intern_lets (lay_lets b ht.2 (lay_lets a ht.1 h)) fun c e => nomatch e
theorem canon_lets {t : T} (h : LetT t) : Lets (canon t) := lay_lets t h fun c hc => nomatch hc

/-! ### how many rows a tree lays -/
theorem canon_fine_wf (t : T) : WF (canon t) := (canon_good t).wf
/-- laid out of rows: no more than these -/
theorem lay_count {rs : List Row} (wf : WF rs) {x : Nat} (hx : x < rs.length) : (canon (tree rs x)).length ≤ rs.length := by
  -- each laid tree is a tree of rs
  have key : ∀ (x : Nat), x < rs.length → ∀ (L : List Row), G L → (∀ i, i < L.length → ∃ j, j < rs.length ∧ tree L i = tree rs j) → ∀ i, i < (lay (tree rs x) L).1.length → ∃ j, j < rs.length ∧ tree (lay (tree rs x) L).1 i = tree rs j := by
    intro x
    induction x using Nat.strongRecOn with
    | ind x ih =>
      intro hx L g hL
      have e : rs[x]? = some rs[x] := List.getElem?_eq_getElem hx
      have hp := wf x _ e
      have te := tree_eq wf e
      have fin : ∀ (M : List Row) (r : Row), G M → (∀ p ∈ r.parts, p < M.length) → treeAt M r = tree rs x → (∀ i, i < M.length → ∃ j, j < rs.length ∧ tree M i = tree rs j) → ∀ i, i < (intern r M).1.length → ∃ j, j < rs.length ∧ tree (intern r M).1 i = tree rs j := fun M r gM hr ht hM i hi => by
        unfold intern at hi ⊢
        split
        · rename_i hm
          rw [if_pos hm] at hi
          exact hM i hi
        · rename_i hm
          rw [if_neg hm] at hi
          have hi' : i < (M ++ [r]).length := hi
          show ∃ j, j < rs.length ∧ tree (M ++ [r]) i = tree rs j
          by_cases h : i < M.length
          · rw [tree_app h]
            exact hM i h
          · have e : i = M.length := by
              simp at hi'
              omega
            subst e
            exact ⟨x, hx, by rw [tree_last, treeR_eq, ht]⟩
      rw [te]
      generalize rs[x] = r at hp te
      cases r with
      | nothing => exact fin L .nothing g (by simp [Row.parts]) te.symm hL
      | blank => exact fin L .blank g (by simp [Row.parts]) te.symm hL
      | letter c => exact fin L (.letter c) g (by simp [Row.parts]) te.symm hL
      | not a =>
        have ha := hp a (by simp [Row.parts])
        have h1 := lay_laid (tree rs a) g
        refine fin _ (.not (lay (tree rs a) L).2) h1.g (by simpa [Row.parts] using h1.lt) ?_ (ih a ha (by omega) L g hL)
        show T.not _ = _
        rw [h1.tr, te]
        rfl
      | bin o a b =>
        have ha := hp a (by simp [Row.parts])
        have hb := hp b (by simp [Row.parts])
        have h1 := lay_laid (tree rs a) g
        have h2 := lay_laid (tree rs b) h1.g
        have hl := h2.le
        refine fin _ (.bin o (lay (tree rs a) L).2 (lay (tree rs b) (lay (tree rs a) L).1).2) h2.g (fun p hp => ?_) ?_ (ih b hb (by omega) _ h1.g (ih a ha (by omega) L g hL))
        · have : p = (lay (tree rs a) L).2 ∨ p = (lay (tree rs b) (lay (tree rs a) L).1).2 := by simpa [Row.parts] using hp
          rcases this with e | e
          · rw [e]
            exact Nat.lt_of_lt_of_le h1.lt hl
          · rw [e]
            exact h2.lt
        · show T.bin o _ _ = _
          rw [h2.tr, h2.trees h1.lt, h1.tr, te]
          rfl
  have all := key x hx [] G.nil (fun i hi => by simp at hi)
  have g := canon_good (tree rs x)
  -- the trees of different rows differ: as many places in rs
  have pick : ∀ i, i < (canon (tree rs x)).length → ∃ j, j < rs.length ∧ tree (canon (tree rs x)) i = tree rs j := all
  have ex : ∃ f : Nat → Nat, ∀ i, i < (canon (tree rs x)).length → f i < rs.length ∧ tree (canon (tree rs x)) i = tree rs (f i) := by
    refine ⟨fun i => if h : i < (canon (tree rs x)).length then (pick i h).choose else 0, fun i hi => ?_⟩
    simp only [hi, ↓reduceDIte]
    exact (pick i hi).choose_spec
  obtain ⟨f, hf⟩ := ex
  have nd : ((List.range (canon (tree rs x)).length).map f).Nodup := by
    refine List.pairwise_map.mpr (List.Pairwise.imp_of_mem (fun {a b} ha hb hab e => ?_) (List.nodup_range (n := (canon (tree rs x)).length)))
    have h1 := hf a (List.mem_range.mp ha)
    have h2 := hf b (List.mem_range.mp hb)
    have := g.inj a b (List.mem_range.mp ha) (List.mem_range.mp hb) (by rw [h1.2, h2.2, e])
    exact hab this
  have := nodup_bound rs.length _ nd fun y hy => by
    obtain ⟨i, hi, e⟩ := List.mem_map.mp hy
    rw [← e]
    exact (hf i (List.mem_range.mp hi)).1
  simpa using this
end K30
end
section
set_option maxHeartbeats 1000000
/-! K30W: rows, texts and stacks as they stand in the heap. -/
namespace K30
open PySem PySem.Spec PyProof.Rows L2

def top (i : Nat) : Stmt := PySem.Challenge.pw_calmword_k30_whole_there_and_back.main.body.getD i (.Pass ⟨0, 0, 0, 0⟩)

def nV (n : Nat) : V := .int (n : Int)
def sg (c : Nat) : Str := ⟨#[c]⟩
def wd : Op → Str
  | .or => "or"
  | .and => "and"
  | .seq => "behind"
def word : Row → Str
  | .nothing => "nothing"
  | .blank => "blank"
  | .letter _ => "letter"
  | .not _ => "not"
  | .bin o _ _ => wd o
def argK : Row → List Key
  | .letter c => [.inr (sg c)]
  | .not i => [.inl (i : Int)]
  | .bin _ i j => [.inl (i : Int), .inl (j : Int)]
  | _ => []
def keys (r : Row) : List Key := .inr (word r) :: argK r
def vals (r : Row) : List V := (keys r).map kV
def isLetter : Row → Bool
  | .letter _ => true
  | _ => false
theorem vals_head (r : Row) : atI (vals r) 0 = some (.str (word r)) := atI_nat (j := 0) rfl
theorem vals_length (r : Row) : (vals r).length ≤ 3 := by
  cases r <;> simp [vals, keys, argK]
theorem word_letter (r : Row) : decide (V.str (word r) = V.str "letter") = isLetter r := by
  cases r with
  | bin o i j =>
    show decide (V.str (wd o) = V.str "letter") = false
    cases o <;> decide +kernel
  | nothing => decide +kernel
  | blank => decide +kernel
  | letter c => exact decide_eq_true rfl
  | not i =>
    show decide (V.str "not" = V.str "letter") = false
    decide +kernel
theorem parts_letter {r : Row} (h : isLetter r = true) : r.parts = [] := by
  cases r <;> first | rfl | cases h
/-- what stands behind the word of a row that is no letter -/
theorem vals_tail {r : Row} (h : isLetter r = false) : vals r = .str (word r) :: r.parts.map nV := by
  cases r <;> first | rfl | cases h

theorem sg_inj {c d : Nat} (h : sg c = sg d) : c = d := by
  unfold sg at h
  injection h with h
  have := congrArg Array.toList h
  simpa using this
theorem wd_inj : ∀ {o p : Op}, wd o = wd p → o = p := by
  intro o p h
  cases o <;> cases p <;> first | rfl | (exact absurd h (by decide +kernel))
theorem keys_inj {r q : Row} (h : keys r = keys q) : r = q := by
  have h1 : word r = word q := Sum.inr.inj (List.cons.inj h).1
  have h2 : argK r = argK q := (List.cons.inj h).2
  cases r <;> cases q <;> simp [argK] at h2 <;> first
    | rfl
    | (exact absurd h1 (by decide +kernel))
    | (exact congrArg Row.letter (sg_inj h2))
    | (exact congrArg Row.not (by omega))
    | (obtain ⟨a, b⟩ := h2
       have hi := Int.ofNat.inj (show Int.ofNat _ = Int.ofNat _ from a)
       have hj := Int.ofNat.inj (show Int.ofNat _ = Int.ofNat _ from b)
       rw [hi, hj, wd_inj h1])

/-! ### where rows stand -/
def RowsAt (H : Hp) (as : List Addr) (rs : List Row) : Prop := as.length = rs.length ∧ ∀ (i : Nat) (a : Addr) (r : Row), as[i]? = some a → rs[i]? = some r → H a = some (.tup (vals r))
def ExprAt (H : Hp) (e : Addr) (rs : List Row) : Prop := ∃ as, H e = some (.tup (as.map V.ref)) ∧ RowsAt H as rs
def ListAt (H : Hp) (l : Addr) (rs : List Row) : Prop := ∃ as, H l = some (.lst (as.map V.ref)) ∧ RowsAt H as rs
theorem RowsAt.get {H : Hp} {as : List Addr} {rs : List Row} (h : RowsAt H as rs) {i : Nat} {r : Row} (e : rs[i]? = some r) : ∃ a, as[i]? = some a ∧ H a = some (.tup (vals r)) := by
  have hi : i < as.length := by
    rw [h.1]
    exact (List.getElem?_eq_some_iff.mp e).1
  exact ⟨as[i], List.getElem?_eq_getElem hi, h.2 i _ r (List.getElem?_eq_getElem hi) e⟩
theorem RowsAt.nil (H : Hp) : RowsAt H [] [] := ⟨rfl, fun i a r e => by simp at e⟩
/-- all that was tracked but what stands at l -/
def Keep (l : List Addr) (H H' : Hp) : Prop := ∀ b o, b ∉ l → H b = some o → H' b = some o
theorem Keep.of_same {l : List Addr} {H H' : Hp} (h : Same H H') : Keep l H H' := fun b o _ e => h b o e
theorem Keep.trans {l : List Addr} {H H1 H2 : Hp} (a : Keep l H H1) (b : Keep l H1 H2) : Keep l H H2 := fun c o hc e => b c o hc (a c o hc e)
theorem Keep.mono {l m : List Addr} {H H' : Hp} (a : Keep l H H') (h : ∀ x ∈ l, x ∈ m) : Keep m H H' := fun c o hc e => a c o (fun z => hc (h c z)) e
theorem Keep.refl (l : List Addr) (H : Hp) : Keep l H H := fun _ _ _ e => e
theorem keep_upd {l : List Addr} {H : Hp} {a : Addr} {o : HO} (h : a ∈ l) : Keep l H (upd H a o) := fun b u hb e => by
  rw [upd_ne (fun z => hb (by rw [z]; exact h))]
  exact e
theorem same_new {H : Hp} {p : Addr} {o : HO} (h : H p = none) : Same H (upd H p o) := fun b u e => by
  rw [upd_ne (ne_of_none e h)]
  exact e
/-- what is a tuple is not at an address that holds something else -/
theorem Keep.tup {l : List Addr} {H H' : Hp} (k : Keep l H H') (h : ∀ x ∈ l, ∀ xs, H x ≠ some (.tup xs)) {b : Addr} {xs : List V} (e : H b = some (.tup xs)) : H' b = some (.tup xs) :=
  k b _ (fun z => h b z xs e) e
theorem RowsAt.keep {H H' : Hp} {as : List Addr} {rs : List Row} (h : RowsAt H as rs) (k : ∀ b xs, H b = some (.tup xs) → H' b = some (.tup xs)) : RowsAt H' as rs :=
  ⟨h.1, fun i a r e1 e2 => k _ _ (h.2 i a r e1 e2)⟩
theorem RowsAt.same {H H' : Hp} {as : List Addr} {rs : List Row} (h : RowsAt H as rs) (k : Same H H') : RowsAt H' as rs := h.keep fun b xs e => k b _ e
theorem ExprAt.keep {H H' : Hp} {e : Addr} {rs : List Row} (h : ExprAt H e rs) (k : ∀ b xs, H b = some (.tup xs) → H' b = some (.tup xs)) : ExprAt H' e rs := by
  obtain ⟨as, h1, h2⟩ := h
  exact ⟨as, k _ _ h1, h2.keep k⟩
theorem ExprAt.same {H H' : Hp} {e : Addr} {rs : List Row} (h : ExprAt H e rs) (k : Same H H') : ExprAt H' e rs := h.keep fun b xs e => k b _ e
theorem ListAt.same {H H' : Hp} {e : Addr} {rs : List Row} (h : ListAt H e rs) (k : Same H H') : ListAt H' e rs := by
  obtain ⟨as, h1, h2⟩ := h
  exact ⟨as, k _ _ h1, h2.same k⟩
theorem RowsAt.snoc {H : Hp} {as : List Addr} {rs : List Row} {a : Addr} {r : Row} (h : RowsAt H as rs) (e : H a = some (.tup (vals r))) : RowsAt H (as ++ [a]) (rs ++ [r]) := by
  refine ⟨by simp [h.1], fun i b q e1 e2 => ?_⟩
  by_cases hi : i < as.length
  · rw [List.getElem?_append_left hi] at e1
    rw [List.getElem?_append_left (by rw [← h.1]; exact hi)] at e2
    exact h.2 i b q e1 e2
  · have hl := (List.getElem?_eq_some_iff.mp e1).1
    have hi2 : i = as.length := by
      simp at hl
      omega
    subst hi2
    rw [List.getElem?_append_right (Nat.le_refl _)] at e1
    rw [h.1, List.getElem?_append_right (Nat.le_refl _)] at e2
    simp at e1 e2
    subst e1 e2
    exact e
theorem ExprAt.tup {K : PySem.W.Frag} {H : Hp} {e : Addr} {rs : List Row} (h : ExprAt H e rs) : ∃ as, SqT K H e (as.map V.ref) ∧ RowsAt H as rs := by
  obtain ⟨as, h1, h2⟩ := h
  exact ⟨as, SqT.of h1, h2⟩
theorem atRef {as : List Addr} {i : Nat} {a : Addr} (h : as[i]? = some a) : atI (as.map V.ref) (i : Int) = some (.ref a) := atI_nat (by rw [List.getElem?_map, h]; rfl)
theorem atN {l : List Nat} {i : Nat} {x : Nat} (h : l[i]? = some x) : atI (l.map nV) (i : Int) = some (nV x) := atI_nat (by rw [List.getElem?_map, h]; rfl)
theorem getD_some {l : List Nat} {i : Nat} (h : i < l.length) : l[i]? = some (l.getD i 0) := by
  rw [List.getD_eq_getElem?_getD, List.getElem?_eq_getElem h]
  rfl

/-! ### rows as data -/
def keyD : Key → PyData
  | .inl i => .int i
  | .inr x => .str x
def rowD (r : Row) : PyData := .tuple ((keys r).map keyD)
def exprD (rs : List Row) : PyData := .tuple (rs.map rowD)
theorem dp_key {K : PySem.W.Frag} {H : Hp} : ∀ k : Key, Dp K H (kV k) (keyD k)
  | .inl i => .int i
  | .inr x => .str x
theorem dp_keys {K : PySem.W.Frag} {H : Hp} : ∀ ks : List Key, DpAll K H (ks.map kV) (ks.map keyD)
  | [] => .nil
  | k :: ks => .cons (dp_key k) (dp_keys ks)
theorem dp_row {K : PySem.W.Frag} {H : Hp} {a : Addr} {r : Row} (h : H a = some (.tup (vals r))) : Dp K H (.ref a) (rowD r) := .tup (SqT.of h) (dp_keys _)
theorem dp_rows {K : PySem.W.Frag} {H : Hp} : ∀ {as : List Addr} {rs : List Row}, RowsAt H as rs → DpAll K H (as.map V.ref) (rs.map rowD)
  | [], [], _ => .nil
  | [], _ :: _, h => by have := h.1; simp at this
  | _ :: _, [], h => by have := h.1; simp at this
  | a :: as, r :: rs, h => .cons (dp_row (h.2 0 a r rfl rfl)) (dp_rows ⟨by have := h.1; simpa using this, fun i b q e1 e2 => h.2 (i + 1) b q (by simpa using e1) (by simpa using e2)⟩)
theorem ExprAt.dp {K : PySem.W.Frag} {H : Hp} {e : Addr} {rs : List Row} (h : ExprAt H e rs) : Dp K H (.ref e) (exprD rs) := by
  obtain ⟨as, h1, h2⟩ := h
  exact .tup (SqT.of h1) (dp_rows h2)
theorem ListAt.dp {K : PySem.W.Frag} {H : Hp} {e : Addr} {rs : List Row} (h : ListAt H e rs) : Dp K H (.ref e) (.list (rs.map rowD)) := by
  obtain ⟨as, h1, h2⟩ := h
  exact .lst (SqL.of h1) (dp_rows h2)
def keyFine : Key → Bool
  | .inl _ => true
  | .inr x => PyData.strOk x
theorem key_lay : ∀ ks : List Key, ks.all keyFine = true → PyData.canLayAll0 (ks.map keyD) = true
  | [], _ => by simp [PyData.canLayAll0]
  | .inl i :: ks, h => by
    have h' : ks.all keyFine = true := by simpa [keyFine] using h
    simp [PyData.canLayAll0, PyData.canLay0, keyD, key_lay ks h']
  | .inr x :: ks, h => by
    have h' : PyData.strOk x = true ∧ ks.all keyFine = true := by simpa [keyFine] using h
    simp [PyData.canLayAll0, PyData.canLay0, keyD, key_lay ks h'.2, h'.1]
theorem key_depth : ∀ ks : List Key, PyData.depthAll (ks.map keyD) ≤ 0
  | [] => by simp [PyData.depthAll]
  | .inl i :: ks => by
    have := key_depth ks
    simp [PyData.depthAll, PyData.depth, keyD]
    omega
  | .inr x :: ks => by
    have := key_depth ks
    simp [PyData.depthAll, PyData.depth, keyD]
    omega
theorem keys_fine {r : Row} (h : ∀ c, r = .letter c → isLet c = true) : (keys r).all keyFine = true := by
  cases r with
  | bin o i j =>
    show (PyData.strOk (wd o) && true) = true
    cases o <;> decide +kernel
  | nothing => decide +kernel
  | blank => decide +kernel
  | not i =>
    show (PyData.strOk "not" && true) = true
    decide +kernel
  | letter c =>
    have q := h c rfl
    unfold isLet at q
    simp only [Bool.and_eq_true, decide_eq_true_eq] at q
    have e : PyData.strOk (sg c) = true := by
      show (#[c] : Array Nat).all (· < 0x110000) = true
      simp
      omega
    show (PyData.strOk "letter" && (PyData.strOk (sg c) && true)) = true
    rw [e]
    decide +kernel
theorem row_lay {r : Row} (h : ∀ c, r = .letter c → isLet c = true) : (rowD r).canLay0 = true := by
  simp [rowD, PyData.canLay0, key_lay _ (keys_fine h)]
theorem Lets.row {rs : List Row} (h : Lets rs) {r : Row} (hr : r ∈ rs) : ∀ c, r = .letter c → isLet c = true := fun c e => h c (e ▸ hr)
theorem row_depth (r : Row) : (rowD r).depth ≤ 1 := by
  have := key_depth (keys r)
  simp only [rowD, PyData.depth]
  omega
theorem rows_lay : ∀ rs : List Row, Lets rs → PyData.canLayAll0 (rs.map rowD) = true
  | [], _ => by simp [PyData.canLayAll0]
  | r :: rs, h => by simp [PyData.canLayAll0, row_lay (h.row List.mem_cons_self), rows_lay rs fun c hc => h c (List.mem_cons_of_mem _ hc)]
theorem rows_depth : ∀ rs : List Row, PyData.depthAll (rs.map rowD) ≤ 1
  | [] => by simp [PyData.depthAll]
  | r :: rs => by
    have h1 := rows_depth rs
    have h2 := row_depth r
    simp only [List.map_cons, PyData.depthAll]
    omega
theorem row_shaped {r : Row} (hl : ∀ c, r = .letter c → isLet c = true) : SeqAt.shaped (rowD r) = true := by
  have h := row_depth r
  show ((rowD r).canLay0 && decide ((rowD r).depth ≤ 64)) = true
  rw [Bool.and_eq_true]
  exact ⟨row_lay hl, decide_eq_true (by omega)⟩
theorem expr_shaped {rs : List Row} (hl : Lets rs) : SeqAt.shaped (exprD rs) = true := by
  have h := rows_depth rs
  show ((exprD rs).canLay0 && decide ((exprD rs).depth ≤ 64)) = true
  rw [Bool.and_eq_true]
  refine ⟨by simp [exprD, PyData.canLay0, rows_lay rs hl], decide_eq_true ?_⟩
  simp only [exprD, PyData.depth]
  omega
theorem list_shaped {rs : List Row} (hl : Lets rs) : SeqAt.shaped (.list (rs.map rowD)) = true := by
  have h := rows_depth rs
  show ((PyData.list (rs.map rowD)).canLay0 && decide ((PyData.list (rs.map rowD)).depth ≤ 64)) = true
  rw [Bool.and_eq_true]
  refine ⟨by simp [PyData.canLay0, rows_lay rs hl], decide_eq_true ?_⟩
  simp only [PyData.depth]
  omega
theorem key_eqv (k q : Key) : PyData.eqv (keyD k) (keyD q) = decide (k = q) := by
  cases k with
  | inl i =>
    cases q with
    | inl j =>
      simp only [keyD, PyData.eqv]
      rw [Bool.eq_iff_iff]
      simp
    | inr y => simp [keyD, PyData.eqv]
  | inr x =>
    cases q with
    | inl j => simp [keyD, PyData.eqv]
    | inr y =>
      simp only [keyD, PyData.eqv]
      rw [Bool.eq_iff_iff]
      simp
theorem keys_eqv : ∀ ks qs : List Key, PyData.eqvAll (ks.map keyD) (qs.map keyD) = decide (ks = qs)
  | [], [] => by simp [PyData.eqvAll]
  | [], _ :: _ => by simp [PyData.eqvAll]
  | _ :: _, [] => by simp [PyData.eqvAll]
  | k :: ks, q :: qs => by
    simp only [List.map_cons, PyData.eqvAll, key_eqv, keys_eqv ks qs]
    rw [Bool.eq_iff_iff]
    simp
theorem row_eqv (r q : Row) : PyData.eqv (rowD r) (rowD q) = decide (r = q) := by
  simp only [rowD, PyData.eqv]
  rw [keys_eqv, Bool.eq_iff_iff]
  simp only [decide_eq_true_eq]
  exact ⟨keys_inj, fun e => by rw [e]⟩
theorem rows_eqv : ∀ rs qs : List Row, PyData.eqvAll (rs.map rowD) (qs.map rowD) = decide (rs = qs)
  | [], [] => by simp [PyData.eqvAll]
  | [], _ :: _ => by simp [PyData.eqvAll]
  | _ :: _, [] => by simp [PyData.eqvAll]
  | r :: rs, q :: qs => by
    simp only [List.map_cons, PyData.eqvAll, row_eqv, rows_eqv rs qs]
    rw [Bool.eq_iff_iff]
    simp
theorem expr_eqv (rs qs : List Row) : PyData.eqv (exprD rs) (exprD qs) = decide (rs = qs) := by
  simp only [exprD, PyData.eqv]
  exact rows_eqv rs qs

/-! ### texts -/
def st (s : List Nat) : Str := ⟨s.toArray⟩
theorem st_append (s t : List Nat) : st s ++ st t = st (s ++ t) := by
  show Str.mk (s.toArray ++ t.toArray) = Str.mk (s ++ t).toArray
  simp
theorem st_length (s : List Nat) : (st s).length = s.length := by
  show (s.toArray).size = _
  simp
theorem st_inj {s t : List Nat} (h : st s = st t) : s = t := by
  unfold st at h
  injection h with h
  have := congrArg Array.toList h
  simpa using this
theorem st_self (z : Str) : st z.cps.toList = z := by
  cases z
  simp [st]
theorem sg_st (c : Nat) : sg c = st [c] := rfl
theorem lineBig {n : Nat} (h : n ≤ 4000000) : n ≤ sizeLine := by
  rw [sizeLine_eq]
  omega
theorem lineLt {n : Nat} (h : n ≤ 4000000) : n < sizeLine := by
  rw [sizeLine_eq]
  omega
end K30
end
section
set_option maxHeartbeats 1000000
/-! K30F1: parts_of, mark_of. -/
namespace K30
open PySem PySem.Spec PyProof.Rows L2

/-- a def of the module by its name: it keeps a promise -/
def Fn (P : Program) (w : World) (K : PySem.W.Frag) (mg : Str → Option Value) (base : Heap) (x : Str) (k : Nat) (ps : List Str) (sp : Sp) : Prop :=
  ∃ (f : Addr) (fd : FuncData), FnOk P w K mg base CX0 k f fd ps sp ∧ mg x = some (.ref f) ∧ PySem.W.keepIn K (.ref f) = true ∧ Binds K fd ps []
/-- what the top has written of names -/
structure Names (K : PySem.W.Frag) (w : World) (mg : Str → Option Value) : Prop where
  enumerate : mg "enumerate" = none
  tuple : mg "tuple" = none
  len : mg "len" = none
  zip : mg "zip" = none
  int : mg "int" = none
  min : mg "min" = none
  list : mg "list" = none
  range : mg "range" = none
  sorted : mg "sorted" = none
  set : mg "set" = none
  isinstance : mg "isinstance" = none
  str : mg "str" = none
  most : ∃ t, mg "MOST_SIGNS" = some (.int 100000 t)
  letters : ∃ t, mg "LETTERS" = some (.str "abcdefghijklmnopqrstuvwxyz" t)
  marks : ∃ d, mg "MARKS" = some (.ref d) ∧ KDct K w d "nothing" (.str "0") ∧ KDct K w d "blank" (.str ".") ∧ KDct K w d "not" (.str "-") ∧ KDct K w d "or" (.str "|") ∧ KDct K w d "and" (.str "&") ∧ KDct K w d "behind" (.str "")
  binds : ∃ d, mg "BINDS" = some (.ref d) ∧ KDct K w d "or" (.int 0) ∧ KDct K w d "and" (.int 1) ∧ KDct K w d "behind" (.int 2) ∧ KDct K w d "not" (.int 3) ∧ KDct K w d "nothing" (.int 4) ∧ KDct K w d "blank" (.int 4) ∧ KDct K w d "letter" (.int 4)

def spParts : Sp := fun vs H Q _ => ∃ (a : Addr) (r : Row), vs = [.ref a] ∧ H a = some (.tup (vals r)) ∧ ∀ p H', Same H H' → H p = none → H' p = some (.tup (r.parts.map nV)) → Q (.ref p) H'
def markOf : Row → Str
  | .nothing => "0"
  | .blank => "."
  | .letter c => sg c
  | .not _ => "-"
  | .bin .or _ _ => "|"
  | .bin .and _ _ => "&"
  | .bin .seq _ _ => ""
def spMark : Sp := fun vs H Q _ => ∃ (a : Addr) (r : Row), vs = [.ref a] ∧ H a = some (.tup (vals r)) ∧ Q (.str (markOf r)) H
section
variable {P : Program} {w : World} {K : PySem.W.Frag} {mg : Str → Option Value} {base : Heap}

/-! ### parts_of -/
abbrev sParts : Stmt := top 5
theorem scParts : FnScope ["row"] ["row"] (defScope sParts) := ⟨rfl, rfl, rfl, by decide +kernel, rfl, by decide +kernel, by decide +kernel⟩
theorem cut_parts {r : Row} (h : isLetter r = false) : cutV (vals r) (some 1) none = r.parts.map nV := by
  rw [vals_tail h]
  unfold cutV
  rw [HT.sIx_none]
  have e : HT.sIx (V.str (word r) :: r.parts.map nV).length 0 (some 1) = 1 := by
    have := HT.sIx_nat (V.str (word r) :: r.parts.map nV).length 0 1
    rw [show ((1 : Nat) : Int) = 1 from rfl] at this
    rw [this]
    simp
  rw [e]
  simp [List.take_of_length_le]
theorem fn_parts {f : Addr} {fd : FuncData} (F : Fun K "parts_of" "parts_of" sParts f fd) : FnOk P w K mg base CX0 1 f fd ["row"] spParts := by
  refine F.ok scParts (fun vs H Q E h => ?_) (fun cdv A outer s H vs Q E hr h => ?_)
  · obtain ⟨a, r, rfl, _⟩ := h
    rfl
  · obtain ⟨a, r, rfl, ha, k⟩ := h
    refine ⟨_, pss_cons (ps_if (pt_cmpR op_eq (pe_ix ix_tup (pv 0) pe_int (fun _ _ => rfl)) pe_str (nomark _)) (pss_one (ps_ret (pe_tup pa_nil))) pss_nil)
      (pss_one (ps_ret (pe_slice sl_tup (pv 0) (po_some pe_int) po_none))), ?_⟩
    refine ⟨_, rfl, a, _, _, _, rfl, rfl, SqT.of ha, vals_head r, rfl, _, rfl, ?_⟩
    rw [word_letter]
    cases c : isLetter r with
    | true =>
      refine iteT ⟨Nat.zero_le _, fun p hp => ?_⟩
      exact k p _ (same_new hp) hp (by rw [parts_letter c]; exact upd_same)
    | false =>
      refine iteF ⟨_, rfl, _, rfl, a, _, rfl, SqT.of ha, fun z => ?_, fun p hp => ?_⟩
      · have z1 := z.1
        rw [vals_tail c] at z1
        have := HT.sIx_nat (V.str (word r) :: r.parts.map nV).length 0 1
        rw [show ((1 : Nat) : Int) = 1 from rfl] at this
        rw [this] at z1
        simp at z1
      · refine k p _ (same_new hp) hp ?_
        rw [upd_same]
        exact congrArg (fun x => some (HO.tup x)) (cut_parts c)

/-! ### mark_of -/
abbrev sMark : Stmt := top 14
theorem scMark : FnScope ["row"] ["row"] (defScope sMark) := ⟨rfl, rfl, rfl, by decide +kernel, rfl, by decide +kernel, by decide +kernel⟩
theorem Names.mark (N : Names K w mg) : ∃ d, mg "MARKS" = some (.ref d) ∧ ∀ r, isLetter r = false → KDct K w d (word r) (.str (markOf r)) := by
  obtain ⟨d, h0, h1, h2, h3, h4, h5, h6⟩ := N.marks
  refine ⟨d, h0, fun r hr => ?_⟩
  cases r with
  | letter c => cases hr
  | bin o i j => cases o <;> assumption
  | _ => assumption
theorem fn_mark {f : Addr} {fd : FuncData} (F : Fun K "mark_of" "mark_of" sMark f fd) (N : Names K w mg) : FnOk P w K mg base CX0 1 f fd ["row"] spMark := by
  refine F.ok scMark (fun vs H Q E h => ?_) (fun cdv A outer s H vs Q E hr h => ?_)
  · obtain ⟨a, r, rfl, _⟩ := h
    rfl
  · obtain ⟨a, r, rfl, ha, k⟩ := h
    obtain ⟨d, hd, hm⟩ := N.mark
    refine ⟨_, pss_cons (ps_if (pt_cmpR op_eq (pe_ix ix_tup (pv 0) pe_int (fun _ _ => rfl)) pe_str (nomark _)) (pss_one (ps_ret (pe_ix ix_tup (pv 0) pe_int (fun _ _ => rfl)))) pss_nil)
      (pss_one (ps_ret (pe_ix ix_kdict (pe_glob (v := .ref d) rfl hd rfl) (pe_ix ix_tup (pv 0) pe_int (fun _ _ => rfl)) (fun _ _ => rfl)))), ?_⟩
    refine ⟨_, rfl, a, _, _, _, rfl, rfl, SqT.of ha, vals_head r, rfl, _, rfl, ?_⟩
    rw [word_letter]
    cases c : isLetter r with
    | true =>
      refine iteT ?_
      cases r with
      | letter x => exact ⟨_, rfl, a, _, _, _, rfl, rfl, SqT.of ha, atI_nat (j := 1) rfl, k⟩
      | _ => cases c
    | false =>
      exact iteF ⟨_, rfl, a, _, _, _, rfl, rfl, SqT.of ha, vals_head r, d, _, _, rfl, rfl, hm r c, k⟩
end
end K30
end
section
set_option maxHeartbeats 1000000
/-! K30F2: ones_of, named_anew. -/
namespace K30
open PySem PySem.Spec PyProof.Rows L2

def spOnes : Sp := fun vs H Q _ => ∃ (e : Addr) (rs : List Row), vs = [.ref e] ∧ ExprAt H e rs ∧ WF rs ∧ rs.length ≤ 1000000 ∧ ∀ p H', Same H H' → H p = none → H' p = some (.lst ((onesOf rs).map nV)) → Q (.ref p) H'
def kd (Z : List (Row × Nat)) : List (List Key × V) := Z.map fun q => (keys q.1, nV q.2)
theorem kd_look : ∀ (Z : List (Row × Nat)) (r : Row), valV (kd Z) (keys r) = (look Z r).map nV
  | [], r => rfl
  | (q, a) :: Z, r => by
    show valV ((keys q, nV a) :: kd Z) (keys r) = (if q = r then some a else look Z r).map nV
    by_cases e : q = r
    · rw [if_pos e, valV_pos (by rw [e])]
      rfl
    · rw [if_neg e, valV_neg (fun z => e (keys_inj z))]
      exact kd_look Z r
theorem kd_put {Z : List (Row × Nat)} {r : Row} {a : Nat} (h : look Z r = none) : putK (kd Z) (keys r) (nV a) = kd (Z ++ [(r, a)]) := by
  rw [putK_new _ (by rw [kd_look, h]; rfl)]
  simp [kd]
theorem onesAll_len (rs : List Row) : (onesAll rs).2.length = rs.length ∧ (onesAll rs).1.length ≤ rs.length := by
  have go : ∀ (l : List Row) (Z : List (Row × Nat) × List Nat), (l.foldl onesStep Z).2.length = Z.2.length + l.length ∧ (l.foldl onesStep Z).1.length ≤ Z.1.length + l.length := by
    intro l
    induction l with
    | nil => intro Z; exact ⟨rfl, Nat.le_refl _⟩
    | cons r l ih =>
      intro Z
      obtain ⟨h1, h2⟩ := ih (onesStep Z r)
      have h3 : (onesStep Z r).2.length = Z.2.length + 1 ∧ (onesStep Z r).1.length ≤ Z.1.length + 1 := by
        unfold onesStep
        split <;> simp
      simp only [List.foldl_cons, List.length_cons]
      omega
  have := go rs ([], [])
  simpa [onesAll] using this
theorem take_snoc {α : Type} {l : List α} {i : Nat} {x : α} (h : l[i]? = some x) : l.take (i + 1) = l.take i ++ [x] := by
  rw [List.take_add_one, h]
  rfl
/-- a row's parts by new numbers, behind its word -/
theorem vals_map {r : Row} {f : Nat → Nat} (h : isLetter r = false) : vals (mapR f r) = [.str (word r)] ++ r.parts.map fun p => nV (f p) := by
  cases r <;> first | rfl | cases h
theorem mapR_leaf {r : Row} {f : Nat → Nat} (h : isLetter r = true) : mapR f r = r := by
  cases r <;> first | rfl | cases h
theorem parts_few (r : Row) : r.parts.length ≤ 2 := by cases r <;> simp [Row.parts]

section
variable {P : Program} {w : World} {K : PySem.W.Frag} {mg : Str → Option Value} {base : Heap}
abbrev sOnes : Stmt := top 6
abbrev nOnes : List Str := ["expression", "known", "ones", "at", "row", "key", "part"]
theorem scOnes : FnScope nOnes ["expression"] (defScope sOnes) := ⟨rfl, rfl, rfl, by decide +kernel, rfl, by decide +kernel, by decide +kernel⟩
theorem fn_ones {f : Addr} {fd : FuncData} (F : Fun K "ones_of" "ones_of" sOnes f fd) (N : Names K w mg) (fP : Fn P w K mg base "parts_of" 1 ["row"] spParts) : FnOk P w K mg base CX0 2 f fd ["expression"] spOnes := by
  obtain ⟨fp, fpd, GP, mP, kP, bP⟩ := fP
  refine F.ok scOnes (fun vs H Q E h => ?_) (fun cdv A outer s H vs Q E hr h => ?_)
  · obtain ⟨e, rs, rfl, _⟩ := h
    rfl
  · obtain ⟨e, rs, rfl, hE, wf, few, k⟩ := h
    have hu := hu_of hr
    refine ⟨_, pss_cons (ps_set (i := 1) scOnes.nd rfl (Or.inl rfl) pe_dnewT) (pss_cons (ps_set (i := 2) scOnes.nd rfl (Or.inr rfl) (pe_lst pa_nil))
      (pss_cons (ps_for PassesOwn.never rfl (K30X.pi_enumT rfl N.enumerate (pa_cons (pv 0) pa_nil)) (pg_tup rfl (pgs_cons (pg_name (i := 3) scOnes.nd rfl (Or.inl rfl)) (pgs_cons (pg_name (i := 4) scOnes.nd rfl (Or.inl rfl)) pgs_nil)))
        (pss_cons (ps_set (i := 5) scOnes.nd rfl (Or.inl rfl) (pv 4))
        (C8.pss_cut (ps_if (pt_cmpR op_ne (pe_ix ix_tup (pv 4) pe_int (fun _ _ => rfl)) pe_str (nomark _))
          (pss_one (ps_set (i := 5) scOnes.nd rfl (Or.inl rfl) (pe_op op_catT (pe_tup (pa_cons (pe_ix ix_tup (pv 4) pe_int (fun _ _ => rfl)) pa_nil))
            (pe_callTy call_tuple_of (by rfl) N.tuple (by decide +kernel) (pa_cons
              (pe_lc (own := [("part", 6)]) (g := gName 6) (tt := tYes) (te := tOp (rIxL K) (tVar 2) (tVar 6)) rfl scOnes.nd (pi_tup (pe_call GP hr rfl mP kP bP .nil pass0 (pa_cons (pv 4) pa_nil)))
                (blkOk_by (own := [("part", 6)]) (N := nOnes) (sc := defScope sOnes) (by decide +kernel)) (fun _ _ _ _ _ => pg_name (i := 6) scOnes.nd rfl (Or.inl rfl)) (fun _ _ _ _ _ => pts_nil)
                (fun _ _ _ _ _ => pe_ix ix_list (pv 2) (pv 6) (fun _ _ => rfl))) pa_nil))))) pss_nil)
        (C8.pss_cut (ps_if (pt_cmp (pc_dnotin hu (pv 5) (pv 1)) rfl) (pss_one (ps_dput hu (pv 1) (pv 5) (pv 3) rfl)) pss_nil)
        (pss_one (ps_expr (pe_bm PySem.F.plainAttrs_list PySem.F.slot_list_append PySem.F.type_list_append mt_append (pv 2) (pa_cons (pe_dget hu (pv 1) (pv 5) (fun _ _ => rfl)) pa_nil))))))))
      (pss_one (ps_ret (pv 2))))), ?_⟩
    intro kn hkn
    refine ⟨Nat.zero_le _, fun l hl => ?_⟩
    have nkl : kn ≠ l := fun z => by
      rw [← z, upd_same] at hl
      cases hl
    have hl0 : H l = none := by
      rw [upd_ne nkl.symm] at hl
      exact hl
    obtain ⟨as, hEe, hAs⟩ := hE
    have s0 : Same H (upd (upd H kn (.dT [])) l (.lst [])) := (same_new hkn).trans (same_new hl)
    have elen : (as.map V.ref).length = rs.length := by rw [List.length_map, hAs.1]
    refine ⟨_, rfl, e, _, rfl, s0 _ _ hEe, ?_⟩
    refine for_it K30X.walk_g (fun i σ H2 => ∃ a3 a4 a5 a6, σ = [some (.ref e), some (.ref kn), some (.ref l), a3, a4, a5, a6] ∧ Same H H2 ∧ H2 kn = some (.dT (kd (onesAll (rs.take i)).1)) ∧ H2 l = some (.lst ((onesAll (rs.take i)).2.map nV)))
      ⟨none, none, none, none, rfl, s0, by rw [upd_ne nkl]; exact upd_same, upd_same⟩ (fun i σ H2 _ ⟨_, _, _, _, _, s2, _⟩ => s2 _ _ hEe) ?_ ?_
    · rintro i x σ H2 H3 hi ⟨a3, a4, a5, a6, rfl, s2, hk2, hl2⟩ ⟨T, xs, rfl, hT, rfl, ⟨x, hx, rfl⟩⟩
      have hir : i < rs.length := by rw [← elen]; exact hi
      have er : rs[i]? = some rs[i] := List.getElem?_eq_getElem hir
      have hp := wf i _ er
      generalize rs[i] = r at er hp
      obtain ⟨a, ea, ha⟩ := hAs.get er
      rw [List.getElem?_map, ea] at hx
      have hx : V.ref a = x := Option.some.inj hx
      subst hx
      generalize eZ : onesAll (rs.take i) = Z at hk2 hl2
      have zl := onesAll_len (rs.take i)
      rw [eZ, List.length_take] at zl
      have zl2 : Z.2.length = i := by omega
      have zl1 : Z.1.length ≤ i := by omega
      have nT : ∀ b o, H2 b = some o → b ≠ T := fun b o q => ne_of_none q hT
      refine ⟨T, _, rfl, SqT.of upd_same, rfl, _, _, rfl, _, _, rfl, rfl, ?_⟩
      refine ⟨_, rfl, ?_⟩
      -- the key
      refine ⟨fun σ' H' => ∃ kp a6, σ' = [some (.ref e), some (.ref kn), some (.ref l), some (.int (i : Nat)), some (.ref a), some (.ref kp), a6] ∧ Same H2 H' ∧ H' kp = some (.tup (vals (keyR Z.2 r))), ?_, ?_⟩
      · refine ⟨_, rfl, a, _, _, _, rfl, rfl, SqT.of (by rw [upd_ne (nT _ _ (s2 _ _ ha))]; exact s2 _ _ ha), vals_head r, rfl, _, rfl, ?_⟩
        rw [word_letter]
        have ha3 : (upd H2 T (.tup [V.int (i : Nat), V.ref a])) a = some (.tup (vals r)) := by
          rw [upd_ne (nT _ _ (s2 _ _ ha))]
          exact s2 _ _ ha
        cases c : isLetter r with
        | true =>
          refine iteF ⟨a, a6, rfl, same_new hT, ?_⟩
          unfold keyR
          rw [mapR_leaf c]
          exact ha3
        | false =>
          refine iteT ⟨_, rfl, a, _, _, _, rfl, rfl, SqT.of ha3, vals_head r, (by show 1 ≤ sizeLine; decide), fun q hq => ?_⟩
          refine ⟨_, rfl, a, r, rfl, by rw [upd_ne (ne_of_none ha3 hq)]; exact ha3, fun pp H4 s4 hpp0 hpp => ?_⟩
          refine ⟨pp, rfl, ⟨_, SqT.of hpp⟩, fun D hD => ?_⟩
          have s34 : Same H2 H4 := (same_new hT).trans ((same_new hq).trans s4)
          refine lc_tup (K := K) (a := pp) (xs := r.parts.map nV) (fun j H5 => Same H4 H5 ∧ H5 D = some (.lst ((r.parts.take j).map fun p => nV (Z.2.getD p 0)))) ⟨same_new hD, upd_same⟩ (fun j H5 _ q => SqT.of (q.1 _ _ hpp)) ?_ ?_
          · rintro j y H5 hy ⟨s5, hD5⟩
            obtain ⟨p, ep, rfl⟩ : ∃ p, r.parts[j]? = some p ∧ y = nV p := by
              rw [List.getElem?_map] at hy
              cases e2 : r.parts[j]? with
              | none =>
                rw [e2] at hy
                cases hy
              | some p =>
                rw [e2] at hy
                exact ⟨p, rfl, (Option.some.inj hy).symm⟩
            have hpi := hp p (List.mem_of_getElem? ep)
            refine ⟨rfl, _, rfl, _, rfl, l, _, _, _, rfl, rfl, SqL.of (s5 _ _ (s34 _ _ hl2)), atN (getD_some (by omega)), _, hD5, ?_, ?_⟩
            · have := parts_few r
              rw [List.length_map, List.length_take]
              exact lineLt (by omega)
            · refine ⟨fun b o eb => ?_, ?_⟩
              · rw [upd_ne (ne_of_none eb hD)]
                exact s5 b o eb
              · rw [upd_same, take_snoc ep]
                simp
          · rintro H5 ⟨s5, hD5⟩
            rw [List.length_map, List.take_length] at hD5
            refine ⟨D, _, rfl, .inl ⟨SqL.of hD5, fun t ht => ?_⟩⟩
            have hq5 := s5 _ _ (s4 _ _ (upd_same (H := upd H2 T (.tup [V.int (i : Nat), V.ref a])) (a := q) (o := .tup [V.str (word r)])))
            refine ⟨q, t, [.str (word r)], _, rfl, rfl, SqT.of (by rw [upd_ne (ne_of_none hq5 ht)]; exact hq5), SqT.of upd_same, by simp, ?_, fun z => ?_, fun z u hu' => ?_⟩
            · have := parts_few r
              rw [List.length_map]
              exact lineBig (by simp; omega)
            · refine ⟨q, _, rfl, (s34.trans s5).trans (same_new ht), ?_⟩
              rw [upd_ne (ne_of_none hq5 ht), hq5]
              unfold keyR
              rw [vals_map c, z]
              rfl
            · refine ⟨u, _, rfl, ((s34.trans s5).trans (same_new ht)).trans (same_new hu'), ?_⟩
              rw [upd_same]
              unfold keyR
              rw [vals_map c]
      · -- the rest of a turn
        rintro σ' H4 ⟨kp, a6', rfl, s4, hkp⟩
        have hk4 := s4 _ _ hk2
        have hl4 := s4 _ _ hl2
        have nlk : l ≠ kn := nkl.symm
        refine ⟨fun σ' H' => σ' = [some (.ref e), some (.ref kn), some (.ref l), some (.int (i : Nat)), some (.ref a), some (.ref kp), a6'] ∧ Keep [kn] H4 H' ∧ H' kn = some (.dT (kd (onesStep Z r).1)), ?_, ?_⟩
        · refine ⟨_, rfl, _, rfl, kn, _, rfl, DGet.t hk4 hkp, _, rfl, ?_⟩
          rw [kd_look]
          unfold onesStep
          cases c : look Z.1 (keyR Z.2 r) with
          | some b => exact iteF ⟨rfl, Keep.refl _ _, hk4⟩
          | none =>
            refine iteT ⟨_, rfl, _, rfl, _, rfl, kn, _, rfl, DPut.t hk4 hkp (by rw [kd, List.length_map]; exact lineLt (by omega)), rfl, keep_upd (by simp), ?_⟩
            rw [upd_same, show (V.int ((i : Nat) : Int)) = nV i from rfl, kd_put c, ← zl2]
        · rintro σ' H5 ⟨rfl, k5, hk5⟩
          have hkp5 : H5 kp = some (.tup (vals (keyR Z.2 r))) := k5.tup (fun x hx xs q => by
            have : x = kn := by simpa using hx
            rw [this, hk4] at q
            cases q) hkp
          have hl5 : H5 l = some (.lst (Z.2.map nV)) := k5 _ _ (by simpa using nlk) hl4
          have gone : valV (kd (onesStep Z r).1) (keys (keyR Z.2 r)) = some (nV ((onesStep Z r).2.getD Z.2.length 0)) := by
            rw [kd_look]
            unfold onesStep
            cases c : look Z.1 (keyR Z.2 r) with
            | some b =>
              show (look Z.1 (keyR Z.2 r)).map nV = some (nV ((Z.2 ++ [b]).getD Z.2.length 0))
              rw [c, getD_new]
              rfl
            | none =>
              show (look (Z.1 ++ [(keyR Z.2 r, Z.2.length)]) (keyR Z.2 r)).map nV = some (nV ((Z.2 ++ [Z.2.length]).getD Z.2.length 0))
              rw [getD_new]
              have : look (Z.1 ++ [(keyR Z.2 r, Z.2.length)]) (keyR Z.2 r) = some Z.2.length := by
                have go : ∀ (L : List (Row × Nat)), look L (keyR Z.2 r) = none → look (L ++ [(keyR Z.2 r, Z.2.length)]) (keyR Z.2 r) = some Z.2.length := by
                  intro L
                  induction L with
                  | nil => intro _; show (if keyR Z.2 r = keyR Z.2 r then _ else _) = _; rw [if_pos rfl]
                  | cons q L ih =>
                    intro hq
                    obtain ⟨q1, q2⟩ := q
                    have hq : (if q1 = keyR Z.2 r then some q2 else look L (keyR Z.2 r)) = none := hq
                    show (if q1 = keyR Z.2 r then some q2 else look (L ++ [(keyR Z.2 r, Z.2.length)]) (keyR Z.2 r)) = _
                    by_cases e : q1 = keyR Z.2 r
                    · rw [if_pos e] at hq
                      cases hq
                    · rw [if_neg e] at hq ⊢
                      exact ih hq
                exact go _ c
              rw [this]
              rfl
          have eS : onesAll (rs.take (i + 1)) = onesStep Z r := by rw [take_snoc er, onesAll_snoc, eZ]
          have eO : (onesStep Z r).2 = Z.2 ++ [(onesStep Z r).2.getD Z.2.length 0] := by
            unfold onesStep
            split
            · show Z.2 ++ [_] = Z.2 ++ [(Z.2 ++ [_]).getD Z.2.length 0]
              rw [getD_new]
            · show Z.2 ++ [_] = Z.2 ++ [(Z.2 ++ [_]).getD Z.2.length 0]
              rw [getD_new]
          refine ⟨_, rfl, .inl ⟨rfl, _, SqL.of hl5⟩, _, rfl, _, rfl, kn, nV ((onesStep Z r).2.getD Z.2.length 0), rfl, ?_, l, _, _, rfl, rfl, hl5, by rw [List.length_map]; exact lineLt (by omega), ?_⟩
          · rw [← gone]
            exact DGet.t hk5 hkp5
          · refine ⟨_, _, _, _, rfl, fun b o eb => ?_, ?_, ?_⟩
            · have hb2 := s2 _ _ eb
              have nb : b ≠ kn := ne_of_none eb hkn
              have nbl : b ≠ l := ne_of_none eb hl0
              rw [upd_ne nbl]
              exact k5 _ _ (by simpa using nb) (s4 _ _ hb2)
            · rw [upd_ne nkl, hk5, eS]
            · rw [upd_same, eS]
              exact congrArg (fun x => some (HO.lst x)) ((by rw [List.map_append]; rfl : Z.2.map nV ++ [nV ((onesStep Z r).2.getD Z.2.length 0)] = (Z.2 ++ [(onesStep Z r).2.getD Z.2.length 0]).map nV).trans (congrArg (List.map nV) eO.symm))
    · rintro σ H2 ⟨a3, a4, a5, a6, rfl, s2, hk2, hl2⟩
      rw [elen, List.take_length] at hl2
      exact ⟨_, rfl, k l H2 s2 hl0 hl2⟩

/-! ### named_anew -/
/-- a dict of what came: each id's place -/
def cm (ids : List Nat) : List (Key × V) := ids.zipIdx.map fun q => (Sum.inl (q.1 : Int), nV q.2)
theorem cm_get {ids : List Nat} {x : Nat} (h : x ∈ ids) : valV (cm ids) (.inl (x : Int)) = some (nV (ids.idxOf x)) := by
  have go : ∀ (l : List Nat) (n : Nat), x ∈ l → valV ((l.zipIdx n).map fun q => ((Sum.inl (q.1 : Int) : Key), nV q.2)) (.inl (x : Int)) = some (nV (n + l.idxOf x)) := by
    intro l
    induction l with
    | nil => intro n h; cases h
    | cons y l ih =>
      intro n h
      rw [List.zipIdx_cons, List.map_cons]
      by_cases e : y = x
      · subst e
        rw [valV_pos rfl]
        simp
      · rw [valV_neg (fun z => e (Int.ofNat.inj (Sum.inl.inj z)))]
        have h' : x ∈ l := by
          rcases List.mem_cons.mp h with q | q
          · exact absurd q.symm e
          · exact q
        rw [ih (n + 1) h', List.idxOf_cons, show (y == x) = false from by simp [e]]
        congr 2
        simp
        omega
  have := go ids 0 h
  rw [Nat.zero_add] at this
  exact this
theorem cm_not {ids : List Nat} {x : Nat} (h : x ∉ ids) : valV (cm ids) (.inl (x : Int)) = none := by
  have go : ∀ (l : List Nat) (n : Nat), x ∉ l → valV ((l.zipIdx n).map fun q => ((Sum.inl (q.1 : Int) : Key), nV q.2)) (.inl (x : Int)) = none := by
    intro l
    induction l with
    | nil => intro n h; rfl
    | cons y l ih =>
      intro n h
      rw [List.zipIdx_cons, List.map_cons, valV_neg (fun z => h (by
        have e : y = x := Int.ofNat.inj (Sum.inl.inj z)
        rw [e]
        exact List.mem_cons_self))]
      exact ih (n + 1) fun z => h (List.mem_cons_of_mem _ z)
  exact go ids 0 h
theorem cm_some {ids : List Nat} {x : Nat} : (valV (cm ids) (.inl (x : Int))).isSome = decide (x ∈ ids) := by
  by_cases h : x ∈ ids
  · rw [cm_get h, decide_eq_true h]
    rfl
  · rw [cm_not h, decide_eq_false h]
    rfl
theorem cm_put {ids : List Nat} {x : Nat} (h : x ∉ ids) : putK (cm ids) (.inl (x : Int)) (nV ids.length) = cm (ids ++ [x]) := by
  rw [putK_new _ (cm_not h)]
  unfold cm
  rw [List.zipIdx_append, List.map_append]
  simp
def spNamed : Sp := fun vs H Q _ => ∃ (a l c : Addr) (r : Row) (O ids : List Nat), vs = [.ref a, .ref l, .ref c] ∧ H a = some (.tup (vals r)) ∧ H l = some (.lst (O.map nV)) ∧ H c = some (.dK (cm ids)) ∧
  (∀ p ∈ r.parts, p < O.length ∧ O.getD p 0 ∈ ids) ∧ ∀ p H', Same H H' → H' p = some (.tup (vals (mapR (fun p => ids.idxOf (O.getD p 0)) r))) → Q (.ref p) H'
abbrev sNamed : Stmt := top 7
abbrev nNamed : List Str := ["row", "ones", "came", "part"]
theorem scNamed : FnScope nNamed ["row", "ones", "came"] (defScope sNamed) := ⟨rfl, rfl, rfl, by decide +kernel, rfl, by decide +kernel, by decide +kernel⟩
theorem fn_named {f : Addr} {fd : FuncData} (F : Fun K "named_anew" "named_anew" sNamed f fd) (N : Names K w mg) (fP : Fn P w K mg base "parts_of" 1 ["row"] spParts) : FnOk P w K mg base CX0 2 f fd ["row", "ones", "came"] spNamed := by
  obtain ⟨fp, fpd, GP, mP, kP, bP⟩ := fP
  refine F.ok scNamed (fun vs H Q E h => ?_) (fun cdv A outer s H vs Q E hr h => ?_)
  · obtain ⟨a, l, c, r, O, ids, rfl, _⟩ := h
    rfl
  · obtain ⟨a, l, c, r, O, ids, rfl, ha, hl, hc, hp, k⟩ := h
    have hu := hu_of hr
    refine ⟨_, pss_cons (ps_if (pt_cmpR op_eq (pe_ix ix_tup (pv 0) pe_int (fun _ _ => rfl)) pe_str (nomark _)) (pss_one (ps_ret (pv 0))) pss_nil)
      (pss_one (ps_ret (pe_op op_catT (pe_tup (pa_cons (pe_ix ix_tup (pv 0) pe_int (fun _ _ => rfl)) pa_nil))
        (pe_callTy call_tuple_of (by rfl) N.tuple (by decide +kernel) (pa_cons
          (pe_lc (own := [("part", 3)]) (g := gName 3) (tt := tYes) (te := tDGet (tVar 2) (tOp (rIxL K) (tVar 1) (tVar 3))) rfl scNamed.nd (pi_tup (pe_call GP hr rfl mP kP bP .nil pass0 (pa_cons (pv 0) pa_nil)))
            (blkOk_by (own := [("part", 3)]) (N := nNamed) (sc := defScope sNamed) (by decide +kernel)) (fun _ _ _ _ _ => pg_name (i := 3) scNamed.nd rfl (Or.inl rfl)) (fun _ _ _ _ _ => pts_nil)
            (fun _ _ _ _ _ => pe_dget hu (pv 2) (pe_ix ix_list (pv 1) (pv 3) (fun _ _ => rfl)) (fun _ _ => rfl))) pa_nil))))), ?_⟩
    refine ⟨_, rfl, a, _, _, _, rfl, rfl, SqT.of ha, vals_head r, rfl, _, rfl, ?_⟩
    rw [word_letter]
    cases c' : isLetter r with
    | true =>
      refine iteT ⟨_, rfl, k a H (Same.refl H) ?_⟩
      rw [mapR_leaf c']
      exact ha
    | false =>
      refine iteF ⟨_, rfl, a, _, _, _, rfl, rfl, SqT.of ha, vals_head r, (by show 1 ≤ sizeLine; decide), fun q hq => ?_⟩
      refine ⟨_, rfl, a, r, rfl, by rw [upd_ne (ne_of_none ha hq)]; exact ha, fun pp H4 s4 hpp0 hpp => ?_⟩
      refine ⟨pp, rfl, ⟨_, SqT.of hpp⟩, fun D hD => ?_⟩
      have s34 : Same H H4 := (same_new hq).trans s4
      refine lc_tup (K := K) (a := pp) (xs := r.parts.map nV) (fun j H5 => Same H4 H5 ∧ H5 D = some (.lst ((r.parts.take j).map fun p => nV (ids.idxOf (O.getD p 0))))) ⟨same_new hD, upd_same⟩ (fun j H5 _ q => SqT.of (q.1 _ _ hpp)) ?_ ?_
      · rintro j y H5 hy ⟨s5, hD5⟩
        obtain ⟨p, ep, rfl⟩ : ∃ p, r.parts[j]? = some p ∧ y = nV p := by
          rw [List.getElem?_map] at hy
          cases e2 : r.parts[j]? with
          | none =>
            rw [e2] at hy
            cases hy
          | some p =>
            rw [e2] at hy
            exact ⟨p, rfl, (Option.some.inj hy).symm⟩
        obtain ⟨hpi, hpm⟩ := hp p (List.mem_of_getElem? ep)
        refine ⟨rfl, _, rfl, _, rfl, _, rfl, l, _, _, _, rfl, rfl, SqL.of (s5 _ _ (s34 _ _ hl)), atN (getD_some hpi), c, nV (ids.idxOf (O.getD p 0)), rfl, ?_, _, hD5, ?_, ?_⟩
        · rw [← cm_get hpm]
          exact DGet.k (k := Sum.inl ((O.getD p 0 : Nat) : Int)) (s5 _ _ (s34 _ _ hc))
        · have := parts_few r
          rw [List.length_map, List.length_take]
          exact lineLt (by omega)
        · refine ⟨fun b o eb => ?_, ?_⟩
          · rw [upd_ne (ne_of_none eb hD)]
            exact s5 b o eb
          · rw [upd_same, take_snoc ep]
            simp
      · rintro H5 ⟨s5, hD5⟩
        rw [List.length_map, List.take_length] at hD5
        refine ⟨D, _, rfl, .inl ⟨SqL.of hD5, fun t ht => ?_⟩⟩
        have hq5 := s5 _ _ (s4 _ _ (upd_same (H := H) (a := q) (o := .tup [V.str (word r)])))
        refine ⟨q, t, [.str (word r)], _, rfl, rfl, SqT.of (by rw [upd_ne (ne_of_none hq5 ht)]; exact hq5), SqT.of upd_same, by simp, ?_, fun z => ?_, fun z u hu' => ?_⟩
        · have := parts_few r
          rw [List.length_map]
          exact lineBig (by simp; omega)
        · refine k q _ ((s34.trans s5).trans (same_new ht)) ?_
          rw [upd_ne (ne_of_none hq5 ht), hq5, vals_map c', z]
          rfl
        · refine k u _ (((s34.trans s5).trans (same_new ht)).trans (same_new hu')) ?_
          rw [upd_same, vals_map c']
end
end K30
end
section
set_option maxHeartbeats 1000000
/-! K30F3: tidied. -/
namespace K30
open PySem PySem.Spec PyProof.Rows L2

theorem _root_.L2.Same.upd0 {H H2 : Hp} {x : Addr} {o : HO} (s : Same H H2) (h : H x = none) : Same H (upd H2 x o) := fun b u e => by
  rw [upd_ne (ne_of_none e h)]
  exact s b u e
theorem upd_tup {H : Hp} {x : Addr} {o : HO} (h : ∀ xs, H x ≠ some (.tup xs)) : ∀ b xs, H b = some (.tup xs) → upd H x o b = some (.tup xs) := fun b xs e => by
  by_cases hb : b = x
  · rw [hb] at e
    exact absurd e (h xs)
  · rw [upd_ne hb]
    exact e
theorem mem_map_nV {l : List Nat} {j : Nat} {y : V} (h : (l.map nV)[j]? = some y) : ∃ p, l[j]? = some p ∧ y = nV p := by
  rw [List.getElem?_map] at h
  cases e : l[j]? with
  | none =>
    rw [e] at h
    cases h
  | some p =>
    rw [e] at h
    exact ⟨p, rfl, (Option.some.inj h).symm⟩
def spTidied : Sp := fun vs H Q _ => ∃ (e : Addr) (rs : List Row), vs = [.ref e] ∧ ExprAt H e rs ∧ WF rs ∧ 0 < rs.length ∧ rs.length ≤ 1000000 ∧ ∀ p H', Same H H' → ExprAt H' p (canon (root rs)) → Q (.ref p) H'
theorem atLast {l : List Nat} (h : 0 < l.length) : atI (l.map nV) (-1) = some (nV (l.getD (l.length - 1) 0)) := by
  have hne : l ≠ [] := fun z => by
    rw [z] at h
    exact absurd h (Nat.lt_irrefl _)
  have e := List.dropLast_concat_getLast hne
  have hg : l.getD (l.length - 1) 0 = l.getLast hne := by
    rw [List.getD_eq_getElem?_getD, List.getElem?_eq_getElem (by omega), List.getLast_eq_getElem hne]
    rfl
  rw [hg]
  have e2 : l.map nV = l.dropLast.map nV ++ [nV (l.getLast hne)] := by
    rw [← List.map_singleton, ← List.map_append, e]
  rw [e2]
  exact atI_last _ _
/-- between two turns of the sweep -/
def TidW (H : Hp) (rs : List Row) (e oA cA rA pA : Addr) (root : Nat) (m : Nat) (σ : L2.St) (H2 : Hp) : Prop := ∃ (pile ids : List Nat) (rows : List Row) (a5 a6 a7 : Option V),
  σ = [some (.ref e), some (.ref oA), some (.ref cA), some (.ref rA), some (.ref pA), a5, a6, a7] ∧ Same H H2 ∧ H2 oA = some (.lst ((onesOf rs).map nV)) ∧ H2 cA = some (.dK (cm ids)) ∧ ListAt H2 rA rows ∧
  H2 pA = some (.lst (pile.reverse.map nV)) ∧ Sw rs (one rs) pile ids rows root ∧ m = mu rs pile ids
section
variable {P : Program} {w : World} {K : PySem.W.Frag} {mg : Str → Option Value} {base : Heap}
abbrev sTidied : Stmt := top 8
abbrev nTidied : List Str := ["expression", "ones", "came", "rows", "pile", "at", "left", "part"]
theorem scTidied : FnScope nTidied ["expression"] (defScope sTidied) := ⟨rfl, rfl, rfl, by decide +kernel, rfl, by decide +kernel, by decide +kernel⟩
theorem fn_tidied {f : Addr} {fd : FuncData} (F : Fun K "tidied" "tidied" sTidied f fd) (N : Names K w mg) (fP : Fn P w K mg base "parts_of" 1 ["row"] spParts) (fO : Fn P w K mg base "ones_of" 2 ["expression"] spOnes)
    (fA : Fn P w K mg base "named_anew" 2 ["row", "ones", "came"] spNamed) : FnOk P w K mg base CX0 3 f fd ["expression"] spTidied := by
  obtain ⟨fp, fpd, GP, mP, kP, bP⟩ := fP
  obtain ⟨fo, fod, GO, mO, kO, bO⟩ := fO
  obtain ⟨fa, fad, GA, mA, kA, bA⟩ := fA
  refine F.ok scTidied (fun vs H Q E h => ?_) (fun cdv A outer s H vs Q E hr h => ?_)
  · obtain ⟨e, rs, rfl, _⟩ := h
    rfl
  · obtain ⟨e, rs, rfl, hE, wf, pos, few, k⟩ := h
    have hu := hu_of hr
    have hr1 : Room 1 _ := hr.mono (by decide)
    refine ⟨_, pss_cons (ps_set (i := 1) scTidied.nd rfl (Or.inr rfl) (pe_call GO hr rfl mO kO bO .nil pass0 (pa_cons (pv 0) pa_nil))) <|
      pss_cons (ps_set (i := 2) scTidied.nd rfl (Or.inr rfl) pe_dnewK) <|
      pss_cons (ps_set (i := 3) scTidied.nd rfl (Or.inl rfl) (pe_lst pa_nil)) <|
      pss_cons (ps_set (i := 4) scTidied.nd rfl (Or.inl rfl) (pe_lst (pa_cons (pe_ix ix_list (pv 1) (pe_un un_neg pe_int) (fun _ _ => rfl)) pa_nil))) <|
      pss_cons (ps_while PassesOwn.never (pt_cmpR op_gt (pe_callB call_len_seq (by rfl) N.len PySem.boot_len (pa_cons (pv 4) pa_nil)) pe_int (nomark _)) <|
        pss_cons (ps_set (i := 5) scTidied.nd rfl (Or.inl rfl) (pe_ix ix_list (pv 4) (pe_un un_neg pe_int) (fun _ _ => rfl))) <|
        pss_cons (ps_setLc (i := 6) (own := [("part", 7)]) (g := gName 7) (tt := tB (tDNotIn (tOp (rIxL K) (tVar 1) (tVar 7)) (tVar 2))) (te := tOp (rIxL K) (tVar 1) (tVar 7)) rfl scTidied.nd rfl rfl (sw_true rfl rfl rfl (by decide +kernel))
          (pi_tup (pe_call GP hr1 rfl mP kP bP .nil pass0 (pa_cons (pe_ix ix_tup (pv 0) (pv 5) (fun _ _ => rfl)) pa_nil)))
          (blkOk_by (own := [("part", 7)]) (N := nTidied) (sc := defScope sTidied) (by decide +kernel)) (fun _ _ _ _ _ => pg_name (i := 7) scTidied.nd rfl (Or.inl rfl))
          (fun _ _ _ _ _ => pts_one (pt_cmp (pc_dnotin hu (pe_ix ix_list (pv 1) (pv 7) (fun _ _ => rfl)) (pv 2)) rfl)) (fun _ _ _ _ _ => pe_ix ix_list (pv 1) (pv 7) (fun _ _ => rfl))) <|
        pss_one (ps_if (pt_cmpR op_gt (pe_callB call_len_seq (by rfl) N.len PySem.boot_len (pa_cons (pv 6) pa_nil)) pe_int (nomark _))
          (pss_one (ps_expr (pe_bm PySem.F.plainAttrs_list PySem.F.slot_list_append PySem.F.type_list_append mt_append (pv 4) (pa_cons (pe_ix ix_list (pv 6) pe_int (fun _ _ => rfl)) pa_nil))))
          (pss_cons (ps_expr (pe_bm0 PySem.F.plainAttrs_list PySem.F.slot_list_pop PySem.F.type_list_pop mt_pop (pv 4))) <|
          pss_cons (ps_dput hu (pv 2) (pv 5) (pe_callB call_len_seq (by rfl) N.len PySem.boot_len (pa_cons (pv 3) pa_nil)) rfl) <|
          pss_one (ps_expr (pe_bm PySem.F.plainAttrs_list PySem.F.slot_list_append PySem.F.type_list_append mt_append (pv 3)
            (pa_cons (pe_call GA hr rfl mA kA bA .nil pass0 (pa_cons (pe_ix ix_tup (pv 0) (pv 5) (fun _ _ => rfl)) (pa_cons (pv 1) (pa_cons (pv 2) pa_nil)))) pa_nil)))))) <|
      pss_one (ps_ret (pe_callTy call_tuple_of (by rfl) N.tuple (by decide +kernel) (pa_cons (pv 3) pa_nil))), ?_⟩
    obtain ⟨as, hEe, hAs⟩ := hE
    refine ⟨_, rfl, e, rs, rfl, ⟨as, hEe, hAs⟩, wf, few, fun oA H1 s1 o0 hO => ?_⟩
    intro cA hcA
    refine ⟨Nat.zero_le _, fun rA hrA => ?_⟩
    have nco : oA ≠ cA := ne_of_none hO hcA
    have ncr : cA ≠ rA := fun z => by
      rw [← z, upd_same] at hrA
      cases hrA
    rw [upd_ne ncr.symm] at hrA
    have nor : oA ≠ rA := ne_of_none hO hrA
    have ok := ok_ones wf
    have olen : (onesOf rs).length = rs.length := (onesAll_len rs).1
    refine ⟨_, rfl, _, rfl, oA, _, _, _, rfl, rfl, SqL.of (by rw [upd_ne nor, upd_ne nco]; exact hO), atLast (by omega), (by show 1 ≤ sizeLine; decide), fun pA hpA => ?_⟩
    have nrp : rA ≠ pA := fun z => by
      rw [← z, upd_same] at hpA
      cases hpA
    rw [upd_ne nrp.symm] at hpA
    have ncp : cA ≠ pA := fun z => by
      rw [← z, upd_same] at hpA
      cases hpA
    rw [upd_ne ncp.symm] at hpA
    have nop : oA ≠ pA := ne_of_none hO hpA
    have c0 : H cA = none := s1.free hcA
    have r0 : H rA = none := s1.free hrA
    have p0 : H pA = none := s1.free hpA
    rw [olen]
    have hroot : one rs (rs.length - 1) < rs.length := by
      have := ok.le (rs.length - 1) (by omega)
      omega
    refine ⟨TidW H rs e oA cA rA pA (one rs (rs.length - 1)), ⟨_, [one rs (rs.length - 1)], [], [], none, none, none, rfl, ((s1.upd0 c0).upd0 r0).upd0 p0, ?_, ?_, ⟨[], ?_, RowsAt.nil _⟩, upd_same, Sw.start hroot (ok.idem _ (by omega)), rfl⟩, ?_⟩
    · rw [upd_ne nop, upd_ne nor, upd_ne nco]
      exact hO
    · rw [upd_ne ncp, upd_ne ncr]
      exact upd_same
    · rw [upd_ne nrp]
      exact upd_same
    rintro m σ H2 ⟨pile, ids, rows, a5, a6, a7, rfl, s2, hO2, hC2, hR2, hP2, sw, rfl⟩
    have room := sw.room
    have rlen := sw.len
    refine ⟨_, rfl, pA, _, rfl, .inl (SqL.of hP2), _, _, rfl, rfl, _, rfl, ?_⟩
    cases pile with
    | nil =>
      rw [show decide ((0 : Int) < ((([] : List Nat).reverse.map nV).length : Nat)) = false from rfl]
      refine iteF ?_
      obtain ⟨bs, hb, hB⟩ := hR2
      refine ⟨_, rfl, rA, _, rfl, .inl ⟨SqL.of hb, fun p hp => k p _ (s2.trans (same_new hp)) ⟨bs, upd_same, ?_⟩⟩⟩
      have er := sw.done
      rw [ok.tr _ (by omega)] at er
      rw [show canon (root rs) = rows from er.symm]
      exact hB.same (same_new hp)
    | cons q r =>
      have hlen : (((q :: r).reverse.map nV).length : Int) = ((r.length + 1 : Nat) : Int) := by simp
      rw [hlen, decide_eq_true (show (0 : Int) < ((r.length + 1 : Nat) : Int) by omega)]
      refine iteT ⟨fun σ' H' => ∃ m', m' < mu rs (q :: r) ids ∧ TidW H rs e oA cA rA pA (one rs (rs.length - 1)) m' σ' H', fun _ _ h => h, ?_⟩
      have eP : (q :: r).reverse.map nV = r.reverse.map nV ++ [nV q] := by simp
      rw [eP] at hP2
      obtain ⟨hq, hqo, hqn⟩ := sw.pcan q List.mem_cons_self
      have er : rs[q]? = some (rs.getD q .nothing) := getD_row hq
      have hw := wf q _ er
      obtain ⟨a, ea, ha⟩ := hAs.get er
      have hE2 := s2 _ _ hEe
      refine ⟨_, rfl, _, rfl, pA, _, _, nV q, rfl, rfl, SqL.of hP2, atI_last _ _, ?_⟩
      refine ⟨_, rfl, _, rfl, e, _, _, .ref a, rfl, rfl, SqT.of hE2, atRef ea, a, _, rfl, s2 _ _ ha, fun pp H3 s3 pp0 hpp => ?_⟩
      refine ⟨pp, rfl, ⟨_, SqT.of hpp⟩, fun D hD => ?_⟩
      refine lc_tup (K := K) (a := pp) (xs := (rs.getD q .nothing).parts.map nV) (fun j H5 => Same H3 H5 ∧ H5 D = some (.lst (((((rs.getD q .nothing).parts.take j).map (one rs)).filter fun p => !decide (p ∈ ids)).map nV)))
        ⟨same_new hD, upd_same⟩ (fun j H5 _ q => SqT.of (q.1 _ _ hpp)) ?_ ?_
      · rintro j y H5 hy ⟨s5, hD5⟩
        obtain ⟨p, ep, rfl⟩ := mem_map_nV hy
        have hpq := hw p (List.mem_of_getElem? ep)
        have few2 : ((((rs.getD q .nothing).parts.take j).map (one rs)).filter fun p => !decide (p ∈ ids)).length ≤ 2 := by
          have h1 := parts_few (rs.getD q .nothing)
          have h2 := List.length_filter_le (fun p => !decide (p ∈ ids)) (((rs.getD q .nothing).parts.take j).map (one rs))
          rw [List.length_map, List.length_take] at h2
          omega
        have hO5 := s5 _ _ (s3 _ _ hO2)
        refine ⟨rfl, _, rfl, _, rfl, oA, _, _, nV (one rs p), rfl, rfl, SqL.of hO5, atN (getD_some (by omega)), _, rfl, cA, _, rfl, DGet.k (k := Sum.inl ((one rs p : Nat) : Int)) (s5 _ _ (s3 _ _ hC2)), _, rfl, ?_⟩
        rw [cm_some, take_snoc ep, List.map_append, List.filter_append]
        by_cases hm : one rs p ∈ ids
        · rw [decide_eq_true hm]
          refine iteF ⟨s5, ?_⟩
          simp [hm]
          simpa using hD5
        · rw [decide_eq_false hm]
          refine iteT ⟨_, rfl, _, rfl, oA, _, _, nV (one rs p), rfl, rfl, SqL.of hO5, atN (getD_some (by omega)), _, hD5, ?_, ?_, ?_⟩
          · rw [List.length_map]
            exact lineLt (by omega)
          · intro b o eb
            rw [upd_ne (ne_of_none eb hD)]
            exact s5 b o eb
          · rw [upd_same]
            simp [hm]
      · rintro H5 ⟨s5, hD5⟩
        rw [List.length_map, List.take_length] at hD5
        have hD5 : H5 D = some (.lst ((left rs (one rs) ids q).map nV)) := hD5
        have s25 : Same H2 H5 := s3.trans s5
        have sH5 : Same H H5 := s2.trans s25
        refine ⟨_, rfl, D, _, rfl, .inl (SqL.of hD5), _, _, rfl, rfl, _, rfl, ?_⟩
        cases hL : left rs (one rs) ids q with
        | cons p l' =>
          rw [hL] at hD5
          rw [show decide ((0 : Int) < (((p :: l').map nV).length : Nat)) = true from decide_eq_true (by simp)]
          obtain ⟨sw', hmu⟩ := sw.push ok hL
          have hP5 := s25 _ _ hP2
          refine iteT ⟨_, rfl, .inl ⟨rfl, _, SqL.of hP5⟩, _, rfl, D, _, _, nV p, rfl, rfl, SqL.of hD5, atI_nat (j := 0) rfl, pA, _, _, rfl, rfl, hP5, ?_, ?_⟩
          · rw [List.length_append, List.length_map, List.length_reverse]
            simp only [List.length_cons, List.length_nil] at room ⊢
            exact lineLt (by omega)
          · obtain ⟨bs, hb, hB⟩ := hR2
            refine ⟨_, hmu, _, _, rows, _, _, _, rfl, sH5.upd0 p0, by rw [upd_ne nop]; exact s25 _ _ hO2, by rw [upd_ne ncp]; exact s25 _ _ hC2, ⟨bs, by rw [upd_ne nrp]; exact s25 _ _ hb, (hB.same s25).keep (upd_tup fun xs z => by rw [hP5] at z; cases z)⟩, ?_, sw', rfl⟩
            rw [upd_same]
            simp
        | nil =>
          rw [show decide ((0 : Int) < ((([] : List Nat).map nV).length : Nat)) = false from rfl]
          obtain ⟨sw', hmu, hin⟩ := sw.pop ok hL
          have hP5 := s25 _ _ hP2
          have hC5 := s25 _ _ hC2
          obtain ⟨bs, hb, hB⟩ := hR2
          have hb5 := s25 _ _ hb
          refine iteF ⟨_, rfl, .inl ⟨rfl, _, SqL.of hP5⟩, pA, _, nV q, rfl, rfl, hP5, by simp, ?_⟩
          -- came[at] = len(rows)
          have t6 := upd_tup (H := H5) (x := pA) (o := .lst (r.reverse.map nV ++ [nV q]).dropLast) fun xs z => by rw [hP5] at z; cases z
          refine ⟨_, rfl, rA, _, rfl, .inl (SqL.of (by rw [upd_ne nrp]; exact hb5)), _, rfl, _, rfl, cA, _, rfl, DPut.k (k := Sum.inl ((q : Nat) : Int)) (kvs := cm ids) (by rw [upd_ne ncp]; exact hC5) (by rw [cm, List.length_map, List.length_zipIdx]; exact lineLt (by omega)), ?_⟩
          have eput : putK (cm ids) (.inl ((q : Nat) : Int)) (V.int (((bs.map V.ref).length : Nat) : Int)) = cm (ids ++ [q]) := by
            rw [← cm_put hqn]
            have : (bs.map V.ref).length = ids.length := by rw [List.length_map, hB.1, rlen]
            rw [this]
            rfl
          rw [eput]
          have t7 := upd_tup (H := upd H5 pA (.lst (r.reverse.map nV ++ [nV q]).dropLast)) (x := cA) (o := .dK (cm (ids ++ [q]))) fun xs z => by rw [upd_ne ncp, hC5] at z; cases z
          have hb7 : upd (upd H5 pA (.lst (r.reverse.map nV ++ [nV q]).dropLast)) cA (.dK (cm (ids ++ [q]))) rA = some (.lst (bs.map V.ref)) := by
            rw [upd_ne ncr.symm, upd_ne nrp]
            exact hb5
          have sH7 : Same H (upd (upd H5 pA (.lst (r.reverse.map nV ++ [nV q]).dropLast)) cA (.dK (cm (ids ++ [q])))) := (sH5.upd0 p0).upd0 c0
          have ha7 := sH7 _ _ ha
          have hO7 : upd (upd H5 pA (.lst (r.reverse.map nV ++ [nV q]).dropLast)) cA (.dK (cm (ids ++ [q]))) oA = some (.lst ((onesOf rs).map nV)) := by
            rw [upd_ne nco, upd_ne nop]
            exact s25 _ _ hO2
          refine ⟨_, rfl, .inl ⟨rfl, _, SqL.of hb7⟩, _, rfl, _, rfl, e, _, _, .ref a, rfl, rfl, SqT.of (sH7 _ _ hEe), atRef ea, _, rfl, _, rfl, ?_⟩
          refine ⟨a, oA, cA, _, onesOf rs, ids ++ [q], rfl, ha7, hO7, upd_same, fun p hp => ⟨?_, List.mem_append_left _ (hin p hp)⟩, fun np H8 s8 hnp => ?_⟩
          · have := hw p hp
            omega
          · have hb8 := s8 _ _ hb7
            refine ⟨rA, _, .ref np, rfl, rfl, hb8, ?_, ?_⟩
            · rw [List.length_map, hB.1, ← rlen]
              exact lineLt (by omega)
            · have t9 := upd_tup (H := H8) (x := rA) (o := .lst (bs.map V.ref ++ [.ref np])) fun xs z => by rw [hb8] at z; cases z
              have enew : mapR (fun p => (ids ++ [q]).idxOf ((onesOf rs).getD p 0)) (rs.getD q .nothing) = newRow rs (one rs) ids q := by
                refine mapR_congr fun p hp => ?_
                show (ids ++ [q]).idxOf (one rs p) = ids.idxOf (one rs p)
                rw [List.idxOf_append, if_pos (hin p hp)]
              refine ⟨_, hmu, r, ids ++ [q], _, _, _, _, rfl, (sH7.trans s8).upd0 r0, ?_, ?_, ⟨bs ++ [np], ?_, ?_⟩, ?_, sw', rfl⟩
              · rw [upd_ne nor]
                exact s8 _ _ hO7
              · rw [upd_ne ncr]
                exact s8 _ _ upd_same
              · rw [upd_same]
                simp
              · refine RowsAt.snoc ?_ ?_
                · exact ((((hB.same s25).keep t6).keep t7).same s8).keep t9
                · rw [← enew]
                  exact t9 _ _ hnp
              · rw [upd_ne nrp.symm]
                have := s8 pA _ (by rw [upd_ne ncp.symm]; exact upd_same)
                rw [this]
                simp
end
end K30
end
section
set_option maxHeartbeats 1000000
/-! K30F4: bracketed, size_of. -/
namespace K30
open PySem PySem.Spec PyProof.Rows L2

def bR : Row → Nat
  | .bin o _ _ => ob o
  | .not _ => 3
  | _ => 4
theorem bR_bd (rs : List Row) (r : Row) : bR r = bd (treeAt rs r) := by cases r <;> rfl
theorem Names.bind {K : PySem.W.Frag} {w : World} {mg : Str → Option Value} (N : Names K w mg) : ∃ d, mg "BINDS" = some (.ref d) ∧ ∀ r, KDct K w d (word r) (nV (bR r)) := by
  obtain ⟨d, h0, h1, h2, h3, h4, h5, h6, h7⟩ := N.binds
  refine ⟨d, h0, fun r => ?_⟩
  cases r with
  | bin o i j => cases o <;> assumption
  | _ => assumption
/-- whether the k-th part stands in brackets -/
def brk1 (rs : List Row) (r : Row) (k p : Nat) : Bool := decide (bR (rs.getD p .nothing) < bR r) || (decide (k = 1) && decide (bR (rs.getD p .nothing) = bR r))
def brk (rs : List Row) (r : Row) : List Bool := r.parts.zipIdx.map fun q => brk1 rs r q.2 q.1
def spBrk : Sp := fun vs H Q _ => ∃ (e a : Addr) (rs : List Row) (r : Row), vs = [.ref e, .ref a] ∧ ExprAt H e rs ∧ H a = some (.tup (vals r)) ∧ (∀ p ∈ r.parts, p < rs.length) ∧
  ∀ p H', Same H H' → H p = none → H' p = some (.lst ((brk rs r).map V.bl)) → Q (.ref p) H'
theorem zipIdx_take {α : Type} {l : List α} {j : Nat} {x : α} (h : l[j]? = some x) : (l.zipIdx.take (j + 1)) = l.zipIdx.take j ++ [(x, j)] := by
  refine take_snoc ?_
  rw [List.getElem?_zipIdx, h]
  simp
theorem dec_nV {i j : Nat} : decide (nV i = nV j) = decide (i = j) := by
  unfold nV
  rw [Bool.eq_iff_iff]
  simp
  omega
theorem dec_lt {i j : Nat} : decide ((i : Int) < (j : Int)) = decide (i < j) := by
  rw [Bool.eq_iff_iff]
  simp
section
variable {P : Program} {w : World} {K : PySem.W.Frag} {mg : Str → Option Value} {base : Heap}
abbrev sBrk : Stmt := top 15
abbrev nBrk : List Str := ["rows", "row", "own", "found", "k", "part", "theirs"]
theorem scBrk : FnScope nBrk ["rows", "row"] (defScope sBrk) := ⟨rfl, rfl, rfl, by decide +kernel, rfl, by decide +kernel, by decide +kernel⟩
theorem fn_brk {f : Addr} {fd : FuncData} (F : Fun K "bracketed" "bracketed" sBrk f fd) (N : Names K w mg) (fP : Fn P w K mg base "parts_of" 1 ["row"] spParts) : FnOk P w K mg base CX0 2 f fd ["rows", "row"] spBrk := by
  obtain ⟨fp, fpd, GP, mP, kP, bP⟩ := fP
  obtain ⟨bd, hbd, hb⟩ := N.bind
  refine F.ok scBrk (fun vs H Q E h => ?_) (fun cdv A outer s H vs Q E hr h => ?_)
  · obtain ⟨e, a, rs, r, rfl, _⟩ := h
    rfl
  · obtain ⟨e, a, rs, r, rfl, hE, ha, hp, k⟩ := h
    obtain ⟨as, hEe, hAs⟩ := hE
    refine ⟨_, pss_cons (ps_set (i := 2) scBrk.nd rfl (Or.inl rfl) (pe_ix ix_kdict (pe_glob (v := .ref bd) rfl hbd rfl) (pe_ix ix_tup (pv 1) pe_int (fun _ _ => rfl)) (fun _ _ => rfl))) <|
      pss_cons (ps_set (i := 3) scBrk.nd rfl (Or.inl rfl) (pe_lst pa_nil)) <|
      pss_cons (ps_for PassesOwn.never rfl (K30X.pi_enumT rfl N.enumerate (pa_cons (pe_call GP hr rfl mP kP bP .nil pass0 (pa_cons (pv 1) pa_nil)) pa_nil)) (pg_tup rfl (pgs_cons (pg_name (i := 4) scBrk.nd rfl (Or.inl rfl)) (pgs_cons (pg_name (i := 5) scBrk.nd rfl (Or.inl rfl)) pgs_nil))) <|
        pss_cons (ps_set (i := 6) scBrk.nd rfl (Or.inl rfl) (pe_ix ix_kdict (pe_glob (v := .ref bd) rfl hbd rfl) (pe_ix ix_tup (pe_ix ix_tup (pv 0) (pv 5) (fun _ _ => rfl)) pe_int (fun _ _ => rfl)) (fun _ _ => rfl))) <|
        pss_one (ps_expr (pe_bm PySem.F.plainAttrs_list PySem.F.slot_list_append PySem.F.type_list_append mt_append (pv 3)
          (pa_cons (pe_or (pe_cmpR op_lt (pv 6) (pv 2) (nomark _)) (pe_one (pe_and (pe_cmpR op_eq (pv 4) pe_int (nomark _)) (pe_one (pe_cmpR op_eq (pv 6) (pv 2) (nomark _)))))) pa_nil)))) <|
      pss_one (ps_ret (pv 3)), ?_⟩
    refine ⟨_, rfl, a, _, _, _, rfl, rfl, SqT.of ha, vals_head r, bd, _, _, rfl, rfl, hb r, ?_⟩
    refine ⟨Nat.zero_le _, fun l hl => ?_⟩
    have s0 : Same H (upd H l (.lst [])) := same_new hl
    refine ⟨_, rfl, a, r, rfl, s0 _ _ ha, fun pp H1 s1 pp0 hpp => ?_⟩
    have s01 : Same H H1 := s0.trans s1
    refine ⟨pp, _, rfl, hpp, ?_⟩
    refine for_it K30X.walk_g (fun j σ H2 => ∃ a4 a5 a6, σ = [some (.ref e), some (.ref a), some (nV (bR r)), some (.ref l), a4, a5, a6] ∧ Same H H2 ∧ H2 pp = some (.tup (r.parts.map nV)) ∧ H2 l = some (.lst (((r.parts.zipIdx.take j).map fun q => brk1 rs r q.2 q.1).map V.bl)))
      ⟨none, none, none, rfl, s01, hpp, s1 _ _ upd_same⟩ (fun i σ H2 _ ⟨_, _, _, _, _, h, _⟩ => h) ?_ ?_
    · rintro j x σ H2 H3 hj ⟨a4, a5, a6, rfl, s2, hp2, hl2⟩ ⟨T, xs, rfl, hT, rfl, ⟨x, hx, rfl⟩⟩
      obtain ⟨p, ep, rfl⟩ := mem_map_nV hx
      have hpl := hp p (List.mem_of_getElem? ep)
      have er : rs[p]? = some (rs.getD p .nothing) := getD_row hpl
      obtain ⟨b, eb, hb'⟩ := hAs.get er
      have s3 : Same H2 (upd H2 T (.tup [V.int (j : Nat), nV p])) := same_new hT
      have s23 : Same H (upd H2 T (.tup [V.int (j : Nat), nV p])) := s2.trans s3
      have hl3 := s3 _ _ hl2
      refine ⟨T, _, rfl, SqT.of upd_same, rfl, _, _, rfl, _, _, rfl, rfl, ?_⟩
      refine ⟨_, rfl, _, rfl, e, _, _, .ref b, rfl, rfl, SqT.of (s23 _ _ hEe), atRef eb, b, _, _, _, rfl, rfl, SqT.of (s23 _ _ hb'), vals_head _, bd, _, _, rfl, rfl, hb _, ?_⟩
      refine ⟨_, rfl, .inl ⟨rfl, _, SqL.of hl3⟩, _, rfl, _, rfl, _, _, rfl, rfl, _, rfl, ?_⟩
      have fewl : (((r.parts.zipIdx.take j).map fun q => brk1 rs r q.2 q.1).map V.bl).length ≤ 2 := by
        have := parts_few r
        rw [List.length_map, List.length_map, List.length_take, List.length_zipIdx]
        omega
      -- what is appended
      have fin : ∀ c : Bool, c = brk1 rs r j p → (∃ l' xs y, V.ref l = V.ref l' ∧ [V.bl c] = [y] ∧ (upd H2 T (.tup [V.int (j : Nat), nV p])) l' = some (.lst xs) ∧ xs.length < sizeLine ∧
          ∃ a4 a5 a6, ([some (.ref e), some (.ref a), some (nV (bR r)), some (.ref l), some (.int (j : Nat)), some (nV p), some (nV (bR (rs.getD p .nothing)))] : L2.St) = [some (.ref e), some (.ref a), some (nV (bR r)), some (.ref l), a4, a5, a6] ∧ Same H (upd (upd H2 T (.tup [V.int (j : Nat), nV p])) l' (.lst (xs ++ [y]))) ∧
            (upd (upd H2 T (.tup [V.int (j : Nat), nV p])) l' (.lst (xs ++ [y]))) pp = some (.tup (r.parts.map nV)) ∧
            (upd (upd H2 T (.tup [V.int (j : Nat), nV p])) l' (.lst (xs ++ [y]))) l = some (.lst (((r.parts.zipIdx.take (j + 1)).map fun q => brk1 rs r q.2 q.1).map V.bl))) := fun c hc => by
        refine ⟨l, _, _, rfl, rfl, hl3, lineLt (by omega), _, _, _, rfl, s23.upd0 hl, ?_, ?_⟩
        · exact upd_tup (fun xs z => by rw [hl3] at z; cases z) _ _ (s3 _ _ hp2)
        · rw [upd_same, zipIdx_take ep, hc]
          simp
      rw [dec_lt]
      by_cases c1 : bR (rs.getD p .nothing) < bR r
      · rw [decide_eq_true c1]
        refine iteT (fin true ?_)
        unfold brk1
        rw [decide_eq_true c1]
        rfl
      · rw [decide_eq_false c1]
        refine iteF ⟨_, rfl, rfl, _, rfl, ?_⟩
        have ej : decide (V.int ((j : Nat) : Int) = V.int 1) = decide (j = 1) := dec_nV (i := j) (j := 1)
        rw [ej]
        by_cases c2 : j = 1
        · rw [decide_eq_true c2]
          refine iteT ⟨_, rfl, _, rfl, rfl, ?_⟩
          refine fin _ ?_
          unfold brk1
          rw [dec_nV, decide_eq_false c1, decide_eq_true c2]
          rfl
        · rw [decide_eq_false c2]
          refine iteF (fin false ?_)
          unfold brk1
          rw [decide_eq_false c1, decide_eq_false c2]
          rfl
    · rintro σ H2 ⟨a4, a5, a6, rfl, s2, hp2, hl2⟩
      have e1 : r.parts.zipIdx.take (r.parts.map nV).length = r.parts.zipIdx := by
        rw [List.take_of_length_le]
        simp
      rw [e1] at hl2
      exact ⟨_, rfl, k l H2 s2 hl hl2⟩

/-! ### size_of -/
/-- a row's size of its parts' sizes -/
def szR (rs : List Row) (p : Nat) : Nat := min (len (tree rs p)) (MOST + 1)
def addS (rs : List Row) (z : Nat) (q : Nat × Bool) : Nat := z + szR rs q.1 + 2 * (if q.2 then 1 else 0)
theorem tree_bR {rs : List Row} (wf : WF rs) {p : Nat} (hp : p < rs.length) : bR (rs.getD p .nothing) = bd (tree rs p) := by
  rw [bR_bd rs, tree_eq wf (getD_row hp)]
theorem len_parE (b : Bool) (s : List Nat) : (par b s).length = s.length + 2 * (if b then 1 else 0) := by
  unfold par
  cases b <;> simp
theorem size_row {rs : List Row} (wf : WF rs) {r : Row} (hp : ∀ p ∈ r.parts, p < rs.length) : min ((r.parts.zip (brk rs r)).foldl (addS rs) (markOf r).length) (MOST + 1) = min (len (treeAt rs r)) (MOST + 1) := by
  cases r with
  | nothing => rfl
  | blank => rfl
  | letter c => rfl
  | not i =>
    have hi := hp i (by simp [Row.parts])
    have e1 : (markOf (.not i)).length = 1 := by
      show Str.length "-" = 1
      decide +kernel
    rw [e1]
    show min (1 + szR rs i + 2 * (if brk1 rs (.not i) 0 i then 1 else 0)) (MOST + 1) = min (45 :: par (decide (bd (tree rs i) < 3)) (sho (tree rs i))).length (MOST + 1)
    have e2 : brk1 rs (.not i) 0 i = decide (bd (tree rs i) < 3) := by
      unfold brk1
      rw [tree_bR wf hi]
      show (decide (bd (tree rs i) < 3) || (decide ((0 : Nat) = 1) && decide (bd (tree rs i) = 3))) = _
      simp
    rw [e2, List.length_cons, len_parE]
    unfold szR len
    omega
  | bin o i j =>
    have hi := hp i (by simp [Row.parts])
    have hj := hp j (by simp [Row.parts])
    have e1 : (markOf (.bin o i j)).length = (mk o).length := by
      cases o
      · show Str.length "|" = 1
        decide +kernel
      · show Str.length "&" = 1
        decide +kernel
      · show Str.length "" = 0
        decide +kernel
    rw [e1]
    show min ((mk o).length + szR rs i + 2 * (if brk1 rs (.bin o i j) 0 i then 1 else 0) + szR rs j + 2 * (if brk1 rs (.bin o i j) 1 j then 1 else 0)) (MOST + 1) =
      min (par (decide (bd (tree rs i) < ob o)) (sho (tree rs i)) ++ mk o ++ par (decide (bd (tree rs j) < ob o + 1)) (sho (tree rs j))).length (MOST + 1)
    have e2 : brk1 rs (.bin o i j) 0 i = decide (bd (tree rs i) < ob o) := by
      unfold brk1
      rw [tree_bR wf hi]
      show (decide (bd (tree rs i) < ob o) || (decide ((0 : Nat) = 1) && decide (bd (tree rs i) = ob o))) = _
      simp
    have e3 : brk1 rs (.bin o i j) 1 j = decide (bd (tree rs j) < ob o + 1) := by
      unfold brk1
      rw [tree_bR wf hj]
      show (decide (bd (tree rs j) < ob o) || (decide (1 = 1) && decide (bd (tree rs j) = ob o))) = _
      rw [Bool.eq_iff_iff]
      simp
      omega
    rw [e2, e3, List.length_append, List.length_append, len_parE, len_parE]
    unfold szR len
    omega
theorem markOf_short (r : Row) : (markOf r).length ≤ 1 := by
  cases r with
  | bin o i j =>
    cases o
    · show Str.length "|" ≤ 1
      decide +kernel
    · show Str.length "&" ≤ 1
      decide +kernel
    · show Str.length "" ≤ 1
      decide +kernel
  | letter c => exact Nat.le_refl 1
  | nothing =>
    show Str.length "0" ≤ 1
    decide +kernel
  | blank =>
    show Str.length "." ≤ 1
    decide +kernel
  | not i =>
    show Str.length "-" ≤ 1
    decide +kernel
theorem zip_get {α β : Type} {xs : List α} {ys : List β} {j : Nat} {x : α} {y : β} (h1 : xs[j]? = some x) (h2 : ys[j]? = some y) : (xs.zip ys)[j]? = some (x, y) := by
  rw [List.getElem?_zip_eq_some]
  exact ⟨h1, h2⟩
theorem brk_len (rs : List Row) (r : Row) : (brk rs r).length = r.parts.length := by simp [brk]
theorem mem_map_bl {l : List Bool} {j : Nat} {y : V} (h : (l.map V.bl)[j]? = some y) : ∃ p, l[j]? = some p ∧ y = .bl p := by
  rw [List.getElem?_map] at h
  cases e : l[j]? with
  | none =>
    rw [e] at h
    cases h
  | some p =>
    rw [e] at h
    exact ⟨p, rfl, (Option.some.inj h).symm⟩
def spSize : Sp := fun vs H Q _ => ∃ (e : Addr) (rs : List Row), vs = [.ref e] ∧ ExprAt H e rs ∧ WF rs ∧ 0 < rs.length ∧ rs.length ≤ 1000000 ∧ ∀ H', Same H H' → Q (nV (min (len (root rs)) (MOST + 1))) H'
abbrev sSize : Stmt := top 16
abbrev nSize : List Str := ["rows", "sizes", "row", "size", "part", "within"]
theorem scSize : FnScope nSize ["rows"] (defScope sSize) := ⟨rfl, rfl, rfl, by decide +kernel, rfl, by decide +kernel, by decide +kernel⟩
theorem fn_size {f : Addr} {fd : FuncData} (F : Fun K "size_of" "size_of" sSize f fd) (N : Names K w mg) (fP : Fn P w K mg base "parts_of" 1 ["row"] spParts) (fM : Fn P w K mg base "mark_of" 1 ["row"] spMark)
    (fB : Fn P w K mg base "bracketed" 2 ["rows", "row"] spBrk) : FnOk P w K mg base CX0 3 f fd ["rows"] spSize := by
  obtain ⟨fp, fpd, GP, mP, kP, bP⟩ := fP
  obtain ⟨fm, fmd, GM, mM, kM, bM⟩ := fM
  obtain ⟨fb, fbd, GB, mB, kB, bB⟩ := fB
  obtain ⟨tm, hMost⟩ := N.most
  refine F.ok scSize (fun vs H Q E h => ?_) (fun cdv A outer s H vs Q E hr h => ?_)
  · obtain ⟨e, rs, rfl, _⟩ := h
    rfl
  · obtain ⟨e, rs, rfl, hE, wf, pos, few, k⟩ := h
    obtain ⟨as, hEe, hAs⟩ := hE
    have hr1 : Room 1 _ := hr.mono (by decide)
    refine ⟨_, pss_cons (ps_set (i := 1) scSize.nd rfl (Or.inl rfl) (pe_lst pa_nil)) <|
      pss_cons (ps_for PassesOwn.never rfl (pi_tup (pv 0)) (pg_name (i := 2) scSize.nd rfl (Or.inl rfl)) <|
        pss_cons (ps_set (i := 3) scSize.nd rfl (Or.inl rfl) (pe_callB call_len_str (by rfl) N.len PySem.boot_len (pa_cons (pe_call GM hr1 rfl mM kM bM .nil pass0 (pa_cons (pv 2) pa_nil)) pa_nil))) <|
        pss_cons (ps_for PassesOwn.never rfl (K30X.pi_zipTL rfl N.zip (pa_cons (pe_call GP hr1 rfl mP kP bP .nil pass0 (pa_cons (pv 2) pa_nil)) (pa_cons (pe_call GB hr rfl mB kB bB .nil pass0 (pa_cons (pv 0) (pa_cons (pv 2) pa_nil))) pa_nil)))
            (pg_tup rfl (pgs_cons (pg_name (i := 4) scSize.nd rfl (Or.inl rfl)) (pgs_cons (pg_name (i := 5) scSize.nd rfl (Or.inl rfl)) pgs_nil))) <|
          pss_one (ps_set (i := 3) scSize.nd rfl (Or.inl rfl) (pe_op op_add (pe_op op_add (pv 3) (pe_ix ix_list (pv 1) (pv 4) (fun _ _ => rfl))) (pe_op op_mul pe_int (pe_callTy call_int1 (by rfl) N.int (by decide +kernel) (pa_cons (pv 5) pa_nil)))))) <|
        pss_one (ps_expr (pe_bm PySem.F.plainAttrs_list PySem.F.slot_list_append PySem.F.type_list_append mt_append (pv 1)
          (pa_cons (pe_callB (call_min2 rfl) (by rfl) N.min (by decide +kernel) (pa_cons (pv 3) (pa_cons (pe_op op_add (pe_glob (v := .int 100000) rfl hMost ⟨_, rfl⟩) pe_int) pa_nil))) pa_nil)))) <|
      pss_one (ps_ret (pe_ix ix_list (pv 1) (pe_un un_neg pe_int) (fun _ _ => rfl))), ?_⟩
    refine ⟨Nat.zero_le _, fun l hl => ?_⟩
    have s0 : Same H (upd H l (.lst [])) := same_new hl
    have elen : (as.map V.ref).length = rs.length := by rw [List.length_map, hAs.1]
    refine ⟨_, rfl, e, rfl, ⟨_, SqT.of (s0 _ _ hEe)⟩, for_tup (K := K) (a := e) (xs := as.map V.ref) (fun i σ H2 => ∃ a2 a3 a4 a5, σ = [some (.ref e), some (.ref l), a2, a3, a4, a5] ∧ Same H H2 ∧ H2 l = some (.lst (((List.range i).map (szR rs)).map nV)))
      ⟨none, none, none, none, rfl, s0, upd_same⟩ (fun i σ H2 _ ⟨_, _, _, _, _, h, _⟩ => SqT.of (h _ _ hEe)) ?_ ?_⟩
    · rintro i x σ H2 hi ⟨a2, a3, a4, a5, rfl, s2, hl2⟩
      rw [List.getElem?_map] at hi
      have hir : i < as.length := by
        cases e2 : as[i]? with
        | none =>
          rw [e2] at hi
          cases hi
        | some a => exact (List.getElem?_eq_some_iff.mp e2).1
      rw [List.getElem?_eq_getElem hir] at hi
      have hi : V.ref as[i] = x := Option.some.inj hi
      subst hi
      have hir' : i < rs.length := by rw [← hAs.1]; exact hir
      have er : rs[i]? = some rs[i] := List.getElem?_eq_getElem hir'
      have ha := hAs.2 i _ _ (List.getElem?_eq_getElem hir) er
      have hw := wf i _ er
      have te := tree_eq wf er
      generalize rs[i] = r at er ha hw te
      generalize as[i] = a at ha
      have hpl : ∀ p ∈ r.parts, p < rs.length := fun p hp => by
        have := hw p hp
        omega
      refine ⟨_, rfl, a, r, rfl, s2 _ _ ha, _, rfl, lineBig (by have := markOf_short r; omega), ?_⟩
      refine ⟨_, rfl, a, r, rfl, s2 _ _ ha, fun pp H3 s3 pp0 hpp => ?_⟩
      have s23 : Same H H3 := s2.trans s3
      refine ⟨_, rfl, _, rfl, e, a, rs, r, rfl, ⟨as, s23 _ _ hEe, hAs.same s23⟩, s23 _ _ ha, hpl, fun bl H4 s4 bl0 hbl => ?_⟩
      have s24 : Same H H4 := s23.trans s4
      have zl : (r.parts.zip (brk rs r)).length = r.parts.length := by rw [List.length_zip, brk_len, Nat.min_self]
      refine ⟨pp, bl, _, _, rfl, s4 _ _ hpp, hbl, ?_⟩
      have hl4 := s4 _ _ (s3 _ _ hl2)
      refine for_it K30X.walk_g (fun j σ H5 => ∃ a4 a5, σ = [some (.ref e), some (.ref l), some (.ref a), some (nV (((r.parts.zip (brk rs r)).take j).foldl (addS rs) (markOf r).length)), a4, a5] ∧ Same H4 H5)
        ⟨_, _, rfl, Same.refl _⟩ (fun j σ H5 _ ⟨_, _, _, h⟩ => ⟨h _ _ (s4 _ _ hpp), h _ _ hbl⟩) ?_ ?_
      · rintro j x σ H5 H6 hj ⟨a4, a5, rfl, s5⟩ ⟨T, xs, rfl, hT, rfl, ⟨x, y, hx, hy, rfl⟩⟩
        obtain ⟨p, ep, rfl⟩ := mem_map_nV hx
        obtain ⟨b, eb, rfl⟩ := mem_map_bl hy
        have hpi := hw p (List.mem_of_getElem? ep)
        have s6 : Same H4 (upd H5 T (.tup [nV p, V.bl b])) := s5.trans (same_new hT)
        refine ⟨T, _, rfl, SqT.of upd_same, rfl, _, _, rfl, _, _, rfl, rfl, ?_⟩
        have esz : ((List.range i).map (szR rs))[p]? = some (szR rs p) := by
          rw [List.getElem?_map, List.getElem?_range hpi]
          rfl
        refine ⟨_, rfl, _, rfl, _, rfl, l, _, _, nV (szR rs p), rfl, rfl, SqL.of (s6 _ _ hl4), atN esz, _, _, rfl, rfl, ?_⟩
        have ez := take_snoc (zip_get ep eb)
        have eacc : V.int ((((r.parts.zip (brk rs r)).take j).foldl (addS rs) (markOf r).length : Nat) + (szR rs p : Nat) + 2 * (if b = true then 1 else 0)) = nV (((r.parts.zip (brk rs r)).take (j + 1)).foldl (addS rs) (markOf r).length) := by
          rw [ez, List.foldl_append]
          unfold nV
          simp only [List.foldl_cons, List.foldl_nil, addS]
          congr 1
          cases b <;> simp
        refine ⟨_, rfl, .inr ⟨_, rfl, _, _, rfl, rfl, .inl ⟨by decide, by decide⟩, _, _, rfl, rfl, some (nV p), some (.bl b), ?_, s6⟩⟩
        rw [← eacc]
        rfl
      · rintro σ H5 ⟨a4, a5, rfl, s5⟩
        have emin : min (r.parts.map nV).length ((brk rs r).map V.bl).length = (r.parts.zip (brk rs r)).length := by
          rw [zl, List.length_map, List.length_map, brk_len, Nat.min_self]
        rw [emin, List.take_length]
        have hl5 := s5 _ _ hl4
        refine ⟨_, rfl, .inl ⟨rfl, _, SqL.of hl5⟩, _, rfl, _, _, rfl, rfl, _, _, rfl, l, _, _, rfl, rfl, hl5, by rw [List.length_map, List.length_map, List.length_range]; exact lineLt (by omega), ?_⟩
        refine ⟨_, _, _, _, rfl, ((s24.trans s5)).upd0 hl, ?_⟩
        rw [upd_same, List.range_succ, List.map_append, List.map_append]
        have key := size_row wf hpl
        rw [← te] at key
        have last : V.int (if (100000 : Int) + 1 < (((r.parts.zip (brk rs r)).foldl (addS rs) (markOf r).length : Nat) : Int) then 100000 + 1 else (((r.parts.zip (brk rs r)).foldl (addS rs) (markOf r).length : Nat) : Int)) = nV (szR rs i) := by
          unfold szR
          rw [← key]
          unfold nV MOST
          split <;> (congr 1; omega)
        show _ = some (HO.lst (_ ++ [nV (szR rs i)]))
        rw [← last]
    · rintro σ H2 ⟨a2, a3, a4, a5, rfl, s2, hl2⟩
      rw [elen] at hl2
      have hlast := atLast (l := (List.range rs.length).map (szR rs)) (by rw [List.length_map, List.length_range]; exact pos)
      refine ⟨_, rfl, _, rfl, l, _, _, _, rfl, rfl, SqL.of hl2, hlast, ?_⟩
      have : ((List.range rs.length).map (szR rs)).getD (((List.range rs.length).map (szR rs)).length - 1) 0 = min (len (root rs)) (MOST + 1) := by
        rw [List.length_map, List.length_range, List.getD_eq_getElem?_getD, List.getElem?_map, List.getElem?_range (by omega)]
        rfl
      rw [this]
      exact k H2 s2
end
end K30
end
section
set_option maxHeartbeats 1000000
/-! K30F5: row_text, show_expression. -/
namespace K30
open PySem PySem.Spec PyProof.Rows L2

def mkL : Row → List Nat
  | .nothing => [48]
  | .blank => [46]
  | .letter c => [c]
  | .not _ => [45]
  | .bin o _ _ => mk o
theorem markOf_st (r : Row) : markOf r = st (mkL r) := by
  cases r with
  | bin o i j =>
    cases o
    · show ("|" : Str) = st [124]
      decide +kernel
    · show ("&" : Str) = st [38]
      decide +kernel
    · show ("" : Str) = st []
      decide +kernel
  | letter c => rfl
  | nothing =>
    show ("0" : Str) = st [48]
    decide +kernel
  | blank =>
    show ("." : Str) = st [46]
    decide +kernel
  | not i =>
    show ("-" : Str) = st [45]
    decide +kernel
theorem open_st : ("(" : Str) = st [40] := by decide +kernel
theorem shut_st : (")" : Str) = st [41] := by decide +kernel
/-- the text of a part -/
def ptx (rs : List Row) (q : Nat × Bool) : List Nat := par q.2 (sho (tree rs q.1))
def ptxs (rs : List Row) (r : Row) : List (List Nat) := (r.parts.zip (brk rs r)).map (ptx rs)
/-- a row's text of its parts' texts -/
theorem text_row {rs : List Row} (wf : WF rs) {r : Row} (hp : ∀ p ∈ r.parts, p < rs.length) :
    (∃ x y, ptxs rs r = [x, y] ∧ sho (treeAt rs r) = x ++ mkL r ++ y) ∨ (∃ x, ptxs rs r = [x] ∧ sho (treeAt rs r) = mkL r ++ x) ∨ (ptxs rs r = [] ∧ sho (treeAt rs r) = mkL r) := by
  cases r with
  | nothing => exact .inr (.inr ⟨rfl, rfl⟩)
  | blank => exact .inr (.inr ⟨rfl, rfl⟩)
  | letter c => exact .inr (.inr ⟨rfl, rfl⟩)
  | not i =>
    have hi := hp i (by simp [Row.parts])
    refine .inr (.inl ⟨_, rfl, ?_⟩)
    have e2 : brk1 rs (.not i) 0 i = decide (bd (tree rs i) < 3) := by
      unfold brk1
      rw [tree_bR wf hi]
      show (decide (bd (tree rs i) < 3) || (decide ((0 : Nat) = 1) && decide (bd (tree rs i) = 3))) = _
      simp
    show 45 :: par (decide (bd (tree rs i) < 3)) (sho (tree rs i)) = [45] ++ par (brk1 rs (.not i) 0 i) (sho (tree rs i))
    rw [e2]
    rfl
  | bin o i j =>
    have hi := hp i (by simp [Row.parts])
    have hj := hp j (by simp [Row.parts])
    have e2 : brk1 rs (.bin o i j) 0 i = decide (bd (tree rs i) < ob o) := by
      unfold brk1
      rw [tree_bR wf hi]
      show (decide (bd (tree rs i) < ob o) || (decide ((0 : Nat) = 1) && decide (bd (tree rs i) = ob o))) = _
      simp
    have e3 : brk1 rs (.bin o i j) 1 j = decide (bd (tree rs j) < ob o + 1) := by
      unfold brk1
      rw [tree_bR wf hj]
      show (decide (bd (tree rs j) < ob o) || (decide (1 = 1) && decide (bd (tree rs j) = ob o))) = _
      rw [Bool.eq_iff_iff]
      simp
      omega
    refine .inl ⟨_, _, rfl, ?_⟩
    show par (decide (bd (tree rs i) < ob o)) (sho (tree rs i)) ++ mk o ++ par (decide (bd (tree rs j) < ob o + 1)) (sho (tree rs j)) = par (brk1 rs (.bin o i j) 0 i) (sho (tree rs i)) ++ mk o ++ par (brk1 rs (.bin o i j) 1 j) (sho (tree rs j))
    rw [e2, e3]
theorem ptx_len {rs : List Row} (wf : WF rs) {r : Row} (hp : ∀ p ∈ r.parts, p < rs.length) {x : List Nat} (hx : x ∈ ptxs rs r) : x.length ≤ len (treeAt rs r) := by
  unfold len
  rcases text_row wf hp with ⟨a, b, e, h⟩ | ⟨a, e, h⟩ | ⟨e, h⟩
  · rw [e] at hx
    have : x = a ∨ x = b := by simpa using hx
    rw [h]
    rcases this with z | z <;> subst z <;> simp <;> omega
  · rw [e] at hx
    have : x = a := by simpa using hx
    rw [h, this]
    simp
  · rw [e] at hx
    cases hx
theorem par_len_ge (b : Bool) (s : List Nat) : s.length ≤ (par b s).length := by
  rw [len_parE]
  omega

def spRowText : Sp := fun vs H Q _ => ∃ (e a t : Addr) (rs : List Row) (r : Row) (ts : List Str), vs = [.ref e, .ref a, .ref t] ∧ ExprAt H e rs ∧ WF rs ∧ H a = some (.tup (vals r)) ∧ H t = some (.lst (ts.map V.str)) ∧
  (∀ p ∈ r.parts, p < rs.length ∧ ts[p]? = some (st (sho (tree rs p)))) ∧ len (treeAt rs r) ≤ MOST ∧ ∀ H', Same H H' → Q (.str (st (sho (treeAt rs r)))) H'
section
variable {P : Program} {w : World} {K : PySem.W.Frag} {mg : Str → Option Value} {base : Heap}
abbrev sRowText : Stmt := top 17
abbrev nRowText : List Str := ["rows", "row", "texts", "parts", "part", "within"]
theorem scRowText : FnScope nRowText ["rows", "row", "texts"] (defScope sRowText) := ⟨rfl, rfl, rfl, by decide +kernel, rfl, by decide +kernel, by decide +kernel⟩
theorem fn_rowtext {f : Addr} {fd : FuncData} (F : Fun K "row_text" "row_text" sRowText f fd) (N : Names K w mg) (fP : Fn P w K mg base "parts_of" 1 ["row"] spParts) (fM : Fn P w K mg base "mark_of" 1 ["row"] spMark)
    (fB : Fn P w K mg base "bracketed" 2 ["rows", "row"] spBrk) : FnOk P w K mg base CX0 3 f fd ["rows", "row", "texts"] spRowText := by
  obtain ⟨fp, fpd, GP, mP, kP, bP⟩ := fP
  obtain ⟨fm, fmd, GM, mM, kM, bM⟩ := fM
  obtain ⟨fb, fbd, GB, mB, kB, bB⟩ := fB
  refine F.ok scRowText (fun vs H Q E h => ?_) (fun cdv A outer s H vs Q E hr h => ?_)
  · obtain ⟨e, a, t, rs, r, ts, rfl, _⟩ := h
    rfl
  · obtain ⟨e, a, t, rs, r, ts, rfl, hE, wf, ha, ht, hts, hlen, k⟩ := h
    obtain ⟨as, hEe, hAs⟩ := hE
    have hr1 : Room 1 _ := hr.mono (by decide)
    refine ⟨_, pss_cons (ps_set (i := 3) scRowText.nd rfl (Or.inl rfl) (pe_lst pa_nil)) <|
      pss_cons (ps_for PassesOwn.never rfl (K30X.pi_zipTL rfl N.zip (pa_cons (pe_call GP hr1 rfl mP kP bP .nil pass0 (pa_cons (pv 1) pa_nil)) (pa_cons (pe_call GB hr rfl mB kB bB .nil pass0 (pa_cons (pv 0) (pa_cons (pv 1) pa_nil))) pa_nil)))
          (pg_tup rfl (pgs_cons (pg_name (i := 4) scRowText.nd rfl (Or.inl rfl)) (pgs_cons (pg_name (i := 5) scRowText.nd rfl (Or.inl rfl)) pgs_nil))) <|
        pss_one (ps_if (pt_val (pv 5))
          (pss_one (ps_expr (pe_bm PySem.F.plainAttrs_list PySem.F.slot_list_append PySem.F.type_list_append mt_append (pv 3) (pa_cons (pe_op op_add_str (pe_op op_add_str pe_str (pe_ix ix_list (pv 2) (pv 4) (fun _ _ => rfl))) pe_str) pa_nil))))
          (pss_one (ps_expr (pe_bm PySem.F.plainAttrs_list PySem.F.slot_list_append PySem.F.type_list_append mt_append (pv 3) (pa_cons (pe_ix ix_list (pv 2) (pv 4) (fun _ _ => rfl)) pa_nil)))))) <|
      pss_cons (ps_if (pt_cmpR op_eq (pe_callB call_len_seq (by rfl) N.len PySem.boot_len (pa_cons (pv 3) pa_nil)) pe_int (nomark _))
        (pss_one (ps_ret (pe_op op_add_str (pe_op op_add_str (pe_ix ix_list (pv 3) pe_int (fun _ _ => rfl)) (pe_call GM hr1 rfl mM kM bM .nil pass0 (pa_cons (pv 1) pa_nil))) (pe_ix ix_list (pv 3) pe_int (fun _ _ => rfl))))) pss_nil) <|
      pss_one (ps_ret (pe_op op_add_str (pe_call GM hr1 rfl mM kM bM .nil pass0 (pa_cons (pv 1) pa_nil)) (pe_join pe_str (pv 3)))), ?_⟩
    have hpl : ∀ p ∈ r.parts, p < rs.length := fun p hp => (hts p hp).1
    refine ⟨Nat.zero_le _, fun l hl => ?_⟩
    have s0 : Same H (upd H l (.lst [])) := same_new hl
    refine ⟨_, rfl, a, r, rfl, s0 _ _ ha, fun pp H3 s3 pp0 hpp => ?_⟩
    have s03 : Same H H3 := s0.trans s3
    refine ⟨_, rfl, _, rfl, e, a, rs, r, rfl, ⟨as, s03 _ _ hEe, hAs.same s03⟩, s03 _ _ ha, hpl, fun bl H4 s4 bl0 hbl => ?_⟩
    have s04 : Same H H4 := s03.trans s4
    have lbl : l ≠ bl := fun z => by
      have := s3 _ _ (upd_same (H := H) (a := l) (o := .lst []))
      rw [z, bl0] at this
      cases this
    have lpp : l ≠ pp := fun z => by
      rw [← z, upd_same] at pp0
      cases pp0
    refine ⟨pp, bl, _, _, rfl, s4 _ _ hpp, hbl, ?_⟩
    have hl4 := s4 _ _ (s3 _ _ (upd_same (H := H) (a := l) (o := .lst [])))
    have zl : (r.parts.zip (brk rs r)).length = r.parts.length := by rw [List.length_zip, brk_len, Nat.min_self]
    refine for_it K30X.walk_g (fun j σ H5 => ∃ a4 a5, σ = [some (.ref e), some (.ref a), some (.ref t), some (.ref l), a4, a5] ∧ Same H H5 ∧ H5 pp = some (.tup (r.parts.map nV)) ∧ H5 bl = some (.lst ((brk rs r).map V.bl)) ∧
        H5 l = some (.lst ((((r.parts.zip (brk rs r)).take j).map fun q => V.str (st (ptx rs q))))))
      ⟨_, _, rfl, s04, s4 _ _ hpp, hbl, hl4⟩ (fun j σ H5 _ ⟨_, _, _, _, h1, h2, _⟩ => ⟨h1, h2⟩) ?_ ?_
    · rintro j x σ H5 H6 hj ⟨a4, a5, rfl, s5, hp5, hb5, hl5⟩ ⟨T, xs, rfl, hT, rfl, ⟨x, y, hx, hy, rfl⟩⟩
      obtain ⟨p, ep, rfl⟩ := mem_map_nV hx
      obtain ⟨b, eb, rfl⟩ := mem_map_bl hy
      obtain ⟨hpi, htp⟩ := hts p (List.mem_of_getElem? ep)
      have s6 : Same H5 (upd H5 T (.tup [nV p, V.bl b])) := same_new hT
      have s06 : Same H (upd H5 T (.tup [nV p, V.bl b])) := s5.trans s6
      have ez := take_snoc (zip_get ep eb)
      have hmem : ptx rs (p, b) ∈ ptxs rs r := List.mem_map.mpr ⟨(p, b), List.mem_of_getElem? (zip_get ep eb), rfl⟩
      have hsz := ptx_len wf hpl hmem
      have hsz2 : (sho (tree rs p)).length ≤ MOST := Nat.le_trans (par_len_ge b _) (Nat.le_trans hsz hlen)
      have hat : atI (ts.map V.str) ((p : Nat) : Int) = some (.str (st (sho (tree rs p)))) := atI_nat (by rw [List.getElem?_map, htp]; rfl)
      have ht6 := s06 _ _ ht
      have hl6 := s6 _ _ hl5
      have fewl : (((r.parts.zip (brk rs r)).take j).map fun q => V.str (st (ptx rs q))).length ≤ 2 := by
        have := parts_few r
        rw [List.length_map, List.length_take]
        omega
      have fin : ∀ z : Str, z = st (ptx rs (p, b)) → ∃ l' xs y, V.ref l = V.ref l' ∧ [V.str z] = [y] ∧ (upd H5 T (.tup [nV p, V.bl b])) l' = some (.lst xs) ∧ xs.length < sizeLine ∧
          ∃ a4 a5, ([some (.ref e), some (.ref a), some (.ref t), some (.ref l), some (nV p), some (.bl b)] : L2.St) = [some (.ref e), some (.ref a), some (.ref t), some (.ref l), a4, a5] ∧ Same H (upd (upd H5 T (.tup [nV p, V.bl b])) l' (.lst (xs ++ [y]))) ∧
            (upd (upd H5 T (.tup [nV p, V.bl b])) l' (.lst (xs ++ [y]))) pp = some (.tup (r.parts.map nV)) ∧ (upd (upd H5 T (.tup [nV p, V.bl b])) l' (.lst (xs ++ [y]))) bl = some (.lst ((brk rs r).map V.bl)) ∧
            (upd (upd H5 T (.tup [nV p, V.bl b])) l' (.lst (xs ++ [y]))) l = some (.lst ((((r.parts.zip (brk rs r)).take (j + 1)).map fun q => V.str (st (ptx rs q))))) := fun z hz => by
        refine ⟨l, _, _, rfl, rfl, hl6, lineLt (by omega), _, _, rfl, s06.upd0 hl, ?_, ?_, ?_⟩
        · rw [upd_ne lpp.symm]
          exact s6 _ _ hp5
        · rw [upd_ne lbl.symm]
          exact s6 _ _ hb5
        · rw [upd_same, ez, hz]
          simp
      refine ⟨T, _, rfl, SqT.of upd_same, rfl, _, _, rfl, _, _, rfl, rfl, ?_⟩
      refine ⟨_, rfl, b, rfl, ?_⟩
      have mm : MOST = 100000 := rfl
      cases b with
      | true =>
        refine iteT ⟨_, rfl, .inl ⟨rfl, _, SqL.of hl6⟩, _, rfl, _, rfl, t, _, _, _, rfl, rfl, SqL.of ht6, hat, _, _, rfl, rfl, ?_, ?_⟩
        · rw [open_st, st_length, st_length]
          exact lineBig (by simp; omega)
        · refine ⟨_, _, rfl, rfl, ?_, ?_⟩
          · rw [open_st, st_append, shut_st, st_length, st_length]
            exact lineBig (by simp; omega)
          · refine fin _ ?_
            rw [open_st, st_append, shut_st, st_append]
            rfl
      | false => exact iteF ⟨_, rfl, .inl ⟨rfl, _, SqL.of hl6⟩, _, rfl, _, rfl, t, _, _, _, rfl, rfl, SqL.of ht6, hat, fin _ rfl⟩
    · rintro σ H5 ⟨a4, a5, rfl, s5, hp5, hb5, hl5⟩
      have emin : min (r.parts.map nV).length ((brk rs r).map V.bl).length = (r.parts.zip (brk rs r)).length := by
        rw [zl, List.length_map, List.length_map, brk_len, Nat.min_self]
      rw [emin, List.take_length] at hl5
      have hl5 : H5 l = some (.lst ((ptxs rs r).map fun x => V.str (st x))) := by
        rw [hl5]
        simp [ptxs]
      have ha5 := s5 _ _ ha
      have mm : MOST = 100000 := rfl
      refine ⟨_, rfl, l, _, rfl, .inl (SqL.of hl5), rfl, _, rfl, ?_⟩
      have ml := markOf_short r
      rcases text_row wf hpl with ⟨x, y, e1, e2⟩ | ⟨x, e1, e2⟩ | ⟨e1, e2⟩
      · unfold len at hlen
        rw [e2, List.length_append, List.length_append] at hlen
        rw [e1] at hl5 ⊢
        rw [show decide (V.int ((([x, y].map fun x => V.str (st x)).length : Nat) : Int) = V.int 2) = true from decide_eq_true rfl]
        refine iteT ⟨_, rfl, l, _, _, .str (st x), rfl, rfl, SqL.of hl5, atI_nat (j := 0) rfl, _, rfl, a, r, rfl, ha5, ?_⟩
        refine ⟨_, _, rfl, rfl, ?_, ?_⟩
        · rw [markOf_st, st_length, st_length]
          exact lineBig (by omega)
        · refine ⟨_, rfl, l, _, _, .str (st y), rfl, rfl, SqL.of hl5, atI_nat (j := 1) rfl, _, _, rfl, rfl, ?_, ?_⟩
          · rw [markOf_st, st_append, st_length, st_length, List.length_append]
            exact lineBig (by omega)
          · rw [markOf_st, st_append, st_append, ← e2]
            exact k H5 s5
      · unfold len at hlen
        rw [e2, List.length_append] at hlen
        rw [e1] at hl5 ⊢
        rw [show decide (V.int ((([x].map fun x => V.str (st x)).length : Nat) : Int) = V.int 2) = false from decide_eq_false (by simp)]
        refine iteF ⟨_, rfl, a, r, rfl, ha5, ⟨_, rfl⟩, _, rfl, _, l, [st x], rfl, rfl, .inl (SqL.of hl5), ?_, _, _, rfl, rfl, ?_, ?_⟩
        · show (st x).length + 0 + 1 * Str.length "" ≤ 16777216
          rw [st_length, show Str.length "" = 0 by decide +kernel]
          omega
        · show (markOf r).length + (st x).length ≤ sizeLine
          rw [markOf_st, st_length, st_length]
          exact lineBig (by omega)
        · show Q (.str (markOf r ++ st x)) H5
          rw [markOf_st, st_append, ← e2]
          exact k H5 s5
      · rw [e1] at hl5 ⊢
        rw [show decide (V.int (((([] : List (List Nat)).map fun x => V.str (st x)).length : Nat) : Int) = V.int 2) = false from decide_eq_false (by simp)]
        refine iteF ⟨_, rfl, a, r, rfl, ha5, ⟨_, rfl⟩, _, rfl, _, l, [], rfl, rfl, .inl (SqL.of hl5), ?_, _, _, rfl, rfl, ?_, ?_⟩
        · show 0 + 0 * _ ≤ 16777216
          omega
        · show (markOf r).length + Str.length (st []) ≤ sizeLine
          rw [st_length]
          exact lineBig (by simp; omega)
        · show Q (.str (markOf r ++ st [])) H5
          rw [markOf_st, st_append, List.append_nil, ← e2]
          exact k H5 s5
end
end K30
end
section
set_option maxHeartbeats 1000000
/-! K30F6: show_expression. -/
namespace K30
open PySem PySem.Spec PyProof.Rows L2

def spShow : Sp := fun vs H Q _ => ∃ (e : Addr) (rs : List Row), vs = [.ref e] ∧ ExprAt H e rs ∧ WF rs ∧ 0 < rs.length ∧ rs.length ≤ 1000000 ∧ len (root rs) ≤ MOST ∧ ∀ H', Same H H' → Q (.str (st (sho (root rs)))) H'
/-- rows of a tree are no longer than it -/
theorem size_tree_len : ∀ t : T, 1 ≤ len t
  | .nothing => Nat.le_refl 1
  | .blank => Nat.le_refl 1
  | .letter _ => Nat.le_refl 1
  | .not a => by
    show 1 ≤ (45 :: par (decide (bd a < 3)) (sho a)).length
    simp
  | .bin o a b => by
    have := size_tree_len a
    have h2 := par_len_ge (decide (bd a < ob o)) (sho a)
    unfold len at this
    show 1 ≤ (par (decide (bd a < ob o)) (sho a) ++ mk o ++ par (decide (bd b < ob o + 1)) (sho b)).length
    rw [List.length_append, List.length_append]
    omega
/-- what holds of each tree's length in tidied rows: no longer than the root's -/
theorem len_not_ge (a : T) : len a ≤ len (.not a) := by
  have := par_len_ge (decide (bd a < 3)) (sho a)
  show (sho a).length ≤ (45 :: par (decide (bd a < 3)) (sho a)).length
  rw [List.length_cons]
  omega
theorem len_bin_ge (o : Op) (a b : T) : len a ≤ len (.bin o a b) ∧ len b ≤ len (.bin o a b) := by
  have h1 := par_len_ge (decide (bd a < ob o)) (sho a)
  have h2 := par_len_ge (decide (bd b < ob o + 1)) (sho b)
  show (sho a).length ≤ (par (decide (bd a < ob o)) (sho a) ++ mk o ++ par (decide (bd b < ob o + 1)) (sho b)).length ∧ (sho b).length ≤ (par (decide (bd a < ob o)) (sho a) ++ mk o ++ par (decide (bd b < ob o + 1)) (sho b)).length
  rw [List.length_append, List.length_append]
  omega
theorem intern_len {L : List Row} {r : Row} {k : Nat} (hL : ∀ i, i < L.length → len (tree L i) ≤ k) (hr : len (treeAt L r) ≤ k) : ∀ i, i < (intern r L).1.length → len (tree (intern r L).1 i) ≤ k := by
  unfold intern
  split
  · exact hL
  · intro i hi
    show len (tree (L ++ [r]) i) ≤ k
    have hi' : i < (L ++ [r]).length := hi
    by_cases h : i < L.length
    · rw [tree_app h]
      exact hL i h
    · have e : i = L.length := by
        simp at hi'
        omega
      subst e
      rw [tree_last, treeR_eq]
      exact hr
theorem lay_len : ∀ (t : T) {L : List Row} {k : Nat}, G L → (∀ i, i < L.length → len (tree L i) ≤ k) → len t ≤ k → ∀ i, i < (lay t L).1.length → len (tree (lay t L).1 i) ≤ k
  | .nothing, L, k, g, hL, ht => intern_len (r := .nothing) hL ht
  | .blank, L, k, g, hL, ht => intern_len (r := .blank) hL ht
  | .letter c, L, k, g, hL, ht => intern_len (r := .letter c) hL ht
  | .not a, L, k, g, hL, ht => by
    have h := lay_laid a g
    refine intern_len (r := .not (lay a L).2) (lay_len a g hL (Nat.le_trans (len_not_ge a) ht)) ?_
    show len (.not _) ≤ k
    rw [h.tr]
    exact ht
  | .bin o a b, L, k, g, hL, ht => by
    have h := lay_laid a g
    have hh := lay_laid b h.g
    obtain ⟨l1, l2⟩ := len_bin_ge o a b
    refine intern_len (r := .bin o (lay a L).2 (lay b (lay a L).1).2) (lay_len b h.g (lay_len a g hL (Nat.le_trans l1 ht)) (Nat.le_trans l2 ht)) ?_
    show len (.bin o _ _) ≤ k
    rw [hh.tr, hh.trees h.lt, h.tr]
    exact ht
theorem canon_len (t : T) : ∀ i, i < (canon t).length → len (tree (canon t) i) ≤ len t := lay_len t G.nil (fun i hi => by simp at hi) (Nat.le_refl _)
section
variable {P : Program} {w : World} {K : PySem.W.Frag} {mg : Str → Option Value} {base : Heap}
abbrev sShow : Stmt := top 18
abbrev nShow : List Str := ["expression", "rows", "texts", "row"]
theorem scShow : FnScope nShow ["expression"] (defScope sShow) := ⟨rfl, rfl, rfl, by decide +kernel, rfl, by decide +kernel, by decide +kernel⟩
theorem fn_show {f : Addr} {fd : FuncData} (F : Fun K "show_expression" "show_expression" sShow f fd) (N : Names K w mg) (fT : Fn P w K mg base "tidied" 3 ["expression"] spTidied) (fS : Fn P w K mg base "size_of" 3 ["rows"] spSize)
    (fX : Fn P w K mg base "row_text" 3 ["rows", "row", "texts"] spRowText) : FnOk P w K mg base CX0 4 f fd ["expression"] spShow := by
  obtain ⟨ft, ftd, GT, mT, kT, bT⟩ := fT
  obtain ⟨fs, fsd, GS, mS, kS, bS⟩ := fS
  obtain ⟨fx, fxd, GX, mX, kX, bX⟩ := fX
  obtain ⟨tm, hMost⟩ := N.most
  refine F.ok scShow (fun vs H Q E h => ?_) (fun cdv A outer s H vs Q E hr h => ?_)
  · obtain ⟨e, rs, rfl, _⟩ := h
    rfl
  · obtain ⟨e, rs, rfl, hE, wf, pos, few, short, k⟩ := h
    refine ⟨_, pss_cons (ps_set (i := 1) scShow.nd rfl (Or.inl rfl) (pe_call GT hr rfl mT kT bT .nil pass0 (pa_cons (pv 0) pa_nil))) <|
      pss_cons (ps_if (pt_cmpR op_gt (pe_call GS hr rfl mS kS bS .nil pass0 (pa_cons (pv 1) pa_nil)) (pe_glob (v := .int 100000) rfl hMost ⟨_, rfl⟩) (nomark _)) (pss_one ps_never) pss_nil) <|
      pss_cons (ps_set (i := 2) scShow.nd rfl (Or.inl rfl) (pe_lst pa_nil)) <|
      pss_cons (ps_for PassesOwn.never rfl (pi_tup (pv 1)) (pg_name (i := 3) scShow.nd rfl (Or.inl rfl)) <|
        pss_one (ps_expr (pe_bm PySem.F.plainAttrs_list PySem.F.slot_list_append PySem.F.type_list_append mt_append (pv 2) (pa_cons (pe_call GX hr rfl mX kX bX .nil pass0 (pa_cons (pv 1) (pa_cons (pv 3) (pa_cons (pv 2) pa_nil)))) pa_nil)))) <|
      pss_one (ps_ret (pe_ix ix_list (pv 2) (pe_un un_neg pe_int) (fun _ _ => rfl))), ?_⟩
    have mm : MOST = 100000 := rfl
    have cl : (canon (root rs)).length ≤ rs.length := lay_count wf (by omega)
    have cp := canon_pos (root rs)
    have cw := canon_fine_wf (root rs)
    refine ⟨_, rfl, e, rs, rfl, hE, wf, pos, few, fun r H1 s1 hR => ?_⟩
    refine ⟨_, rfl, r, _, rfl, hR, cw, cp, by omega, fun H2 s2 => ?_⟩
    rw [canon_root]
    have esz : min (len (root rs)) (MOST + 1) = len (root rs) := by omega
    rw [esz]
    refine ⟨_, _, rfl, rfl, _, rfl, ?_⟩
    rw [show decide ((100000 : Int) < ((len (root rs) : Nat) : Int)) = false from decide_eq_false (by omega)]
    refine iteF ⟨Nat.zero_le _, fun l hl => ?_⟩
    have hR2 := hR.same s2
    obtain ⟨as, hRe, hAs⟩ := hR2
    have s3 : Same H2 (upd H2 l (.lst [])) := same_new hl
    have l0 : H l = none := (s1.trans s2).free hl
    have elen : (as.map V.ref).length = (canon (root rs)).length := by rw [List.length_map, hAs.1]
    refine ⟨_, rfl, r, rfl, ⟨_, SqT.of (s3 _ _ hRe)⟩, for_tup (K := K) (a := r) (xs := as.map V.ref) (fun i σ H3 => ∃ a3, σ = [some (.ref e), some (.ref r), some (.ref l), a3] ∧ Same H2 H3 ∧
        H3 l = some (.lst (((List.range i).map fun j => st (sho (tree (canon (root rs)) j))).map V.str))) ⟨none, rfl, s3, upd_same⟩ (fun i σ H3 _ ⟨_, _, h, _⟩ => SqT.of (h _ _ hRe)) ?_ ?_⟩
    · rintro i x σ H3 hi ⟨a3, rfl, s3, hl3⟩
      rw [List.getElem?_map] at hi
      have hir : i < as.length := by
        cases e2 : as[i]? with
        | none =>
          rw [e2] at hi
          cases hi
        | some a => exact (List.getElem?_eq_some_iff.mp e2).1
      rw [List.getElem?_eq_getElem hir] at hi
      have hi : V.ref as[i] = x := Option.some.inj hi
      subst hi
      have hir' : i < (canon (root rs)).length := by rw [← hAs.1]; exact hir
      have er : (canon (root rs))[i]? = some (canon (root rs))[i] := List.getElem?_eq_getElem hir'
      have ha := hAs.2 i _ _ (List.getElem?_eq_getElem hir) er
      have hw := cw i _ er
      have te := tree_eq cw er
      generalize (canon (root rs))[i] = q at er ha hw te
      generalize as[i] = a at ha
      refine ⟨_, rfl, .inl ⟨rfl, _, SqL.of hl3⟩, _, rfl, _, rfl, _, rfl, r, a, l, _, q, _, rfl, ⟨as, s3 _ _ hRe, hAs.same s3⟩, cw, s3 _ _ ha, hl3, fun p hp => ⟨?_, ?_⟩, ?_, fun H4 s4 => ?_⟩
      · have := hw p hp
        omega
      · rw [List.getElem?_map, List.getElem?_range (hw p hp)]
        rfl
      · rw [← te]
        exact Nat.le_trans (canon_len (root rs) i hir') short
      · have hl4 := s4 _ _ hl3
        refine ⟨l, _, _, rfl, rfl, hl4, by rw [List.length_map, List.length_map, List.length_range]; exact lineLt (by omega), _, rfl, ?_, ?_⟩
        · exact Same.upd0 (s3.trans s4) hl
        · rw [upd_same, ← te, List.range_succ]
          simp
    · rintro σ H3 ⟨a3, rfl, s3, hl3⟩
      rw [elen] at hl3
      have hn : (List.range (canon (root rs)).length).map (fun j => st (sho (tree (canon (root rs)) j))) = ((List.range ((canon (root rs)).length - 1)).map fun j => st (sho (tree (canon (root rs)) j))) ++ [st (sho (root rs))] := by
        have e1 : (canon (root rs)).length = ((canon (root rs)).length - 1) + 1 := by omega
        have e2 : tree (canon (root rs)) ((canon (root rs)).length - 1) = root rs := canon_root (root rs)
        rw [e1, List.range_succ, List.map_append]
        simp only [List.map_cons, List.map_nil, Nat.add_sub_cancel]
        rw [e2]
      rw [hn, List.map_append] at hl3
      exact ⟨_, rfl, _, rfl, l, _, _, _, rfl, rfl, SqL.of hl3, atI_last _ _, k H3 ((s1.trans s2).trans s3)⟩
end
end K30
end
section
set_option maxHeartbeats 1000000
/-! K30G1: the reader: __init__, lay, settle. -/
namespace K30
open PySem PySem.Spec PyProof.Rows L2

/-! ### its fields -/
abbrev xR : Str := "rows"
abbrev xY : Str := "ready"
abbrev xW : Str := "waiting"
def rf (l1 l2 l3 : Addr) : List (Str × V) := [(xR, .ref l1), (xY, .ref l2), (xW, .ref l3)]
theorem ne1 : ¬ (xR = xY) := by decide +kernel
theorem ne2 : ¬ (xR = xW) := by decide +kernel
theorem ne3 : ¬ (xY = xW) := by decide +kernel
theorem rf_put1 (l1 : Addr) : putF xR (.ref l1) [] = [(xR, V.ref l1)] := rfl
theorem rf_put2 (l1 l2 : Addr) : putF xY (.ref l2) [(xR, V.ref l1)] = [(xR, V.ref l1), (xY, V.ref l2)] := by
  show (if xR = xY then (xR, V.ref l2) :: [] else (xR, V.ref l1) :: putF xY (.ref l2) []) = _
  rw [if_neg ne1]
  rfl
theorem rf_put3 (l1 l2 l3 : Addr) : putF xW (.ref l3) [(xR, V.ref l1), (xY, V.ref l2)] = rf l1 l2 l3 := by
  show (if xR = xW then (xR, V.ref l3) :: [(xY, V.ref l2)] else (xR, V.ref l1) :: (if xY = xW then (xY, V.ref l3) :: [] else (xY, V.ref l2) :: putF xW (.ref l3) [])) = _
  rw [if_neg ne2, if_neg ne3]
  rfl
theorem lk_self {x : Str} {v : V} {r : List (Str × V)} : ((x, v) :: r).lookup x = some v := by simp [List.lookup]
theorem lk_ne {x y : Str} {v : V} {r : List (Str × V)} (h : ¬ y = x) : ((y, v) :: r).lookup x = r.lookup x := by
  have : (x == y) = false := by simpa using (fun e : x = y => h e.symm)
  simp [List.lookup, this]
theorem rf_rows (l1 l2 l3 : Addr) : (rf l1 l2 l3).lookup xR = some (V.ref l1) := lk_self
theorem rf_ready (l1 l2 l3 : Addr) : (rf l1 l2 l3).lookup xY = some (V.ref l2) := by
  unfold rf
  rw [lk_ne ne1]
  exact lk_self
theorem rf_waiting (l1 l2 l3 : Addr) : (rf l1 l2 l3).lookup xW = some (V.ref l3) := by
  unfold rf
  rw [lk_ne ne2, lk_ne ne3]
  exact lk_self
theorem rf_no {l1 l2 l3 : Addr} {m : Str} (h1 : ¬ xR = m) (h2 : ¬ xY = m) (h3 : ¬ xW = m) : (rf l1 l2 l3).lookup m = none := by
  unfold rf
  rw [lk_ne h1, lk_ne h2, lk_ne h3]
  rfl

/-! ### its state -/
def wordW : W → Str
  | .not => "not"
  | .bin o => wd o
  | .br => "("
def wV (w : W) : V := .str (wordW w)
structure RdAt (C : Addr) (H : Hp) (p dx l1 l2 l3 : Addr) (rows : List Row) (idx : List Nat) (ws : List W) : Prop where
  ins : H p = some (.ins C dx (rf l1 l2 l3))
  rows : ListAt H l1 rows
  ready : H l2 = some (.lst (idx.reverse.map nV))
  waiting : H l3 = some (.lst (ws.reverse.map wV))
  d12 : l1 ≠ l2
  d13 : l1 ≠ l3
  d23 : l2 ≠ l3
theorem RdAt.p1 {C : Addr} {H : Hp} {p dx l1 l2 l3 : Addr} {rows : List Row} {idx : List Nat} {ws : List W} (h : RdAt C H p dx l1 l2 l3 rows idx ws) : p ≠ l1 := by
  obtain ⟨as, e, _⟩ := h.rows
  exact ne_of h.ins e (by intro z; cases z)
theorem RdAt.p2 {C : Addr} {H : Hp} {p dx l1 l2 l3 : Addr} {rows : List Row} {idx : List Nat} {ws : List W} (h : RdAt C H p dx l1 l2 l3 rows idx ws) : p ≠ l2 := ne_of h.ins h.ready (by intro z; cases z)
theorem RdAt.p3 {C : Addr} {H : Hp} {p dx l1 l2 l3 : Addr} {rows : List Row} {idx : List Nat} {ws : List W} (h : RdAt C H p dx l1 l2 l3 rows idx ws) : p ≠ l3 := ne_of h.ins h.waiting (by intro z; cases z)
/-- all stays but new things -/
theorem RdAt.same {C : Addr} {H H' : Hp} {p dx l1 l2 l3 : Addr} {rows : List Row} {idx : List Nat} {ws : List W} (h : RdAt C H p dx l1 l2 l3 rows idx ws) (s : Same H H') : RdAt C H' p dx l1 l2 l3 rows idx ws :=
  ⟨s _ _ h.ins, h.rows.same s, s _ _ h.ready, s _ _ h.waiting, h.d12, h.d13, h.d23⟩
/-- the signs that wait are others -/
theorem RdAt.setW {C : Addr} {H : Hp} {p dx l1 l2 l3 : Addr} {rows : List Row} {idx : List Nat} {ws ws' : List W} (h : RdAt C H p dx l1 l2 l3 rows idx ws) : RdAt C (upd H l3 (.lst (ws'.reverse.map wV))) p dx l1 l2 l3 rows idx ws' := by
  obtain ⟨as, e, hA⟩ := h.rows
  exact ⟨by rw [upd_ne h.p3]; exact h.ins, ⟨as, by rw [upd_ne h.d13]; exact e, hA.keep (upd_tup fun xs z => by rw [h.waiting] at z; cases z)⟩, by rw [upd_ne h.d23]; exact h.ready, upd_same, h.d12, h.d13, h.d23⟩
/-- the ready parts are others -/
theorem RdAt.setR {C : Addr} {H : Hp} {p dx l1 l2 l3 : Addr} {rows : List Row} {idx idx' : List Nat} {ws : List W} (h : RdAt C H p dx l1 l2 l3 rows idx ws) : RdAt C (upd H l2 (.lst (idx'.reverse.map nV))) p dx l1 l2 l3 rows idx' ws := by
  obtain ⟨as, e, hA⟩ := h.rows
  exact ⟨by rw [upd_ne h.p2]; exact h.ins, ⟨as, by rw [upd_ne h.d12]; exact e, hA.keep (upd_tup fun xs z => by rw [h.ready] at z; cases z)⟩, upd_same, by rw [upd_ne h.d23.symm]; exact h.waiting, h.d12, h.d13, h.d23⟩
theorem rev_cons {α : Type} {f : α → V} (x : α) (l : List α) : (x :: l).reverse.map f = l.reverse.map f ++ [f x] := by simp

/-- the class as the top has written it -/
structure RdC (K : PySem.W.Frag) (mg : Str → Option Value) (C : Addr) : Prop where
  cl : Cls K C
  nR : NoAttr K C "rows"
  nY : NoAttr K C "ready"
  nW : NoAttr K C "waiting"
/-- a method of it that keeps a promise -/
def Mt (P : Program) (w : World) (K : PySem.W.Frag) (mg : Str → Option Value) (base : Heap) (C : Addr) (m : Str) (k : Nat) (ps : List Str) (sp : Sp) : Prop :=
  ∃ (f : Addr) (fd : FuncData), FnOk P w K mg base CX0 k f fd ps sp ∧ Meth K C m f ∧ Binds K fd ps []

def spInit (C : Addr) : Sp := fun vs H Q _ => ∃ (p dx : Addr), vs = [.ref p] ∧ H p = some (.ins C dx []) ∧ ∀ H' l1 l2 l3, Keep [p] H H' → H l1 = none → H l2 = none → H l3 = none → RdAt C H' p dx l1 l2 l3 [] [] [] → Q .non H'
def spLay (C : Addr) : Sp := fun vs H Q _ => ∃ (p dx l1 l2 l3 a : Addr) (rows : List Row) (idx : List Nat) (ws : List W) (r : Row), vs = [.ref p, .ref a] ∧ RdAt C H p dx l1 l2 l3 rows idx ws ∧ H a = some (.tup (vals r)) ∧ rows.length ≤ 1000000 ∧ idx.length ≤ 1000000 ∧
  ∀ H', Keep [l1, l2] H H' → RdAt C H' p dx l1 l2 l3 (rows ++ [r]) (rows.length :: idx) ws → Q .non H'
section
variable {P : Program} {w : World} {K : PySem.W.Frag} {mg : Str → Option Value} {base : Heap}
abbrev sInit : Stmt := inClass (top 19) 0
theorem scInit : FnScope ["self"] ["self"] (defScope sInit) := ⟨rfl, rfl, rfl, by decide +kernel, rfl, by decide +kernel, by decide +kernel⟩
theorem fn_init {f C : Addr} {fd : FuncData} (F : Fun K "__init__" "Reader.__init__" sInit f fd) (T : RdC K mg C) : FnOk P w K mg base CX0 1 f fd ["self"] (spInit C) := by
  refine F.ok scInit (fun vs H Q E h => ?_) (fun cdv A outer s H vs Q E hr h => ?_)
  · obtain ⟨p, dx, rfl, _⟩ := h
    rfl
  · obtain ⟨p, dx, rfl, hp, k⟩ := h
    refine ⟨_, pss_cons (ps_fld (pv 0) (pe_lst pa_nil) rfl) <| pss_cons (ps_fld (pv 0) (pe_lst pa_nil) rfl) <| pss_one (ps_fld (pv 0) (pe_lst pa_nil) rfl), ?_⟩
    refine ⟨Nat.zero_le _, fun l1 h1 => ?_⟩
    have n1 : p ≠ l1 := ne_of_none hp h1
    refine ⟨_, rfl, p, C, dx, [], rfl, (by rw [upd_ne n1]; exact hp), T.cl, T.nR, (by show 0 < 1000; decide), ?_⟩
    rw [rf_put1]
    refine ⟨Nat.zero_le _, fun l2 h2 => ?_⟩
    have n2 : p ≠ l2 := fun z => by
      rw [← z, upd_same] at h2
      cases h2
    rw [upd_ne n2.symm] at h2
    have n12 : l1 ≠ l2 := fun z => by
      rw [← z, upd_same] at h2
      cases h2
    rw [upd_ne n12.symm] at h2
    refine ⟨_, rfl, p, C, dx, _, rfl, (by rw [upd_ne n2]; exact upd_same), T.cl, T.nY, (by show 1 < 1000; decide), ?_⟩
    rw [rf_put2]
    refine ⟨Nat.zero_le _, fun l3 h3 => ?_⟩
    have n3 : p ≠ l3 := fun z => by
      rw [← z, upd_same] at h3
      cases h3
    rw [upd_ne n3.symm] at h3
    have n23 : l2 ≠ l3 := fun z => by
      rw [← z, upd_same] at h3
      cases h3
    rw [upd_ne n23.symm, upd_ne n3.symm] at h3
    have n13 : l1 ≠ l3 := fun z => by
      rw [← z, upd_same] at h3
      cases h3
    rw [upd_ne n13.symm] at h3
    refine ⟨_, rfl, p, C, dx, _, rfl, (by rw [upd_ne n3]; exact upd_same), T.cl, T.nW, (by show 2 < 1000; decide), ?_⟩
    rw [rf_put3]
    refine k _ l1 l2 l3 (fun b o hb e => ?_) h1 h2 h3 ⟨upd_same, ⟨[], ?_, RowsAt.nil _⟩, ?_, ?_, n12, n13, n23⟩
    · have hb : b ≠ p := by simpa using hb
      rw [upd_ne hb, upd_ne (ne_of_none e h3), upd_ne hb, upd_ne (ne_of_none e h2), upd_ne hb, upd_ne (ne_of_none e h1)]
      exact e
    · rw [upd_ne n1.symm, upd_ne n13, upd_ne n1.symm, upd_ne n12, upd_ne n1.symm]
      exact upd_same
    · rw [upd_ne n2.symm, upd_ne n23, upd_ne n2.symm]
      exact upd_same
    · rw [upd_ne n3.symm]
      exact upd_same

abbrev sLay : Stmt := inClass (top 19) 1
theorem scLay : FnScope ["self", "row"] ["self", "row"] (defScope sLay) := ⟨rfl, rfl, rfl, by decide +kernel, rfl, by decide +kernel, by decide +kernel⟩
theorem fn_lay {f C : Addr} {fd : FuncData} (F : Fun K "lay" "Reader.lay" sLay f fd) (N : Names K w mg) (T : RdC K mg C) : FnOk P w K mg base CX0 1 f fd ["self", "row"] (spLay C) := by
  refine F.ok scLay (fun vs H Q E h => ?_) (fun cdv A outer s H vs Q E hr h => ?_)
  · obtain ⟨p, dx, l1, l2, l3, a, rows, idx, ws, r, rfl, _⟩ := h
    rfl
  · obtain ⟨p, dx, l1, l2, l3, a, rows, idx, ws, r, rfl, R, ha, z1, z2, k⟩ := h
    refine ⟨_, pss_cons (ps_expr (pe_bm PySem.F.plainAttrs_list PySem.F.slot_list_append PySem.F.type_list_append mt_append (pe_fld (pv 0) rfl)
        (pa_cons (pe_callB call_len_seq (by rfl) N.len PySem.boot_len (pa_cons (pe_fld (pv 0) rfl) pa_nil)) pa_nil))) <|
      pss_one (ps_expr (pe_bm PySem.F.plainAttrs_list PySem.F.slot_list_append PySem.F.type_list_append mt_append (pe_fld (pv 0) rfl) (pa_cons (pv 1) pa_nil))), ?_⟩
    obtain ⟨as, e1, hA⟩ := R.rows
    have eL : V.int (((as.map V.ref).length : Nat) : Int) = nV rows.length := by rw [List.length_map, hA.1]; rfl
    refine ⟨_, rfl, p, C, dx, _, _, rfl, R.ins, T.cl, T.nY, rf_ready _ _ _, .inl ⟨rfl, _, SqL.of R.ready⟩, _, rfl, p, C, dx, _, _, rfl, R.ins, T.cl, T.nR, rf_rows _ _ _, l1, _, rfl, .inl (SqL.of e1), l2, _, _, rfl, rfl, R.ready, by rw [List.length_map, List.length_reverse]; exact lineLt (by omega), ?_⟩
    rw [eL, ← rev_cons]
    have R2 : RdAt C (upd H l2 (.lst ((rows.length :: idx).reverse.map nV))) p dx l1 l2 l3 rows (rows.length :: idx) ws := R.setR
    have e2 : (upd H l2 (.lst ((rows.length :: idx).reverse.map nV))) l1 = some (.lst (as.map V.ref)) := by
      rw [upd_ne R.d12]
      exact e1
    refine ⟨_, rfl, p, C, dx, _, _, rfl, R2.ins, T.cl, T.nR, rf_rows _ _ _, .inl ⟨rfl, _, SqL.of e2⟩, _, rfl, l1, _, .ref a, rfl, rfl, e2, by rw [List.length_map, hA.1]; exact lineLt (by omega), ?_⟩
    have t2 := upd_tup (H := H) (x := l2) (o := .lst ((rows.length :: idx).reverse.map nV)) fun xs z => by rw [R.ready] at z; cases z
    have t3 := upd_tup (H := upd H l2 (.lst ((rows.length :: idx).reverse.map nV))) (x := l1) (o := .lst (as.map V.ref ++ [.ref a])) fun xs z => by rw [e2] at z; cases z
    refine k _ (fun b o hb e => ?_) ⟨by rw [upd_ne R.p1]; exact R2.ins, ⟨as ++ [a], ?_, ?_⟩, by rw [upd_ne R.d12.symm]; exact R2.ready, by rw [upd_ne R.d13.symm]; exact R2.waiting, R.d12, R.d13, R.d23⟩
    · have hb : b ≠ l1 ∧ b ≠ l2 := by simpa using hb
      rw [upd_ne hb.1, upd_ne hb.2]
      exact e
    · rw [upd_same]
      simp
    · exact ((hA.keep t2).keep t3).snoc (t3 _ _ (t2 _ _ ha))
end
end K30
end
section
set_option maxHeartbeats 1000000
/-! K30G2: the reader: settle. -/
namespace K30
open PySem PySem.Spec PyProof.Rows L2

def need : List W → Nat
  | [] => 0
  | .bin _ :: ws => need ws + 1
  | _ :: ws => need ws
theorem settle_need (k : Nat) : ∀ (ws : List W) (rd : List T), need ws + 1 ≤ rd.length → need (settle k rd ws).2 + 1 ≤ (settle k rd ws).1.length
  | [], rd, h => by cases rd <;> exact h
  | .br :: ws, rd, h => by cases rd <;> exact h
  | .not :: ws, [], h => h
  | .not :: ws, x :: rd, h => by
    show need (if k ≤ 3 then settle k (.not x :: rd) ws else (x :: rd, .not :: ws)).2 + 1 ≤ (if k ≤ 3 then settle k (.not x :: rd) ws else (x :: rd, .not :: ws)).1.length
    split
    · exact settle_need k ws _ h
    · exact h
  | .bin o :: ws, [], h => h
  | .bin o :: ws, [y], h => h
  | .bin o :: ws, y :: x :: rd, h => by
    show need (if k ≤ ob o then settle k (.bin o x y :: rd) ws else (y :: x :: rd, .bin o :: ws)).2 + 1 ≤ (if k ≤ ob o then settle k (.bin o x y :: rd) ws else (y :: x :: rd, .bin o :: ws)).1.length
    split
    · refine settle_need k ws _ ?_
      simp only [need, List.length_cons] at h ⊢
      omega
    · exact h
/-- the reader's rows and stacks: S the trees that are ready, the signs that wait; of at most n rows and signs; fl: the last row is ready last -/
def RdS (C : Addr) (H : Hp) (p dx l1 l2 l3 : Addr) (S : Stk) (n : Nat) (fl : Bool) : Prop := ∃ (rows : List Row) (idx : List Nat), RdAt C H p dx l1 l2 l3 rows idx S.2 ∧ WF rows ∧ (∀ i ∈ idx, i < rows.length) ∧ S.1 = idx.map (tree rows) ∧
  rows.length + S.2.length ≤ n ∧ idx.length ≤ rows.length ∧ (fl = true → ∃ i r, idx = i :: r ∧ i + 1 = rows.length)
theorem RdS.same {C : Addr} {H H' : Hp} {p dx l1 l2 l3 : Addr} {S : Stk} {n : Nat} {fl : Bool} (h : RdS C H p dx l1 l2 l3 S n fl) (s : Same H H') : RdS C H' p dx l1 l2 l3 S n fl := by
  obtain ⟨rows, idx, R, r⟩ := h
  exact ⟨rows, idx, R.same s, r⟩
theorem RdS.more {C : Addr} {H : Hp} {p dx l1 l2 l3 : Addr} {S : Stk} {n m : Nat} {fl : Bool} (h : RdS C H p dx l1 l2 l3 S n fl) (hm : n ≤ m) : RdS C H p dx l1 l2 l3 S m fl := by
  obtain ⟨rows, idx, R, h1, h2, h3, h4, h5, h6⟩ := h
  exact ⟨rows, idx, R, h1, h2, h3, by omega, h5, h6⟩
theorem trees_same {rows : List Row} {r : Row} {idx : List Nat} (h : ∀ i ∈ idx, i < rows.length) : idx.map (tree (rows ++ [r])) = idx.map (tree rows) := List.map_congr_left fun i hi => tree_app (h i hi)
theorem wb_case (ws : List W) : ws = [] ∨ (∃ r, ws = .br :: r) ∨ (∃ r, ws = .not :: r) ∨ ∃ o r, ws = .bin o :: r := by
  cases ws with
  | nil => exact .inl rfl
  | cons w r =>
    cases w with
    | br => exact .inr (.inl ⟨r, rfl⟩)
    | not => exact .inr (.inr (.inl ⟨r, rfl⟩))
    | bin o => exact .inr (.inr (.inr ⟨o, r, rfl⟩))
def spSettle (C : Addr) : Sp := fun vs H Q _ => ∃ (p dx l1 l2 l3 : Addr) (S : Stk) (n k : Nat), vs = [.ref p, nV k] ∧ RdS C H p dx l1 l2 l3 S n true ∧ need S.2 + 1 ≤ S.1.length ∧ n ≤ 1000000 ∧
  ∀ H', Keep [l1, l2, l3] H H' → RdS C H' p dx l1 l2 l3 (settle k S.1 S.2) n true → Q .non H'
/-- between two turns -/
def SetW (C : Addr) (H : Hp) (p dx l1 l2 l3 : Addr) (S : Stk) (n k : Nat) (m : Nat) (σ : L2.St) (H2 : Hp) : Prop := ∃ (rows : List Row) (idx : List Nat) (ws : List W) (a2 a3 : Option V), σ = [some (.ref p), some (nV k), a2, a3] ∧ Keep [l1, l2, l3] H H2 ∧
  RdAt C H2 p dx l1 l2 l3 rows idx ws ∧ WF rows ∧ (∀ i ∈ idx, i < rows.length) ∧ settle k (idx.map (tree rows)) ws = settle k S.1 S.2 ∧ rows.length + ws.length ≤ n ∧ idx.length ≤ rows.length ∧ (∃ i r, idx = i :: r ∧ i + 1 = rows.length) ∧ need ws + 1 ≤ idx.length ∧ m = ws.length
theorem wl (l : List W) : (((l.reverse.map wV).length : Nat) : Int) = ((l.length : Nat) : Int) := by simp
theorem not_br : decide (V.str "not" = V.str "(") = false := by decide +kernel
theorem bin_br (o : Op) : decide (V.str (wd o) = V.str "(") = false := by cases o <;> decide +kernel
theorem bin_not (o : Op) : decide (V.str (wd o) = V.str "not") = false := by cases o <;> decide +kernel
theorem Names.bindW {K : PySem.W.Frag} {w : World} {mg : Str → Option Value} (N : Names K w mg) : ∃ d, mg "BINDS" = some (.ref d) ∧ KDct K w d "not" (nV 3) ∧ ∀ o, KDct K w d (wd o) (nV (ob o)) := by
  obtain ⟨d, h0, h1, h2, h3, h4, h5, h6, h7⟩ := N.binds
  refine ⟨d, h0, h4, fun o => ?_⟩
  cases o <;> assumption
section
variable {P : Program} {w : World} {K : PySem.W.Frag} {mg : Str → Option Value} {base : Heap}
abbrev sSettle : Stmt := inClass (top 19) 2
theorem scSettle : FnScope ["self", "least_bond", "word", "part"] ["self", "least_bond"] (defScope sSettle) := ⟨rfl, rfl, rfl, by decide +kernel, rfl, by decide +kernel, by decide +kernel⟩
theorem fn_settle {f C : Addr} {fd : FuncData} (F : Fun K "settle" "Reader.settle" sSettle f fd) (N : Names K w mg) (T : RdC K mg C) (mL : Mt P w K mg base C "lay" 1 ["self", "row"] (spLay C)) : FnOk P w K mg base CX0 2 f fd ["self", "least_bond"] (spSettle C) := by
  obtain ⟨fl, fld, GL, tL, bL⟩ := mL
  obtain ⟨bd, hbd, hb3, hbo⟩ := N.bindW
  refine F.ok scSettle (fun vs H Q E h => ?_) (fun cdv A outer s H vs Q E hr h => ?_)
  · obtain ⟨p, dx, l1, l2, l3, S, n, k, rfl, _⟩ := h
    rfl
  · obtain ⟨p, dx, l1, l2, l3, S, n, k, rfl, ⟨rows0, idx0, R0, wf0, hi0, eS, hn0, hl0, hla0⟩, hneed, few, q⟩ := h
    refine ⟨_, pss_one (ps_while PassesOwn.never (PW.pt (pw_and (pt_cmpR op_gt (pe_callB call_len_seq (by rfl) N.len PySem.boot_len (pa_cons (pe_fld (pv 0) rfl) pa_nil)) pe_int (nomark _))
        (pw_and (pt_cmpR op_ne (pe_ix ix_list (pe_fld (pv 0) rfl) (pe_un un_neg pe_int) (fun _ _ => rfl)) pe_str (nomark _))
        (pw_and1 (pt_cmpR op_ge (pe_ix ix_kdict (pe_glob (v := .ref bd) rfl hbd rfl) (pe_ix ix_list (pe_fld (pv 0) rfl) (pe_un un_neg pe_int) (fun _ _ => rfl)) (fun _ _ => rfl)) (pv 1) (nomark _)))))) <|
      pss_cons (ps_set (i := 2) scSettle.nd rfl (Or.inl rfl) (pe_bm0 PySem.F.plainAttrs_list PySem.F.slot_list_pop PySem.F.type_list_pop mt_pop (pe_fld (pv 0) rfl))) <|
      pss_cons (ps_set (i := 3) scSettle.nd rfl (Or.inl rfl) (pe_bm0 PySem.F.plainAttrs_list PySem.F.slot_list_pop PySem.F.type_list_pop mt_pop (pe_fld (pv 0) rfl))) <|
      pss_one (ps_if (pt_cmpR op_eq (pv 2) pe_str (nomark _))
        (pss_one (ps_expr (pe_meth (pv 0) T.cl tL GL hr bL .nil pass0 (pa_cons (pe_tup (pa_cons (pv 2) (pa_cons (pv 3) pa_nil))) pa_nil))))
        (pss_one (ps_expr (pe_meth (pv 0) T.cl tL GL hr bL .nil pass0 (pa_cons (pe_tup (pa_cons (pv 2) (pa_cons (pe_bm0 PySem.F.plainAttrs_list PySem.F.slot_list_pop PySem.F.type_list_pop mt_pop (pe_fld (pv 0) rfl)) (pa_cons (pv 3) pa_nil)))) pa_nil)))))), ?_⟩
    refine ⟨SetW C H p dx l1 l2 l3 S n k, ⟨_, rows0, idx0, S.2, none, none, rfl, Keep.refl _ _, R0, wf0, hi0, by rw [eS], hn0, hl0, hla0 rfl, by rw [eS, List.length_map] at hneed; exact hneed, rfl⟩, ?_⟩
    rintro m σ H2 ⟨rows, idx, ws, a2, a3, rfl, k2, R, wf, hi, eT, hn, hl, ⟨i, r, rfl, hlast⟩, hnd, rfl⟩
    have fini : settle k ((i :: r).map (tree rows)) ws = ((i :: r).map (tree rows), ws) → Q .non H2 := fun e => by
      refine q H2 k2 ⟨rows, i :: r, ?_, wf, hi, ?_, ?_, hl, fun _ => ⟨i, r, rfl, hlast⟩⟩
      · rw [← eT, e]
        exact R
      · rw [← eT, e]
      · rw [← eT, e]
        exact hn
    -- a row more: what a turn ends with
    have lay : ∀ (w : W) (ws' : List W) (row : Row) (idx' : List Nat) (H5 : Hp) (a2 a3 : Option V), ws = w :: ws' → (∀ p ∈ row.parts, p < rows.length) → (∀ i ∈ idx', i < rows.length) → idx'.length ≤ rows.length → need ws' ≤ idx'.length →
        settle k ((treeAt rows row) :: idx'.map (tree rows)) ws' = settle k S.1 S.2 → Keep [l1, l2, l3] H H5 → RdAt C H5 p dx l1 l2 l3 (rows ++ [row]) (rows.length :: idx') ws' →
        ∃ m', m' < ws.length ∧ SetW C H p dx l1 l2 l3 S n k m' [some (.ref p), some (nV k), a2, a3] H5 := fun w ws' row idx' H5 a2 a3 ew hp hi' hl' hnd' eT' k5 R5 => by
      subst ew
      simp only [List.length_cons] at hn
      refine ⟨ws'.length, Nat.lt_succ_self _, rows ++ [row], rows.length :: idx', ws', a2, a3, rfl, k5, R5, wf.snoc hp, fun j hj => ?_, ?_, by simp; omega, by simp; omega, ⟨_, _, rfl, by simp⟩, by simp; omega, rfl⟩
      · rcases List.mem_cons.mp hj with z | z
        · rw [z]
          simp
        · have := hi' j z
          simp
          omega
      · rw [List.map_cons, tree_last, treeR_eq, trees_same hi']
        exact eT'
    have e3 := R.waiting
    have e2 := R.ready
    refine ⟨_, rfl, p, C, dx, _, _, rfl, R.ins, T.cl, T.nW, rf_waiting _ _ _, l3, _, rfl, .inl (SqL.of e3), _, _, rfl, rfl, _, rfl, ?_⟩
    rw [wl]
    rcases wb_case ws with rfl | ⟨ws', rfl⟩ | ⟨ws', rfl⟩ | ⟨o, ws', rfl⟩
    · rw [show decide ((0 : Int) < ((([] : List W).length : Nat) : Int)) = false from rfl]
      exact iteF (iteF (fini rfl))
    · rw [decide_eq_true (show (0 : Int) < (((W.br :: ws').length : Nat) : Int) by simp)]
      rw [rev_cons] at e3
      refine iteT ⟨_, rfl, p, C, dx, _, _, rfl, R.ins, T.cl, T.nW, rf_waiting _ _ _, _, rfl, l3, _, _, _, rfl, rfl, SqL.of e3, atI_last _ _, rfl, _, rfl, ?_⟩
      rw [show decide (wV .br = V.str "(") = true from decide_eq_true rfl]
      exact iteF (iteF (fini rfl))
    · rw [decide_eq_true (show (0 : Int) < (((W.not :: ws').length : Nat) : Int) by simp)]
      rw [rev_cons] at e3
      refine iteT ⟨_, rfl, p, C, dx, _, _, rfl, R.ins, T.cl, T.nW, rf_waiting _ _ _, _, rfl, l3, _, _, _, rfl, rfl, SqL.of e3, atI_last _ _, rfl, _, rfl, ?_⟩
      rw [show decide (wV .not = V.str "(") = false from not_br]
      refine iteT ⟨_, rfl, p, C, dx, _, _, rfl, R.ins, T.cl, T.nW, rf_waiting _ _ _, _, rfl, l3, _, _, _, rfl, rfl, SqL.of e3, atI_last _ _, bd, _, _, rfl, rfl, hb3, _, rfl, _, _, rfl, rfl, _, rfl, ?_⟩
      by_cases c : k ≤ 3
      · rw [decide_eq_true (show ((k : Nat) : Int) ≤ ((3 : Nat) : Int) by omega)]
        refine iteT ⟨fun σ' H' => ∃ m', m' < (W.not :: ws').length ∧ SetW C H p dx l1 l2 l3 S n k m' σ' H', fun _ _ h => h, ?_⟩
        refine ⟨_, rfl, p, C, dx, _, _, rfl, R.ins, T.cl, T.nW, rf_waiting _ _ _, .inl ⟨rfl, _, SqL.of e3⟩, l3, _, wV .not, rfl, rfl, e3, by simp, ?_⟩
        rw [List.dropLast_concat]
        have R3 : RdAt C (upd H2 l3 (.lst (ws'.reverse.map wV))) p dx l1 l2 l3 rows (i :: r) ws' := R.setW
        have e2' := R3.ready
        rw [rev_cons] at e2'
        refine ⟨_, rfl, p, C, dx, _, _, rfl, R3.ins, T.cl, T.nY, rf_ready _ _ _, .inl ⟨rfl, _, SqL.of e2'⟩, l2, _, nV i, rfl, rfl, e2', by simp, ?_⟩
        rw [List.dropLast_concat]
        have R4 : RdAt C (upd (upd H2 l3 (.lst (ws'.reverse.map wV))) l2 (.lst (r.reverse.map nV))) p dx l1 l2 l3 rows r ws' := R3.setR
        refine ⟨_, rfl, rfl, _, rfl, ?_⟩
        rw [show decide (wV .not = V.str "not") = true from decide_eq_true rfl]
        refine iteT ⟨_, rfl, p, dx, _, rfl, R4.ins, rf_no (by decide +kernel) (by decide +kernel) (by decide +kernel), _, rfl, _, rfl, (by show 2 ≤ sizeLine; decide), fun t ht => ?_⟩
        refine ⟨p, dx, l1, l2, l3, t, rows, r, ws', .not i, rfl, R4.same (same_new ht), upd_same, by omega, by simp only [List.length_cons] at hl; omega, fun H5 k5 R5 => ?_⟩
        have hir := hi i List.mem_cons_self
        refine lay .not ws' (.not i) r H5 _ _ rfl (by simpa [Row.parts] using hir) (fun j hj => hi j (List.mem_cons_of_mem _ hj)) (by simp only [List.length_cons] at hl; omega) (by simpa [need] using hnd) ?_ ?_ R5
        · rw [← eT]
          show _ = if k ≤ 3 then settle k (.not (tree rows i) :: r.map (tree rows)) ws' else _
          rw [if_pos c]
          rfl
        · refine k2.trans ((((keep_upd (by simp)).trans (keep_upd (by simp))).trans (Keep.of_same (same_new ht))).trans (k5.mono fun x hx => ?_))
          rcases List.mem_cons.mp hx with z | z
          · rw [z]
            simp
          · rw [List.mem_singleton.mp z]
            simp
      · rw [decide_eq_false (show ¬ ((k : Nat) : Int) ≤ ((3 : Nat) : Int) by omega)]
        refine iteF (fini ?_)
        show (if k ≤ 3 then _ else _) = _
        rw [if_neg c]
        rfl
    · rw [decide_eq_true (show (0 : Int) < (((W.bin o :: ws').length : Nat) : Int) by simp)]
      rw [rev_cons] at e3
      refine iteT ⟨_, rfl, p, C, dx, _, _, rfl, R.ins, T.cl, T.nW, rf_waiting _ _ _, _, rfl, l3, _, _, _, rfl, rfl, SqL.of e3, atI_last _ _, rfl, _, rfl, ?_⟩
      rw [show decide (wV (.bin o) = V.str "(") = false from bin_br o]
      refine iteT ⟨_, rfl, p, C, dx, _, _, rfl, R.ins, T.cl, T.nW, rf_waiting _ _ _, _, rfl, l3, _, _, _, rfl, rfl, SqL.of e3, atI_last _ _, bd, _, _, rfl, rfl, hbo o, _, rfl, _, _, rfl, rfl, _, rfl, ?_⟩
      -- two parts are ready
      obtain ⟨j, r', rfl⟩ : ∃ j r', r = j :: r' := by
        cases r with
        | nil => simp [need] at hnd
        | cons j r' => exact ⟨j, r', rfl⟩
      by_cases c : k ≤ ob o
      · rw [decide_eq_true (show ((k : Nat) : Int) ≤ ((ob o : Nat) : Int) by omega)]
        refine iteT ⟨fun σ' H' => ∃ m', m' < (W.bin o :: ws').length ∧ SetW C H p dx l1 l2 l3 S n k m' σ' H', fun _ _ h => h, ?_⟩
        refine ⟨_, rfl, p, C, dx, _, _, rfl, R.ins, T.cl, T.nW, rf_waiting _ _ _, .inl ⟨rfl, _, SqL.of e3⟩, l3, _, wV (.bin o), rfl, rfl, e3, by simp, ?_⟩
        rw [List.dropLast_concat]
        have R3 : RdAt C (upd H2 l3 (.lst (ws'.reverse.map wV))) p dx l1 l2 l3 rows (i :: j :: r') ws' := R.setW
        have e2' := R3.ready
        rw [rev_cons] at e2'
        refine ⟨_, rfl, p, C, dx, _, _, rfl, R3.ins, T.cl, T.nY, rf_ready _ _ _, .inl ⟨rfl, _, SqL.of e2'⟩, l2, _, nV i, rfl, rfl, e2', by simp, ?_⟩
        rw [List.dropLast_concat]
        have R4 : RdAt C (upd (upd H2 l3 (.lst (ws'.reverse.map wV))) l2 (.lst ((j :: r').reverse.map nV))) p dx l1 l2 l3 rows (j :: r') ws' := R3.setR
        have e2'' : (upd (upd H2 l3 (.lst (ws'.reverse.map wV))) l2 (.lst ((j :: r').reverse.map nV))) l2 = some (.lst (r'.reverse.map nV ++ [nV j])) := R4.ready.trans (by rw [rev_cons])
        refine ⟨_, rfl, rfl, _, rfl, ?_⟩
        rw [show decide (wV (.bin o) = V.str "not") = false from bin_not o]
        refine iteF ⟨_, rfl, p, dx, _, rfl, R4.ins, rf_no (by decide +kernel) (by decide +kernel) (by decide +kernel), _, rfl, _, rfl, p, C, dx, _, _, rfl, R4.ins, T.cl, T.nY, rf_ready _ _ _, .inl ⟨rfl, _, SqL.of e2''⟩, l2, _, nV j, rfl, rfl, e2'', by simp, _, rfl, (by show 3 ≤ sizeLine; decide), fun t ht => ?_⟩
        rw [List.dropLast_concat] at ht ⊢
        have R5 : RdAt C (upd (upd (upd H2 l3 (.lst (ws'.reverse.map wV))) l2 (.lst ((j :: r').reverse.map nV))) l2 (.lst (r'.reverse.map nV))) p dx l1 l2 l3 rows r' ws' := R4.setR
        refine ⟨p, dx, l1, l2, l3, t, rows, r', ws', .bin o j i, rfl, R5.same (same_new ht), upd_same, by omega, by simp only [List.length_cons] at hl; omega, fun H5 k5 R6 => ?_⟩
        have hir := hi i List.mem_cons_self
        have hjr := hi j (by simp)
        refine lay (.bin o) ws' (.bin o j i) r' H5 _ _ rfl (fun x hx => ?_) (fun x hx => hi x (by simp [hx])) (by simp only [List.length_cons] at hl; omega) (by simp only [need, List.length_cons] at hnd; omega) ?_ ?_ R6
        · have : x = j ∨ x = i := by simpa [Row.parts] using hx
          rcases this with z | z <;> rw [z] <;> assumption
        · rw [← eT]
          show _ = if k ≤ ob o then settle k (.bin o (tree rows j) (tree rows i) :: r'.map (tree rows)) ws' else _
          rw [if_pos c]
          rfl
        · refine k2.trans (((((keep_upd (by simp)).trans (keep_upd (by simp))).trans (keep_upd (by simp))).trans (Keep.of_same (same_new ht))).trans (k5.mono fun x hx => ?_))
          rcases List.mem_cons.mp hx with z | z
          · rw [z]
            simp
          · rw [List.mem_singleton.mp z]
            simp
      · rw [decide_eq_false (show ¬ ((k : Nat) : Int) ≤ ((ob o : Nat) : Int) by omega)]
        refine iteF (fini ?_)
        show (if k ≤ ob o then _ else _) = _
        rw [if_neg c]
        rfl
end
end K30
end
section
set_option maxHeartbeats 1000000
/-! K30G3: the reader: begin_part, go_on. -/
namespace K30
open PySem PySem.Spec PyProof.Rows L2

theorem sg_dec {c d : Nat} {x : Str} (h : x = sg d) : decide (V.str (sg c) = V.str x) = decide (c = d) := by
  rw [h, Bool.eq_iff_iff]
  simp only [decide_eq_true_eq, V.str.injEq]
  exact ⟨sg_inj, fun e => by rw [e]⟩
theorem sg45 : ("-" : Str) = sg 45 := by decide +kernel
theorem sg40 : ("(" : Str) = sg 40 := by decide +kernel
theorem sg41 : (")" : Str) = sg 41 := by decide +kernel
theorem sg48 : ("0" : Str) = sg 48 := by decide +kernel
theorem sg46 : ("." : Str) = sg 46 := by decide +kernel
theorem sg124 : ("|" : Str) = sg 124 := by decide +kernel
theorem sg38 : ("&" : Str) = sg 38 := by decide +kernel
def leafR (c : Nat) : Row := if c = 48 then .nothing else if c = 46 then .blank else .letter c
theorem leafR_tree (rs : List Row) (c : Nat) : treeAt rs (leafR c) = leafOf c := by
  unfold leafR leafOf
  split
  · rfl
  · split <;> rfl
theorem leafR_parts (c : Nat) : (leafR c).parts = [] := by
  unfold leafR
  split
  · rfl
  · split <;> rfl
theorem RdS.at3 {C : Addr} {H : Hp} {p dx l1 l2 l3 : Addr} {S : Stk} {n : Nat} {fl : Bool} (h : RdS C H p dx l1 l2 l3 S n fl) : H p = some (.ins C dx (rf l1 l2 l3)) ∧ H l3 = some (.lst (S.2.reverse.map wV)) := by
  obtain ⟨rows, idx, R, _⟩ := h
  exact ⟨R.ins, R.waiting⟩
theorem RdS.len {C : Addr} {H : Hp} {p dx l1 l2 l3 : Addr} {S : Stk} {n : Nat} {fl : Bool} (h : RdS C H p dx l1 l2 l3 S n fl) : S.2.length ≤ n := by
  obtain ⟨rows, idx, R, _, _, _, hn, _⟩ := h
  omega
/-- a sign more waits -/
theorem RdS.push {C : Addr} {H : Hp} {p dx l1 l2 l3 : Addr} {S : Stk} {n : Nat} {fl : Bool} (h : RdS C H p dx l1 l2 l3 S n fl) (w : W) : RdS C (upd H l3 (.lst ((w :: S.2).reverse.map wV))) p dx l1 l2 l3 (S.1, w :: S.2) (n + 1) false := by
  obtain ⟨rows, idx, R, h1, h2, h3, hn, h4, _⟩ := h
  exact ⟨rows, idx, R.setW, h1, h2, h3, by simp only [List.length_cons]; omega, h4, fun e => nomatch e⟩
/-- the last sign that waits is dropped -/
theorem RdS.drop {C : Addr} {H : Hp} {p dx l1 l2 l3 : Addr} {rd : List T} {w : W} {ws : List W} {n : Nat} {fl : Bool} (h : RdS C H p dx l1 l2 l3 (rd, w :: ws) n fl) : RdS C (upd H l3 (.lst (ws.reverse.map wV))) p dx l1 l2 l3 (rd, ws) n fl := by
  obtain ⟨rows, idx, R, h1, h2, h3, hn, h4, h5⟩ := h
  exact ⟨rows, idx, R.setW, h1, h2, h3, by simp only [List.length_cons] at hn; simp only; omega, h4, h5⟩
def spBegin (C : Addr) : Sp := fun vs H Q _ => ∃ (p dx l1 l2 l3 : Addr) (S : Stk) (n c : Nat) (fl : Bool), vs = [.ref p, .str (sg c)] ∧ RdS C H p dx l1 l2 l3 S n fl ∧ need S.2 ≤ S.1.length ∧ n + 2 ≤ 1000000 ∧
  ∀ H', Keep [l1, l2, l3] H H' → RdS C H' p dx l1 l2 l3 (begin1 c S).2 (n + 1) (!(begin1 c S).1) → Q (.bl (begin1 c S).1) H'
def spGoOn (C : Addr) : Sp := fun vs H Q _ => ∃ (p dx l1 l2 l3 : Addr) (S : Stk) (n c : Nat), vs = [.ref p, .str (sg c)] ∧ RdS C H p dx l1 l2 l3 S n true ∧ need S.2 + 1 ≤ S.1.length ∧ n + 4 ≤ 1000000 ∧
  (c = 41 → ∃ r, (settle 0 S.1 S.2).2 = .br :: r) ∧ ∀ H', Keep [l1, l2, l3] H H' → RdS C H' p dx l1 l2 l3 (goOn c S).2 (n + 2) (!(goOn c S).1) → Q (.bl (goOn c S).1) H'
section
variable {P : Program} {w : World} {K : PySem.W.Frag} {mg : Str → Option Value} {base : Heap}
abbrev sBegin : Stmt := inClass (top 19) 3
theorem scBegin : FnScope ["self", "sign"] ["self", "sign"] (defScope sBegin) := ⟨rfl, rfl, rfl, by decide +kernel, rfl, by decide +kernel, by decide +kernel⟩
theorem fn_begin {f C : Addr} {fd : FuncData} (F : Fun K "begin_part" "Reader.begin_part" sBegin f fd) (T : RdC K mg C) (mL : Mt P w K mg base C "lay" 1 ["self", "row"] (spLay C)) (mS : Mt P w K mg base C "settle" 2 ["self", "least_bond"] (spSettle C)) :
    FnOk P w K mg base CX0 3 f fd ["self", "sign"] (spBegin C) := by
  obtain ⟨fl, fld, GL, tL, bL⟩ := mL
  obtain ⟨fs, fsd, GS, tS, bS⟩ := mS
  refine F.ok scBegin (fun vs H Q E h => ?_) (fun cdv A outer s H vs Q E hr h => ?_)
  · obtain ⟨p, dx, l1, l2, l3, S, n, c, fl, rfl, _⟩ := h
    rfl
  · obtain ⟨p, dx, l1, l2, l3, S, n, c, fl, rfl, R, hnd, few, q⟩ := h
    have hr1 : Room 1 _ := hr.mono (by decide)
    refine ⟨_, pss_cons (ps_if (pt_cmpR op_eq (pv 1) pe_str (nomark _)) (pss_cons (ps_expr (pe_bm PySem.F.plainAttrs_list PySem.F.slot_list_append PySem.F.type_list_append mt_append (pe_fld (pv 0) rfl) (pa_cons pe_str pa_nil))) (pss_one (ps_ret pe_bl))) pss_nil) <|
      pss_cons (ps_if (pt_cmpR op_eq (pv 1) pe_str (nomark _)) (pss_cons (ps_expr (pe_bm PySem.F.plainAttrs_list PySem.F.slot_list_append PySem.F.type_list_append mt_append (pe_fld (pv 0) rfl) (pa_cons pe_str pa_nil))) (pss_one (ps_ret pe_bl))) pss_nil) <|
      C8.pss_cut (ps_if (pt_cmpR op_eq (pv 1) pe_str (nomark _)) (pss_one (ps_expr (pe_meth (pv 0) T.cl tL GL hr1 bL .nil pass0 (pa_cons (pe_tup (pa_cons pe_str pa_nil)) pa_nil))))
        (pss_one (ps_if (pt_cmpR op_eq (pv 1) pe_str (nomark _)) (pss_one (ps_expr (pe_meth (pv 0) T.cl tL GL hr1 bL .nil pass0 (pa_cons (pe_tup (pa_cons pe_str pa_nil)) pa_nil))))
          (pss_one (ps_expr (pe_meth (pv 0) T.cl tL GL hr1 bL .nil pass0 (pa_cons (pe_tup (pa_cons pe_str (pa_cons (pv 1) pa_nil))) pa_nil))))))) <|
      pss_cons (ps_expr (pe_meth (pv 0) T.cl tS GS hr bS .nil pass0 (pa_cons pe_int pa_nil))) <|
      pss_one (ps_ret pe_bl), ?_⟩
    obtain ⟨hp, h3⟩ := R.at3
    have hlw := R.len
    have hz : (S.2.reverse.map wV).length < sizeLine := by
      rw [List.length_map, List.length_reverse]
      exact lineLt (by omega)
    refine ⟨_, rfl, rfl, _, rfl, ?_⟩
    rw [sg_dec sg45]
    unfold begin1 at q
    by_cases c1 : c = 45
    · rw [decide_eq_true c1]
      simp only [if_pos c1] at q
      refine iteT ⟨_, rfl, p, C, dx, _, _, rfl, hp, T.cl, T.nW, rf_waiting _ _ _, .inl ⟨rfl, _, SqL.of h3⟩, l3, _, wV .not, rfl, rfl, h3, hz, ?_⟩
      rw [← rev_cons]
      exact q _ (keep_upd (by simp)) (R.push .not)
    · rw [decide_eq_false c1]
      simp only [if_neg c1] at q
      refine iteF ⟨_, rfl, rfl, _, rfl, ?_⟩
      rw [sg_dec sg40]
      by_cases c2 : c = 40
      · rw [decide_eq_true c2]
        simp only [if_pos c2] at q
        refine iteT ⟨_, rfl, p, C, dx, _, _, rfl, hp, T.cl, T.nW, rf_waiting _ _ _, .inl ⟨rfl, _, SqL.of h3⟩, l3, _, wV .br, rfl, rfl, h3, hz, ?_⟩
        rw [← rev_cons]
        exact q _ (keep_upd (by simp)) (R.push .br)
      · rw [decide_eq_false c2]
        simp only [if_neg c2] at q
        obtain ⟨rows, idx, Ra, wf, hi, e1, hn, hl, _⟩ := R
        refine iteF ⟨fun σ' H' => σ' = [some (.ref p), some (.str (sg c))] ∧ Keep [l1, l2, l3] H H' ∧ RdS C H' p dx l1 l2 l3 (leafOf c :: S.1, S.2) (n + 1) true, ?_, ?_⟩
        · -- a row is laid, whichever
          have go : ∀ (t : Addr) (xs : List V), xs = vals (leafR c) → H t = none → spLay C [.ref p, .ref t] (upd H t (.tup xs)) (fun _ H' => ([some (.ref p), some (.str (sg c))] : L2.St) = [some (.ref p), some (.str (sg c))] ∧ Keep [l1, l2, l3] H H' ∧ RdS C H' p dx l1 l2 l3 (leafOf c :: S.1, S.2) (n + 1) true) E0 := fun t xs ex ht => by
            subst ex
            refine ⟨p, dx, l1, l2, l3, t, rows, idx, S.2, leafR c, rfl, Ra.same (same_new ht), upd_same, by omega, by omega, fun H5 k5 R5 => ⟨rfl, ?_, rows ++ [leafR c], rows.length :: idx, R5, ?_, ?_, ?_, ?_, ?_, fun _ => ⟨_, _, rfl, by simp⟩⟩⟩
            · refine (Keep.of_same (same_new ht)).trans (k5.mono fun x hx => ?_)
              rcases List.mem_cons.mp hx with z | z
              · rw [z]
                simp
              · rw [List.mem_singleton.mp z]
                simp
            · exact wf.snoc (by rw [leafR_parts]; intro p hp; cases hp)
            · intro j hj
              rcases List.mem_cons.mp hj with z | z
              · rw [z]
                simp
              · have := hi j z
                simp
                omega
            · rw [List.map_cons, tree_last, treeR_eq, leafR_tree, trees_same hi, ← e1]
            · simp
              omega
            · simp
              omega
          have nolay : (rf l1 l2 l3).lookup ("lay" : Str) = none := rf_no (by decide +kernel) (by decide +kernel) (by decide +kernel)
          refine ⟨_, rfl, rfl, _, rfl, ?_⟩
          rw [sg_dec sg48]
          by_cases c3 : c = 48
          · rw [decide_eq_true c3]
            refine iteT ⟨_, rfl, p, dx, _, rfl, hp, nolay, (by show 1 ≤ sizeLine; decide), fun t ht => go t _ ?_ ht⟩
            unfold leafR
            rw [if_pos c3]
            rfl
          · rw [decide_eq_false c3]
            refine iteF ⟨_, rfl, rfl, _, rfl, ?_⟩
            rw [sg_dec sg46]
            by_cases c4 : c = 46
            · rw [decide_eq_true c4]
              refine iteT ⟨_, rfl, p, dx, _, rfl, hp, nolay, (by show 1 ≤ sizeLine; decide), fun t ht => go t _ ?_ ht⟩
              unfold leafR
              rw [if_neg c3, if_pos c4]
              rfl
            · rw [decide_eq_false c4]
              refine iteF ⟨_, rfl, p, dx, _, rfl, hp, nolay, _, rfl, (by show 2 ≤ sizeLine; decide), fun t ht => go t _ ?_ ht⟩
              unfold leafR
              rw [if_neg c3, if_neg c4]
              rfl
        · rintro σ' H5 ⟨rfl, k5, R5⟩
          obtain ⟨hp5, _⟩ := R5.at3
          refine ⟨_, rfl, p, dx, _, rfl, hp5, rf_no (by decide +kernel) (by decide +kernel) (by decide +kernel), p, dx, l1, l2, l3, _, n + 1, 3, rfl, R5, ?_, by omega, fun H6 k6 R6 => ?_⟩
          · simp only [List.length_cons]
            omega
          · exact q H6 (k5.trans k6) R6

abbrev sGoOn : Stmt := inClass (top 19) 4
theorem scGoOn : FnScope ["self", "sign", "word"] ["self", "sign"] (defScope sGoOn) := ⟨rfl, rfl, rfl, by decide +kernel, rfl, by decide +kernel, by decide +kernel⟩
theorem opOf_wd (c : Nat) : wd (opOf c) = if c = 38 then ("and" : Str) else "or" := by
  unfold opOf
  split <;> rfl
theorem fn_goon {f C : Addr} {fd : FuncData} (F : Fun K "go_on" "Reader.go_on" sGoOn f fd) (N : Names K w mg) (T : RdC K mg C) (mS : Mt P w K mg base C "settle" 2 ["self", "least_bond"] (spSettle C))
    (mB : Mt P w K mg base C "begin_part" 3 ["self", "sign"] (spBegin C)) : FnOk P w K mg base CX0 4 f fd ["self", "sign"] (spGoOn C) := by
  obtain ⟨fs, fsd, GS, tS, bS⟩ := mS
  obtain ⟨fb, fbd, GB, tB, bB⟩ := mB
  obtain ⟨bd, hbd, hb3, hbo⟩ := N.bindW
  refine F.ok scGoOn (fun vs H Q E h => ?_) (fun cdv A outer s H vs Q E hr h => ?_)
  · obtain ⟨p, dx, l1, l2, l3, S, n, c, rfl, _⟩ := h
    rfl
  · obtain ⟨p, dx, l1, l2, l3, S, n, c, rfl, R, hnd, few, hc41, q⟩ := h
    have hr1 : Room 2 _ := hr.mono (by decide)
    refine ⟨_, pss_cons (ps_if (PW.pt (pw_or (pt_cmpR op_eq (pv 1) pe_str (nomark _)) (pw_or1 (pt_cmpR op_eq (pv 1) pe_str (nomark _)))))
        (pss_cons (ps_set (i := 2) scGoOn.nd rfl (Or.inl rfl) pe_str) <|
         C8.pss_cut (ps_if (pt_cmpR op_eq (pv 1) pe_str (nomark _)) (pss_one (ps_set (i := 2) scGoOn.nd rfl (Or.inl rfl) pe_str)) pss_nil) <|
         pss_cons (ps_expr (pe_meth (pv 0) T.cl tS GS hr1 bS .nil pass0 (pa_cons (pe_ix ix_kdict (pe_glob (v := .ref bd) rfl hbd rfl) (pv 2) (fun _ _ => rfl)) pa_nil))) <|
         pss_cons (ps_expr (pe_bm PySem.F.plainAttrs_list PySem.F.slot_list_append PySem.F.type_list_append mt_append (pe_fld (pv 0) rfl) (pa_cons (pv 2) pa_nil))) <|
         pss_one (ps_ret pe_bl)) pss_nil) <|
      pss_cons (ps_if (pt_cmpR op_eq (pv 1) pe_str (nomark _))
        (pss_cons (ps_expr (pe_meth (pv 0) T.cl tS GS hr1 bS .nil pass0 (pa_cons pe_int pa_nil))) <|
         pss_cons (ps_expr (pe_bm0 PySem.F.plainAttrs_list PySem.F.slot_list_pop PySem.F.type_list_pop mt_pop (pe_fld (pv 0) rfl))) <|
         pss_cons (ps_expr (pe_meth (pv 0) T.cl tS GS hr1 bS .nil pass0 (pa_cons pe_int pa_nil))) <|
         pss_one (ps_ret pe_bl)) pss_nil) <|
      pss_cons (ps_expr (pe_meth (pv 0) T.cl tS GS hr1 bS .nil pass0 (pa_cons pe_int pa_nil))) <|
      pss_cons (ps_expr (pe_bm PySem.F.plainAttrs_list PySem.F.slot_list_append PySem.F.type_list_append mt_append (pe_fld (pv 0) rfl) (pa_cons pe_str pa_nil))) <|
      pss_one (ps_ret (pe_meth (pv 0) T.cl tB GB hr bB .nil pass0 (pa_cons (pv 1) pa_nil))), ?_⟩
    have noS : (rf l1 l2 l3).lookup ("settle" : Str) = none := rf_no (by decide +kernel) (by decide +kernel) (by decide +kernel)
    have noB : (rf l1 l2 l3).lookup ("begin_part" : Str) = none := rf_no (by decide +kernel) (by decide +kernel) (by decide +kernel)
    have R0 := R
    obtain ⟨hp, _⟩ := R.at3
    unfold goOn at q
    refine ⟨_, rfl, rfl, _, rfl, ?_⟩
    rw [sg_dec sg124]
    by_cases hc : c = 124 ∨ c = 38
    · rw [if_pos hc] at q
      have main : ∀ (a2 : Option V) (D : Ends), D.rt = Q → (tSeq (tAsg (tC (.str "or")) (gName 2)) (C8.tCut (tIfS (tTest (tOp rEq (tVar 1) (tC (.str "&")))) (tAsg (tC (.str "and")) (gName 2)) tNext)
          (tSeq (tDrop (tMeth C "settle" (spSettle C) [] E0 (tVar 0) (tCons (tOp (rIxD K w) (tC (.ref bd)) (tVar 2)) tNil)))
          (tSeq (tDrop (tBM K "list" rAppend (tFld K (tVar 0) "waiting") (tCons (tVar 2) tNil))) (tRet (tC (.bl true))))))) D [some (.ref p), some (.str (sg c)), a2] H := fun a2 D hD => by
        refine ⟨fun σ' H' => σ' = [some (.ref p), some (.str (sg c)), some (.str (wd (opOf c)))] ∧ H' = H, ?_, ?_⟩
        · refine ⟨_, rfl, rfl, _, rfl, ?_⟩
          rw [sg_dec sg38]
          by_cases c1 : c = 38
          · rw [decide_eq_true c1]
            refine iteT ⟨?_, rfl⟩
            rw [opOf_wd, if_pos c1]
            rfl
          · rw [decide_eq_false c1]
            refine iteF ⟨?_, rfl⟩
            rw [opOf_wd, if_neg c1]
            rfl
        · rintro σ' H' ⟨rfl, rfl⟩
          refine ⟨_, rfl, p, dx, _, rfl, hp, noS, _, rfl, bd, _, _, rfl, rfl, hbo _, p, dx, l1, l2, l3, S, n, ob (opOf c), rfl, R, hnd, by omega, fun H5 k5 R5 => ?_⟩
          obtain ⟨hp5, h35⟩ := R5.at3
          have hl5 := R5.len
          refine ⟨_, rfl, p, C, dx, _, _, rfl, hp5, T.cl, T.nW, rf_waiting _ _ _, .inl ⟨rfl, _, SqL.of h35⟩, _, rfl, l3, _, wV (.bin (opOf c)), rfl, rfl, h35, by rw [List.length_map, List.length_reverse]; exact lineLt (by omega), ?_⟩
          rw [← rev_cons]
          show D.rt (.bl true) _
          rw [hD]
          exact q _ (k5.trans (keep_upd (by simp))) ((R5.push (.bin (opOf c))).more (by omega))
      by_cases c1 : c = 124
      · rw [decide_eq_true c1]
        exact iteT (iteT (main _ _ rfl))
      · rw [decide_eq_false c1]
        refine iteF ⟨_, rfl, rfl, _, rfl, ?_⟩
        rw [sg_dec sg38, decide_eq_true (hc.resolve_left c1)]
        exact iteT (main _ _ rfl)
    · rw [if_neg hc] at q
      have c1 : ¬ c = 124 := fun z => hc (.inl z)
      have c2 : ¬ c = 38 := fun z => hc (.inr z)
      rw [decide_eq_false c1]
      refine iteF ⟨_, rfl, rfl, _, rfl, ?_⟩
      rw [sg_dec sg38, decide_eq_false c2]
      refine iteF ⟨_, rfl, rfl, _, rfl, ?_⟩
      rw [sg_dec sg41]
      by_cases c3 : c = 41
      · rw [decide_eq_true c3]
        rw [if_pos c3] at q
        obtain ⟨r, er⟩ := hc41 c3
        refine iteT ⟨_, rfl, p, dx, _, rfl, hp, noS, p, dx, l1, l2, l3, S, n, 0, rfl, R, hnd, by omega, fun H5 k5 R5 => ?_⟩
        have hnd5 := settle_need 0 S.2 S.1 hnd
        generalize eZ : settle 0 S.1 S.2 = Z at R5 hnd5 er q
        obtain ⟨rd, ws⟩ := Z
        have er : ws = .br :: r := er
        subst er
        obtain ⟨hp5, h35⟩ := R5.at3
        have h35' : H5 l3 = some (.lst (r.reverse.map wV ++ [wV .br])) := h35.trans (by rw [rev_cons])
        refine ⟨_, rfl, p, C, dx, _, _, rfl, hp5, T.cl, T.nW, rf_waiting _ _ _, .inl ⟨rfl, _, SqL.of h35'⟩, l3, _, wV .br, rfl, rfl, h35', by simp, ?_⟩
        rw [List.dropLast_concat]
        have R6 := R5.drop
        obtain ⟨hp6, _⟩ := R6.at3
        exact ⟨_, rfl, p, dx, _, rfl, hp6, noS, p, dx, l1, l2, l3, _, n, 3, rfl, R6, hnd5, by omega, fun H7 k7 R7 => q H7 ((k5.trans (keep_upd (by simp))).trans k7) (R7.more (by omega))⟩
      · rw [decide_eq_false c3]
        rw [if_neg c3] at q
        refine iteF ⟨_, rfl, p, dx, _, rfl, hp, noS, p, dx, l1, l2, l3, S, n, 2, rfl, R, hnd, by omega, fun H5 k5 R5 => ?_⟩
        have hnd5 := settle_need 2 S.2 S.1 hnd
        obtain ⟨hp5, h35⟩ := R5.at3
        have hl5 := R5.len
        refine ⟨_, rfl, p, C, dx, _, _, rfl, hp5, T.cl, T.nW, rf_waiting _ _ _, .inl ⟨rfl, _, SqL.of h35⟩, l3, _, wV (.bin .seq), rfl, rfl, h35, by rw [List.length_map, List.length_reverse]; exact lineLt (by omega), ?_⟩
        rw [← rev_cons]
        have R6 := R5.push (.bin .seq)
        obtain ⟨hp6, _⟩ := R6.at3
        exact ⟨_, rfl, p, dx, _, rfl, hp6, noB, _, rfl, p, dx, l1, l2, l3, _, n + 1, c, _, rfl, R6, hnd5, by omega, fun H7 k7 R7 => q H7 ((k5.trans (keep_upd (by simp))).trans k7) R7⟩
end
end K30
end
section
set_option maxHeartbeats 1000000
/-! K30G4: begins, read_expression. -/
namespace K30
open PySem PySem.Spec PyProof.Rows L2

theorem abc_codes : ("abcdefghijklmnopqrstuvwxyz" : Str).cps.toList = (List.range 26).map (· + 97) := by decide +kernel
theorem mem_abc (c : Nat) : decide (c ∈ ("abcdefghijklmnopqrstuvwxyz" : Str).cps.toList) = isLet c := by
  rw [abc_codes, Bool.eq_iff_iff]
  unfold isLet
  simp only [decide_eq_true_eq, List.mem_map, List.mem_range, Bool.and_eq_true]
  constructor
  · rintro ⟨a, h1, h2⟩
    omega
  · intro h
    exact ⟨c - 97, by omega, by omega⟩
theorem four_codes : (".0-(" : Str).cps.toList = [46, 48, 45, 40] := by decide +kernel
theorem two_codes : ("|&" : Str).cps.toList = [124, 38] := by decide +kernel
theorem mem_four (c : Nat) : decide (c ∈ (".0-(" : Str).cps.toList) = (decide (c = 46) || (decide (c = 48) || (decide (c = 45) || decide (c = 40)))) := by
  rw [four_codes, Bool.eq_iff_iff]
  simp
theorem mem_two (c : Nat) : decide (c ∈ ("|&" : Str).cps.toList) = (decide (c = 124) || decide (c = 38)) := by
  rw [two_codes, Bool.eq_iff_iff]
  simp
def spBegins : Sp := fun vs H Q _ => ∃ c, vs = [.str (sg c)] ∧ Q (.bl (isBeg c)) H
/-- whether a bracket waits -/
theorem wait_br : ∀ l : List W, inV (V.str "(") (l.map wV) = decide (0 < brs l)
  | [] => rfl
  | w :: l => by
    have ih := wait_br l
    unfold inV at ih ⊢
    rw [List.map_cons, List.any_cons, ih]
    cases w with
    | br =>
      rw [brs_br, show eqV (wV .br) (V.str "(") = true from by decide +kernel]
      simp
    | not =>
      rw [brs_not, show eqV (wV .not) (V.str "(") = false from by decide +kernel]
      simp
    | bin o =>
      rw [brs_bin, show eqV (wV (.bin o)) (V.str "(") = false from by cases o <;> decide +kernel]
      simp
theorem brs_rev (l : List W) : brs l.reverse = brs l := by simp [brs]
theorem flat_wait (l : List W) : (l.map wV).all flatV = true := by
  rw [List.all_eq_true]
  intro x hx
  obtain ⟨w, _, e⟩ := List.mem_map.mp hx
  rw [← e]
  rfl
theorem Pil.need_len {l m : Nat} {ws : List W} {rd : List T} (h : Pil l ws rd m) : rd.length = need ws := by
  induction h with
  | nil => rfl
  | br _ ih => exact ih
  | not _ ih => exact ih
  | bin _ _ ih =>
    show _ + 1 = _ + 1
    rw [ih]
theorem same_keep {l : List Addr} {H H2 H3 : Hp} (s : Same H H2) (k : Keep l H2 H3) (h : ∀ x ∈ l, H x = none) : Same H H3 := fun b o e => k b o (fun z => by rw [h b z] at e; cases e) (s b o e)
def spRead (C : Addr) : Sp := fun vs H Q _ => ∃ cs : List Nat, vs = [.str (st cs)] ∧ Acc cs ∧ cs.length ≤ 200000 ∧ ∀ p H', Same H H' → ExprAt H' p (canon (readT cs)) → Q (.ref p) H'
section
variable {P : Program} {w : World} {K : PySem.W.Frag} {mg : Str → Option Value} {base : Heap}
abbrev sBegins : Stmt := top 20
theorem scBegins : FnScope ["sign"] ["sign"] (defScope sBegins) := ⟨rfl, rfl, rfl, by decide +kernel, rfl, by decide +kernel, by decide +kernel⟩
theorem fn_begins {f : Addr} {fd : FuncData} (F : Fun K "begins" "begins" sBegins f fd) (N : Names K w mg) : FnOk P w K mg base CX0 1 f fd ["sign"] spBegins := by
  obtain ⟨tl, hL⟩ := N.letters
  refine F.ok scBegins (fun vs H Q E h => ?_) (fun cdv A outer s H vs Q E hr h => ?_)
  · obtain ⟨c, rfl, _⟩ := h
    rfl
  · obtain ⟨c, rfl, q⟩ := h
    refine ⟨_, pss_one (ps_ret (pe_or (pe_cmpR op_in_sign (pv 0) (pe_glob (v := .str "abcdefghijklmnopqrstuvwxyz") rfl hL ⟨_, rfl⟩) rfl) (pe_one (pe_cmpR op_in_sign (pv 0) pe_str rfl)))), ?_⟩
    refine ⟨_, rfl, c, _, rfl, rfl, _, rfl, ?_⟩
    rw [mem_abc]
    unfold isBeg at q
    cases e : isLet c with
    | true =>
      rw [e] at q
      exact iteT q
    | false =>
      rw [e] at q
      refine iteF ⟨_, rfl, c, _, rfl, rfl, ?_⟩
      show Q (.bl (decide (c ∈ (".0-(" : Str).cps.toList))) H
      rw [mem_four]
      exact q

abbrev sRead : Stmt := top 21
abbrev nRead : List Str := ["text", "reader", "due", "at", "sign"]
theorem scRead : FnScope nRead ["text"] (defScope sRead) := ⟨rfl, rfl, rfl, by decide +kernel, rfl, by decide +kernel, by decide +kernel⟩
theorem fn_read {f C fi : Addr} {fd fid : FuncData} (F : Fun K "read_expression" "read_expression" sRead f fd) (N : Names K w mg) (T : RdC K mg C) (mgC : mg "Reader" = some (.ref C)) (M : Mk K C fi) (GI : FnOk P w K mg base CX0 1 fi fid ["self"] (spInit C)) (bI : Binds K fid ["self"] [])
    (fB : Fn P w K mg base "begins" 1 ["sign"] spBegins) (mP : Mt P w K mg base C "begin_part" 3 ["self", "sign"] (spBegin C)) (mG : Mt P w K mg base C "go_on" 4 ["self", "sign"] (spGoOn C)) (mS : Mt P w K mg base C "settle" 2 ["self", "least_bond"] (spSettle C))
    (fT : Fn P w K mg base "tidied" 3 ["expression"] spTidied) : FnOk P w K mg base CX0 5 f fd ["text"] (spRead C) := by
  obtain ⟨fb, fbd, GB, mB, kB, bB⟩ := fB
  obtain ⟨ft, ftd, GT, mT, kT, bT⟩ := fT
  obtain ⟨fp, fpd, GP, tP, bP⟩ := mP
  obtain ⟨fg, fgd, GG, tG, bG⟩ := mG
  obtain ⟨fs, fsd, GS, tS, bS⟩ := mS
  refine F.ok scRead (fun vs H Q E h => ?_) (fun cdv A outer s H vs Q E hr h => ?_)
  · obtain ⟨cs, rfl, _⟩ := h
    rfl
  · obtain ⟨cs, rfl, hacc, few, k⟩ := h
    have hr1 : Room 1 _ := hr.mono (by decide)
    have hr2 : Room 2 _ := hr.mono (by decide)
    have hr3 : Room 3 _ := hr.mono (by decide)
    have hr1' : Room (1 + 1) _ := hr.mono (by decide)
    refine ⟨_, pss_cons (ps_set (i := 1) scRead.nd rfl (Or.inl rfl) (pe_make0 M GI hr1' rfl mgC bI .nil pass0)) <|
      pss_cons (ps_set (i := 2) scRead.nd rfl (Or.inl rfl) pe_bl) <|
      pss_cons (ps_for PassesOwn.never rfl (K30X.pi_enumS rfl N.enumerate (pa_cons (pv 0) pa_nil)) (pg_tup rfl (pgs_cons (pg_name (i := 3) scRead.nd rfl (Or.inl rfl)) (pgs_cons (pg_name (i := 4) scRead.nd rfl (Or.inl rfl)) pgs_nil))) <|
        pss_one (ps_if (pt_val (pv 2))
          (pss_cons (ps_if (pt_not (pt_val (pe_call GB hr1 rfl mB kB bB .nil pass0 (pa_cons (pv 4) pa_nil)))) (pss_one ps_never) pss_nil) <|
           pss_one (ps_set (i := 2) scRead.nd rfl (Or.inl rfl) (pe_meth (pv 1) T.cl tP GP hr3 bP .nil pass0 (pa_cons (pv 4) pa_nil))))
          (pss_cons (ps_if (PW.pt (pw_and (pt_not (pt_val (pe_call GB hr1 rfl mB kB bB .nil pass0 (pa_cons (pv 4) pa_nil)))) (pw_and (pt_cmpR op_notIn_sign (pv 4) pe_str rfl)
              (pw_and1 (PW.pt (pw_or (pt_cmpR op_ne (pv 4) pe_str (nomark _)) (pw_or1 (pt_cmpR op_notIn_seq pe_str (pe_fld (pv 1) rfl) rfl)))))))) (pss_one ps_never) pss_nil) <|
           pss_one (ps_set (i := 2) scRead.nd rfl (Or.inl rfl) (pe_meth (pv 1) T.cl tG GG hr bG .nil pass0 (pa_cons (pv 4) pa_nil)))))) <|
      pss_cons (ps_if (PW.pt (pw_or (pt_val (pv 2)) (pw_or1 (pt_cmpR op_in_seq pe_str (pe_fld (pv 1) rfl) rfl)))) (pss_one ps_never) pss_nil) <|
      pss_cons (ps_expr (pe_meth (pv 1) T.cl tS GS hr2 bS .nil pass0 (pa_cons pe_int pa_nil))) <|
      pss_one (ps_ret (pe_call GT hr3 rfl mT kT bT .nil pass0 (pa_cons (pe_callTy call_tuple_of (by rfl) N.tuple (by decide +kernel) (pa_cons (pe_fld (pv 1) rfl) pa_nil)) pa_nil))), ?_⟩
    intro p dx np ndx nex
    refine ⟨p, dx, rfl, upd_same, fun H1 l1 l2 l3 k1 h1 h2 h3 R1 => ⟨rfl, ?_⟩⟩
    have s0 : Same H (upd (upd H dx (.own p)) p (.ins C dx [])) := (same_new ndx).upd0 np
    have s1 : Same H H1 := same_keep s0 k1 fun x hx => by
      rw [List.mem_singleton.mp hx]
      exact np
    have z1 : H l1 = none := s0.free h1
    have z2 : H l2 = none := s0.free h2
    have z3 : H l3 = none := s0.free h3
    have zs : ∀ x ∈ [l1, l2, l3], H x = none := fun x hx => by
      have : x = l1 ∨ x = l2 ∨ x = l3 := by simpa using hx
      rcases this with e | e | e <;> rw [e] <;> assumption
    have noP : (rf l1 l2 l3).lookup ("begin_part" : Str) = none := rf_no (by decide +kernel) (by decide +kernel) (by decide +kernel)
    have noG : (rf l1 l2 l3).lookup ("go_on" : Str) = none := rf_no (by decide +kernel) (by decide +kernel) (by decide +kernel)
    have noS : (rf l1 l2 l3).lookup ("settle" : Str) = none := rf_no (by decide +kernel) (by decide +kernel) (by decide +kernel)
    have RS1 : RdS C H1 p dx l1 l2 l3 ([], []) 0 false := ⟨[], [], R1, fun i r e => by simp at e, fun i hi => (nomatch hi), rfl, Nat.le_refl _, Nat.le_refl _, fun e => (nomatch e)⟩
    have csz : (st cs).cps.size = cs.length := by simp [st]
    have cget : ∀ i : Nat, (st cs).cps[i]? = cs[i]? := fun i => by
      show cs.toArray[i]? = cs[i]?
      simp
    refine ⟨_, rfl, st cs, rfl, ?_⟩
    refine for_it K30X.walk_g (fun i σ H2 => ∃ a3 a4 d, σ = [some (.str (st cs)), some (.ref p), some (.bl (run (cs.take i) Z0).1), a3, a4] ∧ Same H H2 ∧ RdS C H2 p dx l1 l2 l3 (run (cs.take i) Z0).2 (2 * i) (!(run (cs.take i) Z0).1) ∧
        arun (cs.take i) (some (true, 0)) = some ((run (cs.take i) Z0).1, d) ∧ Rd (run (cs.take i) Z0).1 (run (cs.take i) Z0).2.2 (run (cs.take i) Z0).2.1 (opens (cs.take i)) d)
      ⟨none, none, 0, rfl, s1, RS1, rfl, rd_start⟩ (fun i σ H2 _ _ => trivial) ?_ ?_
    · rintro i x σ H2 H3 hi ⟨a3, a4, d, rfl, s2, R2, ha, hrd⟩ ⟨t, xs, rfl, ht, rfl, ⟨x, ⟨c, hc, rfl⟩, rfl⟩⟩
      rw [cget] at hc
      rw [csz] at hi
      have etk := take_snoc hc
      -- the sign may come
      have erun : run (cs.take (i + 1)) Z0 = step (run (cs.take i) Z0) c := by
        rw [etk, run_append]
        rfl
      have earun : arun (cs.take (i + 1)) (some (true, 0)) = astep (some ((run (cs.take i) Z0).1, d)) c := by
        rw [etk, arun_append, ha]
        rfl
      have hok : okS ((run (cs.take i) Z0).1, d) c = true := by
        have e : arun (cs.take (i + 1) ++ cs.drop (i + 1)) (some (true, 0)) = some (false, 0) := by
          rw [List.take_append_drop]
          exact hacc
        rw [arun_append, earun] at e
        have e1 : astep (some ((run (cs.take i) Z0).1, d)) c = if okS ((run (cs.take i) Z0).1, d) c = true then some (nextDue (run (cs.take i) Z0).1 c, nextD d c) else none := rfl
        rw [e1] at e
        by_cases ok : okS ((run (cs.take i) Z0).1, d) c = true
        · exact ok
        · rw [if_neg ok, arun_none] at e
          cases e
      have e1 : astep (some ((run (cs.take i) Z0).1, d)) c = some (nextDue (run (cs.take i) Z0).1 c, nextD d c) := if_pos hok
      rw [e1] at earun
      generalize run (cs.take i) Z0 = Z at R2 ha hrd erun earun hok
      obtain ⟨due, rd, ws⟩ := Z
      obtain ⟨hrd2, hdue2⟩ := step_rd hrd hok
      have eop : opens (cs.take (i + 1)) = opens (cs.take i) + if c = 40 then 1 else 0 := by
        rw [etk]
        unfold opens
        rw [List.count_append, List.count_singleton]
        by_cases c40 : c = 40 <;> simp [c40]
      have s3 : Same H2 (upd H2 t (.tup [V.int (i : Nat), V.str ⟨#[c]⟩])) := same_new ht
      have R3 := R2.same s3
      have fin : ∀ H4, Keep [l1, l2, l3] (upd H2 t (.tup [V.int (i : Nat), V.str ⟨#[c]⟩])) H4 → RdS C H4 p dx l1 l2 l3 (step (due, rd, ws) c).2 (2 * (i + 1)) (!(step (due, rd, ws) c).1) →
          ∃ a3 a4 d, ([some (.str (st cs)), some (.ref p), some (.bl (step (due, rd, ws) c).1), some (.int (i : Nat)), some (.str ⟨#[c]⟩)] : L2.St) = [some (.str (st cs)), some (.ref p), some (.bl (run (cs.take (i + 1)) Z0).1), a3, a4] ∧ Same H H4 ∧
            RdS C H4 p dx l1 l2 l3 (run (cs.take (i + 1)) Z0).2 (2 * (i + 1)) (!(run (cs.take (i + 1)) Z0).1) ∧ arun (cs.take (i + 1)) (some (true, 0)) = some ((run (cs.take (i + 1)) Z0).1, d) ∧
            Rd (run (cs.take (i + 1)) Z0).1 (run (cs.take (i + 1)) Z0).2.2 (run (cs.take (i + 1)) Z0).2.1 (opens (cs.take (i + 1))) d := fun H4 k4 R4 => by
        refine ⟨_, _, nextD d c, by rw [erun], same_keep (s2.trans s3) k4 zs, by rw [erun]; exact R4, ?_, ?_⟩
        · rw [earun, erun, hdue2]
        · rw [erun, eop]
          exact hrd2
      obtain ⟨hp3, hw3⟩ := R3.at3
      refine ⟨t, _, rfl, SqT.of upd_same, rfl, _, _, rfl, _, _, rfl, rfl, ?_⟩
      refine ⟨_, rfl, due, rfl, ?_⟩
      cases due with
      | true =>
        have hb : isBeg c = true := by
          unfold okS at hok
          simpa using hok
        refine iteT ⟨_, rfl, c, rfl, _, rfl, ?_⟩
        rw [hb]
        refine iteF ⟨_, rfl, p, dx, _, rfl, hp3, noP, _, rfl, p, dx, l1, l2, l3, (rd, ws), 2 * i, c, _, rfl, R3, ?_, by omega, fun H4 k4 R4 => ?_⟩
        · obtain ⟨⟨l, m, hp, _⟩, _⟩ := hrd.yes rfl
          rw [hp.need_len]
          exact Nat.le_refl _
        · exact fin H4 k4 (R4.more (by omega))
      | false =>
        have hnd := hrd.no rfl
        obtain ⟨⟨x0, r0, l, m, er0, hpil, _, _⟩, hbr⟩ := hnd
        have hneed : need ws + 1 ≤ rd.length := by
          have er0 : rd = x0 :: r0 := er0
          rw [er0, List.length_cons, hpil.need_len]
          exact Nat.le_refl _
        have goes : spGoOn C [.ref p, .str ⟨#[c]⟩] (upd H2 t (.tup [V.int (i : Nat), V.str ⟨#[c]⟩])) (fun v H4 => ∃ a3 a4 d, ([some (.str (st cs)), some (.ref p), some v, some (.int (i : Nat)), some (.str ⟨#[c]⟩)] : L2.St) = [some (.str (st cs)), some (.ref p), some (.bl (run (cs.take (i + 1)) Z0).1), a3, a4] ∧ Same H H4 ∧
            RdS C H4 p dx l1 l2 l3 (run (cs.take (i + 1)) Z0).2 (2 * (i + 1)) (!(run (cs.take (i + 1)) Z0).1) ∧ arun (cs.take (i + 1)) (some (true, 0)) = some ((run (cs.take (i + 1)) Z0).1, d) ∧
            Rd (run (cs.take (i + 1)) Z0).1 (run (cs.take (i + 1)) Z0).2.2 (run (cs.take (i + 1)) Z0).2.1 (opens (cs.take (i + 1))) d) E0 := by
          refine ⟨p, dx, l1, l2, l3, (rd, ws), 2 * i, c, rfl, R3, hneed, by omega, fun e41 => ?_, fun H4 k4 R4 => fin H4 k4 R4⟩
          subst e41
          have hd : 0 < d := by
            unfold okS at hok
            simpa [isBeg, isLet] using hok
          have nd := hrd.no rfl
          have b := (settle_nd (k := 0) ws (L := 3) (Nat.zero_le _) (Nat.le_refl _) nd).br
          rcases settle_zero ws (Nat.le_refl 3) nd with z | z
          · rw [z] at b
            have : d = 0 := b.symm
            omega
          · exact z
        refine iteF ⟨_, rfl, c, rfl, _, rfl, ?_⟩
        by_cases hb : isBeg c = true
        · rw [hb]
          exact iteF (iteF ⟨_, rfl, p, dx, _, rfl, hp3, noG, _, rfl, goes⟩)
        · have hb : isBeg c = false := by simpa using hb
          rw [hb]
          have hok2 : c = 124 ∨ c = 38 ∨ (c = 41 ∧ 0 < d) := by
            unfold okS at hok
            rw [hb] at hok
            simpa using hok
          refine iteT ⟨_, rfl, c, _, rfl, rfl, _, rfl, ?_⟩
          show if (!decide (c ∈ ("|&" : Str).cps.toList)) = true then _ else _
          rw [mem_two]
          by_cases h1 : c = 124 ∨ c = 38
          · have e : (decide (c = 124) || decide (c = 38)) = true := by
              rcases h1 with z | z <;> simp [z]
            rw [e]
            exact iteF (iteF ⟨_, rfl, p, dx, _, rfl, hp3, noG, _, rfl, goes⟩)
          · have e : (decide (c = 124) || decide (c = 38)) = false := by simpa using h1
            rw [e]
            obtain ⟨h41, hd⟩ : c = 41 ∧ 0 < d := by
              rcases hok2 with z | z | z
              · exact absurd (.inl z) h1
              · exact absurd (.inr z) h1
              · exact z
            refine iteT ⟨_, rfl, rfl, _, rfl, ?_⟩
            have e2 : decide (V.str ⟨#[c]⟩ = V.str ")") = decide (c = 41) := sg_dec sg41
            rw [e2, decide_eq_true h41]
            refine iteF ⟨_, rfl, p, C, dx, _, _, rfl, hp3, T.cl, T.nW, rf_waiting _ _ _, l3, _, rfl, .inl (SqL.of hw3), rfl, flat_wait _, _, rfl, ?_⟩
            have e3 : inV (V.str "(") (ws.reverse.map wV) = true := by
              rw [wait_br, brs_rev, hbr]
              exact decide_eq_true hd
            show if (!inV (V.str "(") (ws.reverse.map wV)) = true then _ else _
            rw [e3]
            exact iteF ⟨_, rfl, p, dx, _, rfl, hp3, noG, _, rfl, goes⟩
    · rintro σ H2 ⟨a3, a4, d, rfl, s2, R2, ha, hrd⟩
      rw [csz, List.take_length] at R2 ha hrd ⊢
      have hfin : ((run cs Z0).1, d) = (false, 0) := Option.some.inj (ha.symm.trans hacc)
      obtain ⟨e1, e2⟩ := Prod.mk.inj hfin
      have hset := (read_count hacc).1
      generalize run cs Z0 = Z at R2 hrd e1 hset
      obtain ⟨due, rd, ws⟩ := Z
      have e1 : due = false := e1
      subst e1 e2
      obtain ⟨⟨x0, r0, l, m, er0, hpil, _, _⟩, hbr⟩ := hrd.no rfl
      have hneed : need ws + 1 ≤ rd.length := by
        have er0 : rd = x0 :: r0 := er0
        rw [er0, List.length_cons, hpil.need_len]
        exact Nat.le_refl _
      obtain ⟨hp2, hw2⟩ := R2.at3
      refine ⟨_, rfl, false, rfl, ?_⟩
      refine iteF ⟨_, rfl, p, C, dx, _, _, rfl, hp2, T.cl, T.nW, rf_waiting _ _ _, l3, _, rfl, .inl (SqL.of hw2), rfl, flat_wait _, _, rfl, ?_⟩
      have e3 : inV (V.str "(") (ws.reverse.map wV) = false := by
        have hbr : brs ws = 0 := hbr
        rw [wait_br, brs_rev, hbr]
        rfl
      show if (inV (V.str "(") (ws.reverse.map wV)) = true then _ else _
      rw [e3]
      refine iteF ⟨_, rfl, p, dx, _, rfl, hp2, noS, p, dx, l1, l2, l3, (rd, ws), _, 0, rfl, R2, hneed, by omega, fun H5 k5 R5 => ?_⟩
      rw [show settle 0 (rd, ws).1 (rd, ws).2 = ([readT cs], []) from hset] at R5
      obtain ⟨rows, idx, Ra, wf, hi, eT, hn, hl, hlast⟩ := R5
      obtain ⟨i, r, rfl, hil⟩ := hlast rfl
      have eT : [readT cs] = (i :: r).map (tree rows) := eT
      rw [List.map_cons] at eT
      have eT1 : readT cs = tree rows i := (List.cons.inj eT).1
      have eroot : root rows = readT cs := by
        unfold root
        rw [← hil, Nat.add_sub_cancel, eT1]
      obtain ⟨as, hb, hA⟩ := Ra.rows
      have s5 : Same H H5 := same_keep s2 k5 zs
      have hn : rows.length + 0 ≤ 2 * cs.length := hn
      refine ⟨_, rfl, p, C, dx, _, _, rfl, Ra.ins, T.cl, T.nR, rf_rows _ _ _, l1, _, rfl, .inl ⟨SqL.of hb, fun t ht => ?_⟩⟩
      have s6 : Same H5 (upd H5 t (.tup (as.map V.ref))) := same_new ht
      refine ⟨t, rows, rfl, ⟨as, upd_same, hA.same s6⟩, wf, by omega, by omega, fun q H7 s7 hq => ?_⟩
      rw [eroot] at hq
      exact k q H7 ((s5.trans s6).trans s7) hq
end
end K30
end
section
set_option maxHeartbeats 1000000
/-! K30H1: the law's box, take, row_at. -/
namespace K30
open PySem PySem.Spec PyProof.Rows L2

theorem posM {n : Nat} [h : NeZero n] : (0 : Int) < (OfNat.ofNat n : Int) := Int.natCast_pos.mpr (Nat.pos_of_ne_zero h.out)
/-- a box of draws -/
def BoxAt (H : Hp) (b : Addr) : Prop := ∃ x y : Int, H b = some (.lst [.int x, .int y])
def spBox (K : PySem.W.Frag) : Sp := fun vs H Q _ => ∃ (s : Addr) (ns : List Int) (k : Nat), vs = [.ref s, nV k] ∧ SqL K H s (ns.map V.int) ∧ k < 1000 ∧
  ∀ p H', Same H H' → H p = none → BoxAt H' p → Q (.ref p) H'
def spTake : Sp := fun vs H Q _ => ∃ (b : Addr) (n : Nat), vs = [.ref b, nV n] ∧ BoxAt H b ∧ 0 < n ∧ n < 1000000 ∧
  ∀ v H', v < n → Keep [b] H H' → BoxAt H' b → Q (nV v) H'
def spRowAt : Sp := fun vs H Q _ => ∃ (b : Addr) (n : Nat), vs = [.ref b, nV n] ∧ BoxAt H b ∧ 0 < n ∧ n < 1000000 ∧
  ∀ v H', v < n → Keep [b] H H' → BoxAt H' b → Q (nV v) H'
section
variable {P : Program} {w : World} {K : PySem.W.Frag} {mg : Str → Option Value} {base : Heap}

abbrev sBox : Stmt := top 23
abbrev nBox : List Str := ["_law_script", "_law_k", "_law_cell", "_law_seed"]
theorem scBox : FnScope nBox ["_law_script", "_law_k"] (defScope sBox) := ⟨rfl, rfl, rfl, by decide +kernel, rfl, by decide +kernel, by decide +kernel⟩
theorem fn_box {f : Addr} {fd : FuncData} (F : Fun K "_law_box" "_law_box" sBox f fd) (N : Names K w mg) : FnOk P w K mg base CX0 1 f fd ["_law_script", "_law_k"] (spBox K) := by
  refine F.ok scBox (fun vs H Q E h => ?_) (fun cdv A outer s H vs Q E hr h => ?_)
  · obtain ⟨s, ns, k, rfl, _⟩ := h
    rfl
  · obtain ⟨sc, ns, k, rfl, hs, hk, q⟩ := h
    refine ⟨_, pss_cons (ps_set (i := 2) scBox.nd rfl (Or.inl rfl) (pe_op op_add (pe_op op_mul pe_int (pv 1)) pe_int)) <|
      C8.pss_cut (ps_if (pt_cmpR op_lt (pv 1) (pe_callB call_len_seq rfl N.len (by decide +kernel) (pa_cons (pv 0) pa_nil)) (nomark _))
          (pss_one (ps_set (i := 2) scBox.nd rfl (Or.inl rfl) (pe_ix ix_list (pv 0) (pv 1) (fun _ _ => rfl))))
          (pss_one (ps_if (pt_cmpR op_gt (pe_callB call_len_seq rfl N.len (by decide +kernel) (pa_cons (pv 0) pa_nil)) pe_int (nomark _))
            (pss_one (ps_set (i := 2) scBox.nd rfl (Or.inl rfl) (pe_op op_add (pv 2) (pe_op op_mul (pe_op op_mod (pe_ix ix_list (pv 0) (pe_op op_mod (pv 1) (pe_callB call_len_seq rfl N.len (by decide +kernel) (pa_cons (pv 0) pa_nil))) (fun _ _ => rfl)) pe_int) pe_int))))
            pss_nil))) <|
        pss_cons (ps_set (i := 3) scBox.nd rfl (Or.inl rfl) (pe_op op_add (pe_op op_mod (pe_op op_add (pe_op op_mul (pe_op op_mod (pv 2) pe_int) pe_int) (pe_op op_mul pe_int (pv 1))) pe_int) pe_int)) <|
          pss_one (ps_ret (pe_lst (pa_cons (pe_op op_mul (pv 2) (pe_callTy call_int1 rfl N.int (by decide +kernel) (pa_cons (pe_cmpR op_ge (pv 2) (pe_op op_pow pe_int pe_int) (nomark _)) pa_nil))) (pa_cons (pv 3) pa_nil)))), ?_⟩
    have hl : (ns.map V.int).length = ns.length := by simp
    have at_ : ∀ j : Nat, j < ns.length → ∃ z, atI (ns.map V.int) (j : Int) = some (.int z) := fun j hj => ⟨ns[j], atI_nat (by rw [List.getElem?_map, List.getElem?_eq_getElem hj]; rfl)⟩
    refine ⟨_, rfl, _, _, rfl, rfl, .inl ⟨by decide, by decide⟩, _, _, rfl, rfl, ?_⟩
    refine ⟨fun σ H' => H' = H ∧ ∃ c : Int, σ = [some (.ref sc), some (nV k), some (.int c), none], ?_, ?_⟩
    · refine ⟨_, rfl, _, rfl, sc, _, rfl, .inl hs, _, _, rfl, rfl, _, rfl, ?_⟩
      rw [hl, dec_lt]
      by_cases c1 : k < ns.length
      · rw [decide_eq_true c1]
        obtain ⟨z, hz⟩ := at_ k c1
        exact iteT ⟨_, rfl, _, rfl, sc, _, _, _, rfl, rfl, hs, hz, rfl, _, rfl⟩
      · rw [decide_eq_false c1]
        refine iteF ⟨_, rfl, sc, _, rfl, .inl hs, _, _, rfl, rfl, _, rfl, ?_⟩
        rw [hl]
        by_cases c2 : 0 < ns.length
        · rw [show decide ((0 : Int) < (ns.length : Nat)) = true from decide_eq_true (by omega)]
          obtain ⟨z, hz⟩ := at_ (k % ns.length) (Nat.mod_lt _ c2)
          refine iteT ⟨_, rfl, _, rfl, _, rfl, _, rfl, sc, _, rfl, .inl hs, _, _, rfl, rfl, by rw [hl]; omega, sc, _, _, .int z, rfl, rfl, hs, ?_, _, _, rfl, rfl, posM, _, _, rfl, rfl, .inr ⟨by decide, by decide⟩, _, _, rfl, rfl, rfl, _, rfl⟩
          rw [hl, ← hz]
          simp
        · rw [show decide ((0 : Int) < (ns.length : Nat)) = false from decide_eq_false (by omega)]
          exact iteF ⟨rfl, _, rfl⟩
    · rintro σ H' ⟨rfl, c, rfl⟩
      refine ⟨_, rfl, _, _, rfl, rfl, posM, _, _, rfl, rfl, .inr ⟨by decide, by decide⟩, _, rfl, _, _, rfl, rfl, .inl ⟨by decide, by decide⟩, _, _, rfl, rfl, _, _, rfl, rfl, posM, _, _, rfl, rfl, ?_⟩
      refine ⟨_, rfl, _, rfl, _, _, rfl, rfl, ⟨by decide, by decide, by decide⟩, _, _, rfl, rfl, .inr ⟨_, rfl, _, _, rfl, rfl, ?_, _, rfl, Nat.le_of_ble_eq_true rfl, fun p hp => ?_⟩⟩
      · refine .inr ?_
        split <;> exact ⟨by decide, by decide⟩
      · exact q p _ (same_new hp) hp ⟨_, _, upd_same⟩

abbrev sTake : Stmt := top 24
abbrev nTake : List Str := ["_law_box_here", "_law_wide", "_law_digit", "_law_one"]
theorem scTake : FnScope nTake ["_law_box_here", "_law_wide"] (defScope sTake) := ⟨rfl, rfl, rfl, by decide +kernel, rfl, by decide +kernel, by decide +kernel⟩
theorem fn_take {f : Addr} {fd : FuncData} (F : Fun K "_law_take" "_law_take" sTake f fd) : FnOk P w K mg base CX0 1 f fd ["_law_box_here", "_law_wide"] spTake := by
  refine F.ok scTake (fun vs H Q E h => ?_) (fun cdv A outer s H vs Q E hr h => ?_)
  · obtain ⟨b, n, rfl, _⟩ := h
    rfl
  · obtain ⟨b, n, rfl, ⟨x, y, hb⟩, hn0, hn1, q⟩ := h
    refine ⟨_, pss_cons (ps_if (pt_cmpR op_gt (pe_ix ix_list (pv 0) pe_int (fun _ _ => rfl)) pe_int (nomark _))
        (pss_cons (ps_set (i := 2) scTake.nd rfl (Or.inl rfl) (pe_op op_mod (pe_ix ix_list (pv 0) pe_int (fun _ _ => rfl)) (pv 1))) <|
         pss_cons (ps_asg (pe_op op_fdiv (pe_ix ix_list (pv 0) pe_int (fun _ _ => rfl)) (pv 1)) (pg_sub (pv 0) pe_int set_list)) <|
         pss_one (ps_ret (pv 2))) pss_nil) <|
      pss_cons (ps_set (i := 3) scTake.nd rfl (Or.inl rfl) (pe_op op_mod (pe_op op_mul (pe_ix ix_list (pv 0) pe_int (fun _ _ => rfl)) pe_int) pe_int)) <|
      pss_cons (ps_asg (pe_op op_add (pe_op op_mod (pe_op op_add (pe_op op_mul (pv 3) pe_int) pe_int) pe_int) pe_int) (pg_sub (pv 0) pe_int set_list)) <|
      pss_one (ps_ret (pe_op op_mod (pe_op op_fdiv (pe_op op_add (pe_op op_mul (pv 3) pe_int) (pe_ix ix_list (pv 0) pe_int (fun _ _ => rfl))) pe_int) (pv 1))), ?_⟩
    have fin : ∀ (i : Int) (H' : Hp), Keep [b] H H' → BoxAt H' b → Q (.int (i % (n : Int))) H' := fun i H' k hB => by
      have h0 : 0 ≤ i % (n : Int) := Int.emod_nonneg _ (by omega)
      have h1 : i % (n : Int) < n := Int.emod_lt_of_pos _ (by omega)
      have := q (i % (n : Int)).toNat H' (by omega) k hB
      unfold nV at this
      rw [Int.toNat_of_nonneg h0] at this
      exact this
    refine ⟨_, rfl, b, _, _, .int x, rfl, rfl, SqL.of hb, rfl, _, _, rfl, rfl, _, rfl, ?_⟩
    by_cases c : 0 < x
    · rw [decide_eq_true c]
      refine iteT ⟨_, rfl, b, _, _, .int x, rfl, rfl, SqL.of hb, rfl, _, rfl, _, _, rfl, rfl, by show (0 : Int) < n; omega, ?_⟩
      refine ⟨_, rfl, b, _, _, .int x, rfl, rfl, SqL.of hb, rfl, _, rfl, _, _, rfl, rfl, ⟨by show (0 : Int) < n; omega, by show (n : Int) < _; omega⟩, _, rfl, b, _, _, 0, rfl, rfl, hb, rfl, ?_⟩
      exact ⟨_, rfl, fin _ _ (keep_upd (by simp)) ⟨_, _, upd_same⟩⟩
    · rw [decide_eq_false c]
      refine iteF ⟨_, rfl, b, _, _, .int y, rfl, rfl, SqL.of hb, rfl, _, _, rfl, rfl, .inr ⟨by decide, by decide⟩, _, _, rfl, rfl, posM, ?_⟩
      refine ⟨_, rfl, _, _, rfl, rfl, .inr ⟨by decide, by decide⟩, _, _, rfl, rfl, _, _, rfl, rfl, posM, _, _, rfl, rfl, _, rfl, b, _, _, 1, rfl, rfl, hb, rfl, ?_⟩
      refine ⟨_, rfl, _, _, rfl, rfl, .inr ⟨by decide, by decide⟩, _, rfl, b, _, _, _, rfl, rfl, SqL.of upd_same, rfl, _, _, rfl, rfl, _, _, rfl, rfl, ⟨by decide, by decide⟩, _, rfl, _, _, rfl, rfl, by show (0 : Int) < n; omega, ?_⟩
      exact fin _ _ (keep_upd (by simp)) ⟨_, _, upd_same⟩

abbrev sRowAt : Stmt := top 26
abbrev nRowAt : List Str := ["_law_box_here", "_law_k"]
theorem scRowAt : FnScope nRowAt ["_law_box_here", "_law_k"] (defScope sRowAt) := ⟨rfl, rfl, rfl, by decide +kernel, rfl, by decide +kernel, by decide +kernel⟩
theorem fn_rowat {f : Addr} {fd : FuncData} (F : Fun K "_law_row_at" "_law_row_at" sRowAt f fd) (fT : Fn P w K mg base "_law_take" 1 ["_law_box_here", "_law_wide"] spTake) : FnOk P w K mg base CX0 2 f fd ["_law_box_here", "_law_k"] spRowAt := by
  obtain ⟨ft, ftd, GT, mT, kT, bT⟩ := fT
  refine F.ok scRowAt (fun vs H Q E h => ?_) (fun cdv A outer s H vs Q E hr h => ?_)
  · obtain ⟨b, n, rfl, _⟩ := h
    rfl
  · obtain ⟨b, n, rfl, hB, hn0, hn1, q⟩ := h
    refine ⟨_, pss_one (ps_ret (pe_ix ix_list (pe_lst (pa_cons (pe_op op_sub (pv 1) pe_int) (pa_cons (pe_call GT hr rfl mT kT bT .nil pass0 (pa_cons (pv 0) (pa_cons (pv 1) pa_nil))) pa_nil)))
      (pe_call GT hr rfl mT kT bT .nil pass0 (pa_cons (pv 0) (pa_cons pe_int pa_nil))) (fun _ _ => rfl))), ?_⟩
    refine ⟨_, rfl, _, _, rfl, rfl, _, rfl, _, rfl, b, n, rfl, hB, hn0, hn1, fun v H1 hv k1 hB1 => ?_⟩
    refine ⟨Nat.le_of_ble_eq_true rfl, fun p hp => ?_⟩
    have s1 : Same H1 (upd H1 p (.lst [.int ((n : Int) - 1), nV v])) := same_new hp
    obtain ⟨x, y, hb⟩ := hB1
    refine ⟨_, rfl, b, 2, rfl, ⟨x, y, s1 _ _ hb⟩, by decide, by decide, fun v2 H2 hv2 k2 hB2 => ?_⟩
    have pb : p ∉ [b] := fun z => by
      rw [List.mem_singleton.mp z, hb] at hp
      cases hp
    have hp2 := k2 _ _ pb upd_same
    have k12 : Keep [b] H H2 := (k1.trans (Keep.of_same s1)).trans k2
    match v2, hv2 with
    | 0, _ =>
      refine ⟨p, _, _, _, rfl, rfl, SqL.of hp2, rfl, ?_⟩
      have := q (n - 1) H2 (by omega) k12 hB2
      unfold nV at this
      rw [show ((n - 1 : Nat) : Int) = (n : Int) - 1 by omega] at this
      exact this
    | 1, _ => exact ⟨p, _, _, _, rfl, rfl, SqL.of hp2, rfl, q v H2 hv k12 hB2⟩
end
end K30
end
section
set_option maxHeartbeats 3200000
/-! K30X2: sorted(set(xs)) of a list of texts, said weakly (its items are items of xs, and not more of them); list(x) of a text. -/
namespace K30X
open PySem PySem.Spec PyProof.Rows L2

/-- an entry: a text of xs, with its own hash -/
def GoodT (w : World) (xs : List Str) (e : Int × Value) : Prop := ∃ k tk, e.2 = Value.str k tk ∧ e.1 = hashStr w k ∧ k ∈ xs
/-- a set of at most n texts of xs -/
def SetX (w : World) (h : Heap) (a : Addr) (xs : List Str) (n : Nat) : Prop :=
  ∃ o es ep t, h.get? a = some o ∧ o.ExactSet ∧ o.data = .set es ep t ∧ (∀ e ∈ es.toList, GoodT w xs e) ∧ es.size ≤ n ∧ t.fits es.size = true ∧ Ris t.place.toList ∧ (w.params.followText "set-order" = true ∨ t.led = true)
section
variable {P : Program} {w : World} {h h' : Heap} {a : Addr} {xs : List Str} {n : Nat}
theorem SetX.at (R : SetX w h a xs n) (k : ∀ o, h.get? a = some o → h'.get? a = some o) : SetX w h' a xs n := by
  obtain ⟨o, es, ep, t, ho, r⟩ := R
  exact ⟨o, es, ep, t, k o ho, r⟩
theorem goodT_elems {l : List (Int × Value)} (g : ∀ e ∈ l, GoodT w xs e) : ElemsOf (strKind P w) l := fun e he => by
  obtain ⟨k, tk, h1, h2, _⟩ := g e he
  exact ⟨⟨k, by rw [h1]; exact strKind_is P w k tk, h2⟩, by rw [h1] <;> rfl⟩
theorem setX_new_at {w : World} {h : Heap} {a : Addr} {xs : List Str} (ho : h.get? a = some { cls := .type "set", dict := none, data := .set #[] 0 (.fresh 0 0 (!w.params.followText "set-order")) }) : SetX w h a xs 0 :=
  ⟨_, #[], 0, _, ho, ⟨rfl, rfl, rfl⟩, rfl, (fun e he => by simp at he), (Nat.le_refl _), (by rfl), List.Pairwise.nil, by
    show _ ∨ (!w.params.followText "set-order") = true
    cases w.params.followText "set-order"
    · exact .inr rfl
    · exact .inl rfl⟩
end
section
variable {P : Program} {w : World} {A : Around} {E : Value → Shared → Prop} {s : Shared} {a : Addr} {xs : List Str} {n : Nat}
theorem setX_add_tail {g : Bool → Sem Unit} (hg : ∀ (b : Bool) (s₁ : Shared) (Q' : Unit → Shared → Prop), Q' () s₁ → wpAny (model P w) A (g b) Q' E s₁)
    {o : Obj} {es : Array (Int × Value)} {ep : Nat} {t : SetTable} (ho : s.heap.get? a = some o) (hex : o.ExactSet) (hd : o.data = .set es ep t)
    {es1 : Array (Int × Value)} {t2 : SetTable} (g1 : ∀ e ∈ es1.toList, GoodT w xs e) (hn1 : es1.size ≤ n)
    (hb1 : es1.size < scanBound) (hf2 : t2.fits es1.size = true) (hr : Ris t2.place.toList) (hl : w.params.followText "set-order" = true ∨ t2.led = true) {wasDummy : Bool} {R : Option Bool → Shared → Prop}
    (hR : ∀ h', Heap.SameBut a s.heap h' → SetX w h' a xs n → R (some true) { s with heap := h' }) :
    wpAny (model P w) A (do
        storeSet a es1 t2
        if (!wasDummy && t2.tooFull) = true then do
            g (relayAll t2 es1 (SetTable.grown es1.size)).2.2
            storeSet a (relayAll t2 es1 (SetTable.grown es1.size)).1 (relayAll t2 es1 (SetTable.grown es1.size)).2.1
            pure (some true)
          else pure (some true)) R E s := by
  refine wpAny_bind (wpAny_storeSet_of ho hd ?_ (fits_of_scanBound hb1))
  have ho1 := store_at (es' := es1) (t' := t2) ho hd
  have sb1 := Heap.SameBut.update s.heap a (Obj.putSet es1 t2)
  split
  · have pm := relayAll_perm t2 es1 (SetTable.grown es1.size)
    have hf3 := relayAll_fits t2 es1 (SetTable.grown es1.size)
    have hr3 := relayAll_ris t2 es1 (SetTable.grown es1.size)
    have hl3 := relayAll_led t2 es1 (SetTable.grown es1.size)
    generalize relayAll t2 es1 (SetTable.grown es1.size) = Z at pm hf3 hr3 hl3 ⊢
    obtain ⟨es2, t3, gave⟩ := Z
    dsimp only at pm hf3 hr3 hl3 ⊢
    have hsz : es2.size = es1.size := by rw [← Array.length_toList, pm.length_eq, Array.length_toList]
    have hb2 : es2.size < scanBound := by rw [hsz]; exact hb1
    refine wpAny_bind (hg _ _ _ ?_)
    refine wpAny_bind (wpAny_storeSet_of ho1 rfl ?_ (fits_of_scanBound hb2))
    have ho2 := store_at (es' := es2) (t' := t3) ho1 rfl
    refine wpAny_pure (hR _ (sb1.trans (Heap.SameBut.update _ a _)) ?_)
    exact ⟨_, es2, _, t3, ho2, hex, rfl, fun e he => g1 e (pm.mem_iff.mp he), by rw [hsz]; exact hn1, hf3, hr3, hl.imp id fun z => by rw [hl3]; exact z⟩
  · exact wpAny_pure (hR _ sb1 ⟨_, es1, _, t2, ho1, hex, rfl, g1, hn1, hf2, hr, hl⟩)

theorem setX_add_hashed {k : Str} {tk : Tok} {Q : Bool → Shared → Prop} (R : SetX w s.heap a xs n) (hk : k ∈ xs) (room : n + 1 < scanBound)
    (hQ : ∀ h' b, Heap.SameBut a s.heap h' → SetX w h' a xs (n + 1) → Q b { s with heap := h' }) :
    wpAny (model P w) A (setAddHashed a (.str k tk) ((strKind P w).hash k)) Q E s := by
  obtain ⟨o, es, ep, t, ho, hex, hd, g, hn, hf, hr, hl⟩ := R
  have hb : es.size < scanBound := by omega
  have hkey : (strKind P w).is k (.str k tk) = true := strKind_is P w k tk
  have hsc : (Value.str k tk).scannable = true := rfl
  have hel : ElemsOf (strKind P w) es.toList := goodT_elems g
  unfold setAddHashed setAddHashedIn
  refine wpAny_holding (wpAny_bind (wpAny_setState_of ho hd hf ?_))
  dsimp only
  rw [byScan_of hsc hb hel]
  simp only [↓reduceIte]
  unfold setAddByScan
  refine wpAny_bind ?_
  refine wpAny_bind (wpAny_rule ?_)
  refine wpAny_bind (wpAny_setScan_of hkey ho hd hf hel ?_)
  cases hfi : List.findIdx? (fun e => (strKind P w).is k e.2) es.toList with
  | some j =>
    dsimp only
    exact wpAny_pure (wpAny_pure (hQ s.heap false (Heap.SameBut.refl a s.heap) ⟨o, es, ep, t, ho, hex, hd, g, by omega, hf, hr, hl⟩))
  | none =>
    dsimp only
    have hgw : ∀ (b : Bool) {s₁ : Shared} {Q' : Unit → Shared → Prop}, Q' () s₁ → wpAny (model P w) A (match b with | true => rule "set.scan.the-table-gave-way" | false => pure ()) Q' E s₁ :=
      fun b s₁ Q' q => by cases b <;> first | exact wpAny_pure q | exact wpAny_rule q
    have pm := layNew_perm t es ((strKind P w).hash k) (.str k tk)
    have hf1 := layNew_fits t es ((strKind P w).hash k) (.str k tk)
    have hr1 := layNew_ris t es ((strKind P w).hash k) (.str k tk) hr
    have hl1 := layNew_led t es ((strKind P w).hash k) (.str k tk)
    generalize layNew t es ((strKind P w).hash k) (.str k tk) = Z at pm hf1 hr1 hl1 ⊢
    obtain ⟨es1, t1, wasDummy, gave⟩ := Z
    dsimp only at pm hf1 hr1 hl1 ⊢
    rw [Array.toList_push] at pm
    have pc : es1.toList.Perm (((strKind P w).hash k, Value.str k tk) :: es.toList) := pm.trans (List.perm_append_singleton _ _)
    have g1 : ∀ e ∈ es1.toList, GoodT w xs e := fun e he => by
      rcases List.mem_cons.mp (pc.mem_iff.mp he) with z | z
      · rw [z]; exact ⟨k, tk, rfl, rfl, hk⟩
      · exact g e z
    have hsz : es1.size ≤ n + 1 := by
      have : es1.size = es.size + 1 := by rw [← Array.length_toList, pc.length_eq, List.length_cons, Array.length_toList]
      omega
    have hb1 : es1.size < scanBound := Nat.lt_of_le_of_lt hsz room
    have hled : w.params.followText "set-order" = true ∨ t1.led = true := hl.imp id fun z => by rw [hl1]; exact z
    have fin : ∀ h', Heap.SameBut a s.heap h' → SetX w h' a xs (n + 1) → Q true { s with heap := h' } := fun h' sb r => hQ h' true sb r
    refine wpAny_bind (hgw _ ?_)
    split
    · refine wpAny_bind ?_
      rw [hashByValue_scannable 8 hsc]
      refine wpAny_pure ?_
      refine setX_add_tail ?_ ho hex hd g1 hsz hb1 ?_ ?_ ?_ ?_
      · intro b s₁ Q' q; cases b <;> first | exact wpAny_pure q | exact wpAny_rule q
      · first | (split <;> first | exact hf1 | exact SetTable.fits_plain_off hf1) | exact hf1
      · first | (split <;> exact hr1) | exact hr1
      · first | (split <;> exact hled) | exact hled
      · intro h' sb r; dsimp only; exact wpAny_pure (fin h' sb r)
    · refine wpAny_bind (wpAny_pure ?_)
      simp only [↓reduceIte]
      refine setX_add_tail ?_ ho hex hd g1 hsz hb1 hf1 hr1 hled ?_
      · intro b s₁ Q' q; cases b <;> first | exact wpAny_pure q | exact wpAny_rule q
      · intro h' sb r; dsimp only; exact wpAny_pure (fin h' sb r)

theorem set_update_strs {I : Addr} {fp wr : List Addr} {G : Array GenState → Array GenState → Prop} {n : Nat} {Pv : Nat → Value → Prop} {St : Nat → Shared → Prop} {R : Result → Shared → Prop}
    (W : WalksS P w A.in1 I fp wr G n Pv St) (S : Addr) (hSf : S ∉ fp) (hb : n + 1 < scanBound) (hval : ∀ i v, Pv i v → ∃ k t, k ∈ xs ∧ v = .str k t) :
    ∀ (k i : Nat) (s : Shared), n - i = k → i ≤ n → St i s → SetX w s.heap S xs i →
      (∀ s', Moved (S :: wr) G s s' → SetX w s'.heap S xs n → R (.ok (.ret .none)) s') →
      codeAny (model P w) A (.builtin "set.update.loop" ⟨[.ref S, .ref I], []⟩) R s := by
  have hSw : S ∉ wr := fun h => hSf (W.sub _ h)
  have hsub : ∀ b ∈ wr, b ∈ S :: wr := fun b hb => List.mem_cons_of_mem _ hb
  intro k
  induction k with
  | zero =>
    intro i s hk' hi hst hS hR
    have hin : i = n := by omega
    subst hin
    refine codeAny_builtin F.entry_set_update_loop ?_
    rw [Around.under_plainId F.plain_set_update_loop _]
    show wpAny _ A.in1 (pyNext (.ref I) >>= _) _ _ s
    refine wpAny_bind (W.done s _ _ hst fun s' hm => ?_)
    show wpAny _ A.in1 (ret Value.none) _ _ s'
    exact wpAny_pure (hR s' (hm.mono hsub) (hS.at fun o e => hm.heap S o hSw e))
  | succ k ih =>
    intro i s hk' hi hst hS hR
    have hlt : i < n := by omega
    refine codeAny_builtin F.entry_set_update_loop ?_
    rw [Around.under_plainId F.plain_set_update_loop _]
    show wpAny _ A.in1 (pyNext (.ref I) >>= _) _ _ s
    refine wpAny_bind (W.item i s _ _ hlt hst fun v s' hP hst' hm => ?_)
    obtain ⟨z, t, hz, rfl⟩ := hval i v hP
    have hS' : SetX w s'.heap S xs i := hS.at fun o e => hm.heap S o hSw e
    show wpAny _ A.in1 (holding [Value.str z t] (setAdd S (.str z t)) >>= _) _ _ s'
    refine wpAny_bind (wpAny_holding ?_)
    unfold setAdd
    refine wpAny_holding ?_
    refine wpAny_bind ((strKind P w).pyHash (k := z) (strKind_is _ _ _ _) ?_)
    refine setX_add_hashed (s := { s' with toks := s'.toks + 1 }) hS' hz (by omega) fun h' b hsb hS2 => ?_
    refine wpAny_pure ⟨plainId_quiet F.plain_set_update_loop _, ih (i + 1) _ (by omega) hlt (W.frame _ s' _ _ hst' (Nat.le_succ _) fun b hb o e => ?_) hS2 fun s'' hm'' hS'' => ?_⟩
    · rw [hsb.2 b (fun h : b = S => hSf (by rw [← h]; exact hb))]; exact e
    · refine hR s'' (Moved.trans W.gtrans ((hm.mono hsub).then_heap (Nat.le_succ _) fun b o hb e => ?_) hm'') hS''
      rw [hsb.2 b (fun h : b = S => hb (by rw [h]; exact List.mem_cons_self))]; exact e

theorem call_set_strs {l : Addr} {items : Array Value} {Q : Value → Shared → Prop} (hh : A.handled = none) (hl : s.heap.IsList l items) (hit : ∀ (i : Nat) (v : Value), items[i]? = some v → ∃ (k : Str) (t : Tok), k ∈ xs ∧ v = Value.str k t) (hb : items.size + 1 < scanBound)
    (h : ∀ (h' : Heap) (tk : Nat), SetX w h' s.heap.objs.size xs items.size → (∀ b o, s.heap.get? b = some o → h'.get? b = some o) → Q (.ref s.heap.objs.size) { s with heap := h', toks := tk }) :
    wpAny (model P w) A (call (.type "set") [.ref l]) Q E s := by
  obtain ⟨c, tl, hmro⟩ := F.called_set.mro
  have hmade := F.called_set.made
  have hsub := F.called_set.sub
  refine wpAny_call (codeAny_of_tree ?_)
  show wpAny _ _ (callAny (.type "set") _) _ _ _
  refine wpAny_pure ⟨Code.quiet_builtin _ (by decide +kernel), codeAny_builtin F.entry_type_call ?_⟩
  rw [Around.under_plain (weight_type_call_type "set" [.ref l] []) rfl]
  have h1 := F.called_set.notType
  have h2 := F.called_set.canCreate
  have hct := F.typeCall_set_1 (.ref l)
  repeat (any_goals (first | assumption | wp_step))

  refine codeAny_mono (code_set_led1 (.ref l) (E := E) (Q₁ := fun obj s₁ => obj = .ref s.heap.objs.size ∧ s₁ = { s with heap := s.heap.push { cls := .type "set", dict := none, data := .set #[] 0 (.fresh 0 0 (!w.params.followText "set-order")) } }) ⟨rfl, rfl⟩) fun r s₁ hr => ?_
  cases r with
  | error e => exact hr
  | ok fl =>
    cases fl with
    | ret obj =>
      obtain ⟨rfl, rfl⟩ := hr
      have hS : (s.heap.push { cls := .type "set", dict := none, data := .set #[] 0 (.fresh 0 0 (!w.params.followText "set-order")) }).get? s.heap.objs.size = some { cls := .type "set", dict := none, data := .set #[] 0 (.fresh 0 0 (!w.params.followText "set-order")) } := Heap.get?_push_size _ rfl
      have hT : Shared.TypeIs { s with heap := s.heap.push { cls := .type "set", dict := none, data := .set #[] 0 (.fresh 0 0 (!w.params.followText "set-order")) } } (.ref s.heap.objs.size) "set" := ⟨_, hS, rfl⟩
      have hli := F.called_set.init.lookup
      have hbi := F.called_set.init.bind (.ref s.heap.objs.size)
      repeat (any_goals (first | assumption | wp_step))

      refine codeAny_mono (codeAny_call_builtin (R := wants (fun r s₂ => r = .none ∧ ∃ h' tk, s₂ = { s with heap := h', toks := tk } ∧ SetX w h' s.heap.objs.size xs items.size ∧
          (∀ b o, s.heap.get? b = some o → h'.get? b = some o)) E) F.called_set.init.plain F.entry_set_init (check_set_init_1 hT ?_)) fun r₂ s₂ hr₂ => ?_
      · obtain ⟨ol, hol, hcl, nl, hdl⟩ := hl
        obtain ⟨ocls, odict, odata, oslots⟩ := ol
        simp only at hcl hdl
        subst hcl; subst hdl
        have hol' : (s.heap.push { cls := .type "set", dict := none, data := .set #[] 0 (.fresh 0 0 (!w.params.followText "set-order")) }).get? l = some { cls := .type "list", dict := odict, data := .seq items nl, slots := oslots } := Heap.get?_push_of_some _ hol
        have hsls := F.sub_list_set
        have hslf := F.sub_list_frozenset
        have hne : (Value.type "list" == Value.type "dict") = false := by decide
        have hl1 : (s.heap.push { cls := .type "set", dict := none, data := .set #[] 0 (.fresh 0 0 (!w.params.followText "set-order")) }).IsList l items := ⟨_, hol', rfl, nl, rfl⟩
        unfold Builtin.«set.__init__» noKeywords Builtin.Frozenset.updateFrom
        generalize hPI : pyIter = PI
        wp_walk
        subst hPI

        refine wpAny_pyIter_list hl1 ?_
        refine wpAny_bind (wpAny_runValue ?_)
        have hlS : l < s.heap.objs.size := Heap.lt_size hol
        have hh3 : A.in1.in1.in1.handled = none := by simp [hh]
        have hneI : l ≠ (s.heap.push { cls := .type "set", dict := none, data := .set #[] 0 (.fresh 0 0 (!w.params.followText "set-order")) }).objs.size := by
          rw [Heap.size_push]; exact Nat.ne_of_lt (Nat.lt_succ_of_lt hlS)
        have hSf : s.heap.objs.size ∉ [(s.heap.push { cls := .type "set", dict := none, data := .set #[] 0 (.fresh 0 0 (!w.params.followText "set-order")) }).objs.size, l] := by
          rw [Heap.size_push]; simp only [List.mem_cons, List.mem_singleton, List.not_mem_nil, or_false, not_or]
          exact ⟨Nat.ne_of_lt (Nat.lt_succ_self _), Nat.ne_of_gt hlS⟩
        refine set_update_strs ((Walks.list hh3 _ l hneI items).toS) s.heap.objs.size
          hSf hb hit (items.size - 0) 0 _ (by omega) (Nat.zero_le _)
          ⟨⟨_, Heap.get?_push_size _ rfl, rfl, rfl⟩, (hl1.push _)⟩ ?hS0 ?hR
        case hS0 =>
          have hget : ((s.heap.push { cls := .type "set", dict := none, data := .set #[] 0 (.fresh 0 0 (!w.params.followText "set-order")) }).push { cls := .type "list_iterator", data := .fields #[.ref l, .int 0 0] }).get? s.heap.objs.size
              = some { cls := .type "set", dict := none, data := .set #[] 0 (.fresh 0 0 (!w.params.followText "set-order")) } := Heap.get?_push_of_some _ hS
          exact setX_new_at hget
        case hR =>
          intro s' hm hS'
          obtain ⟨h', g2, d', tk', os'⟩ := s'
          have eg : g2 = s.gens := hm.gens
          have ed : d' = s.drawn := hm.drawn
          have eo : os' = s.os := hm.os
          subst eg; subst ed; subst eo
          show wpAny _ _ _ _ _ _
          refine wpAny_pure ?_
          show wpAny _ _ (ret Value.none) _ _ _
          refine wpAny_pure ⟨rfl, h', tk', rfl, hS', fun b o e => ?_⟩
          have hb0 : b < s.heap.objs.size := Heap.lt_size e
          have hb1 : b ≠ s.heap.objs.size := Nat.ne_of_lt hb0
          have hb2 : b ≠ (s.heap.push { cls := .type "set", dict := none, data := .set #[] 0 (.fresh 0 0 (!w.params.followText "set-order")) }).objs.size := by
            rw [Heap.size_push]; exact Nat.ne_of_lt (Nat.lt_succ_of_lt hb0)
          exact hm.heap b o (by simp only [List.mem_cons, List.mem_singleton, List.not_mem_nil, or_false, not_or]; exact ⟨hb1, hb2⟩) (Heap.get?_push_of_some _ (Heap.get?_push_of_some _ e))

      · cases r₂ with
        | error e => exact hr₂
        | ok fl₂ =>
          cases fl₂ with
          | ret r =>
            obtain ⟨rfl, h', tk, rfl, hS', hk'⟩ := hr₂
            repeat (any_goals (first | assumption | wp_step))
            exact h _ _ hS' hk'
          | _ => exact hr₂.elim
    | _ => exact hr.elim
end

/-! ### as rules -/
def SetXO (w : World) (a : Addr) (xs : List Str) (n : Nat) : HO := .ext fun h => SetX w h a xs n
theorem setXO_new {P : Program} {w : World} {H : Hp} {h : Heap} {a : Addr} {xs : List Str} {n : Nat} (R : SetX w h a xs n) : ObjOk P w H h a (SetXO w a xs n) := by
  have ⟨o, es, ep, t, ho, q⟩ := R
  exact ⟨R, ⟨o, ho⟩, fun h1 h2 p k => SetX.at p k⟩
section
variable {X : Cx}
theorem strs_at {xs : List Str} {its : List Value} (rv : Vals (xs.map V.str) its) : ∀ (i : Nat) (v : Value), its.toArray[i]? = some v → ∃ k t, k ∈ xs ∧ v = .str k t := by
  intro i v hv
  have hv : its[i]? = some v := by simpa using hv
  have hi : i < xs.length := by
    have := rv.length
    rw [List.length_map] at this
    rw [this]
    exact (List.getElem?_eq_some_iff.mp hv).1
  obtain ⟨u, hu, ru⟩ := rv.get (i := i) (x := V.str xs[i]) (by rw [List.getElem?_map, List.getElem?_eq_getElem hi]; rfl)
  rw [hv] at hu
  obtain rfl := Option.some.inj hu
  obtain ⟨t, e⟩ := ru
  exact ⟨xs[i], t, List.getElem_mem hi, e⟩
/-- set(xs), xs a list of texts -/
def rSetS (K : PySem.W.Frag) (w : World) : List V → Hp → VK → Prop := fun vs H Q => ∃ (l : Addr) (xs : List Str), vs = [V.ref l] ∧ SqL K H l (xs.map V.str) ∧ xs.length < 1000 ∧ ∀ a, H a = none → Q (.ref a) (upd H a (SetXO w a xs xs.length))
theorem cr_setS (hc : X.calm = true) : CallR X (.type "set") (rSetS X.K X.w) := by
  intro pins s σ H vs us Q I r h
  obtain ⟨l, xs, rfl, hl, hf, q⟩ := h
  rw [Vals.ref1 r]
  obtain ⟨its, rv, pl, hz⟩ := I.list hl
  have hn : H s.heap.objs.size = none := I.hok.fresh (Nat.le_refl _)
  have hlen : its.toArray.size = xs.length := by
    have := rv.length
    rw [List.length_map] at this
    rw [List.size_toArray, this]
  have hsb : 1001 ≤ scanBound := by decide +kernel
  refine call_set_strs (P := X.prog) (w := X.w) (xs := xs) (I.ok.hd hc) pl.isList (strs_at rv) (by rw [hlen]; omega) fun h' tk R k => ?_
  rw [hlen] at R
  exact ⟨.ref s.heap.objs.size, upd H s.heap.objs.size (SetXO X.w s.heap.objs.size xs xs.length), I.laid (t' := tk) k (Nat.le_refl _) (setXO_new R), rfl, q _ hn⟩
theorem texts_of {w : World} {xs : List Str} : ∀ (l : List Value), (∀ v ∈ l, ∃ k tk, v = Value.str k tk ∧ k ∈ xs) → ∃ ks, StrsAre l ks ∧ ∀ k ∈ ks, k ∈ xs
  | [], _ => ⟨[], .nil, fun k h => nomatch h⟩
  | v :: l, h => by
    obtain ⟨k, tk, rfl, hk⟩ := h v List.mem_cons_self
    obtain ⟨ks, h1, h2⟩ := texts_of (w := w) l fun u hu => h u (List.mem_cons_of_mem _ hu)
    refine ⟨k :: ks, .cons k tk h1, fun z hz => ?_⟩
    rcases List.mem_cons.mp hz with e | e
    · rw [e]; exact hk
    · exact h2 z e
/-- sorted(set), of fewer than 64 texts: some of them, in a new list -/
def rSortedX (w : World) : List V → Hp → VK → Prop := fun vs H Q => ∃ (a : Addr) (xs : List Str) (n : Nat), vs = [V.ref a] ∧ H a = some (SetXO w a xs n) ∧ n < 64 ∧
  ∀ (ys : List Str) (p : Addr), (∀ y ∈ ys, y ∈ xs) → ys.length ≤ n → H p = none → Q (.ref p) (upd H p (.lst (ys.map V.str)))
theorem cr_sortedX (hc : X.calm = true) : CallR X (.builtin "sorted") (rSortedX X.w) := by
  intro pins s σ H vs us Q I r h
  obtain ⟨a, xs, n, rfl, ha, h64, q⟩ := h
  have R : SetX X.w s.heap a xs n := (I.hok a _ ha).1
  obtain ⟨o, es, ep, t, ho, hex, hd, g, hn, hf, hr, hl⟩ := R
  rw [Vals.ref1 r]
  have hsb : 1001 ≤ scanBound := by decide +kernel
  refine Calls.call_function_entry PyProof.Rows.kind_sorted PyProof.Rows.plain_sorted PyProof.Rows.entry_sorted (PyProof.Rows.args_sorted1 _) ?_
  unfold Builtin.«sorted»
  refine wpAny_bind (m := checkCount "sorted" 1 1 _) (wpAny_pure ?_)
  refine wpAny_bind (collect_set (A := X.A.in1) (I.ok.hd hc) ⟨o, ho, hex.1, hd⟩ hf (by omega) hr hl fun s1 out k1 hz g1 o1 pm => ?_)
  have hol : out.length ≤ n := by rw [pm.length_eq, List.length_map, Array.length_toList]; exact hn
  obtain ⟨ks, hS, hks⟩ := texts_of (w := X.w) (xs := xs) out fun v hv => by
    obtain ⟨e, he, z⟩ := List.mem_map.mp (pm.mem_iff.mp hv)
    obtain ⟨k, tk, h1, _, h3⟩ := g e he
    exact ⟨k, tk, by rw [← z]; exact h1, h3⟩
  refine wpAny_bind (wpAny_newList ?_ (by rw [sizeLine_eq]; omega))
  have hoL : (s1.heap.push (seqObj "list" out.toArray 0)).get? s1.heap.objs.size = some (seqObj "list" out.toArray 0) := Heap.get?_push_size _ rfl
  refine wpAny_bind (wpAny_holding (wpAny_call_entry PyProof.Rows.slot_list_sort ⟨_, hoL, rfl⟩ PyProof.Rows.entry_list_sort
    (list_sort_treeK strKind_oneLt hoL hS.keysOf (fun v₁ v₂ rest e => keyKind_strs (by rw [← e]; exact hS)) (by omega) fun st' hp hs => ⟨_, rfl, ?_⟩)
    (PyProof.Rows.args_list_sort _)))
  obtain ⟨ys, y1, y2, y3⟩ := sorted_out_str hS hp hs
  obtain ⟨O, hO⟩ : ∃ O : Array Value, O = (arrOf st').map (fun p => p.2) := ⟨_, rfl⟩
  obtain ⟨e', he'⟩ := PyProof.Rows.sortedHeap_at (vs := out) (out := O) hoL
  rw [← hO] at y1
  have hkl : ks.length = out.length := hS.length.symm
  have hyl : ys.length ≤ n := by rw [y2.length_eq, hkl]; exact hol
  have hlen : (ys.map V.str).length ≤ sizeLine := by
    rw [List.length_map, sizeLine_eq]
    omega
  have kk : ∀ b u, s.heap.get? b = some u → (sortedHeap (s1.heap.push (seqObj "list" out.toArray 0)) s1.heap.objs.size out O).get? b = some u := fun b u e => by
    have q1 := k1 b u e
    have hb : b < s1.heap.objs.size := Heap.lt_size q1
    rw [PyProof.Rows.sortedHeap_old (Nat.ne_of_lt hb) (by rw [size_push']; exact Nat.lt_succ_of_lt hb)]
    exact Heap.get?_push_of_some _ q1
  have hn0 : H s1.heap.objs.size = none := I.hok.fresh hz
  refine wpAny_pure ⟨_, rfl, ?_⟩
  rw [← hO]
  have J : Inv X pins σ (upd H s1.heap.objs.size (.lst (ys.map V.str))) { s with heap := sortedHeap (s1.heap.push (seqObj "list" out.toArray 0)) s1.heap.objs.size out O, gens := s1.gens, drawn := s1.drawn, toks := s1.toks } :=
    I.call (ch := []) (Un.laid kk hz hn0) (I.hok.laid kk hz ⟨hlen, O.toList, e', vals_of_strs y1, by rw [Array.toArray_toList]; exact he'⟩) (by rw [g1]; exact I.bare) (fun _ z => nomatch z)
  have e : { s1 with heap := sortedHeap (s1.heap.push (seqObj "list" out.toArray 0)) s1.heap.objs.size out O } = { s with heap := sortedHeap (s1.heap.push (seqObj "list" out.toArray 0)) s1.heap.objs.size out O, gens := s1.gens, drawn := s1.drawn, toks := s1.toks } := by
    cases s1
    cases s
    cases o1
    rfl
  show EP X pins σ Q _ { s1 with heap := sortedHeap (s1.heap.push (seqObj "list" out.toArray 0)) s1.heap.objs.size out O }
  rw [e]
  exact ⟨.ref s1.heap.objs.size, _, J, rfl, q ys _ (fun y hy => hks y (y2.mem_iff.mp hy)) hyl hn0⟩
end
end K30X
end
section
set_option maxHeartbeats 3200000
/-! K30X3: list(x) of a text: a new list of its signs. -/
namespace K30X
open PySem PySem.Spec PyProof.Rows L2
section
variable {X : Cx}
/-- list(x): its signs -/
def rListX : List V → Hp → VK → Prop := fun vs H Q => ∃ x : Str, vs = [V.str x] ∧ x.cps.size ≤ sizeLine ∧ ∀ p, H p = none → Q (.ref p) (upd H p (.lst (x.cps.toList.map fun c => V.str ⟨#[c]⟩)))
theorem call_list_txt (hc : X.calm = true) : CallR X (.type "list") rListX := by
  intro pins s σ H vs us Q I r h
  obtain ⟨x, rfl, hz, q⟩ := h
  obtain ⟨u, rfl, ru⟩ := r.one
  obtain ⟨t, rfl⟩ := ru
  refine call_list_str (I.ok.hd hc) x t (fun h' tk acc' c' hk hS hacc => ?_) hz
  have hlen : acc'.toList.length = (x.cps.toList.map fun c => V.str ⟨#[c]⟩).length := by
    rw [List.length_map, Array.length_toList, Array.length_toList, hacc.1]
  have hv : Vals (x.cps.toList.map fun c => V.str ⟨#[c]⟩) acc'.toList := vals_of_idx _ _ hlen fun j u e => by
    obtain ⟨c, t', h1, h2⟩ := hacc.2 j u (by rw [← Array.getElem?_toList]; exact e)
    refine ⟨V.str ⟨#[c]⟩, ?_, ?_⟩
    · rw [List.getElem?_map, Array.getElem?_toList, h1]
      rfl
    · rw [h2]
      exact ⟨_, rfl⟩
  have hm : (x.cps.toList.map fun c => V.str ⟨#[c]⟩).length ≤ sizeLine := by rw [List.length_map, Array.length_toList]; exact hz
  exact ⟨.ref s.heap.objs.size, upd H s.heap.objs.size (.lst (x.cps.toList.map fun c => V.str ⟨#[c]⟩)), I.laid (t' := tk) hk (Nat.le_refl _)
    (show ObjOk X.prog X.w _ _ _ (.lst (x.cps.toList.map fun c => V.str ⟨#[c]⟩)) from ⟨hm, acc'.toList, c', hv, by rw [Array.toArray_toList]; exact hS⟩), rfl, q _ (I.hok.fresh (Nat.le_refl _))⟩
end
end K30X
end
section
set_option maxHeartbeats 1000000
/-! K30H2: the law's letters. -/
namespace K30
open PySem PySem.Spec PyProof.Rows L2

theorem Keep.upd0 {l : List Addr} {H H2 : Hp} {p : Addr} {o : HO} (k : Keep l H H2) (h : H p = none) : Keep l H (upd H2 p o) := fun b u hb e => by
  rw [upd_ne (ne_of_none e h)]
  exact k b u hb e
theorem keep_new {l : List Addr} {H : Hp} {p : Addr} {o : HO} (h : H p = none) : Keep l H (upd H p o) := (Keep.refl l H).upd0 h
theorem BoxAt.some {H : Hp} {b : Addr} (h : BoxAt H b) : ∃ xs, H b = some (.lst xs) := by
  obtain ⟨x, y, e⟩ := h
  exact ⟨_, e⟩
theorem BoxAt.new {H : Hp} {b p : Addr} {o : HO} (h : BoxAt H b) (hp : H p = none) : BoxAt (upd H p o) b := by
  obtain ⟨x, y, e⟩ := h
  exact ⟨x, y, (same_new hp) _ _ e⟩
theorem BoxAt.upd {H : Hp} {b p : Addr} {o : HO} (h : BoxAt H b) (hp : b ≠ p) : BoxAt (upd H p o) b := by
  obtain ⟨x, y, e⟩ := h
  exact ⟨x, y, by rw [upd_ne hp]; exact e⟩
def sgV (c : Nat) : V := .str (sg c)
def spLetters : Sp := fun vs H Q _ => ∃ (b : Addr) (n : Nat), vs = [.ref b, nV n] ∧ BoxAt H b ∧ 0 < n ∧ n ≤ 26 ∧
  ∀ cs H', cs.all isLet = true → cs.length ≤ 26 → 0 < cs.length → Keep [b] H H' → BoxAt H' b → Q (.str (st cs)) H'
section
variable {P : Program} {w : World} {K : PySem.W.Frag} {mg : Str → Option Value} {base : Heap}
abbrev sLetters : Stmt := top 25
abbrev nLetters : List Str := ["_law_box_here", "_law_most", "_law_pool", "_law_found", "_law_k"]
theorem scLetters : FnScope nLetters ["_law_box_here", "_law_most"] (defScope sLetters) := ⟨rfl, rfl, rfl, by decide +kernel, rfl, by decide +kernel, by decide +kernel⟩
theorem all_erase {p : Nat → Bool} : ∀ (l : List Nat) (i : Nat), l.all p = true → (l.eraseIdx i).all p = true := fun l i h => by
  rw [List.all_eq_true] at h ⊢
  exact fun x hx => h x (List.mem_of_mem_eraseIdx hx)
theorem map_erase (l : List Nat) (i : Nat) : (l.map sgV).eraseIdx i = (l.eraseIdx i).map sgV := by
  induction l generalizing i with
  | nil => rfl
  | cons x l ih =>
    cases i with
    | zero => rfl
    | succ i =>
      show sgV x :: (l.map sgV).eraseIdx i = sgV x :: (l.eraseIdx i).map sgV
      rw [ih]
theorem fn_letters {f : Addr} {fd : FuncData} (F : Fun K "_law_letters" "_law_letters" sLetters f fd) (N : Names K w mg) (fT : Fn P w K mg base "_law_take" 1 ["_law_box_here", "_law_wide"] spTake) : FnOk P w K mg base CX0 2 f fd ["_law_box_here", "_law_most"] spLetters := by
  obtain ⟨ft, ftd, GT, mT, kT, bT⟩ := fT
  refine F.ok scLetters (fun vs H Q E h => ?_) (fun cdv A outer s H vs Q E hr h => ?_)
  · obtain ⟨b, n, rfl, _⟩ := h
    rfl
  · obtain ⟨b, n, rfl, hB, hn0, hn1, q⟩ := h
    refine ⟨_, pss_cons (ps_set (i := 2) scLetters.nd rfl (Or.inl rfl) (pe_callTy (K30X.call_list_txt rfl) rfl N.list (by decide +kernel) (pa_cons pe_str pa_nil))) <|
      pss_cons (ps_set (i := 3) scLetters.nd rfl (Or.inl rfl) pe_str) <|
      pss_cons (ps_for PassesOwn.never rfl (pi_range1 rfl N.range (pa_cons (pe_op op_add pe_int (pe_call GT hr rfl mT kT bT .nil pass0 (pa_cons (pv 0) (pa_cons (pv 1) pa_nil)))) pa_nil)) (pg_name (i := 4) scLetters.nd rfl (Or.inl rfl))
        (pss_one (ps_set (i := 3) scLetters.nd rfl (Or.inl rfl) (pe_op op_add_str (pv 3) (pe_bm PySem.F.plainAttrs_list PySem.F.slot_list_pop PySem.F.type_list_pop mt_popAt (pv 2)
          (pa_cons (pe_call GT hr rfl mT kT bT .nil pass0 (pa_cons (pv 0) (pa_cons (pe_callB call_len_seq rfl N.len (by decide +kernel) (pa_cons (pv 2) pa_nil)) pa_nil))) pa_nil)))))) <|
      pss_one (ps_ret (pv 3)), ?_⟩
    refine ⟨_, rfl, lineBig (by decide +kernel), fun p hp => ?_⟩
    have hpb : b ≠ p := fun z => by
      obtain ⟨xs, e⟩ := hB.some
      rw [z, hp] at e
      cases e
    refine ⟨_, rfl, _, rfl, b, n, rfl, hB.new hp, hn0, by omega, fun v H1 hv k1 hB1 => ?_⟩
    refine ⟨_, _, rfl, rfl, _, rfl, by show _ ≤ 1 + ((v : Nat) : Int); omega, by show 1 + ((v : Nat) : Int) < _; omega, ?_⟩
    rw [show ((1 : Int) + ((v : Nat) : Int)).toNat = 1 + v by omega]
    have k01 : Keep [b] H H1 := (keep_new hp).trans k1
    have hp1 := k1 p _ (by simpa using Ne.symm hpb) upd_same
    have e26 : ("abcdefghijklmnopqrstuvwxyz" : Str).cps.toList.length = 26 := by rw [abc_codes]; rfl
    have lets0 : ("abcdefghijklmnopqrstuvwxyz" : Str).cps.toList.all isLet = true := by
      rw [List.all_eq_true]
      intro c hc
      rw [← mem_abc c]
      exact decide_eq_true hc
    refine for_range (fun i σ H2 => ∃ (fs ps : List Nat) (a4 : Option V), σ = [some (.ref b), some (nV n), some (.ref p), some (.str (st fs)), a4] ∧ Keep [b] H H2 ∧ BoxAt H2 b ∧ H2 p = some (.lst (ps.map sgV)) ∧ ps.all isLet = true ∧ fs.all isLet = true ∧ fs.length = i ∧ ps.length = 26 - i)
      ⟨[], _, none, rfl, k01, hB1, hp1, lets0, rfl, rfl, e26⟩ ?_ ?_
    · rintro i σ H2 hi ⟨fs, ps, a4, rfl, k2, hB2, hp2, hps, hfs, hfl, hpl⟩
      have hlen : (ps.map sgV).length = ps.length := by simp
      refine ⟨_, rfl, _, rfl, .inl ⟨rfl, _, SqL.of hp2⟩, _, rfl, _, rfl, p, _, rfl, .inl (SqL.of hp2), b, ps.length, by rw [hlen]; rfl, hB2, by omega, by omega, fun u H3 hu k3 hB3 => ?_⟩
      have hp3 := k3 p _ (by simpa using Ne.symm hpb) hp2
      have hix : ixN (ps.map sgV).length ((u : Nat) : Int) = some u := by
        unfold ixN
        rw [if_pos (by omega), if_pos (by rw [hlen]; omega)]
        simp
      have hgu : ps[u]? = some ps[u] := List.getElem?_eq_getElem hu
      refine ⟨p, _, _, u, sgV ps[u], rfl, rfl, hp3, by omega, by omega, (ixN_seq hix).1, by rw [List.getElem?_map, hgu]; rfl, ?_⟩
      refine ⟨_, _, rfl, rfl, ?_, fs ++ [ps[u]], ps.eraseIdx u, some (.int (0 + ((i : Nat) : Int))), ?_, (k2.trans k3).upd0 hp, hB3.upd hpb, ?_, all_erase ps u hps, ?_, ?_, ?_⟩
      · rw [st_length]
        show fs.length + 1 ≤ sizeLine
        exact lineBig (by omega)
      · show [some (V.ref b), some (nV n), some (V.ref p), some (V.str (st fs ++ sg ps[u])), some (V.int (0 + ((i : Nat) : Int)))] = _
        rw [sg_st, st_append]
      · rw [upd_same, map_erase]
      · rw [List.all_append, hfs]
        have := List.all_eq_true.mp hps ps[u] (List.getElem_mem _)
        simp [this]
      · simp [hfl]
      · rw [List.length_eraseIdx_of_lt hu]
        omega
    · rintro σ H2 ⟨fs, ps, a4, rfl, k2, hB2, hp2, hps, hfs, hfl, hpl⟩
      exact ⟨_, rfl, q fs H2 hfs (by omega) (by omega) k2 hB2⟩
end
end K30
end
section
set_option maxHeartbeats 1000000
/-! K30H3: the law's drawn expressions. -/
namespace K30
open PySem PySem.Spec PyProof.Rows L2

theorem keepB_tup {b : Addr} {H H' : Hp} (k : Keep [b] H H') (hB : BoxAt H b) : ∀ c xs, H c = some (.tup xs) → H' c = some (.tup xs) := fun c xs e =>
  k.tup (fun x hx xs' z => by
    obtain ⟨ys, e'⟩ := hB.some
    rw [List.mem_singleton.mp hx, e'] at z
    cases z) e
/-- a row is put behind a list of rows -/
theorem ListAt.put {H : Hp} {p a : Addr} {as : List Addr} {rs : List Row} {r : Row} (h : H p = some (.lst (as.map V.ref))) (hA : RowsAt H as rs) (ha : H a = some (.tup (vals r))) :
    (upd H p (.lst (as.map V.ref ++ [.ref a]))) p = some (.lst ((as ++ [a]).map V.ref)) ∧ RowsAt (upd H p (.lst (as.map V.ref ++ [.ref a]))) (as ++ [a]) (rs ++ [r]) :=
  ⟨by rw [upd_same]; simp, (hA.snoc ha).keep (upd_tup fun xs z => by rw [h] at z; cases z)⟩
def pickV : List V := [.int 0, .int 0, .int 0, .int 0, .int 1, .int 2]
theorem pick_at : ∀ u : Nat, u < 6 → ∃ j : Nat, j < 3 ∧ atI pickV (u : Int) = some (.int (j : Nat))
  | 0, _ => ⟨0, by decide, rfl⟩
  | 1, _ => ⟨0, by decide, rfl⟩
  | 2, _ => ⟨0, by decide, rfl⟩
  | 3, _ => ⟨0, by decide, rfl⟩
  | 4, _ => ⟨1, by decide, rfl⟩
  | 5, _ => ⟨2, by decide, rfl⟩
theorem base_at {H : Hp} {t1 t2 t3 : Addr} {c : Nat} (h1 : H t1 = some (.tup (vals (.letter c)))) (h2 : H t2 = some (.tup (vals .blank))) (h3 : H t3 = some (.tup (vals .nothing))) :
    ∀ j : Nat, j < 3 → ∃ t r, atI [V.ref t1, V.ref t2, V.ref t3] (j : Int) = some (.ref t) ∧ H t = some (.tup (vals r)) ∧ isLeaf r = true ∧ ∀ d, r = .letter d → d = c
  | 0, _ => ⟨t1, _, rfl, h1, rfl, fun d e => (Row.letter.inj e).symm⟩
  | 1, _ => ⟨t2, _, rfl, h2, rfl, fun d e => nomatch e⟩
  | 2, _ => ⟨t3, _, rfl, h3, rfl, fun d e => nomatch e⟩
theorem four_new {H : Hp} {t1 t2 t3 B : Addr} {o1 o2 o3 oB : HO} (h1 : H t1 = none) (h2 : upd H t1 o1 t2 = none) (h3 : upd (upd H t1 o1) t2 o2 t3 = none) (hB : upd (upd (upd H t1 o1) t2 o2) t3 o3 B = none) :
    (upd (upd (upd (upd H t1 o1) t2 o2) t3 o3) B oB) t1 = some o1 ∧ (upd (upd (upd (upd H t1 o1) t2 o2) t3 o3) B oB) t2 = some o2 ∧ (upd (upd (upd (upd H t1 o1) t2 o2) t3 o3) B oB) t3 = some o3 ∧ (upd (upd (upd (upd H t1 o1) t2 o2) t3 o3) B oB) B = some oB ∧
      Same H (upd (upd (upd (upd H t1 o1) t2 o2) t3 o3) B oB) := by
  have s1 : Same H (upd H t1 o1) := same_new h1
  have s2 : Same (upd H t1 o1) (upd (upd H t1 o1) t2 o2) := same_new h2
  have s3 : Same (upd (upd H t1 o1) t2 o2) (upd (upd (upd H t1 o1) t2 o2) t3 o3) := same_new h3
  have s4 : Same (upd (upd (upd H t1 o1) t2 o2) t3 o3) (upd (upd (upd (upd H t1 o1) t2 o2) t3 o3) B oB) := same_new hB
  exact ⟨s4 _ _ (s3 _ _ (s2 _ _ upd_same)), s4 _ _ (s3 _ _ upd_same), s4 _ _ upd_same, upd_same, ((s1.trans s2).trans s3).trans s4⟩
theorem BoxAt.same {H H' : Hp} {b : Addr} (h : BoxAt H b) (s : Same H H') : BoxAt H' b := by
  obtain ⟨x, y, e⟩ := h
  exact ⟨x, y, s _ _ e⟩
theorem BoxAt.ne {H : Hp} {b p : Addr} (h : BoxAt H b) (hp : H p = none) : p ∉ [b] := fun z => by
  obtain ⟨xs, e⟩ := h.some
  rw [List.mem_singleton.mp z, e] at hp
  cases hp
theorem leaf_parts {r : Row} (h : isLeaf r = true) : r.parts = [] := by
  cases r <;> first | rfl | cases h
theorem st_list (cs : List Nat) : (st cs).cps.toList = cs := by simp [st]
theorem let_at {cs : List Nat} {u : Nat} (h : u < cs.length) : ∃ c, cs[u]? = some c ∧ atI (st cs).cps.toList (u : Int) = some c := ⟨cs[u], List.getElem?_eq_getElem h, by rw [st_list]; exact atI_nat (List.getElem?_eq_getElem h)⟩
theorem all_at {cs : List Nat} (h : cs.all isLet = true) {u c : Nat} (e : cs[u]? = some c) : isLet c = true := List.all_eq_true.mp h c (List.mem_of_getElem? e)
def opsV : List V := [.str "behind", .str "behind", .str "behind", .str "or", .str "or", .str "and"]
theorem ops_at : ∀ u : Nat, u < 6 → ∃ o, atI opsV (u : Int) = some (.str (wd o))
  | 0, _ => ⟨.seq, rfl⟩
  | 1, _ => ⟨.seq, rfl⟩
  | 2, _ => ⟨.seq, rfl⟩
  | 3, _ => ⟨.or, rfl⟩
  | 4, _ => ⟨.or, rfl⟩
  | 5, _ => ⟨.and, rfl⟩
theorem WF.nil : WF [] := fun i r e => by simp at e
theorem Lets.nil : Lets [] := fun c h => nomatch h

def spExpr : Sp := fun vs H Q _ => ∃ (b : Addr) (cs : List Nat) (n : Nat), vs = [.ref b, .str (st cs), nV n] ∧ BoxAt H b ∧ cs.all isLet = true ∧ 0 < cs.length ∧ cs.length ≤ 26 ∧ 0 < n ∧ n ≤ 8 ∧
  ∀ e rs H', Keep [b] H H' → BoxAt H' b → ExprAt H' e rs → Drawn rs → Q (.ref e) H'
section
variable {P : Program} {w : World} {K : PySem.W.Frag} {mg : Str → Option Value} {base : Heap}
abbrev sExpr : Stmt := top 27
abbrev nExpr : List Str := ["_law_box_here", "_law_letters_here", "_law_most", "_law_rows", "_law_k", "_law_kind", "_law_base", "_law_word"]
abbrev pExpr : List Str := ["_law_box_here", "_law_letters_here", "_law_most"]
theorem scExpr : FnScope nExpr pExpr (defScope sExpr) := ⟨rfl, rfl, rfl, by decide +kernel, rfl, by decide +kernel, by decide +kernel⟩
theorem fn_expr {f : Addr} {fd : FuncData} (F : Fun K "_law_expression" "_law_expression" sExpr f fd) (N : Names K w mg) (fT : Fn P w K mg base "_law_take" 1 ["_law_box_here", "_law_wide"] spTake)
    (fR : Fn P w K mg base "_law_row_at" 2 ["_law_box_here", "_law_k"] spRowAt) : FnOk P w K mg base CX0 3 f fd pExpr spExpr := by
  obtain ⟨ft, ftd, GT, mT, kT, bT⟩ := fT
  obtain ⟨fr, frd, GR, mR, kR, bR⟩ := fR
  refine F.ok scExpr (fun vs H Q E h => ?_) (fun cdv A outer s H vs Q E hr h => ?_)
  · obtain ⟨b, cs, n, rfl, _⟩ := h
    rfl
  · obtain ⟨b, cs, n, rfl, hB, hcs, hc0, hc1, hn0, hn1, q⟩ := h
    have hr1 : Room 1 _ := hr.mono (by decide)
    refine ⟨_, pss_cons (ps_set (i := 3) scExpr.nd rfl (Or.inl rfl) (pe_lst pa_nil)) <|
      pss_cons (ps_for PassesOwn.never rfl (pi_range1 rfl N.range (pa_cons (pe_op op_add pe_int (pe_call GT hr1 rfl mT kT bT .nil pass0 (pa_cons (pv 0) (pa_cons (pv 2) pa_nil)))) pa_nil)) (pg_name (i := 4) scExpr.nd rfl (Or.inl rfl))
        (pss_cons (ps_set (i := 5) scExpr.nd rfl (Or.inl rfl) (pe_call GT hr1 rfl mT kT bT .nil pass0 (pa_cons (pv 0) (pa_cons pe_int pa_nil)))) <|
         pss_one (ps_if (PW.pt (pw_or (pt_cmpR op_eq (pv 4) pe_int (nomark _)) (pw_or1 (pt_cmpR op_lt (pv 5) pe_int (nomark _)))))
           (pss_cons (ps_set (i := 6) scExpr.nd rfl (Or.inl rfl) (pe_lst (pa_cons (pe_tup (pa_cons pe_str (pa_cons (pe_ix ix_str (pv 1) (pe_call GT hr1 rfl mT kT bT .nil pass0 (pa_cons (pv 0) (pa_cons (pe_callB call_len_str rfl N.len (by decide +kernel) (pa_cons (pv 1) pa_nil)) pa_nil))) (fun _ _ => rfl)) pa_nil)))
               (pa_cons (pe_tup (pa_cons pe_str pa_nil)) (pa_cons (pe_tup (pa_cons pe_str pa_nil)) pa_nil))))) <|
            pss_one (ps_expr (pe_bm PySem.F.plainAttrs_list PySem.F.slot_list_append PySem.F.type_list_append mt_append (pv 3)
              (pa_cons (pe_ix ix_list (pv 6) (pe_ix ix_list (pe_lst (pa_cons pe_int (pa_cons pe_int (pa_cons pe_int (pa_cons pe_int (pa_cons pe_int (pa_cons pe_int pa_nil)))))))
                (pe_call GT hr1 rfl mT kT bT .nil pass0 (pa_cons (pv 0) (pa_cons pe_int pa_nil))) (fun _ _ => rfl)) (fun _ _ => rfl)) pa_nil))))
           (pss_one (ps_if (pt_cmpR op_lt (pv 5) pe_int (nomark _))
             (pss_one (ps_expr (pe_bm PySem.F.plainAttrs_list PySem.F.slot_list_append PySem.F.type_list_append mt_append (pv 3)
               (pa_cons (pe_tup (pa_cons pe_str (pa_cons (pe_call GR hr rfl mR kR bR .nil pass0 (pa_cons (pv 0) (pa_cons (pv 4) pa_nil))) pa_nil))) pa_nil))))
             (pss_cons (ps_set (i := 7) scExpr.nd rfl (Or.inl rfl) (pe_ix ix_list (pe_lst (pa_cons pe_str (pa_cons pe_str (pa_cons pe_str (pa_cons pe_str (pa_cons pe_str (pa_cons pe_str pa_nil))))))) (pe_op op_sub (pv 5) pe_int) (fun _ _ => rfl))) <|
              pss_one (ps_expr (pe_bm PySem.F.plainAttrs_list PySem.F.slot_list_append PySem.F.type_list_append mt_append (pv 3)
               (pa_cons (pe_tup (pa_cons (pv 7) (pa_cons (pe_call GR hr rfl mR kR bR .nil pass0 (pa_cons (pv 0) (pa_cons (pv 4) pa_nil))) (pa_cons (pe_call GT hr1 rfl mT kT bT .nil pass0 (pa_cons (pv 0) (pa_cons (pv 4) pa_nil))) pa_nil)))) pa_nil))))))))) <|
      pss_one (ps_ret (pe_callTy call_tuple_of (by rfl) N.tuple (by decide +kernel) (pa_cons (pv 3) pa_nil))), ?_⟩
    refine ⟨Nat.zero_le _, fun p hp => ?_⟩
    have hpb : b ≠ p := fun z => by
      obtain ⟨xs, e⟩ := hB.some
      rw [z, hp] at e
      cases e
    have pnb : p ∉ [b] := by simpa using Ne.symm hpb
    refine ⟨_, rfl, _, rfl, b, n, rfl, hB.new hp, hn0, by omega, fun v H1 hv k1 hB1 => ?_⟩
    refine ⟨_, _, rfl, rfl, _, rfl, by show _ ≤ 1 + ((v : Nat) : Int); omega, by show 1 + ((v : Nat) : Int) < _; omega, ?_⟩
    rw [show ((1 : Int) + ((v : Nat) : Int)).toNat = 1 + v by omega]
    have k01 : Keep [b] H H1 := (keep_new hp).trans k1
    have hp1 := k1 p _ pnb upd_same
    refine for_range (fun i σ H2 => ∃ (as : List Addr) (rs : List Row) (a4 a5 a6 a7 : Option V), σ = [some (.ref b), some (.str (st cs)), some (nV n), some (.ref p), a4, a5, a6, a7] ∧ Keep [b] H H2 ∧ BoxAt H2 b ∧
        H2 p = some (.lst (as.map V.ref)) ∧ RowsAt H2 as rs ∧ WF rs ∧ Lets rs ∧ rs.length = i)
      ⟨[], [], none, none, none, none, rfl, k01, hB1, hp1, RowsAt.nil _, WF.nil, Lets.nil, rfl⟩ ?_ ?_
    · rintro i σ H2 hi ⟨as, rs, a4, a5, a6, a7, rfl, k2, hB2, hp2, hA2, wf, lets, hlen⟩
      have las : (as.map V.ref).length = i := by rw [List.length_map, hA2.1, hlen]
      rw [show (0 : Int) + ((i : Nat) : Int) = ((i : Nat) : Int) from Int.zero_add _]
      refine ⟨_, rfl, b, 12, rfl, hB2, by decide, by decide, fun d H3 hd k3 hB3 => ?_⟩
      have fin : ∀ (H4 : Hp) (t : Addr) (r : Row) (a5 a6 a7 : Option V), Keep [b] H2 H4 → BoxAt H4 b → H4 t = some (.tup (vals r)) → (∀ q ∈ r.parts, q < i) → (∀ c, r = .letter c → isLet c = true) →
          ∃ l xs y, V.ref p = V.ref l ∧ [V.ref t] = [y] ∧ H4 l = some (.lst xs) ∧ xs.length < sizeLine ∧
            ∃ (as : List Addr) (rs : List Row) (a4' a5' a6' a7' : Option V), ([some (.ref b), some (.str (st cs)), some (nV n), some (.ref p), some (.int (i : Nat)), a5, a6, a7] : L2.St) = [some (.ref b), some (.str (st cs)), some (nV n), some (.ref p), a4', a5', a6', a7'] ∧ Keep [b] H (upd H4 l (.lst (xs ++ [y]))) ∧ BoxAt (upd H4 l (.lst (xs ++ [y]))) b ∧
              (upd H4 l (.lst (xs ++ [y]))) p = some (.lst (as.map V.ref)) ∧ RowsAt (upd H4 l (.lst (xs ++ [y]))) as rs ∧ WF rs ∧ Lets rs ∧ rs.length = i + 1 := fun H4 t r a5 a6 a7 k4 hB4 ht hparts hlets => by
        have hp4 := k4 p _ pnb hp2
        have hA4 := hA2.keep (keepB_tup k4 hB2)
        obtain ⟨g1, g2⟩ := ListAt.put hp4 hA4 ht
        exact ⟨p, _, _, rfl, rfl, hp4, lineLt (by omega), _, _, _, _, _, _, rfl, (k2.trans k4).upd0 hp, hB4.upd hpb, g1, g2, wf.snoc (by rw [hlen]; exact hparts), lets.snoc hlets, by simp [hlen]⟩
      have hp3 := k3 p _ pnb hp2
      refine ⟨_, rfl, rfl, _, rfl, ?_⟩
      have ei : decide (V.int ((i : Nat) : Int) = V.int 0) = decide (i = 0) := dec_nV (i := i) (j := 0)
      rw [ei]
      by_cases c0 : i = 0 ∨ d < 4
      · by_cases c1 : i = 0
        case' pos =>
          rw [decide_eq_true c1]
          refine iteT (iteT ?_)
        case' neg =>
          rw [decide_eq_false c1]
          refine iteF ⟨_, rfl, _, _, rfl, rfl, _, rfl, ?_⟩
          rw [show decide (((d : Nat) : Int) < 4) = true from decide_eq_true (by have := c0.resolve_left c1; omega)]
          refine iteT ?_
        all_goals
          refine ⟨_, rfl, _, rfl, _, rfl, st cs, rfl, lineBig (by rw [st_length]; omega), b, cs.length, by rw [st_length]; rfl, hB3, hc0, by omega, fun u H4 hu k4 hB4 => ?_⟩
          obtain ⟨c, hc, hcA⟩ := let_at hu
          refine ⟨st cs, _, c, rfl, rfl, lineBig (by rw [st_length]; omega), hcA, ?_⟩
          refine ⟨Nat.le_of_ble_eq_true rfl, fun t1 h1 => ⟨Nat.le_of_ble_eq_true rfl, fun t2 h2 => ⟨Nat.le_of_ble_eq_true rfl, fun t3 h3 => ⟨Nat.le_of_ble_eq_true rfl, fun B hB' => ?_⟩⟩⟩⟩
          obtain ⟨e1, e2, e3, hBl, s6⟩ := four_new (oB := .lst [V.ref t1, V.ref t2, V.ref t3]) (o3 := .tup (vals .nothing)) h1 h2 h3 hB'
          have nB : B ∉ [b] := (((hB4.new h1).new h2).new h3).ne hB'
          have k34 : Keep [b] H2 _ := (k3.trans k4).trans (Keep.of_same s6)
          have hB6 := hB4.same s6
          refine ⟨_, rfl, .inl ⟨rfl, _, SqL.of (k34 p _ pnb hp2)⟩, _, rfl, Nat.le_of_ble_eq_true rfl, fun J hJ => ?_⟩
          refine ⟨_, rfl, b, 6, rfl, hB6.new hJ, by decide, by decide, fun u2 H7 hu2 k7 hB7 => ?_⟩
          have nJ : J ∉ [b] := hB6.ne hJ
          obtain ⟨j, hj, hpick⟩ := pick_at u2 hu2
          have sJ : Same _ (upd _ J (.lst pickV)) := same_new hJ
          have tt := keepB_tup k7 (hB6.new hJ)
          obtain ⟨t, r, ht, htv, hleaf, hlet⟩ := base_at (tt _ _ (sJ _ _ e1)) (tt _ _ (sJ _ _ e2)) (tt _ _ (sJ _ _ e3)) j hj
          refine ⟨J, _, _, _, rfl, rfl, SqL.of (k7 J _ nJ upd_same), hpick, B, _, _, _, rfl, rfl, SqL.of (k7 B _ nB (sJ _ _ hBl)), ht, ?_⟩
          exact fin _ t r _ _ _ ((k34.trans (keep_new hJ)).trans k7) hB7 htv (by rw [leaf_parts hleaf]; exact fun x hx => nomatch hx) (fun x hx => by rw [hlet x hx]; exact all_at hcs hc)
      · have c1 : ¬ i = 0 := fun z => c0 (.inl z)
        have c2 : ¬ d < 4 := fun z => c0 (.inr z)
        rw [decide_eq_false c1]
        refine iteF ⟨_, rfl, _, _, rfl, rfl, _, rfl, ?_⟩
        rw [show decide (((d : Nat) : Int) < 4) = false from decide_eq_false (by omega)]
        refine iteF ⟨_, rfl, _, _, rfl, rfl, _, rfl, ?_⟩
        by_cases c3 : d < 6
        · rw [show decide (((d : Nat) : Int) < 6) = true from decide_eq_true (by omega)]
          refine iteT ⟨_, rfl, .inl ⟨rfl, _, SqL.of hp3⟩, _, rfl, _, rfl, b, i, rfl, hB3, by omega, by omega, fun u H4 hu k4 hB4 => ?_⟩
          refine ⟨Nat.le_of_ble_eq_true rfl, fun t ht => ?_⟩
          exact fin _ t (.not u) _ _ _ ((k3.trans k4).trans (keep_new ht)) (hB4.new ht) upd_same (by simpa [Row.parts] using hu) (fun c e => nomatch e)
        · rw [show decide (((d : Nat) : Int) < 6) = false from decide_eq_false (by omega)]
          obtain ⟨o, ho⟩ := ops_at (d - 6) (by omega)
          rw [show (((d - 6 : Nat)) : Int) = (d : Int) - 6 by omega] at ho
          refine iteF ⟨Nat.le_of_ble_eq_true rfl, fun L hL => ?_⟩
          refine ⟨_, rfl, _, _, rfl, rfl, L, _, _, _, rfl, rfl, SqL.of upd_same, ho, ?_⟩
          have hB3' : BoxAt (upd H3 L (.lst opsV)) b := hB3.new hL
          have k3' : Keep [b] H2 (upd H3 L (.lst opsV)) := k3.trans (keep_new hL)
          refine ⟨_, rfl, .inl ⟨rfl, _, SqL.of (k3' p _ pnb hp2)⟩, _, rfl, _, rfl, _, rfl, b, i, rfl, hB3', by omega, by omega, fun u H4 hu k4 hB4 => ?_⟩
          refine ⟨_, rfl, _, rfl, b, i, rfl, hB4, by omega, by omega, fun u2 H5 hu2 k5 hB5 => ?_⟩
          refine ⟨Nat.le_of_ble_eq_true rfl, fun t ht => ?_⟩
          exact fin _ t (.bin o u u2) _ _ _ (((k3'.trans k4).trans k5).trans (keep_new ht)) (hB5.new ht) upd_same (by
            intro x hx
            have : x = u ∨ x = u2 := by simpa [Row.parts] using hx
            rcases this with z | z <;> rw [z] <;> assumption) (fun c e => nomatch e)
    · rintro σ H2 ⟨as, rs, a4, a5, a6, a7, rfl, k2, hB2, hp2, hA2, wf, lets, hlen⟩
      refine ⟨_, rfl, p, _, rfl, .inl ⟨SqL.of hp2, fun l hl => ?_⟩⟩
      refine q l rs _ (k2.trans (keep_new hl)) (hB2.new hl) ⟨as, upd_same, hA2.same (same_new hl)⟩ ⟨wf, by omega, by omega, lets, .inl (by omega)⟩
end
end K30
end
section
set_option maxHeartbeats 1000000
/-! K30H4: the law's chains. -/
namespace K30
open PySem PySem.Spec PyProof.Rows L2

def ops3V : List V := [.str "behind", .str "or", .str "and"]
theorem ops3_at : ∀ u : Nat, u < 3 → ∃ o, atI ops3V (u : Int) = some (.str (wd o))
  | 0, _ => ⟨.seq, rfl⟩
  | 1, _ => ⟨.or, rfl⟩
  | 2, _ => ⟨.and, rfl⟩
theorem two_new {H : Hp} {t1 t2 B : Addr} {o1 o2 oB : HO} (h1 : H t1 = none) (h2 : upd H t1 o1 t2 = none) (hB : upd (upd H t1 o1) t2 o2 B = none) :
    (upd (upd (upd H t1 o1) t2 o2) B oB) t1 = some o1 ∧ (upd (upd (upd H t1 o1) t2 o2) B oB) t2 = some o2 ∧ (upd (upd (upd H t1 o1) t2 o2) B oB) B = some oB ∧ Same H (upd (upd (upd H t1 o1) t2 o2) B oB) := by
  have s1 : Same H (upd H t1 o1) := same_new h1
  have s2 : Same (upd H t1 o1) (upd (upd H t1 o1) t2 o2) := same_new h2
  have s3 : Same (upd (upd H t1 o1) t2 o2) (upd (upd (upd H t1 o1) t2 o2) B oB) := same_new hB
  exact ⟨s3 _ _ (s2 _ _ upd_same), s3 _ _ upd_same, upd_same, (s1.trans s2).trans s3⟩
theorem Links.nil : Links [] := fun i r e => by simp at e

def spChain : Sp := fun vs H Q _ => ∃ (b : Addr) (cs : List Nat) (n : Nat), vs = [.ref b, .str (st cs), nV n] ∧ BoxAt H b ∧ cs.all isLet = true ∧ 0 < cs.length ∧ cs.length ≤ 26 ∧ 0 < n ∧ n ≤ 24 ∧
  ∀ e rs H', Keep [b] H H' → BoxAt H' b → ExprAt H' e rs → Drawn rs → Q (.ref e) H'
section
variable {P : Program} {w : World} {K : PySem.W.Frag} {mg : Str → Option Value} {base : Heap}
abbrev sChain : Stmt := top 28
abbrev nChain : List Str := ["_law_box_here", "_law_letters_here", "_law_most", "_law_rows", "_law_k", "_law_kind", "_law_base", "_law_leaf", "_law_word", "_law_last"]
theorem scChain : FnScope nChain pExpr (defScope sChain) := ⟨rfl, rfl, rfl, by decide +kernel, rfl, by decide +kernel, by decide +kernel⟩
theorem fn_chain {f : Addr} {fd : FuncData} (F : Fun K "_law_chain" "_law_chain" sChain f fd) (N : Names K w mg) (fT : Fn P w K mg base "_law_take" 1 ["_law_box_here", "_law_wide"] spTake) : FnOk P w K mg base CX0 3 f fd pExpr spChain := by
  obtain ⟨ft, ftd, GT, mT, kT, bT⟩ := fT
  refine F.ok scChain (fun vs H Q E h => ?_) (fun cdv A outer s H vs Q E hr h => ?_)
  · obtain ⟨b, cs, n, rfl, _⟩ := h
    rfl
  · obtain ⟨b, cs, n, rfl, hB, hcs, hc0, hc1, hn0, hn1, q⟩ := h
    have hr1 : Room 1 _ := hr.mono (by decide)
    refine ⟨_, pss_cons (ps_set (i := 3) scChain.nd rfl (Or.inl rfl) (pe_lst (pa_cons (pe_tup (pa_cons pe_str (pa_cons (pe_ix ix_str (pv 1) (pe_call GT hr1 rfl mT kT bT .nil pass0 (pa_cons (pv 0) (pa_cons (pe_callB call_len_str rfl N.len (by decide +kernel) (pa_cons (pv 1) pa_nil)) pa_nil))) (fun _ _ => rfl)) pa_nil))) pa_nil))) <|
      pss_cons (ps_for PassesOwn.never rfl (pi_range1 rfl N.range (pa_cons (pe_call GT hr1 rfl mT kT bT .nil pass0 (pa_cons (pv 0) (pa_cons (pv 2) pa_nil))) pa_nil)) (pg_name (i := 4) scChain.nd rfl (Or.inl rfl))
        (pss_cons (ps_set (i := 5) scChain.nd rfl (Or.inl rfl) (pe_call GT hr1 rfl mT kT bT .nil pass0 (pa_cons (pv 0) (pa_cons pe_int pa_nil)))) <|
         pss_one (ps_if (pt_cmpR op_lt (pv 5) pe_int (nomark _))
           (pss_one (ps_expr (pe_bm PySem.F.plainAttrs_list PySem.F.slot_list_append PySem.F.type_list_append mt_append (pv 3)
               (pa_cons (pe_tup (pa_cons pe_str (pa_cons (pe_op op_sub (pe_callB call_len_seq rfl N.len (by decide +kernel) (pa_cons (pv 3) pa_nil)) pe_int) pa_nil))) pa_nil))))
           (pss_cons (ps_set (i := 6) scChain.nd rfl (Or.inl rfl) (pe_lst (pa_cons (pe_tup (pa_cons pe_str (pa_cons (pe_ix ix_str (pv 1) (pe_call GT hr1 rfl mT kT bT .nil pass0 (pa_cons (pv 0) (pa_cons (pe_callB call_len_str rfl N.len (by decide +kernel) (pa_cons (pv 1) pa_nil)) pa_nil))) (fun _ _ => rfl)) pa_nil)))
               (pa_cons (pe_tup (pa_cons pe_str pa_nil)) (pa_cons (pe_tup (pa_cons pe_str pa_nil)) pa_nil))))) <|
            pss_cons (ps_set (i := 7) scChain.nd rfl (Or.inl rfl) (pe_ix ix_list (pv 6) (pe_ix ix_list (pe_lst (pa_cons pe_int (pa_cons pe_int (pa_cons pe_int (pa_cons pe_int (pa_cons pe_int (pa_cons pe_int pa_nil)))))))
                (pe_op op_mod (pv 5) pe_int) (fun _ _ => rfl)) (fun _ _ => rfl))) <|
            pss_cons (ps_set (i := 8) scChain.nd rfl (Or.inl rfl) (pe_ix ix_list (pe_lst (pa_cons pe_str (pa_cons pe_str (pa_cons pe_str pa_nil)))) (pe_call GT hr1 rfl mT kT bT .nil pass0 (pa_cons (pv 0) (pa_cons pe_int pa_nil))) (fun _ _ => rfl))) <|
            pss_cons (ps_expr (pe_bm PySem.F.plainAttrs_list PySem.F.slot_list_append PySem.F.type_list_append mt_append (pv 3) (pa_cons (pv 7) pa_nil))) <|
            pss_cons (ps_set (i := 9) scChain.nd rfl (Or.inl rfl) (pe_op op_sub (pe_callB call_len_seq rfl N.len (by decide +kernel) (pa_cons (pv 3) pa_nil)) pe_int)) <|
            pss_one (ps_expr (pe_bm PySem.F.plainAttrs_list PySem.F.slot_list_append PySem.F.type_list_append mt_append (pv 3)
              (pa_cons (pe_ix ix_list (pe_lst (pa_cons (pe_tup (pa_cons (pv 8) (pa_cons (pe_op op_sub (pv 9) pe_int) (pa_cons (pv 9) pa_nil)))) (pa_cons (pe_tup (pa_cons (pv 8) (pa_cons (pv 9) (pa_cons (pe_op op_sub (pv 9) pe_int) pa_nil)))) pa_nil)))
                (pe_call GT hr1 rfl mT kT bT .nil pass0 (pa_cons (pv 0) (pa_cons pe_int pa_nil))) (fun _ _ => rfl)) pa_nil))))))) <|
      pss_one (ps_ret (pe_callTy call_tuple_of (by rfl) N.tuple (by decide +kernel) (pa_cons (pv 3) pa_nil))), ?_⟩
    refine ⟨_, rfl, _, rfl, _, rfl, st cs, rfl, lineBig (by rw [st_length]; omega), b, cs.length, by rw [st_length]; rfl, hB, hc0, by omega, fun u0 H0 hu0 k0 hB0 => ?_⟩
    obtain ⟨c0, hcc, hcA⟩ := let_at hu0
    refine ⟨st cs, _, c0, rfl, rfl, lineBig (by rw [st_length]; omega), hcA, ?_⟩
    refine ⟨Nat.le_of_ble_eq_true rfl, fun t0 ht0 => ⟨Nat.le_of_ble_eq_true rfl, fun p hp => ?_⟩⟩
    have s00 : Same H0 (upd H0 t0 (.tup (vals (.letter c0)))) := same_new ht0
    have s01 : Same (upd H0 t0 (.tup (vals (.letter c0)))) (upd (upd H0 t0 (.tup (vals (.letter c0)))) p (.lst [V.ref t0])) := same_new hp
    have pnb : p ∉ [b] := (hB0.new ht0).ne hp
    have hpb : b ≠ p := fun z => pnb (by simp [z])
    have hpH : H p = none := by
      cases e : H p with
      | none => rfl
      | some o =>
        have z := (s00 _ _ (k0 p o pnb e)).symm.trans hp
        cases z
    refine ⟨_, rfl, _, rfl, b, n, rfl, (hB0.same s00).same s01, hn0, by omega, fun v H1 hv k1 hB1 => ?_⟩
    refine ⟨_, rfl, by show _ ≤ ((v : Nat) : Int); omega, by show ((v : Nat) : Int) < _; omega, ?_⟩
    have k01 : Keep [b] H H1 := ((k0.trans (Keep.of_same s00)).trans (Keep.of_same s01)).trans k1
    have hp1 := k1 p _ pnb upd_same
    have ht1 := keepB_tup k1 ((hB0.same s00).same s01) _ _ (s01 _ _ upd_same)
    refine for_range (n := v) (fun i σ H2 => ∃ (as : List Addr) (rs : List Row) (a4 a5 a6 a7 a8 a9 : Option V), σ = [some (.ref b), some (.str (st cs)), some (nV n), some (.ref p), a4, a5, a6, a7, a8, a9] ∧ Keep [b] H H2 ∧ BoxAt H2 b ∧
        H2 p = some (.lst (as.map V.ref)) ∧ RowsAt H2 as rs ∧ WF rs ∧ Lets rs ∧ Links rs ∧ rs.length ≤ 1 + 2 * i ∧ 0 < rs.length)
      ⟨[t0], [.letter c0], none, none, none, none, none, none, rfl, k01, hB1, hp1, (RowsAt.nil _).snoc ht1, WF.nil.snoc (fun _ h => nomatch h), Lets.nil.snoc (fun c e => by rw [← Row.letter.inj e]; exact all_at hcs hcc), Links.nil.snoc (.inl rfl), Nat.le_refl _, Nat.one_pos⟩ ?_ ?_
    · rintro i σ H2 hi ⟨as, rs, a4, a5, a6, a7, a8, a9, rfl, k2, hB2, hp2, hA2, wf, lets, links, hlen, hpos⟩
      have las : (as.map V.ref).length = rs.length := by rw [List.length_map, hA2.1]
      refine ⟨_, rfl, b, 9, rfl, hB2, by decide, by decide, fun d H3 hd k3 hB3 => ?_⟩
      have hp3 := k3 p _ pnb hp2
      have hm1 : ((rs.length : Nat) : Int) - 1 = ((rs.length - 1 : Nat) : Int) := by omega
      refine ⟨_, rfl, _, _, rfl, rfl, _, rfl, ?_⟩
      by_cases c2 : d < 2
      · rw [show decide (((d : Nat) : Int) < 2) = true from decide_eq_true (by omega)]
        refine iteT ⟨_, rfl, .inl ⟨rfl, _, SqL.of hp3⟩, _, rfl, p, _, rfl, .inl (SqL.of hp3), _, _, rfl, rfl, Nat.le_of_ble_eq_true rfl, fun t ht => ?_⟩
        have e0 : HO.tup [V.str "not", V.int ((((as.map V.ref).length : Nat) : Int) - 1)] = HO.tup (vals (.not (rs.length - 1))) := by
          rw [las, hm1]
          rfl
        have k34 : Keep [b] H2 (upd H3 t (.tup [V.str "not", V.int ((((as.map V.ref).length : Nat) : Int) - 1)])) := k3.trans (keep_new ht)
        have hp4 := k34 p _ pnb hp2
        obtain ⟨g1, g2⟩ := ListAt.put hp4 (hA2.keep (keepB_tup k34 hB2)) (a := t) (r := .not (rs.length - 1)) (by rw [upd_same, e0])
        refine ⟨p, _, _, rfl, rfl, hp4, lineLt (by rw [las]; omega), _, _, _, _, _, _, _, _, rfl, (k2.trans k34).upd0 hpH, (hB3.new ht).upd hpb, g1, g2, wf.snoc ?_, lets.snoc (fun c e => nomatch e), links.snoc (.inr (.inl ⟨hpos, rfl⟩)), by simp; omega, by simp⟩
        intro x hx
        have : x = rs.length - 1 := by simpa [Row.parts] using hx
        omega
      · rw [show decide (((d : Nat) : Int) < 2) = false from decide_eq_false (by omega)]
        refine iteF ⟨_, rfl, _, rfl, _, rfl, st cs, rfl, lineBig (by rw [st_length]; omega), b, cs.length, by rw [st_length]; rfl, hB3, hc0, by omega, fun u H4 hu k4 hB4 => ?_⟩
        obtain ⟨c, hc, hcA⟩ := let_at hu
        refine ⟨st cs, _, c, rfl, rfl, lineBig (by rw [st_length]; omega), hcA, ?_⟩
        refine ⟨Nat.le_of_ble_eq_true rfl, fun t1 h1 => ⟨Nat.le_of_ble_eq_true rfl, fun t2 h2 => ⟨Nat.le_of_ble_eq_true rfl, fun t3 h3 => ⟨Nat.le_of_ble_eq_true rfl, fun B hB' => ?_⟩⟩⟩⟩
        obtain ⟨e1, e2, e3, hBl, s6⟩ := four_new (oB := .lst [V.ref t1, V.ref t2, V.ref t3]) (o3 := .tup (vals .nothing)) h1 h2 h3 hB'
        have k34 : Keep [b] H2 _ := (k3.trans k4).trans (Keep.of_same s6)
        have hB6 := hB4.same s6
        refine ⟨_, rfl, Nat.le_of_ble_eq_true rfl, fun J hJ => ?_⟩
        obtain ⟨j, hj, hpick⟩ := pick_at (d % 6) (by omega)
        rw [show ((d % 6 : Nat) : Int) = (d : Int) % 6 by omega] at hpick
        have sJ : Same _ (upd _ J (.lst pickV)) := same_new hJ
        obtain ⟨t, r, ht, htv, hleaf, hlet⟩ := base_at (sJ _ _ e1) (sJ _ _ e2) (sJ _ _ e3) j hj
        refine ⟨_, rfl, _, _, rfl, rfl, posM, J, _, _, _, rfl, rfl, SqL.of upd_same, hpick, B, _, _, _, rfl, rfl, SqL.of (sJ _ _ hBl), ht, ?_⟩
        refine ⟨Nat.le_of_ble_eq_true rfl, fun L hL => ?_⟩
        have sL : Same _ (upd _ L (.lst ops3V)) := same_new hL
        have hB7 := (hB6.same sJ).same sL
        refine ⟨_, rfl, b, 3, rfl, hB7, by decide, by decide, fun u3 H8 hu3 k8 hB8 => ?_⟩
        obtain ⟨o, ho⟩ := ops3_at u3 hu3
        have nL : L ∉ [b] := (hB6.same sJ).ne hL
        have k8' : Keep [b] H2 H8 := ((k34.trans (Keep.of_same sJ)).trans (Keep.of_same sL)).trans k8
        have hp8 := k8' p _ pnb hp2
        have ht8 := keepB_tup k8 hB7 _ _ (sL _ _ htv)
        obtain ⟨g1, g2⟩ := ListAt.put hp8 (hA2.keep (keepB_tup k8' hB2)) ht8
        refine ⟨L, _, _, _, rfl, rfl, SqL.of (k8 L _ nL upd_same), ho, ?_⟩
        refine ⟨_, rfl, .inl ⟨rfl, _, SqL.of hp8⟩, _, rfl, p, _, _, rfl, rfl, hp8, lineLt (by omega), ?_⟩
        refine ⟨_, rfl, p, _, rfl, .inl (SqL.of g1), _, _, rfl, rfl, ?_⟩
        have lb : ((as ++ [t]).map V.ref).length = rs.length + 1 := by simp [hA2.1]
        have f1 : HO.tup [V.str (wd o), V.int ((((((as ++ [t]).map V.ref).length : Nat) : Int) - 1) - 1), V.int ((((as ++ [t]).map V.ref).length : Nat) - 1)] = HO.tup (vals (.bin o (rs.length - 1) rs.length)) := by
          rw [lb, show (((rs.length + 1 : Nat) : Int) - 1) - 1 = ((rs.length - 1 : Nat) : Int) by omega, show ((rs.length + 1 : Nat) : Int) - 1 = ((rs.length : Nat) : Int) by omega]
          rfl
        have f2 : HO.tup [V.str (wd o), V.int ((((as ++ [t]).map V.ref).length : Nat) - 1), V.int ((((((as ++ [t]).map V.ref).length : Nat) : Int) - 1) - 1)] = HO.tup (vals (.bin o rs.length (rs.length - 1))) := by
          rw [lb, show (((rs.length + 1 : Nat) : Int) - 1) - 1 = ((rs.length - 1 : Nat) : Int) by omega, show ((rs.length + 1 : Nat) : Int) - 1 = ((rs.length : Nat) : Int) by omega]
          rfl
        have hB9 : BoxAt (upd H8 p (.lst (as.map V.ref ++ [.ref t]))) b := hB8.upd hpb
        have k29 : Keep [b] H (upd H8 p (.lst (as.map V.ref ++ [.ref t]))) := (k2.trans k8').upd0 hpH
        refine ⟨_, rfl, .inl ⟨rfl, _, SqL.of g1⟩, _, rfl, _, rfl, _, _, rfl, rfl, _, rfl, Nat.le_of_ble_eq_true rfl, fun t5 h5 => ?_⟩
        refine ⟨_, rfl, _, rfl, _, rfl, _, _, rfl, rfl, Nat.le_of_ble_eq_true rfl, fun t6 h6 => ⟨Nat.le_of_ble_eq_true rfl, fun M hM => ?_⟩⟩
        obtain ⟨e5, e6, eM, s9⟩ := two_new (oB := .lst [V.ref t5, V.ref t6]) h5 h6 hM
        have hB10 := hB9.same s9
        have nM : M ∉ [b] := ((hB9.new h5).new h6).ne hM
        refine ⟨_, rfl, b, 2, rfl, hB10, by decide, by decide, fun u4 H10 hu4 k10 hB11 => ?_⟩
        have hp10 := k10 p _ pnb (s9 _ _ g1)
        have hA10 := (g2.same s9).keep (keepB_tup k10 hB10)
        have e5' := keepB_tup k10 hB10 _ _ e5
        have e6' := keepB_tup k10 hB10 _ _ e6
        have hl' : (rs ++ [r]).length = rs.length + 1 := by simp
        have pickT : ∃ tz q, atI [V.ref t5, V.ref t6] (u4 : Int) = some (.ref tz) ∧ H10 tz = some (.tup (vals q)) ∧ (q = .bin o (rs.length - 1) rs.length ∨ q = .bin o rs.length (rs.length - 1)) := by
          match u4, hu4 with
          | 0, _ => exact ⟨t5, _, rfl, by rw [e5']; exact congrArg some f1, .inl rfl⟩
          | 1, _ => exact ⟨t6, _, rfl, by rw [e6']; exact congrArg some f2, .inr rfl⟩
        obtain ⟨tz, z, hz1, hz2, hz3⟩ := pickT
        obtain ⟨g3, g4⟩ := ListAt.put hp10 hA10 hz2
        refine ⟨M, _, _, _, rfl, rfl, SqL.of (k10 M _ nM eM), hz1, p, _, _, rfl, rfl, hp10, lineLt (by rw [lb]; omega), _, _, _, _, _, _, _, _, rfl, ((k29.trans (Keep.of_same s9)).trans k10).upd0 hpH, hB11.upd hpb, g3, g4, ?_, ?_, ?_, by simp; omega, by simp⟩
        · refine (wf.snoc (by rw [leaf_parts hleaf]; exact fun x hx => nomatch hx)).snoc ?_
          rw [hl']
          intro x hx
          have : x = rs.length - 1 ∨ x = rs.length := by
            rcases hz3 with e | e <;> rw [e] at hx <;> simp [Row.parts] at hx <;> omega
          omega
        · refine (lets.snoc (fun x hx => by rw [hlet x hx]; exact all_at hcs hc)).snoc fun x hx => ?_
          rcases hz3 with e | e <;> rw [e] at hx <;> cases hx
        · refine (links.snoc (.inl hleaf)).snoc ?_
          rw [hl']
          refine .inr (.inr ⟨by omega, ⟨r, by simp, hleaf⟩, o, ?_⟩)
          rw [show rs.length + 1 - 2 = rs.length - 1 by omega, show rs.length + 1 - 1 = rs.length by omega]
          exact hz3
    · rintro σ H2 ⟨as, rs, a4, a5, a6, a7, a8, a9, rfl, k2, hB2, hp2, hA2, wf, lets, links, hlen, hpos⟩
      refine ⟨_, rfl, p, _, rfl, .inl ⟨SqL.of hp2, fun l hl => ?_⟩⟩
      exact q l rs _ (k2.trans (keep_new hl)) (hB2.new hl) ⟨as, upd_same, hA2.same (same_new hl)⟩ ⟨wf, hpos, by omega, lets, .inr links.lin⟩
end
end K30
end
section
set_option maxHeartbeats 1000000
/-! K30H5: the law's laid. -/
namespace K30
open PySem PySem.Spec PyProof.Rows L2

/-- every tree of L is one of rs -/
def Of (rs L : List Row) : Prop := ∀ i, i < L.length → ∃ j, j < rs.length ∧ tree L i = tree rs j
theorem Of.nil (rs : List Row) : Of rs [] := fun i h => by simp at h
theorem of_intern {rs M : List Row} {x : Nat} (hx : x < rs.length) (r : Row) (gM : G M) (ht : treeAt M r = tree rs x) (hM : Of rs M) : Of rs (intern r M).1 := fun i hi => by
  unfold intern at hi ⊢
  split
  · rename_i hm
    rw [if_pos hm] at hi
    exact hM i hi
  · rename_i hm
    rw [if_neg hm] at hi
    have hi' : i < (M ++ [r]).length := hi
    show ∃ j, j < rs.length ∧ tree (M ++ [r]) i = tree rs j
    by_cases h : i < M.length
    · rw [tree_app h]
      exact hM i h
    · have e : i = M.length := by
        simp at hi'
        omega
      subst e
      exact ⟨x, hx, by rw [tree_last, treeR_eq, ht]⟩
theorem of_len {rs L : List Row} (g : G L) (h : Of rs L) : L.length ≤ rs.length := by
  have ex : ∃ f : Nat → Nat, ∀ i, i < L.length → f i < rs.length ∧ tree L i = tree rs (f i) := by
    refine ⟨fun i => if hi : i < L.length then (h i hi).choose else 0, fun i hi => ?_⟩
    simp only [hi, ↓reduceDIte]
    exact (h i hi).choose_spec
  obtain ⟨f, hf⟩ := ex
  have nd : ((List.range L.length).map f).Nodup := by
    refine List.pairwise_map.mpr (List.Pairwise.imp_of_mem (fun {a b} ha hb hab e => ?_) (List.nodup_range (n := L.length)))
    have h1 := hf a (List.mem_range.mp ha)
    have h2 := hf b (List.mem_range.mp hb)
    exact hab (g.inj a b (List.mem_range.mp ha) (List.mem_range.mp hb) (by rw [h1.2, h2.2, e]))
  have := nodup_bound rs.length _ nd fun y hy => by
    obtain ⟨i, hi, e⟩ := List.mem_map.mp hy
    rw [← e]
    exact (hf i (List.mem_range.mp hi)).1
  simpa using this
/-- laying the parts one after the other -/
def layS (rs : List Row) (ps : List Nat) (L : List Row) : List Row × List Nat := ps.foldl (fun Z p => ((lay (tree rs p) Z.1).1, Z.2 ++ [(lay (tree rs p) Z.1).2])) (L, [])
theorem layS_snoc (rs : List Row) (ps : List Nat) (p : Nat) (L : List Row) : layS rs (ps ++ [p]) L = ((lay (tree rs p) (layS rs ps L).1).1, (layS rs ps L).2 ++ [(lay (tree rs p) (layS rs ps L).1).2]) := by
  unfold layS
  rw [List.foldl_append]
  rfl
def setP : Row → List Nat → Row
  | .not _, [i] => .not i
  | .bin o _ _, [i, j] => .bin o i j
  | r, _ => r
theorem layS_len (rs : List Row) (L : List Row) : ∀ ps, (layS rs ps L).2.length = ps.length := by
  have go : ∀ (ps : List Nat) (Z : List Row × List Nat), (ps.foldl (fun Z p => ((lay (tree rs p) Z.1).1, Z.2 ++ [(lay (tree rs p) Z.1).2])) Z).2.length = Z.2.length + ps.length := by
    intro ps
    induction ps with
    | nil => intro Z; rfl
    | cons p ps ih =>
      intro Z
      rw [List.foldl_cons, ih]
      simp
      omega
  intro ps
  have := go ps (L, [])
  simpa [layS] using this
theorem vals_setP {r : Row} {ns : List Nat} (h : isLetter r = false) (hl : ns.length = r.parts.length) : vals (setP r ns) = [.str (word r)] ++ ns.map nV := by
  cases r with
  | letter c => cases h
  | nothing =>
    have : ns = [] := by simpa [Row.parts] using hl
    rw [this]
    rfl
  | blank =>
    have : ns = [] := by simpa [Row.parts] using hl
    rw [this]
    rfl
  | not a =>
    have hl : ns.length = 1 := hl
    match ns, hl with
    | [i], _ => rfl
  | bin o a b =>
    have hl : ns.length = 2 := hl
    match ns, hl with
    | [i, j], _ => rfl
theorem lay_row {rs : List Row} (wf : WF rs) {x : Nat} {r : Row} (e : rs[x]? = some r) (L : List Row) : lay (tree rs x) L = intern (setP r (layS rs r.parts L).2) (layS rs r.parts L).1 := by
  rw [tree_eq wf e]
  cases r <;> rfl
theorem setP_let {r : Row} {ns : List Nat} (h : ∀ c, r = .letter c → isLet c = true) (hl : ns.length = r.parts.length) : ∀ c, setP r ns = .letter c → isLet c = true := by
  cases r with
  | letter c => exact h
  | nothing => exact fun c e => nomatch e
  | blank => exact fun c e => nomatch e
  | not a =>
    have hl : ns.length = 1 := hl
    match ns, hl with
    | [i], _ => exact fun c e => nomatch e
  | bin o a b =>
    have hl : ns.length = 2 := hl
    match ns, hl with
    | [i, j], _ => exact fun c e => nomatch e
/-- what stands of the laid rows on the way -/
structure Way (rs L : List Row) : Prop where
  g : G L
  of : Of rs L
  lets : Lets L
theorem lay_way {rs : List Row} (wf : WF rs) (hl : Lets rs) : ∀ (x : Nat), x < rs.length → ∀ {L : List Row}, Way rs L → Way rs (lay (tree rs x) L).1 := by
  intro x
  induction x using Nat.strongRecOn with
  | ind x ih =>
    intro hx L y
    refine ⟨(lay_laid _ y.g).g, ?_, lay_lets _ (lets_tree wf hl x) y.lets⟩
    have e : rs[x]? = some rs[x] := List.getElem?_eq_getElem hx
    have hp := wf x _ e
    have te := tree_eq wf e
    rw [te]
    generalize rs[x] = r at hp te
    cases r with
    | nothing => exact of_intern hx .nothing y.g te.symm y.of
    | blank => exact of_intern hx .blank y.g te.symm y.of
    | letter c => exact of_intern hx (.letter c) y.g te.symm y.of
    | not a =>
      have ha := hp a (by simp [Row.parts])
      have h1 := lay_laid (tree rs a) y.g
      have y1 := ih a ha (by omega) y
      refine of_intern hx (.not (lay (tree rs a) L).2) h1.g ?_ y1.of
      show T.not _ = _
      rw [h1.tr, te]
      rfl
    | bin o a b =>
      have ha := hp a (by simp [Row.parts])
      have hb := hp b (by simp [Row.parts])
      have h1 := lay_laid (tree rs a) y.g
      have h2 := lay_laid (tree rs b) h1.g
      have y1 := ih a ha (by omega) y
      have y2 := ih b hb (by omega) y1
      refine of_intern hx (.bin o (lay (tree rs a) L).2 (lay (tree rs b) (lay (tree rs a) L).1).2) h2.g ?_ y2.of
      show T.bin o _ _ = _
      rw [h2.tr, h2.trees h1.lt, h1.tr, te]
      rfl
theorem layS_way {rs : List Row} (wf : WF rs) (hl : Lets rs) : ∀ (ps : List Nat), (∀ p ∈ ps, p < rs.length) → ∀ {L : List Row}, Way rs L → Way rs (layS rs ps L).1 := by
  have go : ∀ (ps : List Nat), (∀ p ∈ ps, p < rs.length) → ∀ (Z : List Row × List Nat), Way rs Z.1 → Way rs (ps.foldl (fun Z p => ((lay (tree rs p) Z.1).1, Z.2 ++ [(lay (tree rs p) Z.1).2])) Z).1 := by
    intro ps
    induction ps with
    | nil => exact fun _ Z y => y
    | cons p ps ih =>
      intro hp Z y
      rw [List.foldl_cons]
      exact ih (fun q hq => hp q (List.mem_cons_of_mem _ hq)) _ (lay_way wf hl p (hp p List.mem_cons_self) y)
  exact fun ps hp L y => go ps hp (L, []) y
/-- where an interned row stands first -/
theorem intern_first {M : List Row} {r : Row} (g : G M) : (intern r M).1[(intern r M).2]? = some r ∧ ∀ m q, m < (intern r M).2 → (intern r M).1[m]? = some q → q ≠ r := by
  unfold intern
  split
  · rename_i h
    refine ⟨idx_get h, fun m q hm hq e => ?_⟩
    have h1 : M[m]? = some q := hq
    have h2 : M[M.idxOf r]? = some r := idx_get h
    rw [e] at h1
    have hl := (List.getElem?_eq_some_iff.mp h1).1
    have := (List.getElem?_inj hl g.nd).mp (h1.trans h2.symm)
    have hm : m < M.idxOf r := hm
    omega
  · rename_i h
    refine ⟨by simp, fun m q hm hq e => ?_⟩
    have hm : m < M.length := hm
    have hq : (M ++ [r])[m]? = some q := hq
    rw [List.getElem?_append_left hm, e] at hq
    exact h (List.mem_of_getElem? hq)

def spLaid (n : Nat) : Sp := fun vs H Q _ => ∃ (e l : Addr) (rs L : List Row) (x : Nat) (as : List Addr), vs = [.ref e, nV x, .ref l] ∧ ExprAt H e rs ∧ WF rs ∧ Lets rs ∧ rs.length ≤ 47 ∧ x < rs.length ∧ x < n ∧ Way rs L ∧
  H l = some (.lst (as.map V.ref)) ∧ RowsAt H as L ∧ ∀ H' as', Keep [l] H H' → H' l = some (.lst (as'.map V.ref)) → RowsAt H' as' (lay (tree rs x) L).1 → Q (nV (lay (tree rs x) L).2) H'
theorem keepL_tup {l : Addr} {H H' : Hp} {xs : List V} (k : Keep [l] H H') (hl : H l = some (.lst xs)) : ∀ c ys, H c = some (.tup ys) → H' c = some (.tup ys) := fun c ys e =>
  k.tup (fun x hx xs' z => by
    rw [List.mem_singleton.mp hx, hl] at z
    cases z) e
theorem any_row {M : List Row} {r : Row} : ((M.map rowD).any fun z => PyData.eqv z (rowD r)) = decide (r ∈ M) := by
  rw [Bool.eq_iff_iff, List.any_map, List.any_eq_true]
  simp only [Function.comp, row_eqv, decide_eq_true_eq]
  exact ⟨fun ⟨x, h1, h2⟩ => h2 ▸ h1, fun h => ⟨r, h, rfl⟩⟩
theorem slice_no {r : Row} (c : isLetter r = false) (z : HT.sIx (vals r).length 0 (some 1) = 0) : False := by
  rw [vals_tail c] at z
  have := HT.sIx_nat (V.str (word r) :: r.parts.map nV).length 0 1
  rw [show ((1 : Nat) : Int) = 1 from rfl] at this
  rw [this] at z
  simp at z
section
variable {P : Program} {w : World} {K : PySem.W.Frag} {mg : Str → Option Value} {base : Heap}
abbrev sLaid : Stmt := top 29
abbrev nLaid : List Str := ["_law_rows", "_law_at", "_law_laid_here", "_law_row", "_law_part"]
abbrev pLaid : List Str := ["_law_rows", "_law_at", "_law_laid_here"]
theorem scLaid : FnScope nLaid pLaid (defScope sLaid) := ⟨rfl, rfl, rfl, by decide +kernel, rfl, by decide +kernel, by decide +kernel⟩
theorem fn_laid1 {f : Addr} {fd : FuncData} (F : Fun K "_law_laid" "_law_laid" sLaid f fd) (N : Names K w mg) {n : Nat} (fL : Fn P w K mg base "_law_laid" n pLaid (spLaid n)) : FnOk P w K mg base CX0 (n + 1) f fd pLaid (spLaid (n + 1)) := by
  obtain ⟨fl, fld, GL, mL, kL, bL⟩ := fL
  refine F.ok scLaid (fun vs H Q E h => ?_) (fun cdv A outer s H vs Q E hr h => ?_)
  · obtain ⟨e, l, rs, L, x, as, rfl, _⟩ := h
    rfl
  · obtain ⟨e, l, rs, L, x, as, rfl, hE, wf, lets, few, hx, hxn, way, hl, hA, k⟩ := h
    have hu := hu_of hr
    have hu65 : (cxOf CX0 P w K mg base nLaid "_law_laid" (defScope sLaid) f cdv A outer s H E).nox.A.units + 65 < cLine := by
      have := hr.un
      show (A.deeper (envOfC "_law_laid" (defScope sLaid) s.heap.objs.size f cdv)).units + 65 < cLine
      omega
    refine ⟨_, pss_cons (ps_set (i := 3) scLaid.nd rfl (Or.inl rfl) (pe_ix ix_tup (pv 0) (pv 1) (fun _ _ => rfl))) <|
      C8.pss_cut (ps_if (pt_cmpR op_ne (pe_ix ix_tup (pv 3) pe_int (fun _ _ => rfl)) pe_str (nomark _))
        (pss_one (ps_set (i := 3) scLaid.nd rfl (Or.inl rfl) (pe_op op_catT (pe_tup (pa_cons (pe_ix ix_tup (pv 3) pe_int (fun _ _ => rfl)) pa_nil))
          (pe_callTy call_tuple_of (by rfl) N.tuple (by decide +kernel) (pa_cons
            (pe_lc (own := [("_law_part", 4)]) (g := gName 4) (tt := tYes) (te := tCall (spLaid n) [] E0 (tCons (tVar 0) (tCons (tVar 4) (tCons (tVar 2) tNil)))) rfl scLaid.nd (pi_tup (pe_slice sl_tup (pv 3) (po_some pe_int) po_none))
              (blkOk_by (own := [("_law_part", 4)]) (N := nLaid) (sc := defScope sLaid) (by decide +kernel)) (fun _ _ _ _ _ => pg_name (i := 4) scLaid.nd rfl (Or.inl rfl)) (fun _ _ _ _ _ => pts_nil)
              (fun _ _ _ _ _ => pe_call GL hr rfl mL kL bL .nil pass0 (pa_cons (pv 0) (pa_cons (pv 4) (pa_cons (pv 2) pa_nil))))) pa_nil))))) pss_nil) <|
      pss_cons (ps_if (pt_cmpR (op_notInD hu65) (pv 3) (pv 2) rfl) (pss_one (ps_expr (pe_bm PySem.F.plainAttrs_list PySem.F.slot_list_append PySem.F.type_list_append mt_append (pv 2) (pa_cons (pv 3) pa_nil)))) pss_nil) <|
      pss_one (ps_ret (pe_bm PySem.F.plainAttrs_list PySem.F.slot_list_index PySem.F.type_list_index (mt_indexD hu65) (pv 2) (pa_cons (pv 3) pa_nil))), ?_⟩
    obtain ⟨es, hEe, hEs⟩ := hE
    have er : rs[x]? = some rs[x] := List.getElem?_eq_getElem hx
    have elay := lay_row wf er L
    have hp := wf x _ er
    have hlet : ∀ c, rs[x] = .letter c → isLet c = true := fun c h => lets c (h ▸ List.getElem_mem _)
    generalize rs[x] = r at er elay hp hlet
    obtain ⟨a, ea, ha⟩ := hEs.get er
    refine ⟨_, rfl, _, rfl, e, _, _, _, rfl, rfl, SqT.of hEe, atRef ea, ?_⟩
    have way1 : Way rs (layS rs r.parts L).1 := layS_way wf lets _ (fun p h => by have := hp p h; omega) way
    refine ⟨fun σ' H' => ∃ kp as' a4, σ' = [some (.ref e), some (nV x), some (.ref l), some (.ref kp), a4] ∧ Keep [l] H H' ∧ H' l = some (.lst (as'.map V.ref)) ∧ RowsAt H' as' (layS rs r.parts L).1 ∧ H' kp = some (.tup (vals (setP r (layS rs r.parts L).2))), ?_, ?_⟩
    · refine ⟨_, rfl, a, _, _, _, rfl, rfl, SqT.of ha, vals_head r, rfl, _, rfl, ?_⟩
      rw [word_letter]
      cases c : isLetter r with
      | true =>
        refine iteF ⟨a, as, none, rfl, Keep.refl _ _, hl, ?_, ?_⟩
        · rw [parts_letter c]
          exact hA
        · rw [parts_letter c]
          cases r with
          | letter d => exact ha
          | _ => cases c
      | false =>
        refine iteT ⟨_, rfl, a, _, _, _, rfl, rfl, SqT.of ha, vals_head r, (by show 1 ≤ sizeLine; decide), fun q hq => ?_⟩
        have s1 : Same H (upd H q (.tup [.str (word r)])) := same_new hq
        refine ⟨_, rfl, _, rfl, a, _, rfl, SqT.of (s1 _ _ ha), fun z => (slice_no c z.1).elim, fun pp hpp => ?_⟩
        have s2 : Same _ (upd (upd H q (.tup [.str (word r)])) pp (.tup (cutV (vals r) (some 1) none))) := same_new hpp
        have s12 := s1.trans s2
        have hpp' := upd_same (H := upd H q (.tup [.str (word r)])) (a := pp) (o := .tup (cutV (vals r) (some 1) none))
        refine ⟨pp, rfl, ⟨_, SqT.of hpp'⟩, fun D hD => ?_⟩
        generalize upd (upd H q (.tup [.str (word r)])) pp (.tup (cutV (vals r) (some 1) none)) = H4 at s2 s12 hpp' hD
        rw [cut_parts c] at hpp'
        have hq4 := s2 _ _ (upd_same (H := H) (a := q) (o := .tup [.str (word r)]))
        have hl4 := s12 _ _ hl
        have nDl : D ∉ [l] := fun z => by
          rw [List.mem_singleton.mp z, hl4] at hD
          cases hD
        refine lc_tup (K := K) (a := pp) (xs := r.parts.map nV) (fun j H5 => ∃ as5, Keep [l] H4 H5 ∧ H5 D = some (.lst ((layS rs (r.parts.take j) L).2.map nV)) ∧ H5 l = some (.lst (as5.map V.ref)) ∧ RowsAt H5 as5 (layS rs (r.parts.take j) L).1)
          ⟨as, keep_new hD, upd_same, (same_new hD) _ _ hl4, (hA.same s12).same (same_new hD)⟩ (fun j H5 _ ⟨_, q, _⟩ => SqT.of (keepL_tup q hl4 _ _ hpp')) ?_ ?_
        · rintro j y H5 hy ⟨as5, k5, hD5, hl5, hA5⟩
          obtain ⟨p, ep, rfl⟩ := mem_map_nV hy
          have hpm := List.mem_of_getElem? ep
          have hpx := hp p hpm
          have t5 := keepL_tup k5 hl4
          refine ⟨rfl, _, rfl, _, rfl, _, rfl, e, l, rs, _, p, as5, rfl, ⟨es, t5 _ _ (s12 _ _ hEe), (hEs.same s12).keep t5⟩, wf, lets, few, by omega, by omega,
            layS_way wf lets _ (fun z hz => by have := hp z (List.mem_of_mem_take hz); omega) way, hl5, hA5, fun H6 as6 k6 hl6 hA6 => ?_⟩
          refine ⟨_, k6 D _ nDl hD5, ?_, as6, ?_, ?_, ?_, ?_⟩
          · rw [List.length_map, layS_len]
            have := parts_few r
            rw [List.length_take]
            exact lineLt (by omega)
          · exact (k5.trans k6).upd0 hD
          · rw [upd_same, take_snoc ep, layS_snoc]
            simp
          · rw [upd_ne (fun z => nDl (by simp [z]))]
            exact hl6
          · rw [take_snoc ep, layS_snoc]
            exact hA6.keep (upd_tup fun xs z => by rw [k6 D _ nDl hD5] at z; cases z)
        · rintro H5 ⟨as5, k5, hD5, hl5, hA5⟩
          rw [List.length_map, List.take_length] at hD5 hA5
          refine ⟨D, _, rfl, .inl ⟨SqL.of hD5, fun t ht => ?_⟩⟩
          have hq5 := keepL_tup k5 hl4 _ _ hq4
          have st : Same H5 (upd H5 t (.tup ((layS rs r.parts L).2.map nV))) := same_new ht
          have kH : Keep [l] H (upd H5 t (.tup ((layS rs r.parts L).2.map nV))) := ((Keep.of_same s12).trans k5).trans (Keep.of_same st)
          refine ⟨q, t, [.str (word r)], _, rfl, rfl, SqT.of (st _ _ hq5), SqT.of upd_same, by simp, ?_, fun z => ?_, fun z u hu' => ?_⟩
          · have := parts_few r
            rw [List.length_map, layS_len]
            exact lineBig (by simp; omega)
          · refine ⟨q, as5, _, rfl, kH, st _ _ hl5, hA5.same st, ?_⟩
            rw [st _ _ hq5, vals_setP c (layS_len rs L r.parts), z]
            rfl
          · refine ⟨u, as5, _, rfl, kH.trans (keep_new hu'), (same_new hu') _ _ (st _ _ hl5), (hA5.same st).same (same_new hu'), ?_⟩
            rw [upd_same, vals_setP c (layS_len rs L r.parts)]
    · rintro σ' H4 ⟨kp, as4, a4, rfl, k4, hl4, hA4, hkp⟩
      have hns := layS_len rs L r.parts
      generalize (layS rs r.parts L).2 = ns at hns elay hkp
      generalize (layS rs r.parts L).1 = M at way1 elay hA4
      have hlet' := setP_let hlet hns
      generalize setP r ns = r' at hlet' elay hkp
      have hfew := of_len way1.g way1.of
      have hdl : Dp K H4 (.ref l) (.list (M.map rowD)) := ListAt.dp ⟨as4, hl4, hA4⟩
      have las : (as4.map V.ref).length = M.length := by rw [List.length_map, hA4.1]
      rw [elay] at k
      obtain ⟨f1, f2⟩ := intern_first (r := r') way1.g
      have fin : ∀ (H5 : Hp) (as5 : List Addr), Keep [l] H4 H5 → H5 l = some (.lst (as5.map V.ref)) → RowsAt H5 as5 (intern r' M).1 → H5 kp = some (.tup (vals r')) → Lets (intern r' M).1 →
          ∃ v, ([some (.ref e), some (nV x), some (.ref l), some (.ref kp), a4] : L2.St)[2]? = some (some v) ∧ tyV K "list" v H5 ∧ ∃ v', ([some (.ref e), some (nV x), some (.ref l), some (.ref kp), a4] : L2.St)[3]? = some (some v') ∧ rIndexD K v [v'] H5 Q := fun H5 as5 k5 hl5 hA5 hkp5 lets5 => by
        refine ⟨_, rfl, .inl ⟨rfl, _, SqL.of hl5⟩, _, rfl, l, _, rowD r', _, (intern r' M).2, rowD r', rfl, rfl, ListAt.dp ⟨as5, hl5, hA5⟩, dp_row hkp5, list_shaped lets5, row_shaped hlet', ?_, ?_, fun m z' hm hz => ?_, k H5 as5 (k4.trans k5) hl5 hA5⟩
        · rw [List.getElem?_map, f1]
          rfl
        · rw [row_eqv]
          exact decide_eq_true rfl
        · rw [List.getElem?_map] at hz
          cases e2 : (intern r' M).1[m]? with
          | none =>
            rw [e2] at hz
            cases hz
          | some z =>
            rw [e2] at hz
            rw [← Option.some.inj hz, row_eqv]
            exact decide_eq_false (f2 m z hm e2)
      refine ⟨_, rfl, _, rfl, rowD r', M.map rowD, dp_row hkp, hdl, row_shaped hlet', list_shaped way1.lets, _, rfl, ?_⟩
      rw [any_row]
      by_cases hm : r' ∈ M
      · rw [decide_eq_true hm]
        have ei : (intern r' M).1 = M := by
          unfold intern
          rw [if_pos hm]
        refine iteF (fin H4 as4 (Keep.refl _ _) hl4 (by rw [ei]; exact hA4) hkp (by rw [ei]; exact way1.lets))
      · rw [decide_eq_false hm]
        have ei : (intern r' M).1 = M ++ [r'] := by
          unfold intern
          rw [if_neg hm]
        obtain ⟨g1, g2⟩ := ListAt.put hl4 hA4 hkp
        refine iteT ⟨_, rfl, .inl ⟨rfl, _, SqL.of hl4⟩, _, rfl, l, _, _, rfl, rfl, hl4, lineLt (by omega), ?_⟩
        refine fin _ _ (keep_upd (by simp)) g1 (by rw [ei]; exact g2) (upd_tup (fun xs z => by rw [hl4] at z; cases z) _ _ hkp) (by rw [ei]; exact way1.lets.snoc hlet')

theorem fn_laid {f : Addr} {fd : FuncData} (F : Fun K "_law_laid" "_law_laid" sLaid f fd) (N : Names K w mg) (hm : mg "_law_laid" = some (.ref f)) (hk : PySem.W.keepIn K (.ref f) = true) (hb : Binds K fd pLaid []) : ∀ n, FnOk P w K mg base CX0 n f fd pLaid (spLaid n)
  | 0 => ⟨fun vs H Q E h => by
      obtain ⟨e, l, rs, L, x, as, rfl, _⟩ := h
      rfl, fun A outer s H args us vs Q E hr he hbt hv h => by
      obtain ⟨e, l, rs, L, x, as, _, _, _, _, _, _, h0, _⟩ := h
      exact absurd h0 (Nat.not_lt_zero _)⟩
  | n + 1 => fn_laid1 F N ⟨f, fd, fn_laid F N hm hk hb n, hm, hk, hb⟩

/-! ### _law_tidy -/
def spTidy : Sp := fun vs H Q _ => ∃ (e : Addr) (rs : List Row), vs = [.ref e] ∧ ExprAt H e rs ∧ WF rs ∧ Lets rs ∧ rs.length ≤ 47 ∧ 0 < rs.length ∧ ∀ p H', Same H H' → ExprAt H' p (canon (root rs)) → Q (.ref p) H'
abbrev sTidy : Stmt := top 30
theorem scTidy : FnScope ["_law_rows", "_law_laid_here"] ["_law_rows"] (defScope sTidy) := ⟨rfl, rfl, rfl, by decide +kernel, rfl, by decide +kernel, by decide +kernel⟩
theorem fn_tidy {f : Addr} {fd : FuncData} (F : Fun K "_law_tidy" "_law_tidy" sTidy f fd) (N : Names K w mg) (fL : Fn P w K mg base "_law_laid" 47 pLaid (spLaid 47)) : FnOk P w K mg base CX0 48 f fd ["_law_rows"] spTidy := by
  obtain ⟨fl, fld, GL, mL, kL, bL⟩ := fL
  refine F.ok scTidy (fun vs H Q E h => ?_) (fun cdv A outer s H vs Q E hr h => ?_)
  · obtain ⟨e, rs, rfl, _⟩ := h
    rfl
  · obtain ⟨e, rs, rfl, hE, wf, lets, few, pos, k⟩ := h
    refine ⟨_, pss_cons (ps_set (i := 1) scTidy.nd rfl (Or.inl rfl) (pe_lst pa_nil)) <|
      pss_cons (ps_expr (pe_call GL hr rfl mL kL bL .nil pass0 (pa_cons (pv 0) (pa_cons (pe_op op_sub (pe_callB call_len_seq rfl N.len (by decide +kernel) (pa_cons (pv 0) pa_nil)) pe_int) (pa_cons (pv 1) pa_nil))))) <|
      pss_one (ps_ret (pe_callTy call_tuple_of (by rfl) N.tuple (by decide +kernel) (pa_cons (pv 1) pa_nil))), ?_⟩
    refine ⟨Nat.zero_le _, fun l hl => ?_⟩
    have s1 : Same H (upd H l (.lst [])) := same_new hl
    have hE1 := hE.same s1
    obtain ⟨es, hEe, hEs⟩ := hE1
    refine ⟨_, rfl, _, rfl, e, _, rfl, .inr (SqT.of hEe), _, _, rfl, rfl, _, rfl, e, l, rs, [], rs.length - 1, [], ?_, ⟨es, hEe, hEs⟩, wf, lets, few, by omega, by omega, ⟨G.nil, Of.nil _, Lets.nil⟩, upd_same, RowsAt.nil _, fun H2 as2 k2 hl2 hA2 => ?_⟩
    · show [V.ref e, V.int ((((es.map V.ref).length : Nat) : Int) - 1), V.ref l] = [V.ref e, nV (rs.length - 1), V.ref l]
      rw [List.length_map, hEs.1, show ((rs.length : Nat) : Int) - 1 = ((rs.length - 1 : Nat) : Int) by omega]
      rfl
    · refine ⟨_, rfl, l, _, rfl, .inl ⟨SqL.of hl2, fun p hp => ?_⟩⟩
      refine k p _ ?_ ⟨as2, upd_same, hA2.same (same_new hp)⟩
      exact (same_keep s1 k2 fun x hx => by rw [List.mem_singleton.mp hx]; exact hl).trans (same_new hp)

/-! ### _law_drawn -/
def spDrawn : Sp := fun vs H Q _ => ∃ (b : Addr), vs = [.ref b] ∧ BoxAt H b ∧ ∀ e rs H', Keep [b] H H' → BoxAt H' b → ExprAt H' e rs → Drawn rs → Q (.ref e) H'
abbrev sDrawn : Stmt := top 31
theorem scDrawn : FnScope ["_law_box_here", "_law_letters_here"] ["_law_box_here"] (defScope sDrawn) := ⟨rfl, rfl, rfl, by decide +kernel, rfl, by decide +kernel, by decide +kernel⟩
theorem fn_drawn {f : Addr} {fd : FuncData} (F : Fun K "_law_drawn" "_law_drawn" sDrawn f fd) (fT : Fn P w K mg base "_law_take" 1 ["_law_box_here", "_law_wide"] spTake)
    (fL : Fn P w K mg base "_law_letters" 2 ["_law_box_here", "_law_most"] spLetters) (fC : Fn P w K mg base "_law_chain" 3 pExpr spChain) (fE : Fn P w K mg base "_law_expression" 3 pExpr spExpr) : FnOk P w K mg base CX0 4 f fd ["_law_box_here"] spDrawn := by
  obtain ⟨ft, ftd, GT, mT, kT, bT⟩ := fT
  obtain ⟨fl, fld, GL, mL, kL, bL⟩ := fL
  obtain ⟨fc, fcd, GC, mC, kC, bC⟩ := fC
  obtain ⟨fe, fed, GE, mE, kE, bE⟩ := fE
  refine F.ok scDrawn (fun vs H Q E h => ?_) (fun cdv A outer s H vs Q E hr h => ?_)
  · obtain ⟨b, rfl, _⟩ := h
    rfl
  · obtain ⟨b, rfl, hB, k⟩ := h
    have hr1 : Room 1 _ := hr.mono (by decide)
    have hr2 : Room 2 _ := hr.mono (by decide)
    refine ⟨_, pss_cons (ps_set (i := 1) scDrawn.nd rfl (Or.inl rfl) (pe_call GL hr2 rfl mL kL bL .nil pass0 (pa_cons (pv 0) (pa_cons pe_int pa_nil)))) <|
      pss_cons (ps_if (pt_cmpR op_eq (pe_call GT hr1 rfl mT kT bT .nil pass0 (pa_cons (pv 0) (pa_cons pe_int pa_nil))) pe_int (nomark _))
        (pss_one (ps_ret (pe_call GC hr rfl mC kC bC .nil pass0 (pa_cons (pv 0) (pa_cons (pv 1) (pa_cons pe_int pa_nil)))))) pss_nil) <|
      pss_one (ps_ret (pe_call GE hr rfl mE kE bE .nil pass0 (pa_cons (pv 0) (pa_cons (pv 1) (pa_cons pe_int pa_nil))))), ?_⟩
    refine ⟨_, rfl, b, 4, rfl, hB, by decide, by decide, fun cs H1 hcs c26 c0 k1 hB1 => ?_⟩
    refine ⟨_, rfl, b, 2, rfl, hB1, by decide, by decide, fun v H2 hv k2 hB2 => ⟨rfl, _, rfl, ?_⟩⟩
    have ev : decide (nV v = V.int 0) = decide (v = 0) := dec_nV (i := v) (j := 0)
    rw [ev]
    by_cases c : v = 0
    · rw [decide_eq_true c]
      exact iteT ⟨_, rfl, _, rfl, b, cs, 24, rfl, hB2, hcs, c0, c26, by decide, by decide, fun e rs H3 k3 hB3 hE hD => k e rs H3 ((k1.trans k2).trans k3) hB3 hE hD⟩
    · rw [decide_eq_false c]
      exact iteF ⟨_, rfl, _, rfl, b, cs, 8, rfl, hB2, hcs, c0, c26, by decide, by decide, fun e rs H3 k3 hB3 hE hD => k e rs H3 ((k1.trans k2).trans k3) hB3 hE hD⟩
end
end K30
end
section
set_option maxHeartbeats 2000000
/-! K30H6: the law's changed. -/
namespace K30
open PySem PySem.Spec PyProof.Rows L2

theorem at_new {H : Hp} {p : Addr} {o : HO} (h : H p = none) : upd H p o p = some o := upd_same
theorem same_at {H : Hp} {p : Addr} {o : HO} (h : H p = none) : Same H (upd H p o) := same_new h
theorem RowsAt.set {H : Hp} {as : List Addr} {rs : List Row} {x : Nat} {t : Addr} {r : Row} (h : RowsAt H as rs) (ht : H t = some (.tup (vals r))) : RowsAt H (as.set x t) (rs.set x r) := by
  refine ⟨by simp [h.1], fun i a q e1 e2 => ?_⟩
  rw [List.getElem?_set] at e1 e2
  by_cases c : x = i
  · rw [if_pos c] at e1 e2
    split at e1
    · split at e2
      · rw [← Option.some.inj e1, ← Option.some.inj e2]
        exact ht
      · cases e2
    · cases e1
  · rw [if_neg c] at e1 e2
    exact h.2 i a q e1 e2
def letOf : Row → List Nat
  | .letter c => [c]
  | _ => []
theorem letOf_lets {rs : List Row} (h : Lets rs) : ∀ c ∈ rs.flatMap letOf, isLet c = true := fun c hc => by
  obtain ⟨r, hr, hc⟩ := List.mem_flatMap.mp hc
  cases r <;> simp [letOf] at hc
  rename_i d
  subst hc
  exact h _ hr
theorem letOf_len : ∀ rs : List Row, (rs.flatMap letOf).length ≤ rs.length
  | [] => Nat.le_refl _
  | r :: rs => by
    have := letOf_len rs
    have h : (letOf r).length ≤ 1 := by cases r <;> simp [letOf]
    rw [List.flatMap_cons, List.length_append, List.length_cons]
    omega
theorem lets_from {xs : List Nat} : ∀ ys : List Str, (∀ y ∈ ys, y ∈ xs.map sg) → ∃ cs : List Nat, ys = cs.map sg ∧ ∀ c ∈ cs, c ∈ xs
  | [], _ => ⟨[], rfl, fun c h => nomatch h⟩
  | y :: ys, h => by
    obtain ⟨c, hc, e⟩ := List.mem_map.mp (h y List.mem_cons_self)
    obtain ⟨cs, h1, h2⟩ := lets_from ys fun z hz => h z (List.mem_cons_of_mem _ hz)
    refine ⟨c :: cs, by rw [h1, ← e]; rfl, fun z hz => ?_⟩
    rcases List.mem_cons.mp hz with q | q
    · rw [q]
      exact hc
    · exact h2 z q
theorem word_not (r : Row) : decide (V.str (word r) = V.str "not") = (match r with | .not _ => true | _ => false) := by
  cases r with
  | bin o i j =>
    show decide (V.str (wd o) = V.str "not") = false
    cases o <;> decide +kernel
  | nothing => decide +kernel
  | blank => decide +kernel
  | letter c =>
    show decide (V.str "letter" = V.str "not") = false
    decide +kernel
  | not i => exact decide_eq_true rfl
theorem leaf_len {r : Row} (h : isLeaf r = true) : (vals r).length ≠ 3 := by
  cases r with
  | bin o i j => cases h
  | not i => cases h
  | _ => exact fun z => by simp [vals, keys, argK] at z
theorem leaf_not {r : Row} (h : isLeaf r = true) : decide (V.str (word r) = V.str "not") = false := by
  rw [word_not]
  cases r <;> first | rfl | cases h
theorem sgV_map (cs : List Nat) : (cs.map sg).map V.str = cs.map sgV := by
  rw [List.map_map]
  rfl
def ChMid (b fl : Addr) (H : Hp) : L2.St → Hp → Prop := fun σ' H' => (∃ a0 a1 rest, σ' = a0 :: a1 :: some (.ref fl) :: rest) ∧ Keep [b] H H' ∧ BoxAt H' b ∧ ∃ as rs, H' fl = some (.lst (as.map V.ref)) ∧ RowsAt H' as rs ∧ Fine rs
def opsCV : List V := [.str "or", .str "and", .str "behind"]
theorem opsC_at : ∀ u : Nat, u < 3 → ∃ o, atI opsCV (u : Int) = some (.str (wd o))
  | 0, _ => ⟨.or, rfl⟩
  | 1, _ => ⟨.and, rfl⟩
  | 2, _ => ⟨.seq, rfl⟩
def spChanged : Sp := fun vs H Q _ => ∃ (b e : Addr) (rs : List Row), vs = [.ref b, .ref e] ∧ BoxAt H b ∧ ExprAt H e rs ∧ Drawn rs ∧ ∀ p rs' H', Keep [b] H H' → BoxAt H' b → ExprAt H' p rs' → Fine rs' → Q (.ref p) H'
section
variable {P : Program} {w : World} {K : PySem.W.Frag} {mg : Str → Option Value} {base : Heap}
abbrev sChanged : Stmt := top 32
abbrev nChanged : List Str := ["_law_box_here", "_law_rows", "_law_found", "_law_at", "_law_row", "_law_words", "_law_other", "_law_some", "_law_pool", "_law_one"]
theorem scChanged : FnScope nChanged ["_law_box_here", "_law_rows"] (defScope sChanged) := ⟨rfl, rfl, rfl, by decide +kernel, rfl, by decide +kernel, by decide +kernel⟩
theorem fn_changed {f : Addr} {fd : FuncData} (F : Fun K "_law_changed" "_law_changed" sChanged f fd) (N : Names K w mg) (fT : Fn P w K mg base "_law_take" 1 ["_law_box_here", "_law_wide"] spTake) : FnOk P w K mg base CX0 2 f fd ["_law_box_here", "_law_rows"] spChanged := by
  obtain ⟨ft, ftd, GT, mT, kT, bT⟩ := fT
  refine F.ok scChanged (fun vs H Q E h => ?_) (fun cdv A outer s H vs Q E hr h => ?_)
  · obtain ⟨b, e, rs, rfl, _⟩ := h
    rfl
  · obtain ⟨b, e, rs, rfl, hB, hE, hD, k⟩ := h
    refine ⟨_, pss_cons (ps_set (i := 2) scChanged.nd rfl (Or.inl rfl) (pe_callTy call_list_of rfl N.list (by decide +kernel) (pa_cons (pv 1) pa_nil))) <|
      pss_cons (ps_set (i := 3) scChanged.nd rfl (Or.inl rfl) (pe_op op_sub (pe_op op_sub (pe_callB call_len_seq rfl N.len (by decide +kernel) (pa_cons (pv 1) pa_nil)) pe_int)
        (pe_op op_fdiv (pe_call GT hr rfl mT kT bT .nil pass0 (pa_cons (pv 0) (pa_cons (pe_callB call_len_seq rfl N.len (by decide +kernel) (pa_cons (pv 1) pa_nil)) pa_nil))) pe_int))) <|
      pss_cons (ps_set (i := 4) scChanged.nd rfl (Or.inl rfl) (pe_ix ix_tup (pv 1) (pv 3) (fun _ _ => rfl))) <|
      C8.pss_cut (ps_if (pt_cmpR op_eq (pe_callB call_len_seq rfl N.len (by decide +kernel) (pa_cons (pv 4) pa_nil)) pe_int (nomark _))
        (pss_cons (ps_set (i := 5) scChanged.nd rfl (Or.inl rfl) (pe_lst (pa_cons pe_str (pa_cons pe_str (pa_cons pe_str pa_nil))))) <|
         pss_cons (ps_set (i := 6) scChanged.nd rfl (Or.inl rfl) (pe_call GT hr rfl mT kT bT .nil pass0 (pa_cons (pv 0) (pa_cons (pv 3) pa_nil)))) <|
         pss_cons (ps_set (i := 7) scChanged.nd rfl (Or.inl rfl) (pe_lst
           (pa_cons (pe_tup (pa_cons (pe_ix ix_tup (pv 4) pe_int (fun _ _ => rfl)) (pa_cons (pe_ix ix_tup (pv 4) pe_int (fun _ _ => rfl)) (pa_cons (pe_ix ix_tup (pv 4) pe_int (fun _ _ => rfl)) pa_nil))))
           (pa_cons (pe_op op_catT (pe_tup (pa_cons (pe_ix ix_list (pv 5) (pe_call GT hr rfl mT kT bT .nil pass0 (pa_cons (pv 0) (pa_cons pe_int pa_nil))) (fun _ _ => rfl)) pa_nil)) (pe_slice sl_tup (pv 4) (po_some pe_int) po_none))
           (pa_cons (pe_tup (pa_cons (pe_ix ix_tup (pv 4) pe_int (fun _ _ => rfl)) (pa_cons (pv 6) (pa_cons (pe_ix ix_tup (pv 4) pe_int (fun _ _ => rfl)) pa_nil)))) pa_nil))))) <|
         pss_one (ps_asg (pe_ix ix_list (pe_op op_cat (pv 7) (pe_lst
             (pa_cons (pe_tup (pa_cons (pe_ix ix_tup (pv 4) pe_int (fun _ _ => rfl)) (pa_cons (pe_ix ix_tup (pv 4) pe_int (fun _ _ => rfl)) (pa_cons (pv 6) pa_nil))))
             (pa_cons (pe_tup (pa_cons pe_str (pa_cons (pe_ix ix_tup (pv 4) pe_int (fun _ _ => rfl)) pa_nil))) pa_nil))))
           (pe_call GT hr rfl mT kT bT .nil pass0 (pa_cons (pv 0) (pa_cons pe_int pa_nil))) (fun _ _ => rfl)) (pg_sub (pv 2) (pv 3) set_list)))
        (pss_one (ps_if (pt_cmpR op_eq (pe_ix ix_tup (pv 4) pe_int (fun _ _ => rfl)) pe_str (nomark _))
          (pss_one (ps_asg (pe_ix ix_list (pe_lst
             (pa_cons (pe_tup (pa_cons pe_str (pa_cons (pe_call GT hr rfl mT kT bT .nil pass0 (pa_cons (pv 0) (pa_cons (pv 3) pa_nil))) pa_nil)))
             (pa_cons (pe_tup (pa_cons pe_str (pa_cons (pe_ix ix_tup (pv 4) pe_int (fun _ _ => rfl)) (pa_cons (pe_ix ix_tup (pv 4) pe_int (fun _ _ => rfl)) pa_nil)))) pa_nil)))
           (pe_call GT hr rfl mT kT bT .nil pass0 (pa_cons (pv 0) (pa_cons pe_int pa_nil))) (fun _ _ => rfl)) (pg_sub (pv 2) (pv 3) set_list)))
          (pss_cons (ps_set (i := 8) scChanged.nd rfl (Or.inl rfl) (pe_callB (K30X.cr_sortedX rfl) rfl N.sorted (by decide +kernel) (pa_cons
             (pe_callTy (K30X.cr_setS rfl) rfl N.set (by decide +kernel) (pa_cons
               (pe_lc (own := [("_law_one", 9)]) (g := gName 9) (tt := tTest (tOp rEq (tOp (rIxT K) (tVar 9) (tC (.int 0))) (tC (.str "letter")))) (te := tOp (rIxT K) (tVar 9) (tC (.int 1))) rfl scChanged.nd (pi_tup (pv 1))
                 (blkOk_by (own := [("_law_one", 9)]) (N := nChanged) (sc := defScope sChanged) (by decide +kernel)) (fun _ _ _ _ _ => pg_name (i := 9) scChanged.nd rfl (Or.inl rfl))
                 (fun _ _ _ _ _ => pts_one (pt_cmpR op_eq (pe_ix ix_tup (pv 9) pe_int (fun _ _ => rfl)) pe_str (nomark _))) (fun _ _ _ _ _ => pe_ix ix_tup (pv 9) pe_int (fun _ _ => rfl))) pa_nil)) pa_nil))) <|
           C8.pss_cut (ps_if (pt_cmpR op_lt (pe_callB call_len_seq rfl N.len (by decide +kernel) (pa_cons (pv 8) pa_nil)) pe_int (nomark _))
             (pss_one (ps_expr (pe_bm PySem.F.plainAttrs_list PySem.F.slot_list_append PySem.F.type_list_append mt_append (pv 8) (pa_cons (pe_ix ix_str pe_str (pe_call GT hr rfl mT kT bT .nil pass0 (pa_cons (pv 0) (pa_cons pe_int pa_nil))) (fun _ _ => rfl)) pa_nil)))) pss_nil) <|
           pss_one (ps_asg (pe_tup (pa_cons pe_str (pa_cons (pe_ix ix_list (pv 8) (pe_call GT hr rfl mT kT bT .nil pass0 (pa_cons (pv 0) (pa_cons (pe_callB call_len_seq rfl N.len (by decide +kernel) (pa_cons (pv 8) pa_nil)) pa_nil))) (fun _ _ => rfl)) pa_nil))) (pg_sub (pv 2) (pv 3) set_list)))))) <|
      pss_one (ps_ret (pe_callTy call_tuple_of (by rfl) N.tuple (by decide +kernel) (pa_cons (pv 2) pa_nil))), ?_⟩
    obtain ⟨as, hEe, hAs⟩ := hE
    have pos := hD.pos
    have few := hD.few
    have las : (as.map V.ref).length = rs.length := by rw [List.length_map, hAs.1]
    refine ⟨_, rfl, e, _, rfl, .inr (SqT.of hEe), fun fl hfl => ?_⟩
    have s1 : Same H (upd H fl (.lst (as.map V.ref))) := same_new hfl
    have flb : fl ∉ [b] := hB.ne hfl
    have bfl : b ≠ fl := fun z => flb (by simp [z])
    refine ⟨_, rfl, e, _, rfl, .inr (SqT.of (s1 _ _ hEe)), _, _, rfl, rfl, _, rfl, _, rfl, e, _, rfl, .inr (SqT.of (s1 _ _ hEe)), b, rs.length, by rw [las]; rfl, hB.same s1, pos, by omega, fun v H2 hv k2 hB2 => ?_⟩
    refine ⟨_, _, rfl, rfl, ⟨by decide, by decide⟩, _, _, rfl, rfl, ?_⟩
    have ex : ((((as.map V.ref).length : Nat) : Int) - 1) - ((v : Nat) : Int) / 2 = ((rs.length - 1 - v / 2 : Nat) : Int) := by
      rw [las]
      omega
    generalize hx0 : rs.length - 1 - v / 2 = x at ex
    have hx : x < rs.length := by omega
    have t2 := keepB_tup k2 (hB.same s1)
    have hE2 := t2 _ _ (s1 _ _ hEe)
    have hA2 := (hAs.same s1).keep t2
    have k02 : Keep [b] H H2 := (Keep.of_same s1).trans k2
    have hfl2 := k2 fl _ flb upd_same
    have er : rs[x]? = some rs[x] := List.getElem?_eq_getElem hx
    obtain ⟨a, ea, ha⟩ := hA2.get er
    have hp := hD.wf x _ er
    have fin : ∀ (H4 : Hp) (t : Addr) (r' : Row) (σ : L2.St), (∃ a0 a1 rest, σ = a0 :: a1 :: some (.ref fl) :: rest) → Keep [b] H2 H4 → BoxAt H4 b → H4 t = some (.tup (vals r')) → (∀ p ∈ r'.parts, p < x) → (∀ c, r' = .letter c → isLet c = true) → (isLeaf rs[x] = true → isLeaf r' = true) →
        rSetL (.ref fl) (.int (((((as.map V.ref).length : Nat) : Int) - 1) - ((v : Nat) : Int) / 2)) (.ref t) H4 (fun H5 => ChMid b fl H σ H5) := fun H4 t r' σ hσ k4 hB4 ht hp' hl' hf' => by
      rw [ex]
      have hix : ixN (as.map V.ref).length ((x : Nat) : Int) = some x := by
        unfold ixN
        rw [if_pos (by omega), if_pos (by rw [las]; omega)]
        simp
      have hfl4 := k4 fl _ flb hfl2
      refine ⟨fl, _, _, x, rfl, rfl, hfl4, hix, hσ, (k02.trans k4).upd0 hfl, hB4.upd bfl, as.set x t, rs.set x r', ?_, ?_, hD.changed er hp' hl' hf'⟩
      · rw [upd_same, List.map_set]
      · exact ((hA2.keep (keepB_tup k4 hB2)).set ht).keep (upd_tup fun xs z => by rw [hfl4] at z; cases z)
    have fin2 : ∀ σ' H', ChMid b fl H σ' H' → ∃ v, σ'[2]? = some (some v) ∧ ∃ p ys, [v] = [V.ref p] ∧ ((SqL K H' p ys ∧ ∀ l, H' l = none → Q (.ref l) (upd H' l (.tup ys))) ∨ (SqT K H' p ys ∧ Q (.ref p) H')) := by
      rintro σ' H' ⟨⟨a0, a1, rest, rfl⟩, k5, hB5, as5, rs5, hfl5, hA5, fine⟩
      refine ⟨_, rfl, fl, _, rfl, .inl ⟨SqL.of hfl5, fun l hl => ?_⟩⟩
      exact k l rs5 _ (k5.trans (keep_new hl)) (hB5.new hl) ⟨as5, upd_same, hA5.same (same_new hl)⟩ fine
    have hxV : ∀ c, rs[x] = .letter c → isLet c = true := fun c h => hD.lets c (h ▸ List.getElem_mem _)
    have hatr : atI (as.map V.ref) ((((as.map V.ref).length : Nat) : Int) - 1 - ((v : Nat) : Int) / 2) = some (.ref a) := by rw [ex]; exact atRef ea
    have exV : [V.ref b, V.int (((((as.map V.ref).length : Nat) : Int) - 1) - ((v : Nat) : Int) / 2)] ++ [] = [V.ref b, nV x] := by
      rw [ex]
      rfl
    refine ⟨_, rfl, _, rfl, e, _, _, _, rfl, rfl, SqT.of hE2, hatr, ChMid b fl H, ?_, fun σ' H' hm => fin2 σ' H' hm⟩
    generalize rs[x] = r at er ha hp fin hxV
    refine ⟨_, rfl, a, _, rfl, .inr (SqT.of ha), rfl, _, rfl, ?_⟩
    by_cases hlf : isLeaf r = true
    · have hlen3 : decide (V.int (((vals r).length : Nat) : Int) = V.int 3) = false := (dec_nV (i := (vals r).length) (j := 3)).trans (decide_eq_false (leaf_len hlf))
      rw [hlen3]
      refine iteF ⟨_, rfl, a, _, _, _, rfl, rfl, SqT.of ha, vals_head r, rfl, _, rfl, ?_⟩
      rw [leaf_not hlf]
      refine iteF ⟨_, rfl, e, rfl, ⟨_, SqT.of hE2⟩, fun D hD' => ?_⟩
      refine lc_tup (K := K) (a := e) (xs := as.map V.ref) (fun j H5 => Same H2 H5 ∧ H5 D = some (.lst (((rs.take j).flatMap letOf).map sgV))) ⟨same_new hD', upd_same⟩ (fun j H5 _ q => SqT.of (q.1 _ _ hE2)) ?_ ?_
      · rintro j y H5 hy ⟨s5, hD5⟩
        obtain ⟨ar, ear, rfl⟩ : ∃ ar, as[j]? = some ar ∧ y = V.ref ar := by
          rw [List.getElem?_map] at hy
          cases e2 : as[j]? with
          | none =>
            rw [e2] at hy
            cases hy
          | some p =>
            rw [e2] at hy
            exact ⟨p, rfl, (Option.some.inj hy).symm⟩
        have hj : j < rs.length := by
          rw [← hAs.1]
          exact (List.getElem?_eq_some_iff.mp ear).1
        have eq' : rs[j]? = some rs[j] := List.getElem?_eq_getElem hj
        have har := s5 _ _ (hA2.2 j ar rs[j] ear eq')
        rw [take_snoc eq', List.flatMap_append]
        have fewj := letOf_len (rs.take j)
        rw [List.length_take] at fewj
        generalize rs[j] = q at har
        refine ⟨rfl, _, rfl, ar, _, _, _, rfl, rfl, SqT.of har, vals_head q, rfl, _, rfl, ?_⟩
        rw [word_letter]
        cases c : isLetter q with
        | false =>
          refine iteF ⟨s5, ?_⟩
          have : letOf q = [] := by cases q <;> first | rfl | cases c
          simpa [this] using hD5
        | true =>
          cases q with
          | letter d =>
            refine iteT ⟨_, rfl, ar, _, _, .str (sg d), rfl, rfl, SqT.of har, atI_nat (j := 1) rfl, _, hD5, lineLt (by rw [List.length_map]; omega), fun b o eb => ?_, ?_⟩
            · rw [upd_ne (ne_of_none eb hD')]
              exact s5 b o eb
            · rw [upd_same]
              simp [letOf, sgV]
          | _ => cases c
      · rintro H5 ⟨s5, hD5⟩
        rw [las, List.take_length] at hD5
        have hll := letOf_len rs
        have hDx : H5 D = some (.lst (((rs.flatMap letOf).map sg).map V.str)) := by
          rw [hD5, List.map_map]
          rfl
        refine ⟨D, (rs.flatMap letOf).map sg, rfl, SqL.of hDx, by rw [List.length_map]; omega, fun sA hsA => ?_⟩
        refine ⟨sA, _, _, rfl, upd_same, by rw [List.length_map]; omega, fun ys pl hys hyl hpl => ?_⟩
        obtain ⟨cs, rfl, hcs⟩ := lets_from ys hys
        have hcs2 : cs.all isLet = true := by
          rw [List.all_eq_true]
          exact fun c hc => letOf_lets hD.lets c (hcs c hc)
        have hcl : cs.length ≤ 47 := by
          rw [List.length_map, List.length_map] at hyl
          omega
        have s6 := same_at (o := K30X.SetXO w sA ((rs.flatMap letOf).map sg) ((rs.flatMap letOf).map sg).length) hsA
        have s7 := same_at (o := .lst ((cs.map sg).map V.str)) hpl
        have hpl7 := (at_new (o := .lst ((cs.map sg).map V.str)) hpl).trans (show some (HO.lst ((cs.map sg).map V.str)) = some (HO.lst (cs.map sgV)) by rw [sgV_map])
        have s27 := (s5.trans s6).trans s7
        have hB7 := hB2.same s27
        refine ⟨fun σ' H' => σ' = [some (.ref b), some (.ref e), some (.ref fl), some (.int (((((as.map V.ref).length : Nat) : Int) - 1) - ((v : Nat) : Int) / 2)), some (.ref a), none, none, none, some (.ref pl), none] ∧ Keep [b] H2 H' ∧ BoxAt H' b ∧
            ∃ cs' : List Nat, H' pl = some (.lst (cs'.map sgV)) ∧ cs'.all isLet = true ∧ 0 < cs'.length ∧ cs'.length ≤ 48, ?_, ?_⟩
        · refine ⟨_, rfl, pl, _, rfl, .inl (SqL.of hpl7), _, _, rfl, rfl, _, rfl, ?_⟩
          by_cases c4 : cs.length < 4
          · rw [show decide ((((cs.map sgV).length : Nat) : Int) < 4) = true from decide_eq_true (by rw [List.length_map]; omega)]
            refine iteT ⟨_, rfl, .inl ⟨rfl, _, SqL.of hpl7⟩, _, rfl, b, 26, rfl, hB7, by decide, by decide, fun u H8 hu k8 hB8 => ?_⟩
            have npl : pl ∉ [b] := (hB2.same (s5.trans s6)).ne hpl
            have e26 : ("abcdefghijklmnopqrstuvwxyz" : Str).cps.toList.length = 26 := by rw [abc_codes]; rfl
            have hu' : u < ("abcdefghijklmnopqrstuvwxyz" : Str).cps.toList.length := by rw [e26]; exact hu
            have hg := List.getElem?_eq_getElem hu'
            have hlc := mem_abc (("abcdefghijklmnopqrstuvwxyz" : Str).cps.toList[u])
            rw [decide_eq_true (List.getElem_mem hu')] at hlc
            generalize ("abcdefghijklmnopqrstuvwxyz" : Str).cps.toList[u] = d at hg hlc
            have hpl8 := k8 pl _ npl hpl7
            refine ⟨_, _, d, rfl, rfl, lineBig (by decide +kernel), atI_nat hg, pl, _, _, rfl, rfl, hpl8, lineLt (by rw [List.length_map]; omega), rfl, ?_, ?_, cs ++ [d], ?_, ?_, by simp, by simp; omega⟩
            · exact ((Keep.of_same s27).trans k8).upd0 (by
                cases e9 : H2 pl with
                | none => rfl
                | some o9 =>
                  have z := (s5.trans s6) _ _ e9
                  have z2 := z.symm.trans hpl
                  cases z2)
            · exact hB8.upd (fun z => npl (by simp [z]))
            · rw [upd_same]
              simp [sgV, sg]
            · rw [List.all_append, hcs2]
              simp [← hlc]
          · rw [show decide ((((cs.map sgV).length : Nat) : Int) < 4) = false from decide_eq_false (by rw [List.length_map]; omega)]
            exact iteF ⟨rfl, Keep.of_same s27, hB7, cs, hpl7, hcs2, by omega, by omega⟩
        · rintro σ' H8 ⟨rfl, k8, hB8, cs', hpl8, hcs', hpos', hfew'⟩
          have hlc : (cs'.map sgV).length = cs'.length := by simp
          refine ⟨_, rfl, _, rfl, _, rfl, pl, _, rfl, .inl (SqL.of hpl8), b, cs'.length, by rw [hlc]; rfl, hB8, hpos', by omega, fun u H9 hu k9 hB9 => ?_⟩
          have npl : pl ∉ [b] := fun z => by
            obtain ⟨xx, yy, e9⟩ := hB8
            rw [List.mem_singleton.mp z, e9] at hpl8
            have := Option.some.inj hpl8
            injection this with this
            cases cs' with
            | nil => cases this
            | cons c0 cs0 => cases this
          have hg : cs'[u]? = some cs'[u] := List.getElem?_eq_getElem hu
          have hlu := all_at hcs' hg
          generalize cs'[u] = d at hg hlu
          refine ⟨pl, _, _, sgV d, rfl, rfl, SqL.of (k9 pl _ npl hpl8), atI_nat (by rw [List.getElem?_map, hg]; rfl), Nat.le_of_ble_eq_true rfl, fun t ht => ?_⟩
          refine ⟨_, rfl, _, rfl, fin _ t (.letter d) _ ⟨_, _, _, rfl⟩ ((k8.trans k9).trans (keep_new ht)) (hB9.new ht) (at_new (o := .tup (vals (.letter d))) ht) (fun p hp => nomatch hp) (fun c h => by rw [← Row.letter.inj h]; exact hlu) (fun _ => rfl)⟩
    · cases r with
      | bin o i j =>
        rw [show decide (V.int (((vals (Row.bin o i j)).length : Nat) : Int) = V.int 3) = true from decide_eq_true rfl]
        have hi : i < x := hp i (by simp [Row.parts])
        have hj : j < x := hp j (by simp [Row.parts])
        have at0 : atI (vals (.bin o i j)) 0 = some (.str (wd o)) := atI_nat (j := 0) rfl
        have at1 : atI (vals (.bin o i j)) 1 = some (nV i) := atI_nat (j := 1) rfl
        have at2 : atI (vals (.bin o i j)) 2 = some (nV j) := atI_nat (j := 2) rfl
        refine iteT ⟨Nat.le_of_ble_eq_true rfl, fun L hL => ?_⟩
        have sL : Same H2 (upd H2 L (.lst opsCV)) := same_new hL
        have hB2' := hB2.same sL
        have nL : L ∉ [b] := hB2.ne hL
        refine ⟨_, rfl, _, rfl, b, x, exV, hB2', by omega, by omega, fun u H3 hu k3 hB3 => ?_⟩
        have ha3 := keepB_tup k3 hB2' _ _ (sL _ _ ha)
        have hL3 := k3 L _ nL upd_same
        refine ⟨_, rfl, a, _, _, _, rfl, rfl, SqT.of ha3, at0, _, rfl, a, _, _, _, rfl, rfl, SqT.of ha3, at2, _, rfl, a, _, _, _, rfl, rfl, SqT.of ha3, at1, Nat.le_of_ble_eq_true rfl, fun t1 h1 => ?_⟩
        have sA : Same H3 (upd H3 t1 (.tup (vals (.bin o j i)))) := same_new h1
        have hBA := hB3.same sA
        refine ⟨_, rfl, _, rfl, b, 3, rfl, hBA, by decide, by decide, fun u2 H5 hu2 k5 hB5 => ?_⟩
        obtain ⟨o2, ho2⟩ := opsC_at u2 hu2
        have t5 := keepB_tup k5 hBA
        have ha5 := t5 _ _ (sA _ _ ha3)
        refine ⟨L, _, _, _, rfl, rfl, SqL.of (k5 L _ nL (sA _ _ hL3)), ho2, Nat.le_of_ble_eq_true rfl, fun q hq => ?_⟩
        have sB : Same H5 (upd H5 q (.tup [.str (wd o2)])) := same_new hq
        refine ⟨_, rfl, _, rfl, a, _, rfl, SqT.of (sB _ _ ha5), fun z => (slice_no rfl z.1).elim, fun pp hpp => ?_⟩
        have sC : Same _ (upd (upd H5 q (.tup [.str (wd o2)])) pp (.tup (cutV (vals (.bin o i j)) (some 1) none))) := same_new hpp
        have hcut : cutV (vals (.bin o i j)) (some 1) none = [nV i, nV j] := cut_parts (r := .bin o i j) rfl
        refine ⟨q, pp, [.str (wd o2)], _, rfl, rfl, SqT.of (sC _ _ upd_same), SqT.of upd_same, by simp, by rw [hcut]; exact Nat.le_of_ble_eq_true rfl, fun z => (by rw [hcut] at z; cases z), fun _ t2 h2 => ?_⟩
        rw [hcut] at sC h2 ⊢
        have sD : Same _ (upd (upd (upd H5 q (.tup [.str (wd o2)])) pp (.tup [nV i, nV j])) t2 (.tup (vals (.bin o2 i j)))) := same_new h2
        have e2 := upd_same (H := upd (upd H5 q (.tup [.str (wd o2)])) pp (.tup [nV i, nV j])) (a := t2) (o := .tup (vals (.bin o2 i j)))
        have s5D := (sB.trans sC).trans sD
        have e1 := s5D _ _ (t5 _ _ (upd_same (H := H3) (a := t1) (o := .tup (vals (.bin o j i)))))
        have haD := s5D _ _ ha5
        have kD : Keep [b] H2 (upd (upd (upd H5 q (.tup [.str (wd o2)])) pp (.tup [nV i, nV j])) t2 (.tup (vals (.bin o2 i j)))) := ((((Keep.of_same sL).trans k3).trans (Keep.of_same sA)).trans k5).trans (Keep.of_same s5D)
        have hBD := hB5.same s5D
        refine ⟨_, rfl, a, _, _, _, rfl, rfl, SqT.of haD, at0, _, rfl, _, rfl, a, _, _, _, rfl, rfl, SqT.of haD, at2, Nat.le_of_ble_eq_true rfl, fun t3 h3 => ⟨Nat.le_of_ble_eq_true rfl, fun S hS => ?_⟩⟩
        have sE := same_at (o := .tup (vals (.bin o u j))) h3
        have e3 := at_new (o := .tup (vals (.bin o u j))) h3
        have sF := same_at (o := .lst [V.ref t1, V.ref t2, V.ref t3]) hS
        have hSF := at_new (o := .lst [V.ref t1, V.ref t2, V.ref t3]) hS
        have sDF := sE.trans sF
        have haF := sDF _ _ haD
        refine ⟨_, rfl, _, rfl, a, _, _, _, rfl, rfl, SqT.of haF, at0, _, rfl, a, _, _, _, rfl, rfl, SqT.of haF, at1, _, rfl, Nat.le_of_ble_eq_true rfl, fun t4 h4 => ?_⟩
        have sG := same_at (o := .tup (vals (.bin o i u))) h4
        have e4 := at_new (o := .tup (vals (.bin o i u))) h4
        refine ⟨_, rfl, a, _, _, _, rfl, rfl, SqT.of (sG _ _ haF), at1, Nat.le_of_ble_eq_true rfl, fun t6 h6 => ⟨Nat.le_of_ble_eq_true rfl, fun M hM => ?_⟩⟩
        have sH := same_at (o := .tup (vals (.not i))) h6
        have e6 := at_new (o := .tup (vals (.not i))) h6
        have sI := same_at (o := .lst [V.ref t4, V.ref t6]) hM
        have hMI := at_new (o := .lst [V.ref t4, V.ref t6]) hM
        have sFI := (sG.trans sH).trans sI
        have e4I := sI _ _ (sH _ _ e4)
        have e6I := sI _ _ e6
        refine ⟨S, M, _, _, rfl, rfl, sFI _ _ hSF, hMI, Nat.le_of_ble_eq_true rfl, fun Z hZ => ?_⟩
        have sJ := same_at (o := .lst [V.ref t1, V.ref t2, V.ref t3, V.ref t4, V.ref t6]) hZ
        have sDJ := (sDF.trans sFI).trans sJ
        have hBI := (hBD.same sDF).same sFI
        have nZ : Z ∉ [b] := hBI.ne hZ
        have hBJ := hBI.same sJ
        refine ⟨_, rfl, b, 5, rfl, hBJ, by decide, by decide, fun u5 H9 hu5 k9 hB9 => ?_⟩
        have t9 := keepB_tup k9 hBJ
        have k29 : Keep [b] H2 H9 := (kD.trans (Keep.of_same sDJ)).trans k9
        have g1 := t9 _ _ (sDJ _ _ e1)
        have g2 := t9 _ _ (sDJ _ _ e2)
        have g3 := t9 _ _ (sJ _ _ (sFI _ _ (sF _ _ e3)))
        have g4 := t9 _ _ (sJ _ _ e4I)
        have g5 := t9 _ _ (sJ _ _ e6I)
        have pick5 : ∃ t r', atI [V.ref t1, V.ref t2, V.ref t3, V.ref t4, V.ref t6] (u5 : Int) = some (.ref t) ∧ H9 t = some (.tup (vals r')) ∧ (∀ p ∈ r'.parts, p < x) ∧ (∀ c, r' = .letter c → isLet c = true) := by
          have two : ∀ {m n : Nat}, m < x → n < x → ∀ (o : Op), ∀ p ∈ (Row.bin o m n).parts, p < x := fun {m n} hm hn o p hp => by
            have : p = m ∨ p = n := by simpa [Row.parts] using hp
            rcases this with z | z <;> rw [z] <;> assumption
          match u5, hu5 with
          | 0, _ => exact ⟨t1, _, rfl, g1, two hj hi o, fun c e => nomatch e⟩
          | 1, _ => exact ⟨t2, _, rfl, g2, two hi hj o2, fun c e => nomatch e⟩
          | 2, _ => exact ⟨t3, _, rfl, g3, two hu hj o, fun c e => nomatch e⟩
          | 3, _ => exact ⟨t4, _, rfl, g4, two hi hu o, fun c e => nomatch e⟩
          | 4, _ => exact ⟨t6, _, rfl, g5, (fun p hp => by
              have : p = i := by simpa [Row.parts] using hp
              rw [this]
              exact hi), fun c e => nomatch e⟩
        obtain ⟨t, r', hat, htv, hpp', hll⟩ := pick5
        exact ⟨Z, _, _, _, rfl, rfl, SqL.of (k9 Z _ nZ upd_same), hat, _, rfl, _, rfl, fin H9 t r' _ ⟨_, _, _, rfl⟩ k29 hB9 htv hpp' hll (fun z => nomatch z)⟩
      | not i =>
        rw [show decide (V.int (((vals (Row.not i)).length : Nat) : Int) = V.int 3) = false from (dec_nV (i := (vals (Row.not i)).length) (j := 3)).trans rfl]
        have hi : i < x := hp i (by simp [Row.parts])
        have at1 : atI (vals (.not i)) 1 = some (nV i) := atI_nat (j := 1) rfl
        refine iteF ⟨_, rfl, a, _, _, _, rfl, rfl, SqT.of ha, vals_head _, rfl, _, rfl, ?_⟩
        rw [word_not]
        refine iteT ⟨_, rfl, _, rfl, b, x, exV, hB2, by omega, by omega, fun u H3 hu k3 hB3 => ⟨Nat.le_of_ble_eq_true rfl, fun t1 h1 => ?_⟩⟩
        have ha3 := keepB_tup k3 hB2 _ _ ha
        have s1' := same_at (o := .tup (vals (.not u))) h1
        have e1 := at_new (o := .tup (vals (.not u))) h1
        refine ⟨_, rfl, a, _, _, _, rfl, rfl, SqT.of (s1' _ _ ha3), at1, _, rfl, a, _, _, _, rfl, rfl, SqT.of (s1' _ _ ha3), at1, Nat.le_of_ble_eq_true rfl, fun t2 h2 => ⟨Nat.le_of_ble_eq_true rfl, fun M hM => ?_⟩⟩
        have s2' := same_at (o := .tup (vals (.bin .or i i))) h2
        have e2 := at_new (o := .tup (vals (.bin .or i i))) h2
        have s3' := same_at (o := .lst [V.ref t1, V.ref t2]) hM
        have hBM := ((hB3.same s1').same s2').same s3'
        have nM : M ∉ [b] := ((hB3.same s1').same s2').ne hM
        refine ⟨_, rfl, b, 2, rfl, hBM, by decide, by decide, fun u5 H9 hu5 k9 hB9 => ?_⟩
        have t9 := keepB_tup k9 hBM
        have k29 : Keep [b] H2 H9 := (k3.trans (Keep.of_same ((s1'.trans s2').trans s3'))).trans k9
        have g1 := t9 _ _ (s3' _ _ (s2' _ _ e1))
        have g2 := t9 _ _ (s3' _ _ e2)
        have pick2 : ∃ t r', atI [V.ref t1, V.ref t2] (u5 : Int) = some (.ref t) ∧ H9 t = some (.tup (vals r')) ∧ (∀ p ∈ r'.parts, p < x) ∧ (∀ c, r' = .letter c → isLet c = true) := by
          match u5, hu5 with
          | 0, _ => exact ⟨t1, _, rfl, g1, (fun p hp => by
              have : p = u := by simpa [Row.parts] using hp
              rw [this]
              exact hu), fun c e => nomatch e⟩
          | 1, _ => exact ⟨t2, _, rfl, g2, (fun p hp => by
              have : p = i := by simpa [Row.parts] using hp
              rw [this]
              exact hi), fun c e => nomatch e⟩
        obtain ⟨t, r', hat, htv, hpp', hll⟩ := pick2
        exact ⟨M, _, _, _, rfl, rfl, SqL.of (k9 M _ nM upd_same), hat, _, rfl, _, rfl, fin H9 t r' _ ⟨_, _, _, rfl⟩ k29 hB9 htv hpp' hll (fun z => nomatch z)⟩
      | nothing => exact absurd rfl hlf
      | blank => exact absurd rfl hlf
      | letter c => exact absurd rfl hlf
end
end K30
end
section
set_option maxHeartbeats 1000000
/-! K30H7: a sign counted in a text; the law's without_pair, begins. -/
namespace K30
open PySem PySem.Spec PyProof.Rows L2

theorem count_go (x : Str) (c : Nat) : ∀ (n a : Nat) (z : Array Nat × Nat), a + n = x.length + 1 → z.1.size ≤ a → z.2 ≤ a →
    (forIn (List.range' a n) z (StrLaws.occBody x ⟨#[c]⟩ x.length (x.length + 1))).run.fst.size = z.1.size + (x.cps.toList.drop a).count c
  | 0, a, z, e, h1, h2 => by
    rw [List.drop_of_length_le (by show x.cps.toList.length ≤ a; rw [Array.length_toList]; show x.length ≤ a; omega)]
    rfl
  | n + 1, a, z, e, h1, h2 => by
    rw [List.range'_succ, List.forIn_cons]
    unfold StrLaws.occBody
    by_cases hc : x.cps.toList[a]? = some c
    · have hs := (StrLaws.subAt_one x c a).mpr hc
      rw [if_pos ⟨⟨⟨by omega, h2⟩, hs.1⟩, hs.2⟩]
      have ih := count_go x c n (a + 1) (z.1.push a, a + (⟨#[c]⟩ : Str).length) (by omega) (by simp; omega) (Nat.le_refl _)
      obtain ⟨hl, e2⟩ := List.getElem?_eq_some_iff.mp hc
      rw [List.drop_eq_getElem_cons hl, e2, List.count_cons_self]
      refine Eq.trans ih ?_
      rw [Array.size_push]
      omega
    · have hn : ¬ (((z.1.size < x.length + 1 ∧ z.2 ≤ a) ∧ a + (⟨#[c]⟩ : Str).length ≤ x.length) ∧ Builtin.Str.subAt x ⟨#[c]⟩ a = true) := fun h => hc ((StrLaws.subAt_one x c a).mp ⟨h.1.2, h.2⟩)
      rw [if_neg hn]
      have ih := count_go x c n (a + 1) z (by omega) (by omega) (by omega)
      refine Eq.trans ih ?_
      by_cases hl : a < x.cps.toList.length
      · rw [List.drop_eq_getElem_cons hl, List.count_cons_of_ne (fun z => hc (by rw [List.getElem?_eq_getElem hl]; exact congrArg some z))]
      · rw [List.drop_of_length_le (by omega), List.drop_of_length_le (by omega)]
theorem count_one (s : List Nat) (c : Nat) : Txt.count (st s) (sg c) = ((s.count c : Nat) : Int) := by
  unfold Txt.count
  rw [StrLaws.occ_eq, Array.length_toList]
  have := count_go (st s) c ((st s).length + 1 - 0) 0 (#[], 0) (by omega) (Nat.le_refl _) (Nat.le_refl _)
  show ((_ : Nat) : Int) = _
  rw [show (forIn (List.range' 0 ((st s).length + 1 - 0)) (#[], 0) (StrLaws.occBody (st s) (sg c) (st s).length ((st s).length + 1))).run.fst.size = _ from this, st_list]
  simp

/-! ### slices of texts -/
theorem cut_st (s : List Nat) (lo hi : Option Int) : cutS (st s) lo hi = st ((s.drop (HT.sIx s.length 0 lo)).take (HT.sIx s.length s.length hi - HT.sIx s.length 0 lo)) := by
  show (⟨(((st s).cps.toList.drop (HT.sIx (st s).length 0 lo)).take (HT.sIx (st s).length (st s).length hi - HT.sIx (st s).length 0 lo)).toArray⟩ : Str) = _
  rw [st_list, st_length]
  rfl
theorem cut_to (s : List Nat) (hi : Option Int) : cutS (st s) none hi = st (s.take (HT.sIx s.length s.length hi)) := by
  rw [cut_st, HT.sIx_none]
  simp
theorem cut_from (s : List Nat) (a : Nat) : cutS (st s) (some (a : Int)) none = st (s.drop a) := by
  rw [cut_st, HT.sIx_none, HT.sIx_nat]
  congr 1
  by_cases h : a ≤ s.length
  · rw [Nat.min_eq_left h, List.take_of_length_le (by simp)]
  · rw [Nat.min_eq_right (by omega)]
    rw [List.drop_of_length_le (Nat.le_refl _), List.drop_of_length_le (by omega)]
    simp
theorem cut_mid (s : List Nat) (a b : Nat) (h : b ≤ s.length) (h2 : a ≤ b) : cutS (st s) (some (a : Int)) (some (b : Int)) = st ((s.drop a).take (b - a)) := by
  rw [cut_st, HT.sIx_nat, HT.sIx_nat, Nat.min_eq_left h, Nat.min_eq_left (by omega)]

def spWithout : Sp := fun vs H Q _ => ∃ u v w : List Nat, vs = [.str (st (u ++ 40 :: (v ++ 41 :: w))), nV u.length] ∧ close 1 (v ++ 41 :: w) = some (v, w) ∧ (u ++ 40 :: (v ++ 41 :: w)).length ≤ 200000 ∧ Q (.str (st (u ++ (v ++ w)))) H
section
variable {P : Program} {w : World} {K : PySem.W.Frag} {mg : Str → Option Value} {base : Heap}
abbrev sWithout : Stmt := top 33
abbrev nWithout : List Str := ["_law_text", "_law_at", "_law_waiting", "_law_end"]
theorem scWithout : FnScope nWithout ["_law_text", "_law_at"] (defScope sWithout) := ⟨rfl, rfl, rfl, by decide +kernel, rfl, by decide +kernel, by decide +kernel⟩
theorem nextD_int {k c : Nat} (hk : 1 ≤ k) : (((k : Nat) : Int) + (if decide (c = 40) = true then 1 else 0)) - (if decide (c = 41) = true then 1 else 0) = ((nextD k c : Nat) : Int) := by
  unfold nextD
  by_cases h1 : c = 40
  · subst h1
    simp
  · by_cases h2 : c = 41
    · subst h2
      simp
      omega
    · simp [h1, h2]
theorem fn_without {f : Addr} {fd : FuncData} (F : Fun K "_law_without_pair" "_law_without_pair" sWithout f fd) (N : Names K w mg) : FnOk P w K mg base CX0 1 f fd ["_law_text", "_law_at"] spWithout := by
  refine F.ok scWithout (fun vs H Q E h => ?_) (fun cdv A outer s H vs Q E hr h => ?_)
  · obtain ⟨u, v, w, rfl, _⟩ := h
    rfl
  · obtain ⟨u, v, w', rfl, hcl, hlen, k⟩ := h
    refine ⟨_, pss_cons (ps_set (i := 2) scWithout.nd rfl (Or.inl rfl) pe_int) <|
      pss_cons (ps_set (i := 3) scWithout.nd rfl (Or.inl rfl) (pv 1)) <|
      pss_cons (ps_while PassesOwn.never (pt_cmpR op_gt (pv 2) pe_int (nomark _)) <|
        pss_cons (ps_set (i := 3) scWithout.nd rfl (Or.inl rfl) (pe_op op_add (pv 3) pe_int)) <|
        pss_one (ps_set (i := 2) scWithout.nd rfl (Or.inl rfl) (pe_op op_sub (pe_op op_add (pv 2) (pe_callTy call_int1 rfl N.int (by decide +kernel) (pa_cons (pe_cmpR op_eq (pe_ix ix_str (pv 0) (pv 3) (fun _ _ => rfl)) pe_str (nomark _)) pa_nil)))
          (pe_callTy call_int1 rfl N.int (by decide +kernel) (pa_cons (pe_cmpR op_eq (pe_ix ix_str (pv 0) (pv 3) (fun _ _ => rfl)) pe_str (nomark _)) pa_nil))))) <|
      pss_one (ps_ret (pe_op op_add_str (pe_op op_add_str (pe_slice sl_str (pv 0) po_none (po_some (pv 1))) (pe_slice sl_str (pv 0) (po_some (pe_op op_add (pv 1) pe_int)) (po_some (pv 3)))) (pe_slice sl_str (pv 0) (po_some (pe_op op_add (pv 3) pe_int)) po_none))), ?_⟩
    generalize hs : u ++ 40 :: (v ++ 41 :: w') = s0 at *
    have hsl : s0.length = u.length + (v.length + w'.length + 2) := by
      rw [← hs]
      simp
      omega
    have lineS : (st s0).length ≤ sizeLine := lineBig (by rw [st_length]; omega)
    refine ⟨_, rfl, ?_⟩
    refine while_by (fun σ H2 => H2 = H ∧ ∃ (kk : Nat) (p rest : List Nat), σ = [some (.str (st s0)), some (nV u.length), some (nV kk), some (nV (u.length + p.length))] ∧ p ++ rest = v ++ 41 :: w' ∧
        ((1 ≤ kk ∧ ∃ v', close kk rest = some (v', w') ∧ p ++ v' = v) ∨ (kk = 0 ∧ p = v ++ [41])))
      (fun σ _ => (match σ with | [_, _, _, some (.int e)] => (1000000 - e).toNat | _ => 0)) ⟨rfl, 1, [], _, rfl, rfl, .inl ⟨Nat.le_refl _, v, hcl, rfl⟩⟩ ?_ (fun σ H Q Q' m q => ?_)
    · rintro σ H2 ⟨rfl, kk, p, rest, rfl, hpr, hcase⟩
      refine ⟨_, rfl, _, _, rfl, rfl, _, rfl, ?_⟩
      rcases hcase with ⟨hk1, v', hc, hv⟩ | ⟨hk0, hp⟩
      · rw [show decide ((0 : Int) < ((kk : Nat) : Int)) = true from decide_eq_true (by omega)]
        cases rest with
        | nil => cases hc
        | cons c rest =>
          have hplen : p.length + (rest.length + 1) = v.length + w'.length + 1 := by
            have := congrArg List.length hpr
            simp at this
            omega
          have hat : atI (st s0).cps.toList (((u.length + p.length : Nat) : Int) + 1) = some c := by
            rw [show ((u.length + p.length : Nat) : Int) + 1 = ((u.length + 1 + p.length : Nat) : Int) by omega, st_list, ← hs]
            refine atI_nat ?_
            rw [← hpr, List.getElem?_append_right (by omega), show u.length + 1 + p.length - u.length = p.length + 1 by omega, List.getElem?_cons_succ, List.getElem?_append_right (Nat.le_refl _)]
            simp
          refine iteT ⟨_, rfl, _, _, rfl, rfl, ?_⟩
          refine ⟨_, rfl, _, rfl, _, rfl, st s0, _, c, rfl, rfl, lineS, hat, rfl, .inr ⟨_, rfl, _, _, rfl, rfl, ?_⟩⟩
          refine ⟨_, rfl, _, rfl, st s0, _, c, rfl, rfl, lineS, hat, rfl, .inr ⟨_, rfl, _, _, rfl, rfl, ?_⟩⟩
          have e40 : decide (V.str ⟨#[c]⟩ = V.str "(") = decide (c = 40) := sg_dec sg40
          have e41 : decide (V.str ⟨#[c]⟩ = V.str ")") = decide (c = 41) := sg_dec sg41
          rw [e40, e41]
          refine ⟨⟨rfl, nextD kk c, p ++ [c], rest, ?_, by rw [← hpr]; simp, ?_⟩, ?_⟩
          · show [some (V.str (st s0)), some (nV u.length), some (V.int ((((kk : Nat) : Int) + (if decide (c = 40) = true then 1 else 0)) - (if decide (c = 41) = true then 1 else 0))), some (V.int (((u.length + p.length : Nat) : Int) + 1))] = _
            rw [nextD_int hk1, List.length_append]
            rfl
          · unfold close at hc
            by_cases hz : nextD kk c = 0
            · rw [if_pos hz] at hc
              obtain ⟨e1, e2⟩ := Prod.mk.inj (Option.some.inj hc)
              refine .inr ⟨hz, ?_⟩
              rw [← e1, List.append_nil] at hv
              rw [hv] at hpr ⊢
              have := (List.append_cancel_left hpr)
              rw [(List.cons.inj this).1]
            · rw [if_neg hz] at hc
              cases e3 : close (nextD kk c) rest with
              | none =>
                rw [e3] at hc
                cases hc
              | some z =>
                rw [e3] at hc
                obtain ⟨e1, e2⟩ := Prod.mk.inj (Option.some.inj hc)
                refine .inl ⟨by omega, z.1, by rw [← e2], ?_⟩
                rw [← hv, ← e1]
                simp
          · show (1000000 - (((u.length + p.length : Nat) : Int) + 1)).toNat < (1000000 - ((u.length + p.length : Nat) : Int)).toNat
            omega
      · rw [show decide ((0 : Int) < ((kk : Nat) : Int)) = false from decide_eq_false (by omega)]
        have hpl : p.length = v.length + 1 := by rw [hp]; simp
        refine iteF ⟨_, rfl, _, rfl, _, rfl, st s0, rfl, lineS, _, rfl, _, rfl, _, _, rfl, rfl, _, rfl, _, rfl, _, rfl, st s0, rfl, lineS, ?_⟩
        have e1 : cutS (st s0) none (some ((u.length : Nat) : Int)) = st u := by
          rw [cut_to, HT.sIx_nat, Nat.min_eq_left (by omega), ← hs]
          simp
        have e2 : cutS (st s0) (some (((u.length : Nat) : Int) + 1)) (some ((u.length + p.length : Nat) : Int)) = st v := by
          rw [show ((u.length : Nat) : Int) + 1 = ((u.length + 1 : Nat) : Int) by omega, cut_mid s0 _ _ (by omega) (by omega), ← hs, hpl, show u.length + (v.length + 1) - (u.length + 1) = v.length by omega]
          congr 1
          rw [show u ++ 40 :: (v ++ 41 :: w') = (u ++ [40]) ++ (v ++ 41 :: w') by simp, List.drop_left' (by simp), List.take_left' rfl]
        have e3 : cutS (st s0) (some (((u.length + p.length : Nat) : Int) + 1)) none = st w' := by
          rw [show ((u.length + p.length : Nat) : Int) + 1 = ((u.length + v.length + 2 : Nat) : Int) by omega, cut_from, ← hs]
          congr 1
          rw [show u ++ 40 :: (v ++ 41 :: w') = ((u ++ [40]) ++ (v ++ [41])) ++ w' by simp, List.drop_left' (by simp; omega)]
        refine ⟨_, _, congrArg V.str e1, congrArg V.str e2, ?_, _, rfl, _, rfl, _, _, rfl, rfl, _, rfl, st s0, rfl, lineS, ?_⟩
        · rw [st_length, st_length]
          exact lineBig (by omega)
        · refine ⟨_, _, congrArg V.str (st_append u v), congrArg V.str e3, ?_, ?_⟩
          · rw [st_length, st_length, List.length_append]
            exact lineBig (by omega)
          · rw [st_append, List.append_assoc]
            exact k
    · obtain ⟨v', e, i, j, e1, e2, c, e3, q⟩ := q
      exact ⟨v', e, i, j, e1, e2, c, e3, m _ _ q⟩

/-! ### _law_begins -/
def spBgs : Sp := fun vs H Q _ => ∃ s : List Nat, vs = [.str (st s)] ∧ s.length ≤ 200000 ∧ ∀ (l : Addr) (ns : List Nat) (H' : Hp), Same H H' → H' l = some (.lst (ns.map nV)) → ns.length ≤ s.length → (∀ n ∈ ns, s[n]? = some 40) → Q (.ref l) H'
abbrev sBgs : Stmt := top 34
abbrev nBgs : List Str := ["_law_text", "_law_at", "_law_sign"]
theorem scBgs : FnScope nBgs ["_law_text"] (defScope sBgs) := ⟨rfl, rfl, rfl, by decide +kernel, rfl, by decide +kernel, by decide +kernel⟩
theorem fn_bgs {f : Addr} {fd : FuncData} (F : Fun K "_law_begins" "_law_begins" sBgs f fd) (N : Names K w mg) : FnOk P w K mg base CX0 1 f fd ["_law_text"] spBgs := by
  refine F.ok scBgs (fun vs H Q E h => ?_) (fun cdv A outer s H vs Q E hr h => ?_)
  · obtain ⟨s0, rfl, _⟩ := h
    rfl
  · obtain ⟨s0, rfl, hlen, k⟩ := h
    refine ⟨_, pss_one (ps_ret (pe_slice sl_list (pe_lc (own := [("_law_at", 1), ("_law_sign", 2)]) (g := gTup K 2 (gCons (gName 1) (gCons (gName 2) gNil))) (tt := tTest (tOp rEq (tVar 2) (tC (.str "(")))) (te := tVar 1) rfl scBgs.nd
      (K30X.pi_enumS rfl N.enumerate (pa_cons (pv 0) pa_nil)) (blkOk_by (own := [("_law_at", 1), ("_law_sign", 2)]) (N := nBgs) (sc := defScope sBgs) (by decide +kernel))
      (fun _ _ _ _ _ => pg_tup rfl (pgs_cons (pg_name (i := 1) scBgs.nd rfl (Or.inl rfl)) (pgs_cons (pg_name (i := 2) scBgs.nd rfl (Or.inl rfl)) pgs_nil)))
      (fun _ _ _ _ _ => pts_one (pt_cmpR op_eq (pv 2) pe_str (nomark _))) (fun _ _ _ _ _ => pv 1)) (po_some (pe_un un_neg pe_int)) po_none)), ?_⟩
    have csz : (st s0).cps.size = s0.length := by simp [st]
    have cget : ∀ i : Nat, (st s0).cps[i]? = s0[i]? := fun i => by
      show s0.toArray[i]? = s0[i]?
      simp
    refine ⟨_, rfl, st s0, rfl, fun D hD => ?_⟩
    have e40 : ∀ c : Nat, decide (V.str ⟨#[c]⟩ = V.str "(") = decide (c = 40) := fun c => sg_dec sg40
    refine lc_it K30X.walk_g (fun j H5 => Same H H5 ∧ ∃ ns : List Nat, H5 D = some (.lst (ns.map nV)) ∧ ns.length ≤ j ∧ ∀ n ∈ ns, s0[n]? = some 40) ⟨same_new hD, [], upd_same, Nat.le_refl _, fun n h => nomatch h⟩ (fun _ _ _ _ => trivial) ?_ ?_
    · rintro j x H2 H3 hj ⟨s2, ns, hD2, hnl, hns⟩ ⟨t, xs, rfl, ht, rfl, ⟨x, ⟨c, hc, rfl⟩, rfl⟩⟩
      rw [csz] at hj
      rw [cget] at hc
      have s3 := same_at (o := .tup [V.int (j : Nat), V.str ⟨#[c]⟩]) ht
      refine ⟨t, _, rfl, SqT.of upd_same, rfl, _, _, rfl, _, _, rfl, rfl, rfl, _, rfl, rfl, _, rfl, ?_⟩
      rw [e40]
      by_cases c40 : c = 40
      · rw [decide_eq_true c40]
        subst c40
        refine iteT ⟨_, rfl, _, s3 _ _ hD2, lineLt (by rw [List.length_map]; omega), (s2.trans s3).upd0 hD, ns ++ [j], ?_, by simp; omega, fun n hn => ?_⟩
        · rw [upd_same, List.map_append]
          rfl
        · rcases List.mem_append.mp hn with z | z
          · exact hns n z
          · rw [List.mem_singleton.mp z]
            exact hc
      · rw [decide_eq_false c40]
        exact iteF ⟨s2.trans s3, ns, s3 _ _ hD2, by omega, hns⟩
    · rintro H5 ⟨s5, ns, hD5, hnl, hns⟩
      rw [csz] at hnl
      refine ⟨_, rfl, _, rfl, D, _, rfl, SqL.of hD5, fun p hp => ?_⟩
      have ec : cutV (ns.map nV) (some (-3)) none = ((ns.drop (HT.sIx ns.length 0 (some (-3)))).take (ns.length - HT.sIx ns.length 0 (some (-3)))).map nV := by
        unfold cutV
        rw [HT.sIx_none, List.length_map, List.map_take, List.map_drop]
      refine k p _ _ (s5.trans (same_new hp)) (upd_same.trans (congrArg (fun z => some (HO.lst z)) ec)) ?_ fun n hn => hns n (List.mem_of_mem_drop (List.mem_of_mem_take hn))
      rw [List.length_take]
      omega
end
end K30
end
section
set_option maxHeartbeats 2000000
/-! K30H8: the law's right. -/
namespace K30
open PySem PySem.Spec PyProof.Rows L2

def spRight : Sp := fun vs H Q _ => ∃ (e : Addr) (rs : List Row), vs = [.ref e] ∧ ExprAt H e rs ∧ Fine rs ∧ ∀ H', Same H H' → Q (.bl true) H'
section
variable {P : Program} {w : World} {K : PySem.W.Frag} {mg : Str → Option Value} {base : Heap}
theorem kit_str {K : PySem.W.Frag} : PySem.W.kitOne K (.type "str") (.type "str") = some true := kit_ty (by decide +kernel)
abbrev sRight : Stmt := top 35
abbrev nRight : List Str := ["_law_rows", "_law_due", "_law_text", "_law_at"]
theorem scRight : FnScope nRight ["_law_rows"] (defScope sRight) := ⟨rfl, rfl, rfl, by decide +kernel, rfl, by decide +kernel, by decide +kernel⟩
theorem fn_right {f : Addr} {fd : FuncData} (F : Fun K "_law_right" "_law_right" sRight f fd) (N : Names K w mg) {C : Addr} (fT : Fn P w K mg base "_law_tidy" 48 ["_law_rows"] spTidy) (fS : Fn P w K mg base "show_expression" 4 ["expression"] spShow)
    (fR : Fn P w K mg base "read_expression" 5 ["text"] (spRead C)) (fD : Fn P w K mg base "tidied" 3 ["expression"] spTidied) (fB : Fn P w K mg base "_law_begins" 1 ["_law_text"] spBgs) (fW : Fn P w K mg base "_law_without_pair" 1 ["_law_text", "_law_at"] spWithout) :
    FnOk P w K mg base CX0 49 f fd ["_law_rows"] spRight := by
  obtain ⟨ft, ftd, GT, mT, kT, bT⟩ := fT
  obtain ⟨fs, fsd, GS, mS, kS, bS⟩ := fS
  obtain ⟨fr, frd, GR, mR, kR, bR⟩ := fR
  obtain ⟨fi, fid, GI, mI, kI, bI⟩ := fD
  obtain ⟨fb, fbd, GB, mB, kB, bB⟩ := fB
  obtain ⟨fw, fwd, GW, mW, kW, bW⟩ := fW
  refine F.ok scRight (fun vs H Q E h => ?_) (fun cdv A outer s H vs Q E hr h => ?_)
  · obtain ⟨e, rs, rfl, _⟩ := h
    rfl
  · obtain ⟨e, rs, rfl, hE, fine, k⟩ := h
    have hr1 : Room 1 _ := hr.mono (by decide)
    have hr3 : Room 3 _ := hr.mono (by decide)
    have hr4 : Room 4 _ := hr.mono (by decide)
    have hr5 : Room 5 _ := hr.mono (by decide)
    have hu := hr.units
    refine ⟨_, pss_cons (ps_set (i := 1) scRight.nd rfl (Or.inl rfl) (pe_call GT hr rfl mT kT bT .nil pass0 (pa_cons (pv 0) pa_nil))) <|
      pss_cons (ps_set (i := 2) scRight.nd rfl (Or.inl rfl) (pe_call GS hr4 rfl mS kS bS .nil pass0 (pa_cons (pv 0) pa_nil))) <|
      pss_cons (ps_if (PW.pt (pw_or (pt_not (pt_val (pe_callB call_isi rfl N.isinstance (by decide +kernel) (pa_cons (pv 2) (pa_cons (pe_bltn (v := .ty "str") rfl N.str (by decide +kernel) rfl) pa_nil)))))
          (pw_or (pt_cmpR (op_neD hu) (pe_call GR hr5 rfl mR kR bR .nil pass0 (pa_cons (pv 2) pa_nil)) (pv 1) (nomark _)) (pw_or1 (pt_cmpR (op_neD hu) (pe_call GI hr3 rfl mI kI bI .nil pass0 (pa_cons (pv 0) pa_nil)) (pv 1) (nomark _))))))
        (pss_one (ps_ret pe_bl)) pss_nil) <|
      pss_cons (ps_if (PW.pt (pw_or (pt_cmpR op_ne (pe_call GS hr4 rfl mS kS bS .nil pass0 (pa_cons (pv 1) pa_nil)) (pv 2) (nomark _))
          (pw_or1 (pt_cmpR op_ne (pe_bm PySem.F.plainAttrs_str PySem.F.slot_str_count PySem.F.type_str_count mt_count (pv 2) (pa_cons pe_str pa_nil)) (pe_bm PySem.F.plainAttrs_str PySem.F.slot_str_count PySem.F.type_str_count mt_count (pv 2) (pa_cons pe_str pa_nil)) (nomark _)))))
        (pss_one (ps_ret pe_bl)) pss_nil) <|
      pss_cons (ps_for PassesOwn.never rfl (pi_list (pe_op op_cat (pe_call GB hr1 rfl mB kB bB .nil pass0 (pa_cons (pv 2) pa_nil))
          (pe_call GB hr1 rfl mB kB bB .nil pass0 (pa_cons (pe_slice sl_str (pv 2) po_none (po_some (pe_op op_add (pe_bm PySem.F.plainAttrs_str PySem.F.slot_str_find PySem.F.type_str_find mt_find (pv 2) (pa_cons pe_str pa_nil)) pe_int))) pa_nil))))
        (pg_name (i := 3) scRight.nd rfl (Or.inl rfl))
        (pss_one (ps_if (PW.pt (pw_and (pt_cmpR op_le (pe_callB call_len_str rfl N.len (by decide +kernel) (pa_cons (pv 2) pa_nil)) pe_int (nomark _))
            (pw_and1 (pt_cmpR (op_eqD hu) (pe_call GR hr5 rfl mR kR bR .nil pass0 (pa_cons (pe_call GW hr1 rfl mW kW bW .nil pass0 (pa_cons (pv 2) (pa_cons (pv 3) pa_nil))) pa_nil)) (pv 1) (nomark _)))))
          (pss_one (ps_ret pe_bl)) pss_nil))) <|
      pss_one (ps_ret (pe_cmpR (op_eqD hu) (pe_call GR hr5 rfl mR kR bR .nil pass0 (pa_cons (pv 2) pa_nil)) (pv 1) (nomark _))), ?_⟩
    have hl : LetT (root rs) := fine.let_
    have hacc := acc_sho hl
    have hrs := read_show hl
    have hlen : (sho (root rs)).length ≤ 100000 := fine.short
    have hcl : Lets (canon (root rs)) := canon_lets hl
    have hsh := expr_shaped hcl
    have hcnt := acc_count hacc
    have few := fine.few
    have hother := fun u r => without_other (t := root rs) (u := u) (r := r) hl
    have lineS : (st (sho (root rs))).length ≤ sizeLine := lineBig (by rw [st_length]; omega)
    refine ⟨_, rfl, e, rs, rfl, hE, fine.wf, fine.lets, few, fine.pos, fun p H1 s1 hp1 => ?_⟩
    refine ⟨_, rfl, e, rs, rfl, hE.same s1, fine.wf, fine.pos, by omega, fine.short, fun H2 s2 => ?_⟩
    have s02 := s1.trans s2
    refine ⟨_, rfl, _, _, _, _, true, rfl, .ty "str", .base (.str _), kit_str, true, rfl, ?_⟩
    refine iteF ⟨_, rfl, sho (root rs), rfl, hacc, by omega, fun q H3 s3 hq => ?_⟩
    rw [hrs] at hq
    have s03 := s02.trans s3
    refine ⟨_, rfl, _, _, hq.dp, (hp1.same (s2.trans s3)).dp, hsh, hsh, _, rfl, ?_⟩
    rw [expr_eqv, decide_eq_true rfl]
    refine iteF ⟨_, rfl, e, rs, rfl, hE.same s03, fine.wf, fine.pos, by omega, fun q2 H4 s4 hq2 => ?_⟩
    have s04 := s03.trans s4
    have hp4 := hp1.same ((s2.trans s3).trans s4)
    refine ⟨_, rfl, _, _, hq2.dp, hp4.dp, hsh, hsh, _, rfl, ?_⟩
    rw [expr_eqv, decide_eq_true rfl]
    refine iteF ?_
    have hcan : (canon (root rs)).length ≤ rs.length := lay_count fine.wf (by have := fine.pos; omega)
    refine ⟨_, rfl, p, canon (root rs), rfl, hp4, canon_fine_wf _, canon_pos _, by omega, by rw [canon_root]; exact fine.short, fun H5 s5 => ?_⟩
    have s05 := s04.trans s5
    have hp5 := hp4.same s5
    rw [canon_root]
    refine ⟨_, rfl, rfl, _, rfl, ?_⟩
    rw [decide_eq_true rfl]
    refine iteF ⟨_, rfl, rfl, _, _, rfl, rfl, _, rfl, rfl, _, _, rfl, rfl, rfl, _, rfl, ?_⟩
    have c40 : Txt.count (st (sho (root rs))) "(" = (((sho (root rs)).count 40 : Nat) : Int) := by
      have := count_one (sho (root rs)) 40
      rw [← sg40] at this
      exact this
    have c41 : Txt.count (st (sho (root rs))) ")" = (((sho (root rs)).count 41 : Nat) : Int) := by
      have := count_one (sho (root rs)) 41
      rw [← sg41] at this
      exact this
    rw [show decide (V.int (Txt.count (st (sho (root rs))) "(") = V.int (Txt.count (st (sho (root rs))) ")")) = true from decide_eq_true (by rw [c40, c41, hcnt])]
    refine iteF ⟨_, rfl, sho (root rs), rfl, by omega, fun l1 ns1 H6 s6 hl1 hm1 hn1 => ?_⟩
    refine ⟨_, rfl, _, rfl, rfl, _, _, rfl, rfl, _, _, rfl, rfl, _, rfl, st (sho (root rs)), rfl, lineS, (sho (root rs)).take (HT.sIx (sho (root rs)).length (sho (root rs)).length (some _)), congrArg (fun z => [V.str z]) (cut_to _ _), by rw [List.length_take]; omega, fun l2 ns2 H7 s7 hl2 hm2 hn2 => ?_⟩
    have hn2' : ∀ n ∈ ns2, (sho (root rs))[n]? = some 40 := fun n hn => by
      have z := hn2 n hn
      rw [List.getElem?_take] at z
      split at z
      · exact z
      · cases z
    rw [List.length_take] at hm2
    refine ⟨l1, l2, _, _, rfl, rfl, s7 _ _ hl1, hl2, by rw [List.length_map, List.length_map]; exact lineBig (by omega), fun L hL => ?_⟩
    have s8 := same_at (o := .lst (ns1.map nV ++ ns2.map nV)) hL
    have hLx := at_new (o := .lst (ns1.map nV ++ ns2.map nV)) hL
    have s08 := ((s05.trans s6).trans s7).trans s8
    have hp8 := ((hp5.same s6).same s7).same s8
    refine ⟨L, rfl, ⟨_, SqL.of hLx⟩, ?_⟩
    generalize upd H7 L (.lst (ns1.map nV ++ ns2.map nV)) = H8 at *
    refine for_list (K := K) (xs := ns1.map nV ++ ns2.map nV) (fun j σ H9 => ∃ a3, σ = [some (.ref e), some (.ref p), some (.str (st (sho (root rs)))), a3] ∧ Same H8 H9) ⟨none, rfl, Same.refl _⟩ (fun j σ H9 _ ⟨_, _, q⟩ => SqL.of (q _ _ hLx)) ?_ ?_
    · rintro j x σ H9 hx ⟨a3, rfl, s9⟩
      obtain ⟨n, hn, rfl⟩ : ∃ n, (sho (root rs))[n]? = some 40 ∧ x = nV n := by
        rw [← List.map_append] at hx
        obtain ⟨n, en, rfl⟩ := mem_map_nV hx
        refine ⟨n, ?_, rfl⟩
        rcases List.mem_append.mp (List.mem_of_getElem? en) with z | z
        · exact hn1 n z
        · exact hn2' n z
      refine ⟨_, rfl, st (sho (root rs)), rfl, lineS, _, _, rfl, rfl, _, rfl, ?_⟩
      by_cases c : ((((st (sho (root rs))).length : Nat) : Int) ≤ 202)
      · rw [decide_eq_true c]
        obtain ⟨hnl, en⟩ := List.getElem?_eq_some_iff.mp hn
        have hsplit : sho (root rs) = (sho (root rs)).take n ++ 40 :: (sho (root rs)).drop (n + 1) := (split_at hn).1
        obtain ⟨v, w', hc1, hc2, hacc2, hne⟩ := hother _ _ hsplit
        have hul : ((sho (root rs)).take n).length = n := by rw [List.length_take]; omega
        rw [hc2] at hsplit hc1
        generalize (sho (root rs)).take n = u at hsplit hc1 hacc2 hne hul
        have hlen2 := congrArg List.length hsplit
        rw [List.length_append, List.length_cons, List.length_append, List.length_cons] at hlen2
        refine iteT ⟨_, rfl, _, rfl, u, v, w', ?_, hc1, by rw [← hsplit]; omega, u ++ (v ++ w'), rfl, hacc2, by rw [List.length_append, List.length_append]; omega, fun q H10 s10 hq => ?_⟩
        · rw [← hsplit, hul]
          rfl
        · have hcl2 := canon_lets (acc_let hacc2)
          refine ⟨_, rfl, _, _, hq.dp, (hp8.same (s9.trans s10)).dp, expr_shaped hcl2, hsh, _, rfl, ?_⟩
          rw [expr_eqv, decide_eq_false (fun z => hne (canon_inj z))]
          exact iteF ⟨_, rfl, s9.trans s10⟩
      · rw [decide_eq_false c]
        exact iteF (iteF ⟨_, rfl, s9⟩)
    · rintro σ H9 ⟨a3, rfl, s9⟩
      refine ⟨_, rfl, sho (root rs), rfl, hacc, by omega, fun q H10 s10 hq => ?_⟩
      rw [hrs] at hq
      refine ⟨_, rfl, _, _, hq.dp, (hp8.same (s9.trans s10)).dp, hsh, hsh, ?_⟩
      rw [expr_eqv, decide_eq_true rfl]
      exact k _ ((s08.trans s9).trans s10)
end
end K30
end
section
set_option maxHeartbeats 2000000
/-! K30H9: the law. -/
namespace K30
open PySem PySem.Spec PyProof.Rows L2

def spLaw (K : PySem.W.Frag) : Sp := fun vs H Q _ => ∃ (s : Addr) (ns : List Int), vs = [.ref s] ∧ SqL K H s (ns.map V.int) ∧ ns.length ≤ 63 ∧ ∀ H', Q (.bl true) H'
theorem sql_same {K : PySem.W.Frag} {H H' : Hp} {a : Addr} {xs : List V} (h : SqL K H a xs) (e : Same H H') : SqL K H' a xs :=
  h.elim (fun h => .inl (h.elim (fun h => .inl (e _ _ h)) fun ⟨o, h⟩ => .inr ⟨o, e _ _ h⟩)) fun h => .inr h
theorem alike_eq {t u : T} (ht : LetT t) (hu : LetT u) : decide (V.str (st (sho t)) = V.str (st (sho u))) = decide (canon t = canon u) := by
  rw [Bool.eq_iff_iff, decide_eq_true_eq, decide_eq_true_eq]
  constructor
  · intro h
    have h1 : sho t = sho u := by
      injection h with h
      exact st_inj h
    rw [← read_show ht, h1, read_show hu]
  · intro h
    rw [canon_inj h]
section
variable {P : Program} {w : World} {K : PySem.W.Frag} {mg : Str → Option Value} {base : Heap}
abbrev sLaw : Stmt := top 36
abbrev nLaw : List Str := ["_law_script", "_law_box_here", "_law_first", "_law_second", "_law_alike", "_law_k"]
theorem scLaw : FnScope nLaw ["_law_script"] (defScope sLaw) := ⟨rfl, rfl, rfl, by decide +kernel, rfl, by decide +kernel, by decide +kernel⟩
theorem fn_law {f : Addr} {fd : FuncData} (F : Fun K "law" "law" sLaw f fd) (N : Names K w mg) (fB : Fn P w K mg base "_law_box" 1 ["_law_script", "_law_k"] (spBox K)) (fT : Fn P w K mg base "_law_take" 1 ["_law_box_here", "_law_wide"] spTake)
    (fD : Fn P w K mg base "_law_drawn" 4 ["_law_box_here"] spDrawn) (fC : Fn P w K mg base "_law_changed" 2 ["_law_box_here", "_law_rows"] spChanged) (fR : Fn P w K mg base "_law_right" 49 ["_law_rows"] spRight)
    (fS : Fn P w K mg base "show_expression" 4 ["expression"] spShow) (fY : Fn P w K mg base "_law_tidy" 48 ["_law_rows"] spTidy) :
    FnOk P w K mg base CX0 50 f fd ["_law_script"] (spLaw K) := by
  obtain ⟨fb, fbd, GB, mB, kB, bB⟩ := fB
  obtain ⟨ft, ftd, GT, mT, kT, bT⟩ := fT
  obtain ⟨fi, fid, GD, mD, kD, bD⟩ := fD
  obtain ⟨fc, fcd, GC, mC, kC, bC⟩ := fC
  obtain ⟨fr, frd, GR, mR, kR, bR⟩ := fR
  obtain ⟨fs, fsd, GS, mS, kS, bS⟩ := fS
  obtain ⟨fy, fyd, GY, mY, kY, bY⟩ := fY
  refine F.ok scLaw (fun vs H Q E h => ?_) (fun cdv A outer s H vs Q E hr h => ?_)
  · obtain ⟨sc, ns, rfl, _⟩ := h
    rfl
  · obtain ⟨sc, ns, rfl, hS, hns, k⟩ := h
    have hr1 : Room 1 _ := hr.mono (by decide)
    have hr2 : Room 2 _ := hr.mono (by decide)
    have hr4 : Room 4 _ := hr.mono (by decide)
    have hr48 : Room 48 _ := hr.mono (by decide)
    have hu := hr.units
    refine ⟨_, pss_cons (ps_set (i := 1) scLaw.nd rfl (Or.inl rfl) (pe_call GB hr1 rfl mB kB bB .nil pass0 (pa_cons (pv 0) (pa_cons pe_int pa_nil)))) <|
      pss_cons (ps_set (i := 2) scLaw.nd rfl (Or.inl rfl) (pe_call GD hr4 rfl mD kD bD .nil pass0 (pa_cons (pv 1) pa_nil))) <|
      C8.pss_cut (ps_if (pt_cmpR op_eq (pe_call GT hr1 rfl mT kT bT .nil pass0 (pa_cons (pv 1) (pa_cons pe_int pa_nil))) pe_int (nomark _))
        (pss_one (ps_set (i := 3) scLaw.nd rfl (Or.inl rfl) (pe_call GC hr2 rfl mC kC bC .nil pass0 (pa_cons (pe_call GB hr1 rfl mB kB bB .nil pass0 (pa_cons (pv 0) (pa_cons pe_int pa_nil))) (pa_cons (pv 2) pa_nil)))))
        (pss_one (ps_set (i := 3) scLaw.nd rfl (Or.inl rfl) (pe_call GD hr4 rfl mD kD bD .nil pass0 (pa_cons (pe_call GB hr1 rfl mB kB bB .nil pass0 (pa_cons (pv 0) (pa_cons pe_int pa_nil))) pa_nil))))) <|
      pss_cons (ps_if (PW.pt (pw_or (pt_not (pt_val (pe_call GR hr rfl mR kR bR .nil pass0 (pa_cons (pv 2) pa_nil)))) (pw_or1 (pt_not (pt_val (pe_call GR hr rfl mR kR bR .nil pass0 (pa_cons (pv 3) pa_nil)))))))
        (pss_one (ps_ret pe_bl)) pss_nil) <|
      pss_cons (ps_set (i := 4) scLaw.nd rfl (Or.inl rfl) (pe_cmpR op_eq (pe_call GS hr4 rfl mS kS bS .nil pass0 (pa_cons (pv 2) pa_nil)) (pe_call GS hr4 rfl mS kS bS .nil pass0 (pa_cons (pv 3) pa_nil)) (nomark _))) <|
      pss_cons (ps_if (pt_cmpR op_ne (pv 4) (pe_cmpR (op_eqD hu) (pe_call GY hr48 rfl mY kY bY .nil pass0 (pa_cons (pv 2) pa_nil)) (pe_call GY hr48 rfl mY kY bY .nil pass0 (pa_cons (pv 3) pa_nil)) (nomark _)) (nomark _))
        (pss_one (ps_ret pe_bl)) pss_nil) <|
      pss_cons (ps_for PassesOwn.never rfl (pi_range2 rfl N.range (pa_cons pe_int (pa_cons (pe_op op_add pe_int (pe_callB call_len_seq rfl N.len (by decide +kernel) (pa_cons (pe_slice sl_list (pv 0) (po_some pe_int) (po_some pe_int)) pa_nil))) pa_nil)))
        (pg_name (i := 5) scLaw.nd rfl (Or.inl rfl))
        (pss_one (ps_if (pt_not (pt_val (pe_call GR hr rfl mR kR bR .nil pass0 (pa_cons (pe_call GD hr4 rfl mD kD bD .nil pass0 (pa_cons (pe_call GB hr1 rfl mB kB bB .nil pass0 (pa_cons (pv 0) (pa_cons (pv 5) pa_nil))) pa_nil)) pa_nil))))
          (pss_one (ps_ret pe_bl)) pss_nil))) <|
      pss_one (ps_ret (pe_call GR hr rfl mR kR bR .nil pass0 (pa_cons (pv 2) pa_nil))), ?_⟩
    -- a drawn expression, a new box ahead of it
    refine ⟨_, rfl, sc, ns, 0, rfl, hS, by decide, fun b H1 s1 hb0 hB1 => ?_⟩
    refine ⟨_, rfl, b, rfl, hB1, fun e1 rs1 H2 k2 hB2 hE1 hD1 => ?_⟩
    have fresh1 : ∀ x ∈ [b], H x = none := fun x hx => by rw [List.mem_singleton.mp hx]; exact hb0
    have s02 : Same H H2 := same_keep s1 k2 fresh1
    refine ⟨fun σ' H' => ∃ (e2 : Addr) (rs2 : List Row), σ' = [some (.ref sc), some (.ref b), some (.ref e1), some (.ref e2), none, none] ∧ Same H H' ∧ ExprAt H' e1 rs1 ∧ ExprAt H' e2 rs2 ∧ Fine rs2, ?_, ?_⟩
    · refine ⟨_, rfl, b, 2, rfl, hB2, by decide, by decide, fun v H3 hv k3 hB3 => ⟨rfl, _, rfl, ?_⟩⟩
      have ev : decide (nV v = V.int 0) = decide (v = 0) := dec_nV (i := v) (j := 0)
      rw [ev]
      have s03 : Same H H3 := same_keep s02 k3 fresh1
      have hE3 := hE1.keep (keepB_tup k3 hB2)
      by_cases c : v = 0
      · rw [decide_eq_true c]
        refine iteT ⟨_, rfl, sc, ns, 1, rfl, sql_same hS s03, by decide, fun b2 H4 s4 hb4 hB4 => ?_⟩
        have hb40 : H b2 = none := s03.free hb4
        refine ⟨_, rfl, b2, e1, rs1, rfl, hB4, hE3.same s4, hD1, fun e2 rs2 H5 k5 hB5 hE2 hF2 => ?_⟩
        exact ⟨e2, rs2, rfl, same_keep (s03.trans s4) k5 (fun x hx => by rw [List.mem_singleton.mp hx]; exact hb40), (hE3.same s4).keep (keepB_tup k5 hB4), hE2, hF2⟩
      · rw [decide_eq_false c]
        refine iteF ⟨_, rfl, sc, ns, 1, rfl, sql_same hS s03, by decide, fun b2 H4 s4 hb4 hB4 => ?_⟩
        have hb40 : H b2 = none := s03.free hb4
        refine ⟨b2, rfl, hB4, fun e2 rs2 H5 k5 hB5 hE2 hD2 => ?_⟩
        exact ⟨e2, rs2, rfl, same_keep (s03.trans s4) k5 (fun x hx => by rw [List.mem_singleton.mp hx]; exact hb40), (hE3.same s4).keep (keepB_tup k5 hB4), hE2, hD2.fine⟩
    · rintro σ' H3 ⟨e2, rs2, rfl, s03, hE1', hE2', hF2⟩
      have hF1 := hD1.fine
      refine ⟨_, rfl, e1, rs1, rfl, hE1', hF1, fun H4 s4 => ⟨true, rfl, ?_⟩⟩
      refine iteF ⟨_, rfl, e2, rs2, rfl, hE2'.same s4, hF2, fun H5 s5 => ⟨true, rfl, ?_⟩⟩
      have s45 := s4.trans s5
      have hE15 := hE1'.same s45
      have hE25 := hE2'.same s45
      have f1 := hF1.few
      have f2 := hF2.few
      refine iteF ⟨_, rfl, e1, rs1, rfl, hE15, hF1.wf, hF1.pos, by omega, hF1.short, fun H6 s6 => ?_⟩
      refine ⟨_, rfl, e2, rs2, rfl, hE25.same s6, hF2.wf, hF2.pos, by omega, hF2.short, fun H7 s7 => ⟨rfl, ?_⟩⟩
      have s57 := s6.trans s7
      refine ⟨_, rfl, _, rfl, e1, rs1, rfl, hE15.same s57, hF1.wf, hF1.lets, f1, hF1.pos, fun p1 H8 s8 hp1 => ?_⟩
      refine ⟨_, rfl, e2, rs2, rfl, hE25.same (s57.trans s8), hF2.wf, hF2.lets, f2, hF2.pos, fun p2 H9 s9 hp2 => ?_⟩
      have l1 := hF1.let_
      have l2 := hF2.let_
      refine ⟨_, _, (hp1.same s9).dp, hp2.dp, expr_shaped (canon_lets l1), expr_shaped (canon_lets l2), rfl, _, rfl, ?_⟩
      rw [expr_eqv, alike_eq l1 l2, decide_eq_true rfl]
      have s09 : Same H H9 := ((s03.trans s45).trans s57).trans (s8.trans s9)
      have hE19 := hE15.same (s57.trans (s8.trans s9))
      refine iteF ?_
      refine ⟨_, rfl, _, rfl, _, rfl, sc, _, rfl, sql_same hS s09, fun sl hsl => ?_⟩
      have hcut := cutV_length (ns.map V.int) (some 3) (some 8)
      rw [List.length_map] at hcut
      have s10 := same_at (o := .lst (cutV (ns.map V.int) (some 3) (some 8))) hsl
      refine ⟨sl, _, rfl, .inl (SqL.of upd_same), _, _, rfl, rfl, ?_⟩
      generalize (cutV (ns.map V.int) (some 3) (some 8)).length = m at hcut
      refine ⟨_, _, rfl, ⟨by decide, by decide, by show _ ≤ (3 : Int) + ((m : Nat) : Int); omega, by show (3 : Int) + ((m : Nat) : Int) < _; omega⟩, ?_⟩
      rw [show ((3 : Int) + ((m : Nat) : Int) - 3).toNat = m by omega]
      have hE110 := hE19.same s10
      generalize upd H9 sl (.lst (cutV (ns.map V.int) (some 3) (some 8))) = H10 at s10 hE110
      have s010 := s09.trans s10
      refine for_range (n := m) (fun i σ H' => ∃ a4 a5, σ = [some (.ref sc), some (.ref b), some (.ref e1), some (.ref e2), a4, a5] ∧ Same H10 H') ⟨_, none, rfl, Same.refl _⟩ ?_ ?_
      · rintro i σ H11 hi ⟨a4, a5, rfl, s11⟩
        have s011 := s010.trans s11
        refine ⟨_, rfl, _, rfl, sc, ns, 3 + i, ?_, sql_same hS s011, by omega, fun b3 H12 s12 hb12 hB12 => ?_⟩
        · show [V.ref sc, V.int ((3 : Int) + ((i : Nat) : Int))] = [V.ref sc, nV (3 + i)]
          rw [show (3 : Int) + ((i : Nat) : Int) = ((3 + i : Nat) : Int) by omega]
          rfl
        · have hb310 : H10 b3 = none := s11.free hb12
          refine ⟨b3, rfl, hB12, fun e3 rs3 H13 k13 hB13 hE3 hD3 => ?_⟩
          have s1013 : Same H10 H13 := same_keep (s11.trans s12) k13 fun x hx => by rw [List.mem_singleton.mp hx]; exact hb310
          refine ⟨e3, rs3, rfl, hE3, hD3.fine, fun H14 s14 => ⟨true, rfl, ?_⟩⟩
          exact iteF ⟨a4, _, rfl, s1013.trans s14⟩
      · rintro σ H11 ⟨a4, a5, rfl, s11⟩
        exact ⟨_, rfl, e1, rs1, rfl, hE110.same s11, hF1, fun H12 s12 => k _⟩
end
end K30
end
section
set_option maxHeartbeats 1000000
/-! K30Z: what the top has written; the law's def, its promise. -/
namespace K30
open PySem PySem.Spec PyProof.Rows L2

theorem mk_kd {K : PySem.W.Frag} {w : World} {a : Addr} {x : Str} {v : V} {es : Array DictEntry} {n : Nat} {u : Value} (l : K.lookup a = some ⟨.type "dict", none, .dict es n, #[]⟩) (y : PySem.W.KeysLit w.params es.toList) (q : PySem.W.nsIn K a x = some (some u)) (r : RelV v u) : KDct K w a x v := ⟨es, n, u, l, y, q, r⟩
/-- a def of the module -/
def Dfn (K : PySem.W.Frag) (x : Str) (st : Stmt) : Prop := ∃ (f : Addr) (fd : FuncData), PySem.W.nsIn K mainGlobals x = some (some (.ref f)) ∧ Fun K x x st f fd
/-- a method of the class at C -/
def Mdf (K : PySem.W.Frag) (C : Addr) (x qual : Str) (st : Stmt) : Prop := ∃ (f : Addr) (fd : FuncData), PySem.W.findIn K (.ref C) x = some (some (.ref f)) ∧ PySem.W.isFn K (.ref f) = true ∧ Fun K x qual st f fd
theorem all_mk {P : Program} {w : World} {K : PySem.W.Frag} {h : Heap} {mg : Str → Option Value} {fa C : Addr} (X : K.In h) (G : h.Ns mainGlobals mg) (hfa : mg "law" = some (.ref fa))
    (d_parts_of : Dfn K "parts_of" sParts)
    (d_mark_of : Dfn K "mark_of" sMark)
    (d_ones_of : Dfn K "ones_of" sOnes)
    (d_named_anew : Dfn K "named_anew" sNamed)
    (d_tidied : Dfn K "tidied" sTidied)
    (d_bracketed : Dfn K "bracketed" sBrk)
    (d_size_of : Dfn K "size_of" sSize)
    (d_row_text : Dfn K "row_text" sRowText)
    (d_show_expression : Dfn K "show_expression" sShow)
    (d_begins : Dfn K "begins" sBegins)
    (d_read_expression : Dfn K "read_expression" sRead)
    (d__law_box : Dfn K "_law_box" sBox)
    (d__law_take : Dfn K "_law_take" sTake)
    (d__law_letters : Dfn K "_law_letters" sLetters)
    (d__law_row_at : Dfn K "_law_row_at" sRowAt)
    (d__law_expression : Dfn K "_law_expression" sExpr)
    (d__law_chain : Dfn K "_law_chain" sChain)
    (d__law_laid : Dfn K "_law_laid" sLaid)
    (d__law_tidy : Dfn K "_law_tidy" sTidy)
    (d__law_drawn : Dfn K "_law_drawn" sDrawn)
    (d__law_changed : Dfn K "_law_changed" sChanged)
    (d__law_without_pair : Dfn K "_law_without_pair" sWithout)
    (d__law_begins : Dfn K "_law_begins" sBgs)
    (d__law_right : Dfn K "_law_right" sRight)
    (d_law : Dfn K "law" sLaw)
    (d___init__ : Mdf K C "__init__" "Reader.__init__" sInit)
    (d_lay : Mdf K C "lay" "Reader.lay" sLay)
    (d_settle : Mdf K C "settle" "Reader.settle" sSettle)
    (d_begin_part : Mdf K C "begin_part" "Reader.begin_part" sBegin)
    (d_go_on : Mdf K C "go_on" "Reader.go_on" sGoOn)
    (z_enumerate : PySem.W.nsIn K mainGlobals "enumerate" = some none)
    (z_tuple : PySem.W.nsIn K mainGlobals "tuple" = some none)
    (z_len : PySem.W.nsIn K mainGlobals "len" = some none)
    (z_zip : PySem.W.nsIn K mainGlobals "zip" = some none)
    (z_int : PySem.W.nsIn K mainGlobals "int" = some none)
    (z_min : PySem.W.nsIn K mainGlobals "min" = some none)
    (z_list : PySem.W.nsIn K mainGlobals "list" = some none)
    (z_range : PySem.W.nsIn K mainGlobals "range" = some none)
    (z_sorted : PySem.W.nsIn K mainGlobals "sorted" = some none)
    (z_set : PySem.W.nsIn K mainGlobals "set" = some none)
    (z_isinstance : PySem.W.nsIn K mainGlobals "isinstance" = some none)
    (z_str : PySem.W.nsIn K mainGlobals "str" = some none)
    {um ul : Value} {dm db : Addr} (z_most : PySem.W.nsIn K mainGlobals "MOST_SIGNS" = some (some um)) (r_most : RelV (.int 100000) um) (z_letters : PySem.W.nsIn K mainGlobals "LETTERS" = some (some ul)) (r_letters : RelV (.str "abcdefghijklmnopqrstuvwxyz") ul)
    (z_marks : PySem.W.nsIn K mainGlobals "MARKS" = some (some (.ref dm))) (z_binds : PySem.W.nsIn K mainGlobals "BINDS" = some (some (.ref db)))
    (m0 : KDct K w dm "nothing" (.str "0"))
    (m1 : KDct K w dm "blank" (.str "."))
    (m2 : KDct K w dm "not" (.str "-"))
    (m3 : KDct K w dm "or" (.str "|"))
    (m4 : KDct K w dm "and" (.str "&"))
    (m5 : KDct K w dm "behind" (.str ""))
    (e0 : KDct K w db "or" (.int 0))
    (e1 : KDct K w db "and" (.int 1))
    (e2 : KDct K w db "behind" (.int 2))
    (e3 : KDct K w db "not" (.int 3))
    (e4 : KDct K w db "nothing" (.int 4))
    (e5 : KDct K w db "blank" (.int 4))
    (e6 : KDct K w db "letter" (.int 4))
    (aC : PySem.W.nsIn K mainGlobals "Reader" = some (some (.ref C)))
    (pg : PySem.W.plainGet K C Str.empty = true) (hd : PySem.W.hasDictIn K C = true) (po : PySem.W.plainOver K C = true) (sa : PySem.W.findIn K (.ref C) "__setattr__" = some (some (.builtin "object.__setattr__"))) (mk : PySem.W.makesIn K C = true) (kc : PySem.W.keepIn K (.ref C) = true)
    (nR : PySem.W.findIn K (.ref C) "rows" = some none) (nY : PySem.W.findIn K (.ref C) "ready" = some none) (nW : PySem.W.findIn K (.ref C) "waiting" = some none) :
    ∃ fd : FuncData, (∀ (s : Shared) (v : Value), BindsTo s fd ⟨[v], []⟩ [("_law_script", v)]) ∧ ∀ base : Heap, K.In base → base.Ns mainGlobals mg → FnOk P w K mg base CX0 50 fa fd ["_law_script"] (spLaw K) := by
  obtain ⟨tm, rfl⟩ := r_most
  obtain ⟨tl, rfl⟩ := r_letters
  have N : Names K w mg := {
    enumerate := PySem.W.mg_none_of X G z_enumerate
    tuple := PySem.W.mg_none_of X G z_tuple
    len := PySem.W.mg_none_of X G z_len
    zip := PySem.W.mg_none_of X G z_zip
    int := PySem.W.mg_none_of X G z_int
    min := PySem.W.mg_none_of X G z_min
    list := PySem.W.mg_none_of X G z_list
    range := PySem.W.mg_none_of X G z_range
    sorted := PySem.W.mg_none_of X G z_sorted
    set := PySem.W.mg_none_of X G z_set
    isinstance := PySem.W.mg_none_of X G z_isinstance
    str := PySem.W.mg_none_of X G z_str
    most := ⟨tm, PySem.W.mg_of X G z_most⟩
    letters := ⟨tl, PySem.W.mg_of X G z_letters⟩
    marks := ⟨dm, PySem.W.mg_of X G z_marks, m0, m1, m2, m3, m4, m5⟩
    binds := ⟨db, PySem.W.mg_of X G z_binds, e0, e1, e2, e3, e4, e5, e6⟩ }
  have T : RdC K mg C := ⟨⟨pg, hd, po, sa⟩, nR, nY, nW⟩
  have mC := PySem.W.mg_of X G aC
  obtain ⟨f_law, fd_law, a_law, F_law⟩ := d_law
  have e := hfa.symm.trans (PySem.W.mg_of X G a_law)
  cases e
  obtain ⟨f_parts_of, fd_parts_of, a_parts_of, F_parts_of⟩ := d_parts_of
  have b_parts_of := F_parts_of.binds (ps := ["row"]) fun _ _ _ _ _ _ us hl => match us, hl with | [_], _ => rfl
  obtain ⟨f_mark_of, fd_mark_of, a_mark_of, F_mark_of⟩ := d_mark_of
  have b_mark_of := F_mark_of.binds (ps := ["row"]) fun _ _ _ _ _ _ us hl => match us, hl with | [_], _ => rfl
  obtain ⟨f_ones_of, fd_ones_of, a_ones_of, F_ones_of⟩ := d_ones_of
  have b_ones_of := F_ones_of.binds (ps := ["expression"]) fun _ _ _ _ _ _ us hl => match us, hl with | [_], _ => rfl
  obtain ⟨f_named_anew, fd_named_anew, a_named_anew, F_named_anew⟩ := d_named_anew
  have b_named_anew := F_named_anew.binds (ps := ["row", "ones", "came"]) fun _ _ _ _ _ _ us hl => match us, hl with | [_, _, _], _ => rfl
  obtain ⟨f_tidied, fd_tidied, a_tidied, F_tidied⟩ := d_tidied
  have b_tidied := F_tidied.binds (ps := ["expression"]) fun _ _ _ _ _ _ us hl => match us, hl with | [_], _ => rfl
  obtain ⟨f_bracketed, fd_bracketed, a_bracketed, F_bracketed⟩ := d_bracketed
  have b_bracketed := F_bracketed.binds (ps := ["rows", "row"]) fun _ _ _ _ _ _ us hl => match us, hl with | [_, _], _ => rfl
  obtain ⟨f_size_of, fd_size_of, a_size_of, F_size_of⟩ := d_size_of
  have b_size_of := F_size_of.binds (ps := ["rows"]) fun _ _ _ _ _ _ us hl => match us, hl with | [_], _ => rfl
  obtain ⟨f_row_text, fd_row_text, a_row_text, F_row_text⟩ := d_row_text
  have b_row_text := F_row_text.binds (ps := ["rows", "row", "texts"]) fun _ _ _ _ _ _ us hl => match us, hl with | [_, _, _], _ => rfl
  obtain ⟨f_show_expression, fd_show_expression, a_show_expression, F_show_expression⟩ := d_show_expression
  have b_show_expression := F_show_expression.binds (ps := ["expression"]) fun _ _ _ _ _ _ us hl => match us, hl with | [_], _ => rfl
  obtain ⟨f_begins, fd_begins, a_begins, F_begins⟩ := d_begins
  have b_begins := F_begins.binds (ps := ["sign"]) fun _ _ _ _ _ _ us hl => match us, hl with | [_], _ => rfl
  obtain ⟨f_read_expression, fd_read_expression, a_read_expression, F_read_expression⟩ := d_read_expression
  have b_read_expression := F_read_expression.binds (ps := ["text"]) fun _ _ _ _ _ _ us hl => match us, hl with | [_], _ => rfl
  obtain ⟨f__law_box, fd__law_box, a__law_box, F__law_box⟩ := d__law_box
  have b__law_box := F__law_box.binds (ps := ["_law_script", "_law_k"]) fun _ _ _ _ _ _ us hl => match us, hl with | [_, _], _ => rfl
  obtain ⟨f__law_take, fd__law_take, a__law_take, F__law_take⟩ := d__law_take
  have b__law_take := F__law_take.binds (ps := ["_law_box_here", "_law_wide"]) fun _ _ _ _ _ _ us hl => match us, hl with | [_, _], _ => rfl
  obtain ⟨f__law_letters, fd__law_letters, a__law_letters, F__law_letters⟩ := d__law_letters
  have b__law_letters := F__law_letters.binds (ps := ["_law_box_here", "_law_most"]) fun _ _ _ _ _ _ us hl => match us, hl with | [_, _], _ => rfl
  obtain ⟨f__law_row_at, fd__law_row_at, a__law_row_at, F__law_row_at⟩ := d__law_row_at
  have b__law_row_at := F__law_row_at.binds (ps := ["_law_box_here", "_law_k"]) fun _ _ _ _ _ _ us hl => match us, hl with | [_, _], _ => rfl
  obtain ⟨f__law_expression, fd__law_expression, a__law_expression, F__law_expression⟩ := d__law_expression
  have b__law_expression := F__law_expression.binds (ps := ["_law_box_here", "_law_letters_here", "_law_most"]) fun _ _ _ _ _ _ us hl => match us, hl with | [_, _, _], _ => rfl
  obtain ⟨f__law_chain, fd__law_chain, a__law_chain, F__law_chain⟩ := d__law_chain
  have b__law_chain := F__law_chain.binds (ps := ["_law_box_here", "_law_letters_here", "_law_most"]) fun _ _ _ _ _ _ us hl => match us, hl with | [_, _, _], _ => rfl
  obtain ⟨f__law_laid, fd__law_laid, a__law_laid, F__law_laid⟩ := d__law_laid
  have b__law_laid := F__law_laid.binds (ps := ["_law_rows", "_law_at", "_law_laid_here"]) fun _ _ _ _ _ _ us hl => match us, hl with | [_, _, _], _ => rfl
  obtain ⟨f__law_tidy, fd__law_tidy, a__law_tidy, F__law_tidy⟩ := d__law_tidy
  have b__law_tidy := F__law_tidy.binds (ps := ["_law_rows"]) fun _ _ _ _ _ _ us hl => match us, hl with | [_], _ => rfl
  obtain ⟨f__law_drawn, fd__law_drawn, a__law_drawn, F__law_drawn⟩ := d__law_drawn
  have b__law_drawn := F__law_drawn.binds (ps := ["_law_box_here"]) fun _ _ _ _ _ _ us hl => match us, hl with | [_], _ => rfl
  obtain ⟨f__law_changed, fd__law_changed, a__law_changed, F__law_changed⟩ := d__law_changed
  have b__law_changed := F__law_changed.binds (ps := ["_law_box_here", "_law_rows"]) fun _ _ _ _ _ _ us hl => match us, hl with | [_, _], _ => rfl
  obtain ⟨f__law_without_pair, fd__law_without_pair, a__law_without_pair, F__law_without_pair⟩ := d__law_without_pair
  have b__law_without_pair := F__law_without_pair.binds (ps := ["_law_text", "_law_at"]) fun _ _ _ _ _ _ us hl => match us, hl with | [_, _], _ => rfl
  obtain ⟨f__law_begins, fd__law_begins, a__law_begins, F__law_begins⟩ := d__law_begins
  have b__law_begins := F__law_begins.binds (ps := ["_law_text"]) fun _ _ _ _ _ _ us hl => match us, hl with | [_], _ => rfl
  obtain ⟨f__law_right, fd__law_right, a__law_right, F__law_right⟩ := d__law_right
  have b__law_right := F__law_right.binds (ps := ["_law_rows"]) fun _ _ _ _ _ _ us hl => match us, hl with | [_], _ => rfl
  obtain ⟨f___init__, fd___init__, a___init__, i___init__, F___init__⟩ := d___init__
  have b___init__ := F___init__.binds (ps := ["self"]) fun _ _ _ _ _ _ us hl => match us, hl with | [_], _ => rfl
  obtain ⟨f_lay, fd_lay, a_lay, i_lay, F_lay⟩ := d_lay
  have b_lay := F_lay.binds (ps := ["self", "row"]) fun _ _ _ _ _ _ us hl => match us, hl with | [_, _], _ => rfl
  obtain ⟨f_settle, fd_settle, a_settle, i_settle, F_settle⟩ := d_settle
  have b_settle := F_settle.binds (ps := ["self", "least_bond"]) fun _ _ _ _ _ _ us hl => match us, hl with | [_, _], _ => rfl
  obtain ⟨f_begin_part, fd_begin_part, a_begin_part, i_begin_part, F_begin_part⟩ := d_begin_part
  have b_begin_part := F_begin_part.binds (ps := ["self", "sign"]) fun _ _ _ _ _ _ us hl => match us, hl with | [_, _], _ => rfl
  obtain ⟨f_go_on, fd_go_on, a_go_on, i_go_on, F_go_on⟩ := d_go_on
  have b_go_on := F_go_on.binds (ps := ["self", "sign"]) fun _ _ _ _ _ _ us hl => match us, hl with | [_, _], _ => rfl
  have M : Mk K C f___init__ := ⟨mk, a___init__, i___init__, kc⟩
  have key : ∀ base : Heap, FnOk P w K mg base CX0 50 fa fd_law ["_law_script"] (spLaw K) := fun base => by
    have GI : FnOk P w K mg base CX0 1 f___init__ fd___init__ ["self"] (spInit C) := fn_init F___init__ T
    have bI := b___init__
    have q_parts_of : Fn P w K mg base "parts_of" 1 ["row"] spParts := ⟨f_parts_of, fd_parts_of, fn_parts F_parts_of, PySem.W.mg_of X G a_parts_of, F_parts_of.kp, b_parts_of⟩
    have q_mark_of : Fn P w K mg base "mark_of" 1 ["row"] spMark := ⟨f_mark_of, fd_mark_of, fn_mark F_mark_of N, PySem.W.mg_of X G a_mark_of, F_mark_of.kp, b_mark_of⟩
    have q_ones_of : Fn P w K mg base "ones_of" 2 ["expression"] spOnes := ⟨f_ones_of, fd_ones_of, fn_ones F_ones_of N q_parts_of, PySem.W.mg_of X G a_ones_of, F_ones_of.kp, b_ones_of⟩
    have q_named_anew : Fn P w K mg base "named_anew" 2 ["row", "ones", "came"] spNamed := ⟨f_named_anew, fd_named_anew, fn_named F_named_anew N q_parts_of, PySem.W.mg_of X G a_named_anew, F_named_anew.kp, b_named_anew⟩
    have q_tidied : Fn P w K mg base "tidied" 3 ["expression"] spTidied := ⟨f_tidied, fd_tidied, fn_tidied F_tidied N q_parts_of q_ones_of q_named_anew, PySem.W.mg_of X G a_tidied, F_tidied.kp, b_tidied⟩
    have q_bracketed : Fn P w K mg base "bracketed" 2 ["rows", "row"] spBrk := ⟨f_bracketed, fd_bracketed, fn_brk F_bracketed N q_parts_of, PySem.W.mg_of X G a_bracketed, F_bracketed.kp, b_bracketed⟩
    have q_size_of : Fn P w K mg base "size_of" 3 ["rows"] spSize := ⟨f_size_of, fd_size_of, fn_size F_size_of N q_parts_of q_mark_of q_bracketed, PySem.W.mg_of X G a_size_of, F_size_of.kp, b_size_of⟩
    have q_row_text : Fn P w K mg base "row_text" 3 ["rows", "row", "texts"] spRowText := ⟨f_row_text, fd_row_text, fn_rowtext F_row_text N q_parts_of q_mark_of q_bracketed, PySem.W.mg_of X G a_row_text, F_row_text.kp, b_row_text⟩
    have q_show_expression : Fn P w K mg base "show_expression" 4 ["expression"] spShow := ⟨f_show_expression, fd_show_expression, fn_show F_show_expression N q_tidied q_size_of q_row_text, PySem.W.mg_of X G a_show_expression, F_show_expression.kp, b_show_expression⟩
    have q_begins : Fn P w K mg base "begins" 1 ["sign"] spBegins := ⟨f_begins, fd_begins, fn_begins F_begins N, PySem.W.mg_of X G a_begins, F_begins.kp, b_begins⟩
    have q_lay : Mt P w K mg base C "lay" 1 ["self", "row"] (spLay C) := ⟨f_lay, fd_lay, fn_lay F_lay N T, ⟨a_lay, i_lay, F_lay.kp⟩, b_lay⟩
    have q_settle : Mt P w K mg base C "settle" 2 ["self", "least_bond"] (spSettle C) := ⟨f_settle, fd_settle, fn_settle F_settle N T q_lay, ⟨a_settle, i_settle, F_settle.kp⟩, b_settle⟩
    have q_begin_part : Mt P w K mg base C "begin_part" 3 ["self", "sign"] (spBegin C) := ⟨f_begin_part, fd_begin_part, fn_begin F_begin_part T q_lay q_settle, ⟨a_begin_part, i_begin_part, F_begin_part.kp⟩, b_begin_part⟩
    have q_go_on : Mt P w K mg base C "go_on" 4 ["self", "sign"] (spGoOn C) := ⟨f_go_on, fd_go_on, fn_goon F_go_on N T q_settle q_begin_part, ⟨a_go_on, i_go_on, F_go_on.kp⟩, b_go_on⟩
    have q_read_expression : Fn P w K mg base "read_expression" 5 ["text"] (spRead C) := ⟨f_read_expression, fd_read_expression, fn_read F_read_expression N T mC M GI bI q_begins q_begin_part q_go_on q_settle q_tidied, PySem.W.mg_of X G a_read_expression, F_read_expression.kp, b_read_expression⟩
    have q__law_box : Fn P w K mg base "_law_box" 1 ["_law_script", "_law_k"] (spBox K) := ⟨f__law_box, fd__law_box, fn_box F__law_box N, PySem.W.mg_of X G a__law_box, F__law_box.kp, b__law_box⟩
    have q__law_take : Fn P w K mg base "_law_take" 1 ["_law_box_here", "_law_wide"] spTake := ⟨f__law_take, fd__law_take, fn_take F__law_take, PySem.W.mg_of X G a__law_take, F__law_take.kp, b__law_take⟩
    have q__law_letters : Fn P w K mg base "_law_letters" 2 ["_law_box_here", "_law_most"] spLetters := ⟨f__law_letters, fd__law_letters, fn_letters F__law_letters N q__law_take, PySem.W.mg_of X G a__law_letters, F__law_letters.kp, b__law_letters⟩
    have q__law_row_at : Fn P w K mg base "_law_row_at" 2 ["_law_box_here", "_law_k"] spRowAt := ⟨f__law_row_at, fd__law_row_at, fn_rowat F__law_row_at q__law_take, PySem.W.mg_of X G a__law_row_at, F__law_row_at.kp, b__law_row_at⟩
    have q__law_expression : Fn P w K mg base "_law_expression" 3 ["_law_box_here", "_law_letters_here", "_law_most"] spExpr := ⟨f__law_expression, fd__law_expression, fn_expr F__law_expression N q__law_take q__law_row_at, PySem.W.mg_of X G a__law_expression, F__law_expression.kp, b__law_expression⟩
    have q__law_chain : Fn P w K mg base "_law_chain" 3 ["_law_box_here", "_law_letters_here", "_law_most"] spChain := ⟨f__law_chain, fd__law_chain, fn_chain F__law_chain N q__law_take, PySem.W.mg_of X G a__law_chain, F__law_chain.kp, b__law_chain⟩
    have q__law_laid : Fn P w K mg base "_law_laid" 47 ["_law_rows", "_law_at", "_law_laid_here"] (spLaid 47) := ⟨f__law_laid, fd__law_laid, fn_laid F__law_laid N (PySem.W.mg_of X G a__law_laid) F__law_laid.kp b__law_laid 47, PySem.W.mg_of X G a__law_laid, F__law_laid.kp, b__law_laid⟩
    have q__law_tidy : Fn P w K mg base "_law_tidy" 48 ["_law_rows"] spTidy := ⟨f__law_tidy, fd__law_tidy, fn_tidy F__law_tidy N q__law_laid, PySem.W.mg_of X G a__law_tidy, F__law_tidy.kp, b__law_tidy⟩
    have q__law_drawn : Fn P w K mg base "_law_drawn" 4 ["_law_box_here"] spDrawn := ⟨f__law_drawn, fd__law_drawn, fn_drawn F__law_drawn q__law_take q__law_letters q__law_chain q__law_expression, PySem.W.mg_of X G a__law_drawn, F__law_drawn.kp, b__law_drawn⟩
    have q__law_changed : Fn P w K mg base "_law_changed" 2 ["_law_box_here", "_law_rows"] spChanged := ⟨f__law_changed, fd__law_changed, fn_changed F__law_changed N q__law_take, PySem.W.mg_of X G a__law_changed, F__law_changed.kp, b__law_changed⟩
    have q__law_without_pair : Fn P w K mg base "_law_without_pair" 1 ["_law_text", "_law_at"] spWithout := ⟨f__law_without_pair, fd__law_without_pair, fn_without F__law_without_pair N, PySem.W.mg_of X G a__law_without_pair, F__law_without_pair.kp, b__law_without_pair⟩
    have q__law_begins : Fn P w K mg base "_law_begins" 1 ["_law_text"] spBgs := ⟨f__law_begins, fd__law_begins, fn_bgs F__law_begins N, PySem.W.mg_of X G a__law_begins, F__law_begins.kp, b__law_begins⟩
    have q__law_right : Fn P w K mg base "_law_right" 49 ["_law_rows"] spRight := ⟨f__law_right, fd__law_right, fn_right F__law_right N (C := C) q__law_tidy q_show_expression q_read_expression q_tidied q__law_begins q__law_without_pair, PySem.W.mg_of X G a__law_right, F__law_right.kp, b__law_right⟩
    exact fn_law F_law N q__law_box q__law_take q__law_drawn q__law_changed q__law_right q_show_expression q__law_tidy
  obtain ⟨oc, od, kV, doc, pm, an, cdv, ct, osl, rfl, lk, hcd⟩ := F_law.ex
  exact ⟨_, fun s v => .of_eq rfl, fun base _ _ => key base⟩
theorem walk {l : PySem.W.OpenLaw} {q : Program} {loose : List Str} {XP : (Str → Option Value) → Heap → Prop} {YP : World → Heap → Prop} {d : DefRec} {K : Params → PySem.W.Frag} (hn : l.most = some 63) (hdf : d.params.defaults = [])
    (hY : ∀ (w : World) (h : Heap), YP w h → (K w.params).In h)
    (F : ∀ (w : World) (mg : Str → Option Value) (fa : Addr) (h : Heap), (K w.params).In h → h.Ns mainGlobals mg → mg d.name = some (.ref fa) →
      ∃ fd : FuncData, (∀ (s : Shared) (u : Value), BindsTo s fd ⟨[u], []⟩ [("_law_script", u)]) ∧ ∀ base : Heap, (K w.params).In base → base.Ns mainGlobals mg → FnOk l.prog w (K w.params) mg base CX0 50 fa fd ["_law_script"] (spLaw (K w.params))) :
    PySem.W.WalkO q loose XP YP l.row.toRowW d [] (fun f vs => PySem.call f vs) :=
  L2.walk_of (n := 63) (k := 50) (x := "_law_script") (CX := fun _ => CX0) (sp := fun w => spLaw (K w.params)) hn (by decide) hdf ⟨rfl, by decide, by decide⟩ hY F (fun _ _ a ns hl _ hS => ⟨a, ns, rfl, hS, hl, fun _ => rfl⟩) fun _ _ _ _ _ z => z
end K30
end
section
open PySem PySem.W PyProof.Rows in
set_option maxRecDepth 100000 in
set_option maxHeartbeats 0 in
theorem PySem.Challenge.cw_calmword_k30_whole_there_and_back_holds : PySem.Challenge.rw_calmword_k30_whole_there_and_back.Holds := by
  w_on; o_law; k_head; (case hw => w_witness2)
  k_fill
  refine K30.walk (l := PySem.Challenge.rw_calmword_k30_whole_there_and_back) rfl rfl (fun w h Y => PySem.W.kIn_of Y) ?F
  case F =>
    intro w mg fa h KX G hmg
    refine' K30.all_mk KX G hmg ?d_parts_of ?d_mark_of ?d_ones_of ?d_named_anew ?d_tidied ?d_bracketed ?d_size_of ?d_row_text ?d_show_expression ?d_begins ?d_read_expression ?d__law_box ?d__law_take ?d__law_letters ?d__law_row_at ?d__law_expression ?d__law_chain ?d__law_laid ?d__law_tidy ?d__law_drawn ?d__law_changed ?d__law_without_pair ?d__law_begins ?d__law_right ?d_law ?d___init__ ?d_lay ?d_settle ?d_begin_part ?d_go_on ?z_enumerate ?z_tuple ?z_len ?z_zip ?z_int ?z_min ?z_list ?z_range ?z_sorted ?z_set ?z_isinstance ?z_str ?z_most ?r_most ?z_letters ?r_letters ?z_marks ?z_binds ?m0 ?m1 ?m2 ?m3 ?m4 ?m5 ?e0 ?e1 ?e2 ?e3 ?e4 ?e5 ?e6 ?aC ?pg ?hd ?po ?sa ?mk ?kc ?nR ?nY ?nW
    (case aC => k_is)
    (case d_parts_of => refine' ⟨_, _, ?a, L2.fun_mk ?l ?c ?k⟩; (case a => k_is); (case l => k_is); (case c => k_is); (case k => k_is))
    (case d_mark_of => refine' ⟨_, _, ?a, L2.fun_mk ?l ?c ?k⟩; (case a => k_is); (case l => k_is); (case c => k_is); (case k => k_is))
    (case d_ones_of => refine' ⟨_, _, ?a, L2.fun_mk ?l ?c ?k⟩; (case a => k_is); (case l => k_is); (case c => k_is); (case k => k_is))
    (case d_named_anew => refine' ⟨_, _, ?a, L2.fun_mk ?l ?c ?k⟩; (case a => k_is); (case l => k_is); (case c => k_is); (case k => k_is))
    (case d_tidied => refine' ⟨_, _, ?a, L2.fun_mk ?l ?c ?k⟩; (case a => k_is); (case l => k_is); (case c => k_is); (case k => k_is))
    (case d_bracketed => refine' ⟨_, _, ?a, L2.fun_mk ?l ?c ?k⟩; (case a => k_is); (case l => k_is); (case c => k_is); (case k => k_is))
    (case d_size_of => refine' ⟨_, _, ?a, L2.fun_mk ?l ?c ?k⟩; (case a => k_is); (case l => k_is); (case c => k_is); (case k => k_is))
    (case d_row_text => refine' ⟨_, _, ?a, L2.fun_mk ?l ?c ?k⟩; (case a => k_is); (case l => k_is); (case c => k_is); (case k => k_is))
    (case d_show_expression => refine' ⟨_, _, ?a, L2.fun_mk ?l ?c ?k⟩; (case a => k_is); (case l => k_is); (case c => k_is); (case k => k_is))
    (case d_begins => refine' ⟨_, _, ?a, L2.fun_mk ?l ?c ?k⟩; (case a => k_is); (case l => k_is); (case c => k_is); (case k => k_is))
    (case d_read_expression => refine' ⟨_, _, ?a, L2.fun_mk ?l ?c ?k⟩; (case a => k_is); (case l => k_is); (case c => k_is); (case k => k_is))
    (case d__law_box => refine' ⟨_, _, ?a, L2.fun_mk ?l ?c ?k⟩; (case a => k_is); (case l => k_is); (case c => k_is); (case k => k_is))
    (case d__law_take => refine' ⟨_, _, ?a, L2.fun_mk ?l ?c ?k⟩; (case a => k_is); (case l => k_is); (case c => k_is); (case k => k_is))
    (case d__law_letters => refine' ⟨_, _, ?a, L2.fun_mk ?l ?c ?k⟩; (case a => k_is); (case l => k_is); (case c => k_is); (case k => k_is))
    (case d__law_row_at => refine' ⟨_, _, ?a, L2.fun_mk ?l ?c ?k⟩; (case a => k_is); (case l => k_is); (case c => k_is); (case k => k_is))
    (case d__law_expression => refine' ⟨_, _, ?a, L2.fun_mk ?l ?c ?k⟩; (case a => k_is); (case l => k_is); (case c => k_is); (case k => k_is))
    (case d__law_chain => refine' ⟨_, _, ?a, L2.fun_mk ?l ?c ?k⟩; (case a => k_is); (case l => k_is); (case c => k_is); (case k => k_is))
    (case d__law_laid => refine' ⟨_, _, ?a, L2.fun_mk ?l ?c ?k⟩; (case a => k_is); (case l => k_is); (case c => k_is); (case k => k_is))
    (case d__law_tidy => refine' ⟨_, _, ?a, L2.fun_mk ?l ?c ?k⟩; (case a => k_is); (case l => k_is); (case c => k_is); (case k => k_is))
    (case d__law_drawn => refine' ⟨_, _, ?a, L2.fun_mk ?l ?c ?k⟩; (case a => k_is); (case l => k_is); (case c => k_is); (case k => k_is))
    (case d__law_changed => refine' ⟨_, _, ?a, L2.fun_mk ?l ?c ?k⟩; (case a => k_is); (case l => k_is); (case c => k_is); (case k => k_is))
    (case d__law_without_pair => refine' ⟨_, _, ?a, L2.fun_mk ?l ?c ?k⟩; (case a => k_is); (case l => k_is); (case c => k_is); (case k => k_is))
    (case d__law_begins => refine' ⟨_, _, ?a, L2.fun_mk ?l ?c ?k⟩; (case a => k_is); (case l => k_is); (case c => k_is); (case k => k_is))
    (case d__law_right => refine' ⟨_, _, ?a, L2.fun_mk ?l ?c ?k⟩; (case a => k_is); (case l => k_is); (case c => k_is); (case k => k_is))
    (case d_law => refine' ⟨_, _, ?a, L2.fun_mk ?l ?c ?k⟩; (case a => k_is); (case l => k_is); (case c => k_is); (case k => k_is))
    (case d___init__ => refine' ⟨_, _, ?a, ?i, L2.fun_mk ?l ?c ?k⟩; (case a => k_is); (case i => k_is); (case l => k_is); (case c => k_is); (case k => k_is))
    (case d_lay => refine' ⟨_, _, ?a, ?i, L2.fun_mk ?l ?c ?k⟩; (case a => k_is); (case i => k_is); (case l => k_is); (case c => k_is); (case k => k_is))
    (case d_settle => refine' ⟨_, _, ?a, ?i, L2.fun_mk ?l ?c ?k⟩; (case a => k_is); (case i => k_is); (case l => k_is); (case c => k_is); (case k => k_is))
    (case d_begin_part => refine' ⟨_, _, ?a, ?i, L2.fun_mk ?l ?c ?k⟩; (case a => k_is); (case i => k_is); (case l => k_is); (case c => k_is); (case k => k_is))
    (case d_go_on => refine' ⟨_, _, ?a, ?i, L2.fun_mk ?l ?c ?k⟩; (case a => k_is); (case i => k_is); (case l => k_is); (case c => k_is); (case k => k_is))
    (case z_enumerate => k_is)
    (case z_tuple => k_is)
    (case z_len => k_is)
    (case z_zip => k_is)
    (case z_int => k_is)
    (case z_min => k_is)
    (case z_list => k_is)
    (case z_range => k_is)
    (case z_sorted => k_is)
    (case z_set => k_is)
    (case z_isinstance => k_is)
    (case z_str => k_is)
    (case z_most => k_is)
    (case r_most => exact ⟨_, rfl⟩)
    (case z_letters => k_is)
    (case r_letters => exact ⟨_, rfl⟩)
    (case z_marks => k_is)
    (case z_binds => k_is)
    (case m0 => refine' K30.mk_kd ?kl ?ky ?kn ?kr; (case kl => k_is); (case kn => k_is); (case kr => exact ⟨_, rfl⟩); (case ky => k_keys))
    (case m1 => refine' K30.mk_kd ?kl ?ky ?kn ?kr; (case kl => k_is); (case kn => k_is); (case kr => exact ⟨_, rfl⟩); (case ky => k_keys))
    (case m2 => refine' K30.mk_kd ?kl ?ky ?kn ?kr; (case kl => k_is); (case kn => k_is); (case kr => exact ⟨_, rfl⟩); (case ky => k_keys))
    (case m3 => refine' K30.mk_kd ?kl ?ky ?kn ?kr; (case kl => k_is); (case kn => k_is); (case kr => exact ⟨_, rfl⟩); (case ky => k_keys))
    (case m4 => refine' K30.mk_kd ?kl ?ky ?kn ?kr; (case kl => k_is); (case kn => k_is); (case kr => exact ⟨_, rfl⟩); (case ky => k_keys))
    (case m5 => refine' K30.mk_kd ?kl ?ky ?kn ?kr; (case kl => k_is); (case kn => k_is); (case kr => exact ⟨_, rfl⟩); (case ky => k_keys))
    (case e0 => refine' K30.mk_kd ?kl ?ky ?kn ?kr; (case kl => k_is); (case kn => k_is); (case kr => exact ⟨_, rfl⟩); (case ky => k_keys))
    (case e1 => refine' K30.mk_kd ?kl ?ky ?kn ?kr; (case kl => k_is); (case kn => k_is); (case kr => exact ⟨_, rfl⟩); (case ky => k_keys))
    (case e2 => refine' K30.mk_kd ?kl ?ky ?kn ?kr; (case kl => k_is); (case kn => k_is); (case kr => exact ⟨_, rfl⟩); (case ky => k_keys))
    (case e3 => refine' K30.mk_kd ?kl ?ky ?kn ?kr; (case kl => k_is); (case kn => k_is); (case kr => exact ⟨_, rfl⟩); (case ky => k_keys))
    (case e4 => refine' K30.mk_kd ?kl ?ky ?kn ?kr; (case kl => k_is); (case kn => k_is); (case kr => exact ⟨_, rfl⟩); (case ky => k_keys))
    (case e5 => refine' K30.mk_kd ?kl ?ky ?kn ?kr; (case kl => k_is); (case kn => k_is); (case kr => exact ⟨_, rfl⟩); (case ky => k_keys))
    (case e6 => refine' K30.mk_kd ?kl ?ky ?kn ?kr; (case kl => k_is); (case kn => k_is); (case kr => exact ⟨_, rfl⟩); (case ky => k_keys))
    (case pg => k_is)
    (case hd => k_is)
    (case po => k_is)
    (case sa => k_is)
    (case mk => k_is)
    (case kc => k_is)
    (case nR => k_is)
    (case nY => k_is)
    (case nW => k_is)
end
